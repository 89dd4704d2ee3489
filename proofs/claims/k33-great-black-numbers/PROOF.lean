import PyProof.Rows.All
import Wide.All
import OpenK.AllK
import Wide.FinOn
import KE.KStateDown
import Lean
import HandS.Base
import HandS.Call
import HandS.Ends
import HandS.More
import HandS.Words
import HandS.WordsExc
import HandS.Defaults
import HandS.Head0
import HandS.Head1
import HandS.Head2
import HandS.HeadEnd
import HandS.HeadHook1
import HandS.HeadHook2
import KE.DataEq
import KE.KDictKeyed
import HandS.ForMost
import HandS.Exc
import HandS.Walk
import HandS.TupAny
import HandS.TupMul
import HandS.IsInst
import HandS.Wide
import HandS.StrMore
import HandS.TupLe
import HandS.Style
import HandS.Conv
import KE.GoesEnum
import HandS.SortInts
import HandS.Zip
import PyProof.WalksMore
import HandS.DictComp
import KE.KSortTupG
import HandS.Star
import HandS.Text
import KE.KDictSum
import HandS.DictEq
import HandS.Iter
import KE.KDictItemsList
import HandS.ListItems
import KE.DataMinMax
import KE.SortData
import KE.KDictWalk
import HandS.Small
import PySem.Challenge.RW_linepainters_k33_great_black_numbers
set_option Elab.async false
set_option linter.all false
set_option maxRecDepth 100000
set_option maxHeartbeats 1000000
namespace W
open PySem L2
def top (i : Nat) : Stmt := PySem.Challenge.pw_linepainters_k33_great_black_numbers.main.body.getD i (.Pass ⟨0, 0, 0, 0⟩)
end W
set_option maxHeartbeats 0
namespace Hd
open PySem PySem.Spec PyProof.Rows L2
def d_is_int : He.DefD := ⟨("is_int", none), "is_int", "is_int", defArgs (W.top 5), defBody (W.top 5), defScope (W.top 5), [], []⟩
def d_is_in : He.DefD := ⟨("is_in", none), "is_in", "is_in", defArgs (W.top 6), defBody (W.top 6), defScope (W.top 6), [], []⟩
def d_need_number : He.DefD := ⟨("need_number", none), "need_number", "need_number", defArgs (W.top 7), defBody (W.top 7), defScope (W.top 7), [], []⟩
def d_product_to : He.DefD := ⟨("product_to", none), "product_to", "product_to", defArgs (W.top 9), defBody (W.top 9), defScope (W.top 9), [], []⟩
def d_common : He.DefD := ⟨("common", none), "common", "common", defArgs (W.top 11), defBody (W.top 11), defScope (W.top 11), [], []⟩
def d_lowered : He.DefD := ⟨("lowered", none), "lowered", "lowered", defArgs (W.top 12), defBody (W.top 12), defScope (W.top 12), [], []⟩
def d_need_board : He.DefD := ⟨("need_board", none), "need_board", "need_board", defArgs (W.top 13), defBody (W.top 13), defScope (W.top 13), [], []⟩
def d_long_run_tally : He.DefD := ⟨("long_run_tally", none), "long_run_tally", "long_run_tally", defArgs (W.top 14), defBody (W.top 14), defScope (W.top 14), [], []⟩
def d_splits : He.DefD := ⟨("splits", none), "splits", "splits", defArgs (W.top 15), defBody (W.top 15), defScope (W.top 15), [], []⟩
def d_chosen : He.DefD := ⟨("chosen", none), "chosen", "chosen", defArgs (W.top 17), defBody (W.top 17), defScope (W.top 17), [], []⟩
def d_need_small : He.DefD := ⟨("need_small", none), "need_small", "need_small", defArgs (W.top 20), defBody (W.top 20), defScope (W.top 20), [], []⟩
def d_black_left : He.DefD := ⟨("black_left", none), "black_left", "black_left", defArgs (W.top 21), defBody (W.top 21), defScope (W.top 21), [], []⟩
def d_tally_of : He.DefD := ⟨("tally_of", none), "tally_of", "tally_of", defArgs (W.top 22), defBody (W.top 22), defScope (W.top 22), [], []⟩
def d_black_tally : He.DefD := ⟨("black_tally", none), "black_tally", "black_tally", defArgs (W.top 23), defBody (W.top 23), defScope (W.top 23), [], []⟩
def d_count_free_black : He.DefD := ⟨("count_free_black", none), "count_free_black", "count_free_black", defArgs (W.top 24), defBody (W.top 24), defScope (W.top 24), [], []⟩
def d_mean_free_black : He.DefD := ⟨("mean_free_black", none), "mean_free_black", "mean_free_black", defArgs (W.top 25), defBody (W.top 25), defScope (W.top 25), [], []⟩
def d_run_left : He.DefD := ⟨("run_left", none), "run_left", "run_left", defArgs (W.top 26), defBody (W.top 26), defScope (W.top 26), [], []⟩
def d_orders_number : He.DefD := ⟨("orders_number", none), "orders_number", "orders_number", defArgs (W.top 27), defBody (W.top 27), defScope (W.top 27), [], []⟩
def d_long_run_black : He.DefD := ⟨("long_run_black", none), "long_run_black", "long_run_black", defArgs (W.top 28), defBody (W.top 28), defScope (W.top 28), [], []⟩
def d_likeliest_black : He.DefD := ⟨("likeliest_black", none), "likeliest_black", "likeliest_black", defArgs (W.top 29), defBody (W.top 29), defScope (W.top 29), [], []⟩
def d_ways_left : He.DefD := ⟨("ways_left", none), "ways_left", "ways_left", defArgs (W.top 31), defBody (W.top 31), defScope (W.top 31), [], []⟩
def d_free_number_of : He.DefD := ⟨("free_number_of", none), "free_number_of", "free_number_of", defArgs (W.top 32), defBody (W.top 32), defScope (W.top 32), [], []⟩
def d_need_sides : He.DefD := ⟨("need_sides", none), "need_sides", "need_sides", defArgs (W.top 33), defBody (W.top 33), defScope (W.top 33), [], []⟩
def d_count_free : He.DefD := ⟨("count_free", none), "count_free", "count_free", defArgs (W.top 34), defBody (W.top 34), defScope (W.top 34), [], []⟩
def d_law_taken : He.DefD := ⟨("_law_taken", none), "_law_taken", "_law_taken", defArgs (W.top 36), defBody (W.top 36), defScope (W.top 36), [], []⟩
def d_law_product : He.DefD := ⟨("_law_product", none), "_law_product", "_law_product", defArgs (W.top 37), defBody (W.top 37), defScope (W.top 37), [], []⟩
def d_law_common : He.DefD := ⟨("_law_common", none), "_law_common", "_law_common", defArgs (W.top 38), defBody (W.top 38), defScope (W.top 38), [], []⟩
def d_law_lowered : He.DefD := ⟨("_law_lowered", none), "_law_lowered", "_law_lowered", defArgs (W.top 39), defBody (W.top 39), defScope (W.top 39), [], []⟩
def d_law_plus : He.DefD := ⟨("_law_plus", none), "_law_plus", "_law_plus", defArgs (W.top 40), defBody (W.top 40), defScope (W.top 40), [], []⟩
def d_law : He.DefD := ⟨("law", none), "law", "law", defArgs (W.top 41), defBody (W.top 41), defScope (W.top 41), [], []⟩
def fn : List He.DefD := [d_is_int, d_is_in, d_need_number, d_product_to, d_common, d_lowered, d_need_board, d_long_run_tally, d_splits, d_chosen, d_need_small, d_black_left, d_tally_of, d_black_tally, d_count_free_black, d_mean_free_black, d_run_left, d_orders_number, d_long_run_black, d_likeliest_black, d_ways_left, d_free_number_of, d_need_sides, d_count_free, d_law_taken, d_law_product, d_law_common, d_law_lowered, d_law_plus, d_law]
def fa0 : List He.Fa := [.glo "is_int", .glo "is_in", .glo "need_number", .glo "product_to", .glo "common", .glo "lowered", .glo "need_board", .glo "long_run_tally", .glo "splits", .glo "chosen", .glo "need_small", .glo "black_left", .glo "tally_of", .glo "black_tally", .glo "count_free_black", .glo "mean_free_black", .glo "run_left", .glo "orders_number", .glo "long_run_black", .glo "likeliest_black", .glo "ways_left", .glo "free_number_of", .glo "need_sides", .glo "count_free", .glo "_law_taken", .glo "_law_product", .glo "_law_common", .glo "_law_lowered", .glo "_law_plus", .glo "law"]
def fa1 : List He.Fa := [.free "abs", .free "bool", .free "int", .free "isinstance", .free "len", .free "range", .free "sorted", .free "sum", .free "tuple", .int "MOST_SIDE_boards" 30, .int "MOST_SIDE_tallies" 8]
def fa : List He.Fa := fa0 ++ fa1
def nm0 : List Str := ["__name__", "PaintError", "BadNumber", "MOST_SIDE_boards", "is_int", "is_in", "need_number", "product_to", "common", "lowered", "need_board", "long_run_tally", "splits", "chosen", "MOST_SIDE_tallies", "need_small", "black_left", "tally_of", "black_tally", "count_free_black", "mean_free_black", "run_left", "orders_number", "long_run_black", "likeliest_black", "ways_left", "free_number_of", "need_sides", "count_free", "_law_taken"]
def nm1 : List Str := ["_law_product", "_law_common", "_law_lowered", "_law_plus"]
abbrev nms : List Str := nm0 ++ nm1
abbrev R : PySem.W.OpenRow := PySem.W.OpenLaw.row PySem.Challenge.rw_linepainters_k33_great_black_numbers
abbrev hk : PySem.W.Hook := He.hookD 4 fa fn
def ob (s : PySem.W.SharedT) : He.AlD := He.obsDG 4 fa fn (HandSHeadRun.getT s)
theorem ob_eq (s : PySem.W.SharedT) : ob s = hk.obs s.abs := He.obsDG_eq (HandSHeadRun.getT_eq s)
open HandSHeadRun PySem.W PySem.Calls in
theorem runL (w : World) : ∀ os : OsState, (HandSHeadRun.endF (HandSHeadRun.stepQ (HandSHeadRun.denQ HandSHeadRun.tabQ) R.prog w) 8000 R.prog w os).map (fun s => looksF R.prog (boot_heap w.params) s.abs) = some true := by
  intro os
  kernel_rfl
open HandSHeadRun PySem.W PySem.Calls in
theorem runS (w : World) : ∀ os : OsState, (HandSHeadRun.endF (HandSHeadRun.stepQ (HandSHeadRun.denQ HandSHeadRun.tabQ) R.prog w) 8000 R.prog w os).map (fun s => seenQ (PySem.W.view R.prog [41]) nms (importedModules R.prog.main.body) (fun s => xlAt (PySem.W.view R.prog [41]) [] s && recOk R.toRowW.records s) s.abs) = some (openGood (PySem.W.view R.prog [41]) nms) := by
  intro os
  kernel_rfl
open HandSHeadRun PySem.W PySem.Calls in
theorem runO (w : World) : ∀ os : OsState, (HandSHeadRun.endF (HandSHeadRun.stepQ (HandSHeadRun.denQ HandSHeadRun.tabQ) R.prog w) 8000 R.prog w os).map ob = some (hk.val w) := by
  intro os
  kernel_rfl
theorem three {α β γ δ : Type} {x : Option α} {f : α → β} {g : α → γ} {h : α → δ} {b : β} {c : γ} {d : δ} (h1 : x.map f = some b) (h2 : x.map g = some c) (h3 : x.map h = some d) : x.map (fun s => (f s, g s, h s)) = some (b, c, d) := by
  cases x with
  | none => cases h1
  | some s =>
    have h1 := Option.some.inj h1
    have h2 := Option.some.inj h2
    have h3 := Option.some.inj h3
    show some (f s, g s, h s) = _
    rw [h1, h2, h3]
theorem run (w : World) : HandSHeadRun.RunEq R (PySem.W.view R.prog [41]) hk ob 8000 nms w := fun os => three (runL w os) (runS w os) (runO w os)
end Hd
set_option maxHeartbeats 1000000
set_option maxHeartbeats 1000000
namespace G
open PySem PySem.Spec PyProof.Rows L2
/-- pure data -/
inductive D where
  | non
  | bl (b : Bool)
  | int (i : Int)
  | str (s : Str)
  | tup (xs : List D)
  | lst (xs : List D)
  | dic (kvs : List (D × D))
  | dct (kvs : List (D × D))
  | scr (ns : List Int)
  | tape
  | fn (n : Str)
  | ty (n : String)
  | memo (n : Int) (ps : List Str)
  deriving Inhabited
mutual
def D.pd : D → PyData
  | .non => .none
  | .bl b => .bool b
  | .int i => .int i
  | .str s => .str s
  | .tup xs => .tuple (pdAll xs)
  | .lst xs => .list (pdAll xs)
  | .scr ns => .list (ns.map PyData.int)
  | .dic _ => .dict []
  | .dct _ => .dict []
  | .tape => .dict []
  | .fn _ => .dict []
  | .ty _ => .dict []
  | .memo _ _ => .dict []
def pdAll : List D → List PyData
  | [] => []
  | x :: xs => x.pd :: pdAll xs
end
def keyD : Key → D
  | .inl i => .int i
  | .inr x => .str x
def keyT (ks : List Key) : D := .tup (ks.map keyD)
def isDic : HO → Bool
  | .dK _ => true
  | .dT _ => true
  | _ => false
def isSt : HO → Bool
  | .tup _ => true
  | .frz _ _ => true
  | _ => false
abbrev StU := {u : HO // isSt u = true}
theorem st_no {o : HO} (h : isSt o = false) (xs : StU) : o ≠ xs.1 := fun e => by
  rw [e, xs.2] at h; cases h
/-- the hashes of keys -/
class Wo where
  hash : NestedKey → Int
def getB : List (Nat × Nat) → Nat → Option Nat
  | [], _ => none
  | (a, b) :: r, k => if a = k then some b else getB r k
def putB (d : List (Nat × Nat)) (k : Nat) (v : Nat) : List (Nat × Nat) := if (getB d k).isSome = true then d.map (fun p => if p.1 = k then (p.1, v) else p) else d ++ [(k, v)]
/-- the ways to choose, the ways to put in a row -/
def bcB : Nat → Nat → Nat
  | _, 0 => 1
  | n, k + 1 => bcB n k * (n - k) / (k + 1)
def orB : Nat → Nat → Nat
  | _, 0 => 1
  | n, k + 1 => orB n k * (n - k)
/-- by black cells, the layers that use up rows and columns -/
def leftB (w : Nat → Nat → Nat) : Nat → Nat → Nat → Bool → List (Nat × Nat)
  | 0, _, _, _ => [(0, 1)]
  | n + 1, r, c, b => if r + c = 0 then [(0, 1)] else (List.range (if b = true then r else c)).foldl (fun f m => (leftB w n (if b = true then r - (m + 1) else r) (if b = true then c else c - (m + 1)) (!b)).foldl (fun f p => putB f (p.1 + if b = true then (m + 1) * c else 0) ((getB f (p.1 + if b = true then (m + 1) * c else 0)).getD 0 + w (if b = true then r else c) (m + 1) * p.2)) f) []
/-- rows of layers -/
def bin : Nat → Nat → Nat
  | _, 0 => 1
  | 0, _ + 1 => 0
  | n + 1, k + 1 => bin n k + bin n (k + 1)
def waysN : Nat → Nat → Nat → Bool → Nat
  | 0, _, _, _ => 1
  | n + 1, r, c, b => if r + c = 0 then 1 else if b then ((List.range r).map fun m => bin r (m + 1) * waysN n (r - (m + 1)) c false).sum else ((List.range c).map fun m => bin c (m + 1) * waysN n r (c - (m + 1)) true).sum
def eB2 (d : List (Nat × Nat)) : D := .dic (d.map fun p => (.int (p.1 : Int), .int (p.2 : Int)))
def boundB (z r c b : Int) : Bool := decide (0 ≤ r ∧ r ≤ z ∧ 0 ≤ c ∧ c ≤ z ∧ 0 ≤ b ∧ b ≤ 1)
def tellsF (n : Int) (ps : List Str) (k : NestedKey) : Option D := match ps, k with
  | [], .tup [.num r, .num c, .num b] =>
    if n = 6 then (if boundB 8 r c b = true then some (eB2 (leftB bcB (r.toNat + c.toNat) r.toNat c.toNat (decide (b = 1)))) else none)
    else if n = 7 then (if boundB 8 r c b = true then some (eB2 (leftB orB (r.toNat + c.toNat) r.toNat c.toNat (decide (b = 1)))) else none)
    else if n = 0 then (if boundB 30 r c b = true then some (.int ((waysN (r.toNat + c.toNat) r.toNat c.toNat (decide (b = 1)) : Nat) : Int)) else none)
    else none
  | _, _ => none
theorem tells_six (r c : Nat) (b : Bool) (hr : r ≤ 8) (hc : c ≤ 8) : tellsF 6 [] (.tup [.num (r : Int), .num (c : Int), .num (if b = true then 1 else 0)]) = some (eB2 (leftB bcB (r + c) r c b)) := by
  have h : boundB 8 (r : Int) (c : Int) (if b = true then 1 else 0) = true := decide_eq_true ⟨by omega, by omega, by omega, by omega, by split <;> omega, by split <;> omega⟩
  unfold tellsF
  simp only
  rw [if_pos trivial, if_pos h]
  cases b <;> rfl
theorem tells_seven (r c : Nat) (b : Bool) (hr : r ≤ 8) (hc : c ≤ 8) : tellsF 7 [] (.tup [.num (r : Int), .num (c : Int), .num (if b = true then 1 else 0)]) = some (eB2 (leftB orB (r + c) r c b)) := by
  have h : boundB 8 (r : Int) (c : Int) (if b = true then 1 else 0) = true := decide_eq_true ⟨by omega, by omega, by omega, by omega, by split <;> omega, by split <;> omega⟩
  unfold tellsF
  simp only
  rw [if_neg (by decide), if_pos trivial, if_pos h]
  cases b <;> rfl
theorem tells_ways (r c : Nat) (b : Bool) (hr : r ≤ 30) (hc : c ≤ 30) : tellsF 0 [] (.tup [.num (r : Int), .num (c : Int), .num (if b = true then 1 else 0)]) = some (.int ((waysN (r + c) r c b : Nat) : Int)) := by
  have h : boundB 30 (r : Int) (c : Int) (if b = true then 1 else 0) = true := decide_eq_true ⟨by omega, by omega, by omega, by omega, by split <;> omega, by split <;> omega⟩
  unfold tellsF
  simp only
  rw [if_neg (by decide), if_neg (by decide), if_pos trivial, if_pos h]
  cases b <;> rfl
def keysB : List NestedKey := (List.range 31).flatMap fun (r : Nat) => (List.range 31).flatMap fun (c : Nat) => (List.range 2).map fun (b : Nat) => NestedKey.tup [.num (r : Int), .num (c : Int), .num (b : Int)]
theorem keysB_mem {z r c b : Int} (hz : z ≤ 30) (h : boundB z r c b = true) : NestedKey.tup [.num r, .num c, .num b] ∈ keysB := by
  obtain ⟨h1, h2, h3, h4, h5, h6⟩ := of_decide_eq_true h
  refine List.mem_flatMap.mpr ⟨r.toNat, List.mem_range.mpr (by omega), List.mem_flatMap.mpr ⟨c.toNat, List.mem_range.mpr (by omega), List.mem_map.mpr ⟨b.toNat, List.mem_range.mpr (by omega), ?_⟩⟩⟩
  rw [show ((r.toNat : Nat) : Int) = r by omega, show ((c.toNat : Nat) : Int) = c by omega, show ((b.toNat : Nat) : Int) = b by omega]
theorem nodup_lenB : ∀ {a b : List NestedKey}, a.Nodup → (∀ x ∈ a, x ∈ b) → a.length ≤ b.length
  | [], _, _, _ => Nat.zero_le _
  | x :: a, b, nd, h => by
    obtain ⟨n1, n2⟩ := List.nodup_cons.mp nd
    obtain ⟨s, t, rfl⟩ := List.append_of_mem (h x List.mem_cons_self)
    have := nodup_lenB (b := s ++ t) n2 fun y hy => by
      have := h y (List.mem_cons_of_mem _ hy)
      rcases List.mem_append.mp this with q | q
      · exact List.mem_append_left _ q
      · rcases List.mem_cons.mp q with q | q
        · subst q; exact (n1 hy).elim
        · exact List.mem_append_right _ q
    rw [List.length_append] at this
    rw [List.length_cons, List.length_append, List.length_cons]
    omega
theorem keysB_len : keysB.length ≤ 2000 := by
  unfold keysB
  decide +kernel
theorem tells_few (n : Int) (ps : List Str) (ks : List NestedKey) (nd : ks.Nodup) (h : ∀ k ∈ ks, (tellsF n ps k).isSome = true) : ks.length ≤ sizeLine := by
  rw [sizeLine_eq]
  refine Nat.le_trans (nodup_lenB nd (b := keysB) fun k hk => ?_) (Nat.le_trans keysB_len (by decide))
  have hs := h k hk
  unfold tellsF at hs
  split at hs
  · rename_i r c b
    split at hs
    · split at hs
      · rename_i z; exact keysB_mem (by decide) z
      · cases hs
    · split at hs
      · split at hs
        · rename_i z; exact keysB_mem (by decide) z
        · cases hs
      · split at hs
        · split at hs
          · rename_i z; exact keysB_mem (by decide) z
          · cases hs
        · cases hs
  · cases hs
section
variable [Wo]
def memoP (b : Addr) (xs : List (NestedKey × Addr × Value)) : Heap → Prop := fun h => ∃ o es ep, h.get? b = some o ∧ o.ExactDict ∧ o.data = .dict es ep ∧ es.toList = xs.map (fun x => (⟨Wo.hash x.1, .ref x.2.1, x.2.2⟩ : DictEntry)) ∧ (xs.map (·.1)).Nodup
end
mutual
inductive KeyV (H : Hp) : V → NestedKey → Prop
  | non : KeyV H .non .none
  | int (i : Int) : KeyV H (.int i) (.num i)
  | bl (b : Bool) : KeyV H (.bl b) (.num (if b = true then 1 else 0))
  | str (s : Str) : KeyV H (.str s) (.text s)
  | tup {p : Addr} {vs : List V} {ks : List NestedKey} : H p = some (.tup vs) → KeyVs H vs ks → KeyV H (.ref p) (.tup ks)
inductive KeyVs (H : Hp) : List V → List NestedKey → Prop
  | nil : KeyVs H [] []
  | cons {v : V} {vs : List V} {k : NestedKey} {ks : List NestedKey} : KeyV H v k → KeyVs H vs ks → KeyVs H (v :: vs) (k :: ks)
end
mutual
/-- the value v stands for the data d, which holds numbers, truth values, texts and tuples alone -/
inductive VRep (H : Hp) : V → D → Prop
  | non : VRep H .non .non
  | int (i : Int) : VRep H (.int i) (.int i)
  | bl (b : Bool) : VRep H (.bl b) (.bl b)
  | str (s : Str) : VRep H (.str s) (.str s)
  | tup {p : Addr} {vs : List V} {ds : List D} : H p = some (.tup vs) → VReps H vs ds → VRep H (.ref p) (.tup ds)
  | dic {p : Addr} {x : Obj} {is : List (Int × Int)} : H p = some (.frz x (.dK (is.map fun q => ((.inl q.1 : Key), V.int q.2)))) → VRep H (.ref p) (.dic (is.map fun q => (D.int q.1, D.int q.2)))
inductive VReps (H : Hp) : List V → List D → Prop
  | nil : VReps H [] []
  | cons {v : V} {vs : List V} {d : D} {ds : List D} : VRep H v d → VReps H vs ds → VReps H (v :: vs) (d :: ds)
end
section
variable {H H' : Hp} (kt : ∀ a (xs : StU), H a = some xs.1 → H' a = some xs.1)
include kt
mutual
theorem KeyV.keep : ∀ {v : V} {k : NestedKey}, KeyV H v k → KeyV H' v k
  | _, _, .non => .non
  | _, _, .int i => .int i
  | _, _, .bl b => .bl b
  | _, _, .str s => .str s
  | _, _, .tup e q => .tup (kt _ ⟨.tup _, rfl⟩ e) (KeyVs.keep q)
theorem KeyVs.keep : ∀ {vs : List V} {ks : List NestedKey}, KeyVs H vs ks → KeyVs H' vs ks
  | _, _, .nil => .nil
  | _, _, .cons a b => .cons (KeyV.keep a) (KeyVs.keep b)
end
mutual
theorem VRep.keep : ∀ {v : V} {d : D}, VRep H v d → VRep H' v d
  | _, _, .non => .non
  | _, _, .int i => .int i
  | _, _, .bl b => .bl b
  | _, _, .str s => .str s
  | _, _, .tup e q => .tup (kt _ ⟨.tup _, rfl⟩ e) (VReps.keep q)
  | _, _, .dic (x := x) e => .dic (kt _ ⟨.frz x _, rfl⟩ e)
theorem VReps.keep : ∀ {vs : List V} {ds : List D}, VReps H vs ds → VReps H' vs ds
  | _, _, .nil => .nil
  | _, _, .cons a b => .cons (VRep.keep a) (VReps.keep b)
end
end
def EntOk (n : Int) (ps : List Str) (H : Hp) (x : NestedKey × Addr × Value) : Prop := (KeyV H (.ref x.2.1) x.1 ∧ x.1.depth ≤ 8) ∧ ∃ v d, tellsF n ps x.1 = some d ∧ VRep H v d ∧ RelV v x.2.2
theorem EntOk.keep {n : Int} {ps : List Str} {H H' : Hp} {x : NestedKey × Addr × Value} (kt : ∀ a (xs : StU), H a = some xs.1 → H' a = some xs.1) (h : EntOk n ps H x) : EntOk n ps H' x := by
  obtain ⟨⟨a, b⟩, v, d, e1, e2, e3⟩ := h
  exact ⟨⟨KeyV.keep kt a, b⟩, v, d, e1, VRep.keep kt e2, e3⟩
variable [Wo]
def MemoAt (n : Int) (ps : List Str) (H : Hp) (b : Addr) : Prop := ∃ xs, H b = some (.ext (memoP b xs)) ∧ (b == sysModules) = false ∧ ∀ x ∈ xs, EntOk n ps H x
/-- a mark that no object bears -/
abbrev markM (n : Int) (ps : List Str) : HO := .ins 0 0 ((("" : Str), V.int n) :: (List.replicate 1001 (("" : Str), V.int 0) ++ ps.map fun s => (("" : Str), V.str s)))
theorem markM_inj {n m : Int} {ps qs : List Str} (e : markM n ps = markM m qs) : n = m ∧ ps = qs := by
  have e := (HO.ins.inj e).2.2
  obtain ⟨e1, e2⟩ := List.cons.inj e
  have e2 := List.append_cancel_left e2
  refine ⟨V.int.inj (Prod.mk.inj e1).2, ?_⟩
  exact (List.map_inj_right fun x y z => V.str.inj (Prod.mk.inj z).2).mp e2
theorem MemoAt.keep {n : Int} {ps : List Str} {H H' : Hp} {b : Addr} (h : MemoAt n ps H b) (k : ∀ u, H b = some u → H' b = some u) (kt : ∀ a (xs : StU), H a = some xs.1 → H' a = some xs.1) : MemoAt n ps H' b := by
  obtain ⟨xs, h1, h2, h3⟩ := h
  exact ⟨xs, k _ h1, h2, fun x hx => (h3 x hx).keep kt⟩
/-- as it stands; a dict perhaps locked; a dict of known answers where it is marked -/
def At (H : Hp) (b : Addr) (o : HO) : Prop := H b = some o ∨ (isDic o = true ∧ ∃ x, H b = some (.frz x o)) ∨ ∃ n, ∃ ps, o = markM n ps ∧ MemoAt n ps H b
/-- what stands here stands there, a dict perhaps locked -/
def Same (H H' : Hp) : Prop := ∀ b o, H b = some o → At H' b o
section
variable {Hs Hs' H H' H1 H2 : Hp} {b p : Addr} {o u : HO}
theorem At.rd (h : At H b o) (m : ∀ n ps, o ≠ markM n ps) : Rd H b o := h.elim .inl fun h => h.elim (fun h => .inr h.2) fun ⟨n, ps, e, _⟩ => (m n ps e).elim
theorem At.lst {vs : List V} (h : At H b (.lst vs)) : H b = some (.lst vs) := h.elim id fun h => h.elim (fun h => nomatch h.1) fun ⟨_, _, e, _⟩ => nomatch e
theorem At.tup {vs : List V} (h : At H b (.tup vs)) : H b = some (.tup vs) := h.elim id fun h => h.elim (fun h => nomatch h.1) fun ⟨_, _, e, _⟩ => nomatch e
theorem At.frz {x : Obj} {v : HO} (h : At H b (.frz x v)) : H b = some (.frz x v) := h.elim id fun h => h.elim (fun h => nomatch h.1) fun ⟨_, _, e, _⟩ => nomatch e
theorem At.ext {φ : Heap → Prop} (h : At H b (.ext φ)) : H b = some (.ext φ) := h.elim id fun h => h.elim (fun h => nomatch h.1) fun ⟨_, _, e, _⟩ => nomatch e
/-- a dict -/
theorem At.dic (h : At H b o) (d : isDic o = true) : H b = some o ∨ ∃ x, H b = some (.frz x o) := h.elim .inl fun h => h.elim (fun h => .inr h.2) fun ⟨_, _, e, _⟩ => by rw [e] at d; cases d
theorem At.st {u : HO} (h : At H b u) (s : isSt u = true) : H b = some u := by
  cases u with
  | tup vs => exact h.tup
  | frz x v => exact h.frz
  | _ => cases s
theorem At.keep (h : At H b o) (k : ∀ u, H b = some u → H' b = some u) (kt : ∀ a (xs : StU), H a = some xs.1 → H' a = some xs.1) : At H' b o := h.imp (k _) fun h => h.imp (fun ⟨a, x, e⟩ => ⟨a, x, k _ e⟩) fun ⟨n, ps, e, m⟩ => ⟨n, ps, e, m.keep k kt⟩
theorem At.there (h : At H b o) : ∃ u, H b = some u := h.elim (fun e => ⟨_, e⟩) fun h => h.elim (fun ⟨_, _, e⟩ => ⟨_, e⟩) fun ⟨_, _, _, xs, e, _⟩ => ⟨_, e⟩
theorem At.upd (h : At H b o) (n : b ≠ p) (nt : ∀ xs : StU, H p ≠ some xs.1) : At (upd H p u) b o := h.keep (fun v e => by rw [upd_ne n]; exact e) fun a xs e => by
  rw [upd_ne fun z => nt xs (by rw [← z]; exact e)]; exact e
theorem Same.refl (H : Hp) : Same H H := fun _ _ h => .inl h
theorem Same.trans (a : Same H H1) (b : Same H1 H2) : Same H H2 := fun c o h => by
  rcases a c o h with q | ⟨q, x, e⟩ | ⟨n, ps, e, xs, h1, h2, h3⟩
  · exact b c o q
  · exact .inr (.inl ⟨q, x, (b c _ e).frz⟩)
  · exact .inr (.inr ⟨n, ps, e, xs, (b c _ h1).ext, h2, fun x hx => (h3 x hx).keep fun a ys e => (b a _ e).st ys.2⟩)
theorem At.mono {n : Int} {ps : List Str} (e : Same H H') (h : At H b (markM n ps)) : At H' b (markM n ps) := by
  rcases h with q | ⟨q, _⟩ | ⟨m, qs, em, xs, h1, h2, h3⟩
  · exact e b _ q
  · cases q
  · exact .inr (.inr ⟨m, qs, em, xs, (e _ _ h1).ext, h2, fun x hx => (h3 x hx).keep fun a ys z => (e a _ z).st ys.2⟩)
theorem Same.of (a : ∀ b o, H b = some o → H' b = some o) : Same H H' := fun b o h => .inl (a b o h)
theorem Same.free (e : Same Hs H) {l : Addr} (h : H l = none) : Hs l = none := by
  cases z : Hs l with
  | none => rfl
  | some u =>
    obtain ⟨v, q⟩ := (e l u z).there
    rw [h] at q; cases q
theorem Same.rd (e : Same H H') (h : Rd H b o) (d : ∀ x v, o ≠ .frz x v := by intros; nofun) (m : ∀ n ps, o ≠ markM n ps := by intros; nofun) : Rd H' b o := by
  rcases h with h | ⟨x, h⟩
  · exact (e _ _ h).rd m
  · exact .inr ⟨x, (e _ _ h).frz⟩
theorem Same.seq {K : PySem.W.Frag} {a : Addr} {xs : List V} (e : Same Hs H) (h : SqL K Hs a xs) : SqL K H a xs := h.imp (fun h => e.rd h) id
theorem Same.sqt {K : PySem.W.Frag} {a : Addr} {xs : List V} (e : Same Hs H) (h : SqT K Hs a xs) : SqT K H a xs := h.imp (fun h => e.rd h) id
theorem upd_free (e : L2.upd H p u b = none) : H b = none := by
  by_cases q : b = p
  · subst q; rw [upd_same] at e; cases e
  · rwa [upd_ne q] at e
end
section
variable (K : PySem.W.Frag) (mg : Str → Option Value) (r : Addr)
mutual
/-- the value v stands for the data d, all its objects in Hs -/
inductive RepD (Hs : Hp) : V → D → Prop
  | non : RepD Hs .non .non
  | bl (b : Bool) : RepD Hs (.bl b) (.bl b)
  | int (i : Int) : RepD Hs (.int i) (.int i)
  | str (s : Str) : RepD Hs (.str s) (.str s)
  | tup {p : Addr} {vs : List V} {ds : List D} : Hs p = some (.tup vs) → RepDs Hs vs ds → RepD Hs (.ref p) (.tup ds)
  | lst {p : Addr} {vs : List V} {ds : List D} : Hs p = some (.lst vs) → RepDs Hs vs ds → RepD Hs (.ref p) (.lst ds)
  | dicK {p : Addr} {kvs : List (Key × V)} {ds : List (D × D)} : Rd Hs p (.dK kvs) → RepP Hs (kvs.map fun q => (keyD q.1, q.2)) ds → RepD Hs (.ref p) (.dic ds)
  | dicT {p : Addr} {kvs : List (List Key × V)} {ds : List (D × D)} : Rd Hs p (.dT kvs) → RepP Hs (kvs.map fun q => (keyT q.1, q.2)) ds → RepD Hs (.ref p) (.dct ds)
  | scr {p : Addr} {ns : List Int} : SqL K Hs p (ns.map V.int) → RepD Hs (.ref p) (.scr ns)
  | tape : RepD Hs (.ref r) .tape
  | fn {f : Addr} {n : Str} : mg n = some (.ref f) → RepD Hs (.ref f) (.fn n)
  | ty (n : String) : RepD Hs (.ty n) (.ty n)
  | memo {p : Addr} {n : Int} {ps : List Str} : At Hs p (markM n ps) → RepD Hs (.ref p) (.memo n ps)
inductive RepDs (Hs : Hp) : List V → List D → Prop
  | nil : RepDs Hs [] []
  | cons {v : V} {vs : List V} {d : D} {ds : List D} : RepD Hs v d → RepDs Hs vs ds → RepDs Hs (v :: vs) (d :: ds)
inductive RepP (Hs : Hp) : List (D × V) → List (D × D) → Prop
  | nil : RepP Hs [] []
  | cons {k : D} {v : V} {vs : List (D × V)} {d : D} {ds : List (D × D)} : RepD Hs v d → RepP Hs vs ds → RepP Hs ((k, v) :: vs) ((k, d) :: ds)
end
end
section
variable {K : PySem.W.Frag} {mg : Str → Option Value} {r : Addr} {Hs Hs' Hs1 Hs2 H H' H1 H2 : Hp}
mutual
theorem RepD.mono (e : Same Hs Hs') : ∀ {v : V} {d : D}, RepD K mg r Hs v d → RepD K mg r Hs' v d
  | _, _, .non => .non
  | _, _, .bl b => .bl b
  | _, _, .int i => .int i
  | _, _, .str s => .str s
  | _, _, .tup h q => .tup (e _ _ h).tup (RepDs.mono e q)
  | _, _, .lst h q => .lst (e _ _ h).lst (RepDs.mono e q)
  | _, _, .dicK h q => .dicK (e.rd h) (RepP.mono e q)
  | _, _, .dicT h q => .dicT (e.rd h) (RepP.mono e q)
  | _, _, .scr h => .scr (Same.seq e h)
  | _, _, .tape => .tape
  | _, _, .fn h => .fn h
  | _, _, .ty n => .ty n
  | _, _, .memo h => .memo (At.mono e h)
theorem RepDs.mono (e : Same Hs Hs') : ∀ {vs : List V} {ds : List D}, RepDs K mg r Hs vs ds → RepDs K mg r Hs' vs ds
  | _, _, .nil => .nil
  | _, _, .cons h q => .cons (RepD.mono e h) (RepDs.mono e q)
theorem RepP.mono (e : Same Hs Hs') : ∀ {vs : List (D × V)} {ds : List (D × D)}, RepP K mg r Hs vs ds → RepP K mg r Hs' vs ds
  | _, _, .nil => .nil
  | _, _, .cons h q => .cons (RepD.mono e h) (RepP.mono e q)
end
theorem RepDs.length : ∀ {vs : List V} {ds : List D}, RepDs K mg r Hs vs ds → vs.length = ds.length
  | _, _, .nil => rfl
  | _, _, .cons _ q => by simp only [List.length_cons, RepDs.length q]
theorem RepDs.get : ∀ {vs : List V} {ds : List D} {i : Nat} {v : V}, RepDs K mg r Hs vs ds → vs[i]? = some v → ∃ d, ds[i]? = some d ∧ RepD K mg r Hs v d
  | _, _, _, _, .nil, e => by simp at e
  | _, _, 0, _, .cons h _, e => by simp at e; subst e; exact ⟨_, rfl, h⟩
  | _, _, i + 1, _, .cons _ q, e => by
    obtain ⟨d, h1, h2⟩ := RepDs.get (i := i) q (by simpa using e)
    exact ⟨d, by simpa using h1, h2⟩
theorem RepDs.get' : ∀ {vs : List V} {ds : List D} {i : Nat} {d : D}, RepDs K mg r Hs vs ds → ds[i]? = some d → ∃ v, vs[i]? = some v ∧ RepD K mg r Hs v d
  | _, _, _, _, .nil, e => by simp at e
  | _, _, 0, _, .cons h _, e => by simp at e; subst e; exact ⟨_, rfl, h⟩
  | _, _, i + 1, _, .cons _ q, e => by
    obtain ⟨d, h1, h2⟩ := RepDs.get' (i := i) q (by simpa using e)
    exact ⟨d, by simpa using h1, h2⟩
theorem RepDs.append : ∀ {vs ws : List V} {ds es : List D}, RepDs K mg r Hs vs ds → RepDs K mg r Hs ws es → RepDs K mg r Hs (vs ++ ws) (ds ++ es)
  | _, _, _, _, .nil, q => q
  | _, _, _, _, .cons h p, q => .cons h (RepDs.append p q)
theorem RepDs.drop : ∀ {vs : List V} {ds : List D} (n : Nat), RepDs K mg r Hs vs ds → RepDs K mg r Hs (vs.drop n) (ds.drop n)
  | _, _, 0, q => q
  | _, _, _ + 1, .nil => .nil
  | _, _, n + 1, .cons _ q => RepDs.drop n q
theorem RepDs.take : ∀ {vs : List V} {ds : List D} (n : Nat), RepDs K mg r Hs vs ds → RepDs K mg r Hs (vs.take n) (ds.take n)
  | _, _, 0, _ => .nil
  | _, _, _ + 1, .nil => .nil
  | _, _, n + 1, .cons h q => .cons h (RepDs.take n q)
theorem RepDs.set : ∀ {vs : List V} {ds : List D} {v : V} {d : D} (n : Nat), RepDs K mg r Hs vs ds → RepD K mg r Hs v d → RepDs K mg r Hs (vs.set n v) (ds.set n d)
  | _, _, _, _, _, .nil, _ => .nil
  | _, _, _, _, 0, .cons _ q, h => .cons h q
  | _, _, _, _, n + 1, .cons g q, h => .cons g (RepDs.set n q h)
theorem RepDs.dropLast : ∀ {vs : List V} {ds : List D}, RepDs K mg r Hs vs ds → RepDs K mg r Hs vs.dropLast ds.dropLast := by
  intro vs ds h
  rw [List.dropLast_eq_take, List.dropLast_eq_take, h.length]
  exact h.take _
theorem RepDs.reverse {vs : List V} {ds : List D} (h : RepDs K mg r Hs vs ds) : RepDs K mg r Hs vs.reverse ds.reverse := by
  induction vs generalizing ds with
  | nil => cases h; exact .nil
  | cons v vs ih =>
    cases h with
    | cons a b => rw [List.reverse_cons, List.reverse_cons]; exact (ih b).append (.cons a .nil)
theorem RepDs.ints : ∀ (ns : List Int), RepDs K mg r Hs (ns.map V.int) (ns.map D.int)
  | [] => .nil
  | n :: ns => .cons (.int n) (RepDs.ints ns)
theorem RepDs.ints_of : ∀ {ns : List Int} {vs : List V}, RepDs K mg r Hs vs (ns.map D.int) → vs = ns.map V.int
  | [], _, .nil => rfl
  | n :: ns, _, .cons h q => by cases h; rw [RepDs.ints_of q]; rfl
theorem upd_new {H : Hp} {p : Addr} {o : HO} (h : H p = none) (a : Addr) (u : HO) (e : H a = some u) : upd H p o a = some u := by
  rw [upd_ne (ne_of_none e h)]
  exact e
theorem same_new {H : Hp} {p : Addr} {o : HO} (h : H p = none) : Same H (upd H p o) := .of (upd_new h)
end
section
variable (K : PySem.W.Frag) (mg : Str → Option Value) (r : Addr)
/-- what stands still, the heap, the tape at r -/
structure Wd (Hs H : Hp) (tp : List D) : Prop where
  sub : Same Hs H
  tn : Hs r = none
  tH : ∃ vs, H r = some (.lst vs) ∧ RepDs K mg r Hs vs tp
  nx : ∀ b φ, Hs b ≠ some (.ext φ)
structure Grow (Hs H Hs' H' : Hp) : Prop where
  keep : ∀ b o, H b = some o → b ≠ r → Hs b = none → H' b = some o
  free : ∀ b, H' b = none → H b = none
  ex : Same Hs Hs'
  new : ∀ b o, b ≠ r → Hs' b = some o → (∃ u, Hs b = some u) ∨ H b = none ∨ ∃ xs : StU, H b = some xs.1
  tup : ∀ b (xs : StU), H b = some xs.1 → H' b = some xs.1
end
section
variable {K : PySem.W.Frag} {mg : Str → Option Value} {r : Addr} {Hs Hs' Hs1 Hs2 H H' H1 H2 : Hp} {tp tp' : List D}
theorem Grow.refl (Hs H : Hp) : Grow r Hs H Hs H := ⟨fun _ _ e _ _ => e, fun _ e => e, Same.refl _, fun _ _ _ e => .inl ⟨_, e⟩, fun _ _ e => e⟩
theorem Grow.trans (a : Grow r Hs H Hs1 H1) (b : Grow r Hs1 H1 Hs2 H2) : Grow r Hs H Hs2 H2 where
  keep := fun c o e n hs => by
    cases z : Hs1 c with
    | none => exact b.keep c o (a.keep c o e n hs) n z
    | some u =>
      rcases a.new c u n z with ⟨_, q⟩ | q | ⟨xs, q⟩
      · rw [hs] at q; cases q
      · rw [e] at q; cases q
      · rw [e] at q; cases q
        exact b.tup c xs (a.tup c xs e)
  free := fun c e => a.free c (b.free c e)
  ex := a.ex.trans b.ex
  new := fun c o n e => by
    rcases b.new c o n e with ⟨u, q⟩ | q | ⟨xs, q⟩
    · exact a.new c u n q
    · exact .inr (.inl (a.free c q))
    · cases z : H c with
      | none => exact .inr (.inl rfl)
      | some u =>
        cases y : Hs c with
        | some v => exact .inl ⟨v, rfl⟩
        | none =>
          have := a.keep c u z n y
          rw [q] at this; cases this
          exact .inr (.inr ⟨xs, rfl⟩)
  tup := fun c xs e => b.tup c xs (a.tup c xs e)
theorem Grow.no {c : Addr} {o : HO} (a : Grow r Hs H Hs1 H1) (hs : Hs c = none) (e : H c = some o) (n : c ≠ r) (t : isSt o = false := by rfl) : Hs1 c = none := by
  cases z : Hs1 c with
  | none => rfl
  | some u =>
    rcases a.new c u n z with ⟨_, q⟩ | q | ⟨xs, q⟩
    · rw [hs] at q; cases q
    · rw [e] at q; cases q
    · rw [e] at q; exact (st_no t xs (Option.some.inj q)).elim
theorem Wd.ne {p : Addr} {o : HO} (w : Wd K mg r Hs H tp) (h : Hs p = some o) : p ≠ r := fun e => by
  rw [e, w.tn] at h; cases h
theorem Wd.fresh {p : Addr} (w : Wd K mg r Hs H tp) (h : H p = none) : Hs p = none ∧ p ≠ r := by
  refine ⟨w.sub.free h, fun e => ?_⟩
  obtain ⟨vs, q, _⟩ := w.tH
  rw [e, q] at h; cases h
/-- a new object that stands still -/
theorem Wd.alloc {p : Addr} {o : HO} (w : Wd K mg r Hs H tp) (h : H p = none) (no : ∀ φ, o ≠ .ext φ := by intros; nofun) : Grow r Hs H (upd Hs p o) (upd H p o) ∧ Wd K mg r (upd Hs p o) (upd H p o) tp := by
  obtain ⟨hs, ne⟩ := w.fresh h
  refine ⟨⟨fun b u e _ _ => upd_new h b u e, fun b e => upd_free e, same_new hs, fun b u n e => ?_, fun b xs e => upd_new h b _ e⟩, ⟨fun b u e => ?_, ?_, ?_, fun b φ e => ?_⟩⟩
  · by_cases q : b = p
    · subst q; exact .inr (.inl h)
    · rw [upd_ne q] at e; exact .inl ⟨_, e⟩
  · by_cases q : b = p
    · subst q; rw [upd_same] at e; exact .inl (by rw [upd_same]; exact e)
    · rw [upd_ne q] at e; exact (w.sub b u e).upd q fun xs z => by rw [h] at z; first | exact st_no rfl xs (Option.some.inj z) | cases z
  · rw [upd_ne ne.symm]; exact w.tn
  · obtain ⟨vs, q, z⟩ := w.tH
    exact ⟨vs, by rw [upd_ne ne.symm]; exact q, z.mono (same_new hs)⟩
  · by_cases q : b = p
    · subst q; rw [upd_same] at e; exact no φ (Option.some.inj e)
    · rw [upd_ne q] at e; exact w.nx b φ e
/-- a new object that does not stand still (yet) -/
theorem Wd.lay {p : Addr} {o : HO} (w : Wd K mg r Hs H tp) (h : H p = none) : Grow r Hs H Hs (upd H p o) ∧ Wd K mg r Hs (upd H p o) tp := by
  obtain ⟨hs, ne⟩ := w.fresh h
  refine ⟨⟨fun b u e _ _ => upd_new h b u e, fun b e => upd_free e, Same.refl _, fun b u n e => .inl ⟨_, e⟩, fun b xs e => upd_new h b _ e⟩, ⟨fun b u e => (w.sub b u e).keep (fun v q => upd_new h b v q) fun a xs e => upd_new h a _ e, w.tn, ?_, w.nx⟩⟩
  obtain ⟨vs, q, z⟩ := w.tH
  exact ⟨vs, by rw [upd_ne ne.symm]; exact q, z⟩
/-- an object that is not in Hs is written -/
theorem Wd.write {p : Addr} {o : HO} (w : Wd K mg r Hs H tp) (h : Hs p = none) (ne : p ≠ r) (nt : ∀ xs : StU, H p ≠ some xs.1) : Wd K mg r Hs (upd H p o) tp := by
  refine ⟨fun b u e => ?_, w.tn, ?_, w.nx⟩
  · exact (w.sub b u e).upd (ne_of_none e h) nt
  · obtain ⟨vs, q, z⟩ := w.tH
    exact ⟨vs, by rw [upd_ne ne.symm]; exact q, z⟩
end
inductive RE (α : Type) where
  | ok (a : α) (tp : List D)
  | exn (c : Str) (fs : List (Str × D)) (tp : List D)
  | stuck
def RE.bind {α β : Type} (x : RE α) (k : α → List D → RE β) : RE β := match x with
  | .ok a tp => k a tp
  | .exn c fs tp => .exn c fs tp
  | .stuck => .stuck
@[simp] theorem RE.bind_ok {α β : Type} (a : α) (tp : List D) (k : α → List D → RE β) : (RE.ok a tp).bind k = k a tp := rfl
@[simp] theorem RE.bind_exn {α β : Type} (c : Str) (fs : List (Str × D)) (tp : List D) (k : α → List D → RE β) : (RE.exn c fs tp : RE α).bind k = .exn c fs tp := rfl
@[simp] theorem RE.bind_stuck {α β : Type} (k : α → List D → RE β) : (RE.stuck : RE α).bind k = .stuck := rfl
def RE.of {α : Type} (o : Option α) (tp : List D) : RE α := match o with
  | some a => .ok a tp
  | none => .stuck
@[simp] theorem RE.of_some {α : Type} (a : α) (tp : List D) : RE.of (some a) tp = .ok a tp := rfl
@[simp] theorem RE.of_none {α : Type} (tp : List D) : (RE.of (none : Option α) tp) = .stuck := rfl
section
variable (K : PySem.W.Frag) (mg : Str → Option Value) (r : Addr)
/-- the dict of an exception: its fields -/
def ExD (Hs : Hp) (fs : List (Str × D)) (dx : Option Addr) : Prop :=
  (fs = [] ∧ dx = none) ∨ ∃ a gs, dx = some a ∧ Hs a = some (.xd gs) ∧ ∀ f, match fs.lookup f with
    | some d => ∃ v, gs.lookup f = some v ∧ RepD K mg r Hs v d
    | none => gs.lookup f = none
def Post {β α : Type} (Rp : Hp → Hp → β → α → Prop) (E : XK) (Hs H : Hp) (res : RE α) (Q : β → Hp → Prop) : Prop := match res with
  | .ok d tp' => ∀ v Hs' H', Grow r Hs H Hs' H' → Wd K mg r Hs' H' tp' → Rp Hs' H' v d → Q v H'
  | .exn c fs tp' => ∀ cv dx Hs' H', Grow r Hs H Hs' H' → Wd K mg r Hs' H' tp' → mg c = some cv → ExD K mg r Hs' fs dx → E cv dx H'
  | .stuck => False
end
section
variable {K : PySem.W.Frag} {mg : Str → Option Value} {r : Addr} {Hs Hs' Hs1 Hs2 H H' H1 H2 : Hp} {tp tp' : List D} {α β γ δ : Type} {R1 : Hp → Hp → β → α → Prop} {R2 : Hp → Hp → δ → γ → Prop} {E : XK}
theorem Post.shift {res : RE α} {Q : β → Hp → Prop} (g : Grow r Hs H Hs1 H1) (h : Post K mg r R1 E Hs H res Q) : Post K mg r R1 E Hs1 H1 res Q := by
  cases res with
  | ok d tp' => exact fun v Hs' H' g' w q => h v Hs' H' (g.trans g') w q
  | exn c fs tp' => exact fun cv dx Hs' H' g' w m x => h cv dx Hs' H' (g.trans g') w m x
  | stuck => exact h
theorem Post.imp {res : RE α} {Q Q' : β → Hp → Prop} (h : Post K mg r R1 E Hs H res Q) (k : ∀ v H', Q v H' → Q' v H') : Post K mg r R1 E Hs H res Q' := by
  cases res with
  | ok d tp' => exact fun v Hs' H' g' w q => k _ _ (h v Hs' H' g' w q)
  | exn c fs tp' => exact h
  | stuck => exact h
/-- one thing, then another -/
theorem Post.bind {res : RE α} {k : α → List D → RE γ} {Q : δ → Hp → Prop} {Q1 : β → Hp → Prop} (h : Post K mg r R2 E Hs H (res.bind k) Q)
    (step : ∀ v Hs1 H1 d tp1, res = .ok d tp1 → Grow r Hs H Hs1 H1 → Wd K mg r Hs1 H1 tp1 → R1 Hs1 H1 v d → Post K mg r R2 E Hs1 H1 (k d tp1) Q → Q1 v H1) : Post K mg r R1 E Hs H res Q1 := by
  cases res with
  | ok d tp' => exact fun v Hs' H' g' w q => step v Hs' H' d tp' rfl g' w q (Post.shift g' h)
  | exn c fs tp' => exact h
  | stuck => exact h
theorem Post.ok_of {o : Option α} {Q : β → Hp → Prop} (h : Post K mg r R1 E Hs H (RE.of o tp) Q) : ∃ d, o = some d ∧ ∀ v Hs' H', Grow r Hs H Hs' H' → Wd K mg r Hs' H' tp → R1 Hs' H' v d → Q v H' := by
  cases o with
  | none => exact h.elim
  | some d => exact ⟨d, rfl, h⟩
end
end G
set_option maxHeartbeats 1000000
namespace G
open PySem PySem.Spec PyProof.Rows L2
variable [_root_.G.Wo]
abbrev DEnv := List (Option D)
abbrev SE (α : Type) := DEnv → List D → RE α
section
variable (K : PySem.W.Frag) (mg : Str → Option Value) (r : Addr)
/-- the object at p (its own slot's alone) holds d, its items stand still -/
def OwnAt (Hs H : Hp) (p : Addr) : D → Prop
  | .lst ds => ∃ vs, H p = some (.lst vs) ∧ RepDs K mg r Hs vs ds
  | .dic ds => ∃ kvs : List (Key × V), H p = some (.dK kvs) ∧ RepP K mg r Hs (kvs.map fun q => (keyD q.1, q.2)) ds
  | .dct ds => ∃ kvs : List (List Key × V), H p = some (.dT kvs) ∧ RepP K mg r Hs (kvs.map fun q => (keyT q.1, q.2)) ds
  | _ => False
/-- as RepD; the topmost object may be one that changes -/
def RepT (Hs H : Hp) (v : V) (d : D) : Prop := RepD K mg r Hs v d ∨ ∃ p, v = .ref p ∧ (p ≠ r ∧ Hs p = none) ∧ OwnAt K mg r Hs H p d
structure Rel (O : List Nat) (Hs0 H0 Hs H : Hp) (σ : L2.St) (env : DEnv) (tp : List D) : Prop where
  wd : Wd K mg r Hs H tp
  gr : Grow r Hs0 H0 Hs H
  len : σ.length = env.length
  vars : ∀ i d, env[i]? = some (some d) → i ∉ O → ∃ v, σ[i]? = some (some v) ∧ RepD K mg r Hs v d
  own : ∀ i, i ∈ O → ∃ d p, env[i]? = some (some d) ∧ σ[i]? = some (some (.ref p)) ∧ Hs p = none ∧ H0 p = none ∧ p ≠ r ∧ OwnAt K mg r Hs H p d
  dis : ∀ i j p, i ∈ O → j ∈ O → σ[i]? = some (some (.ref p)) → σ[j]? = some (some (.ref p)) → i = j
end
section
variable {K : PySem.W.Frag} {mg : Str → Option Value} {r : Addr} {Hs0 H0 Hs Hs' H H' : Hp} {O : List Nat} {σ : L2.St} {env : DEnv} {tp tp' : List D} {p : Addr} {d : D} {v : V}
theorem OwnAt.grow (h : OwnAt K mg r Hs H p d) (e : Same Hs Hs') (k : ∀ o, H p = some o → H' p = some o) : OwnAt K mg r Hs' H' p d := by
  cases d with
  | lst ds => obtain ⟨vs, a, b⟩ := h; exact ⟨vs, k _ a, b.mono e⟩
  | dic ds => obtain ⟨kvs, a, b⟩ := h; exact ⟨kvs, k _ a, RepP.mono e b⟩
  | dct ds => obtain ⟨kvs, a, b⟩ := h; exact ⟨kvs, k _ a, RepP.mono e b⟩
  | _ => exact h.elim
theorem OwnAt.ntup (h : OwnAt K mg r Hs H p d) : ∀ o, H p = some o → isSt o = false := fun o e => by
  cases d with
  | lst ds => obtain ⟨vs, a, b⟩ := h; rw [e] at a; cases a; rfl
  | dic ds => obtain ⟨kvs, a, b⟩ := h; rw [e] at a; cases a; rfl
  | dct ds => obtain ⟨kvs, a, b⟩ := h; rw [e] at a; cases a; rfl
  | _ => exact h.elim
theorem OwnAt.next (h : OwnAt K mg r Hs H p d) : ∀ φ, H p ≠ some (.ext φ) := fun φ e => by
  cases d with
  | lst ds => obtain ⟨vs, a, b⟩ := h; rw [e] at a; cases a
  | dic ds => obtain ⟨kvs, a, b⟩ := h; rw [e] at a; cases a
  | dct ds => obtain ⟨kvs, a, b⟩ := h; rw [e] at a; cases a
  | _ => exact h.elim
theorem OwnAt.there (h : OwnAt K mg r Hs H p d) : ∃ o, H p = some o := by
  cases d with
  | lst ds => obtain ⟨vs, a, b⟩ := h; exact ⟨_, a⟩
  | dic ds => obtain ⟨kvs, a, b⟩ := h; exact ⟨_, a⟩
  | dct ds => obtain ⟨kvs, a, b⟩ := h; exact ⟨_, a⟩
  | _ => exact h.elim
/-- an owned object comes to stand still -/
theorem OwnAt.rep (h : OwnAt K mg r Hs H p d) (e : Same Hs Hs') (k : ∀ o, H p = some o → Hs' p = some o) : RepD K mg r Hs' (.ref p) d := by
  cases d with
  | lst ds => obtain ⟨vs, a, b⟩ := h; exact .lst (k _ a) (b.mono e)
  | dic ds => obtain ⟨kvs, a, b⟩ := h; exact .dicK (.of (k _ a)) (RepP.mono e b)
  | dct ds => obtain ⟨kvs, a, b⟩ := h; exact .dicT (.of (k _ a)) (RepP.mono e b)
  | _ => exact h.elim
theorem RepT.grow (h : RepT K mg r Hs H v d) (g : Grow r Hs H Hs' H') : RepT K mg r Hs' H' v d := by
  rcases h with h | ⟨p, e, ⟨n, hs⟩, h⟩
  · exact .inl (h.mono g.ex)
  · obtain ⟨o, q⟩ := h.there
    exact .inr ⟨p, e, ⟨n, g.no hs q n (h.ntup o q)⟩, h.grow g.ex fun o q => g.keep p o q n hs⟩
theorem RepD.top (h : RepD K mg r Hs v d) : RepT K mg r Hs H v d := .inl h
theorem Rel.grow (R : Rel K mg r O Hs0 H0 Hs H σ env tp) (g : Grow r Hs H Hs' H') (w : Wd K mg r Hs' H' tp') : Rel K mg r O Hs0 H0 Hs' H' σ env tp' where
  wd := w
  gr := R.gr.trans g
  len := R.len
  vars := fun i d e n => by
    obtain ⟨v, a, b⟩ := R.vars i d e n
    exact ⟨v, a, b.mono g.ex⟩
  own := fun i hi => by
    obtain ⟨d, p, a, b, c, c0, n, o⟩ := R.own i hi
    refine ⟨d, p, a, b, ?_, c0, n, o.grow g.ex fun u q => g.keep p u q n c⟩
    obtain ⟨u', q'⟩ := o.there
    exact g.no c q' n (o.ntup u' q')
  dis := R.dis
end
section
variable (K : PySem.W.Frag) (mg : Str → Option Value) (r : Addr) (X : Cx) (O : List Nat) (E : XK)
abbrev PostE : Hp → Hp → RE D → VK → Prop := Post K mg r (fun Hs _ v d => RepD K mg r Hs v d) E
abbrev PostO : Hp → Hp → RE D → VK → Prop := Post K mg r (fun Hs H v d => RepT K mg r Hs H v d) E
abbrev PostB : Hp → Hp → RE Bool → (Bool → Hp → Prop) → Prop := Post K mg r (fun _ _ (a b : Bool) => a = b) E
abbrev PostA : Hp → Hp → RE (List D) → (List V → Hp → Prop) → Prop := Post K mg r (fun Hs _ v d => RepDs K mg r Hs v d) E
abbrev PostAO : Hp → Hp → RE (List D) → (List V → Hp → Prop) → Prop := Post K mg r (fun Hs H v d => Paired (RepT K mg r Hs H) v d) E
/-- the expression e gives what m says -/
structure GE (e : Expr) (t : TE) (m : SE D) : Prop where
  pe : PE X e t
  snd : ∀ Hs0 H0 Hs H σ env tp Q, Rel K mg r O Hs0 H0 Hs H σ env tp → PostE K mg r E Hs H (m env tp) Q → t σ H Q
/-- as GE, the value may be a slot's own object -/
structure GO (e : Expr) (t : TE) (m : SE D) : Prop where
  pe : PE X e t
  snd : ∀ Hs0 H0 Hs H σ env tp Q, Rel K mg r O Hs0 H0 Hs H σ env tp → PostO K mg r E Hs H (m env tp) Q → t σ H Q
structure GT (e : Expr) (t : TT) (m : SE Bool) : Prop where
  pe : PT X e t
  snd : ∀ Hs0 H0 Hs H σ env tp Q, Rel K mg r O Hs0 H0 Hs H σ env tp → PostB K mg r E Hs H (m env tp) Q → t σ H Q
structure GW (e : Expr) (t : TT) (m : SE Bool) : Prop where
  pe : PW X e t
  snd : ∀ Hs0 H0 Hs H σ env tp Q, Rel K mg r O Hs0 H0 Hs H σ env tp → PostB K mg r E Hs H (m env tp) Q → t σ H Q
structure GA (es : List Expr) (t : TA) (m : SE (List D)) : Prop where
  pe : PA X es t
  snd : ∀ Hs0 H0 Hs H σ env tp Q, Rel K mg r O Hs0 H0 Hs H σ env tp → PostA K mg r E Hs H (m env tp) Q → t σ H Q
structure GAO (es : List Expr) (t : TA) (m : SE (List D)) : Prop where
  pe : PA X es t
  snd : ∀ Hs0 H0 Hs H σ env tp Q, Rel K mg r O Hs0 H0 Hs H σ env tp → PostAO K mg r E Hs H (m env tp) Q → t σ H Q
end
section
variable {K : PySem.W.Frag} {mg : Str → Option Value} {r : Addr} {X : Cx} {O : List Nat} {E : XK} {e a b c : Expr} {es : List Expr} {pos : Pos} {t ta tb tc : TE} {tt tu : TT} {ts : TA}
theorem GE.go {m : SE D} (h : GE K mg r X O E e t m) : GO K mg r X O E e t m := by
  obtain ⟨ht, hs⟩ := h
  refine ⟨ht, fun Hs0 H0 Hs H σ env tp Q R P => hs _ _ _ _ _ _ _ _ R ?_⟩
  unfold PostO at P
  cases q : m env tp with
  | ok d tp' =>
    rw [q] at P
    exact fun v Hs' H' g w x => P v Hs' H' g w (.inl x)
  | exn c fs tp' => rw [q] at P; exact P
  | stuck => rw [q] at P; exact P
def vE (i : Nat) : SE D := fun env tp => match env[i]? with
  | some (some d) => .ok d tp
  | _ => .stuck
def cE (d : D) : SE D := fun _ tp => .ok d tp
theorem ge_var (i : Nat) {x : Str} (hO : i ∉ O := by decide) (hN : X.N[i]? = some x := by rfl) (hv : Vis X.env.scope x := by first | exact Or.inl rfl | exact Or.inr (Or.inl rfl) | exact Or.inr (Or.inr rfl)) (hd : (x == ("__debug__" : Str)) = false := by decide)
    (hcd : (x == ("__classdict__" : Str)) = false := by decide) : GE K mg r X O E (.Name x pos) (tVar i) (vE i) := by
  refine ⟨pe_var hN hv hd hcd, fun Hs0 H0 Hs H σ env tp Q R P => ?_⟩
  unfold vE at P
  split at P
  · rename_i d q
    obtain ⟨v, h1, h2⟩ := R.vars i d q hO
    exact ⟨v, h1, P v Hs H (Grow.refl _ _) R.wd h2⟩
  · exact P.elim
theorem go_own (i : Nat) {x : Str} (hO : i ∈ O := by decide) (hN : X.N[i]? = some x := by rfl) (hv : Vis X.env.scope x := by first | exact Or.inl rfl | exact Or.inr (Or.inl rfl) | exact Or.inr (Or.inr rfl)) (hd : (x == ("__debug__" : Str)) = false := by decide)
    (hcd : (x == ("__classdict__" : Str)) = false := by decide) : GO K mg r X O E (.Name x pos) (tVar i) (vE i) := by
  refine ⟨pe_var hN hv hd hcd, fun Hs0 H0 Hs H σ env tp Q R P => ?_⟩
  obtain ⟨d, p, h1, h2, h3, h4, h5, h6⟩ := R.own i hO
  unfold vE at P
  rw [h1] at P
  exact ⟨_, h2, P _ Hs H (Grow.refl _ _) R.wd (.inr ⟨p, rfl, ⟨h5, h3⟩, h6⟩)⟩
theorem ge_c {e : Expr} {v : V} {d : D} (h : PE X e (tC v)) (hr : ∀ Hs, RepD K mg r Hs v d) : GE K mg r X O E e (tC v) (cE d) :=
  ⟨h, fun Hs0 H0 Hs H σ env tp Q R P => P v Hs H (Grow.refl _ _) R.wd (hr Hs)⟩
theorem ge_int {i j pos} : GE K mg r X O E (.Constant (.int i) j pos) (tC (.int i)) (cE (.int i)) := ge_c pe_int fun _ => .int i
theorem ge_bl {i j pos} : GE K mg r X O E (.Constant (.bool i) j pos) (tC (.bl i)) (cE (.bl i)) := ge_c pe_bl fun _ => .bl i
theorem ge_non {j pos} : GE K mg r X O E (.Constant .none j pos) (tC .non) (cE .non) := ge_c pe_non fun _ => .non
theorem ge_gint {x : Str} {i : Int} (hm : ∃ t, X.mg x = some (.int i t)) (hg : Gl X x := by rfl) (hd : (x == ("__debug__" : Str)) = false := by decide) : GE K mg r X O E (.Name x pos) (tC (.int i)) (cE (.int i)) := by
  obtain ⟨t, hm⟩ := hm
  exact ge_c (v := .int i) (pe_glob hg hm ⟨t, rfl⟩ hd) fun _ => .int i
def nilA : SE (List D) := fun _ tp => .ok [] tp
def consA (m : SE D) (ms : SE (List D)) : SE (List D) := fun env tp => (m env tp).bind fun d tp1 => (ms env tp1).bind fun ds tp2 => .ok (d :: ds) tp2
theorem ga_nil : GA K mg r X O E [] tNil nilA := ⟨pa_nil, fun Hs0 H0 Hs H σ env tp Q R P => P [] Hs H (Grow.refl _ _) R.wd .nil⟩
theorem gao_nil : GAO K mg r X O E [] tNil nilA := ⟨pa_nil, fun Hs0 H0 Hs H σ env tp Q R P => P [] Hs H (Grow.refl _ _) R.wd .nil⟩
theorem ga_cons {m : SE D} {ms : SE (List D)} (h : GE K mg r X O E e t m) (hs : GA K mg r X O E es ts ms) (hst : starEach (e :: es) X.env = (false, eval e X.env) :: starEach es X.env := by rfl) : GA K mg r X O E (e :: es) (tCons t ts) (consA m ms) := by
  obtain ⟨ht, h1⟩ := h
  obtain ⟨hts, h2⟩ := hs
  refine ⟨pa_cons ht hts hst, fun Hs0 H0 Hs H σ env tp Q R P => ?_⟩
  refine h1 _ _ _ _ _ _ _ _ R (Post.bind P fun v Hs1 H1 d tp1 _ g w rv P1 => ?_)
  refine h2 _ _ _ _ _ _ _ _ (R.grow g w) (Post.bind P1 fun vs Hs2 H2 ds tp2 _ g2 w2 rs P2 => ?_)
  exact P2 _ Hs2 H2 (Grow.refl _ _) w2 (.cons (rv.mono g2.ex) rs)
theorem gao_cons {m : SE D} {ms : SE (List D)} (h : GO K mg r X O E e t m) (hs : GAO K mg r X O E es ts ms) (hst : starEach (e :: es) X.env = (false, eval e X.env) :: starEach es X.env := by rfl) : GAO K mg r X O E (e :: es) (tCons t ts) (consA m ms) := by
  obtain ⟨ht, h1⟩ := h
  obtain ⟨hts, h2⟩ := hs
  refine ⟨pa_cons ht hts hst, fun Hs0 H0 Hs H σ env tp Q R P => ?_⟩
  refine h1 _ _ _ _ _ _ _ _ R (Post.bind P fun v Hs1 H1 d tp1 _ g w rv P1 => ?_)
  refine h2 _ _ _ _ _ _ _ _ (R.grow g w) (Post.bind P1 fun vs Hs2 H2 ds tp2 _ g2 w2 rs P2 => ?_)
  exact P2 _ Hs2 H2 (Grow.refl _ _) w2 (.cons (rv.grow g2) rs)
def Fresh (K : PySem.W.Frag) (mg : Str → Option Value) (r : Addr) (Hb : Hp) (Hs H : Hp) (v : V) (d : D) : Prop := ∃ p, v = .ref p ∧ Hb p = none ∧ Hs p = none ∧ p ≠ r ∧ OwnAt K mg r Hs H p d
structure GF (K : PySem.W.Frag) (mg : Str → Option Value) (r : Addr) (X : Cx) (O : List Nat) (E : XK) (e : Expr) (t : TE) (m : SE D) : Prop where
  pe : PE X e t
  snd : ∀ Hs0 H0 Hs H σ env tp Q, Rel K mg r O Hs0 H0 Hs H σ env tp → Post K mg r (Fresh K mg r H) E Hs H (m env tp) Q → t σ H Q
/-- it comes to stand still -/
theorem freeze_fresh {Hb Hs H : Hp} {tp : List D} {v : V} {d : D} (w : Wd K mg r Hs H tp) (h : Fresh K mg r Hb Hs H v d) : ∃ Hs', Same Hs Hs' ∧ Wd K mg r Hs' H tp ∧ RepD K mg r Hs' v d ∧ (∀ b o, Hs' b = some o → (∃ u, Hs b = some u) ∨ Hb b = none) := by
  obtain ⟨p, rfl, hb, hs, ne, oa⟩ := h
  obtain ⟨o, ho⟩ := oa.there
  have e : Same Hs (upd Hs p o) := same_new hs
  refine ⟨upd Hs p o, e, ⟨fun b u q => ?_, by rw [upd_ne ne.symm]; exact w.tn, ?_, fun b φ q => ?_⟩, oa.rep e (fun u q => ?_), fun b u q => ?_⟩
  · by_cases z : b = p
    · subst z; rw [upd_same] at q; exact .inl (ho.trans q)
    · rw [upd_ne z] at q; exact w.sub b u q
  · obtain ⟨vs, a, b⟩ := w.tH
    exact ⟨vs, a, b.mono e⟩
  · by_cases z : b = p
    · subst z; rw [upd_same] at q; exact oa.next φ (ho.trans q)
    · rw [upd_ne z] at q; exact w.nx b φ q
  · rw [ho] at q; cases q; exact upd_same
  · by_cases z : b = p
    · subst z; exact .inr hb
    · rw [upd_ne z] at q; exact .inl ⟨_, q⟩
theorem GF.ge {m : SE D} (h : GF K mg r X O E e t m) : GE K mg r X O E e t m := by
  obtain ⟨ht, hs⟩ := h
  refine ⟨ht, fun Hs0 H0 Hs H σ env tp Q R P => hs _ _ _ _ _ _ _ _ R ?_⟩
  unfold PostE at P
  cases q : m env tp with
  | ok d tp' =>
    rw [q] at P
    intro v Hs' H' g w x
    obtain ⟨Hs2, e, w2, rv, nw⟩ := freeze_fresh w x
    refine P v Hs2 H' ⟨g.keep, g.free, g.ex.trans e, fun b o n z => ?_, g.tup⟩ w2 rv
    rcases nw b o z with ⟨u, z⟩ | z
    · exact g.new b u n z
    · exact .inr (.inl z)
  | exn c fs tp' => rw [q] at P; exact P
  | stuck => rw [q] at P; exact P
def tupE (ms : SE (List D)) : SE D := fun env tp => (ms env tp).bind fun ds tp1 => if ds.length ≤ sizeLine then .ok (.tup ds) tp1 else .stuck
def lstE (ms : SE (List D)) : SE D := fun env tp => (ms env tp).bind fun ds tp1 => if ds.length ≤ sizeLine then .ok (.lst ds) tp1 else .stuck
theorem ge_tup {ms : SE (List D)} {x1} (hs : GA K mg r X O E es ts ms) : GE K mg r X O E (.Tuple es x1 pos) (tTup ts) (tupE ms) := by
  obtain ⟨hts, h2⟩ := hs
  refine ⟨pe_tup hts, fun Hs0 H0 Hs H σ env tp Q R P => ?_⟩
  refine h2 _ _ _ _ _ _ _ _ R (Post.bind P fun vs Hs1 H1 ds tp1 _ g w rs P1 => ?_)
  by_cases q : ds.length ≤ sizeLine
  · rw [if_pos q] at P1
    refine ⟨by rw [rs.length]; exact q, fun p hp => ?_⟩
    obtain ⟨g2, w2⟩ := w.alloc (o := .tup vs) hp
    exact P1 _ _ _ g2 w2 (.tup upd_same (rs.mono g2.ex))
  · rw [if_neg q] at P1; exact P1.elim
/-- what a new object at p gives to a wish of a fresh one -/
theorem fresh_new {Hs H Hs1 H1 : Hp} {p : Addr} {o : HO} {tp : List D} {d : D} (g : Grow r Hs H Hs1 H1) (w : Wd K mg r Hs1 H1 tp) (hp : H1 p = none) (ho : OwnAt K mg r Hs1 (upd H1 p o) p d) :
    Grow r Hs H Hs1 (upd H1 p o) ∧ Wd K mg r Hs1 (upd H1 p o) tp ∧ Fresh K mg r H Hs1 (upd H1 p o) (.ref p) d := by
  obtain ⟨g2, w2⟩ := w.lay (o := o) hp
  obtain ⟨f1, f2⟩ := w.fresh hp
  refine ⟨g.trans g2, w2, p, rfl, ?_, f1, f2, ho⟩
  exact g.free p hp
theorem gf_lst {ms : SE (List D)} (hs : GA K mg r X O E es ts ms) : GF K mg r X O E (.List es pos) (tLst ts) (lstE ms) := by
  obtain ⟨hts, h2⟩ := hs
  refine ⟨pe_lst hts, fun Hs0 H0 Hs H σ env tp Q R P => ?_⟩
  unfold lstE at P
  refine h2 _ _ _ _ _ _ _ _ R ?_
  cases q : ms env tp with
  | ok ds tp1 =>
    rw [q] at P
    intro vs Hs1 H1 g w rs
    by_cases q : ds.length ≤ sizeLine
    · simp only [RE.bind_ok, if_pos q] at P
      refine ⟨by rw [rs.length]; exact q, fun p hp => ?_⟩
      obtain ⟨a, b, c⟩ := fresh_new (o := .lst vs) (d := .lst ds) g w hp ⟨vs, upd_same, rs⟩
      exact P _ _ _ a b c
    · simp only [RE.bind_ok, if_neg q] at P; exact P.elim
  | exn c fs tp1 => rw [q] at P; exact P
  | stuck => rw [q] at P; exact P
def OpS (K : PySem.W.Frag) (mg : Str → Option Value) (r : Addr) (R : R2) (f : D → D → Option D) : Prop := ∀ Hs H tp x y d e z Q, Wd K mg r Hs H tp → RepT K mg r Hs H x d → RepT K mg r Hs H y e → f d e = some z →
  (∀ v Hs' H', Grow r Hs H Hs' H' → Wd K mg r Hs' H' tp → RepD K mg r Hs' v z → Q v H') → R x y H Q
def binE (f : D → D → Option D) (ma mb : SE D) : SE D := fun env tp => (ma env tp).bind fun d tp1 => (mb env tp1).bind fun e tp2 => RE.of (f d e) tp2
theorem bin_sound {R : R2} {f : D → D → Option D} {ma mb : SE D} {ta tb : TE} (hf : OpS K mg r R f) (h1 : ∀ Hs0 H0 Hs H σ env tp Q, Rel K mg r O Hs0 H0 Hs H σ env tp → PostO K mg r E Hs H (ma env tp) Q → ta σ H Q)
    (h2 : ∀ Hs0 H0 Hs H σ env tp Q, Rel K mg r O Hs0 H0 Hs H σ env tp → PostO K mg r E Hs H (mb env tp) Q → tb σ H Q) :
    ∀ Hs0 H0 Hs H σ env tp Q, Rel K mg r O Hs0 H0 Hs H σ env tp → PostE K mg r E Hs H (binE f ma mb env tp) Q → tOp R ta tb σ H Q := by
  intro Hs0 H0 Hs H σ env tp Q Rl P
  refine h1 _ _ _ _ _ _ _ _ Rl (Post.bind P fun v Hs1 H1 d tp1 _ g w rv P1 => ?_)
  refine h2 _ _ _ _ _ _ _ _ (Rl.grow g w) (Post.bind P1 fun u Hs2 H2 e tp2 _ g2 w2 ru P2 => ?_)
  obtain ⟨z, hz, k⟩ := Post.ok_of P2
  exact hf _ _ _ _ _ _ _ _ _ w2 (rv.grow g2) ru hz k
theorem ge_op {op : Operator} {R : R2} {f : D → D → Option D} {ma mb : SE D} (ho : OpR X (binaryOp op) R) (hf : OpS K mg r R f) (ha : GO K mg r X O E a ta ma) (hb : GO K mg r X O E b tb mb) : GE K mg r X O E (.BinOp a op b pos) (tOp R ta tb) (binE f ma mb) :=
  ⟨pe_op ho ha.pe hb.pe, bin_sound hf ha.snd hb.snd⟩
theorem ge_cmp {op : CmpOp} {R : R2} {f : D → D → Option D} {ma mb : SE D} (ho : OpR X (compareOp op) R) (hf : OpS K mg r R f) (ha : GO K mg r X O E a ta ma) (hb : GO K mg r X O E b tb mb) (hm : behindInMarks op b = false) : GE K mg r X O E (.Compare a [op] [b] pos) (tOp R ta tb) (binE f ma mb) :=
  ⟨pe_cmpR ho ha.pe hb.pe hm, bin_sound hf ha.snd hb.snd⟩
/-- two rules for one operator: f is told by the one or the other -/
theorem OpS.or {R R' : R2} {f f1 f2 : D → D → Option D} (h : OpS K mg r R f1) (h' : OpS K mg r R' f2) (hf : ∀ d e z, f d e = some z → f1 d e = some z ∨ f2 d e = some z) : OpS K mg r (fun x y H Q => R x y H Q ∨ R' x y H Q) f := by
  intro Hs H tp x y d e z Q w rx ry hz k
  rcases hf d e z hz with q | q
  · exact .inl (h Hs H tp x y d e z Q w rx ry q k)
  · exact .inr (h' Hs H tp x y d e z Q w rx ry q k)
def chainE (f g : D → D → Option D) (ma mb mc : SE D) : SE D := fun env tp => (ma env tp).bind fun d tp1 => (mb env tp1).bind fun e tp2 => match f d e with
  | some (.bl true) => (mc env tp2).bind fun c tp3 => RE.of (g e c) tp3
  | some (.bl false) => .ok (.bl false) tp2
  | _ => .stuck
theorem chain_sound {R R' : R2} {f g : D → D → Option D} {ma mb mc : SE D} (hf : OpS K mg r R f) (hg : OpS K mg r R' g) (ha : GO K mg r X O E a ta ma) (hb : GO K mg r X O E b tb mb) (hc : GO K mg r X O E c tc mc) :
    ∀ Hs0 H0 Hs H σ env tp Q, Rel K mg r O Hs0 H0 Hs H σ env tp → PostE K mg r E Hs H (chainE f g ma mb mc env tp) Q → tChain R R' ta tb tc σ H Q := by
  intro Hs0 H0 Hs H σ env tp Q Rl P
  refine ha.snd _ _ _ _ _ _ _ _ Rl (Post.bind P fun v Hs1 H1 d tp1 _ g1 w rv P1 => ?_)
  refine hb.snd _ _ _ _ _ _ _ _ (Rl.grow g1 w) (Post.bind P1 fun u Hs2 H2 e tp2 _ g2 w2 ru P2 => ?_)
  cases q : f d e with
  | none => rw [q] at P2; exact P2.elim
  | some z =>
    rw [q] at P2
    refine hf _ _ _ _ _ _ _ _ _ w2 (rv.grow g2) ru q fun y Hs3 H3 g3 w3 ry => ?_
    have P3 := Post.shift g3 P2
    cases z with
    | bl k =>
      cases ry
      refine ⟨k, rfl, ?_⟩
      cases k with
      | false => exact iteF (P3 _ Hs3 H3 (Grow.refl _ _) w3 (.bl _))
      | true =>
        refine iteT (hc.snd _ _ _ _ _ _ _ _ (Rl.grow ((g1.trans g2).trans g3) w3) (Post.bind P3 fun x Hs4 H4 c tp4 _ g4 w4 rx P4 => ?_))
        obtain ⟨z, hz, k⟩ := Post.ok_of P4
        exact hg _ _ _ _ _ _ _ _ _ w4 ((ru.grow g3).grow g4) rx hz k
    | _ => exact P3.elim
theorem ge_chain {op op' : CmpOp} {R R' : R2} {f g : D → D → Option D} {ma mb mc : SE D} (ho : OpR X (compareOp op) R) (ho' : OpR X (compareOp op') R') (hf : OpS K mg r R f) (hg : OpS K mg r R' g) (ha : GO K mg r X O E a ta ma) (hb : GO K mg r X O E b tb mb) (hc : GO K mg r X O E c tc mc)
    (hm : lastMarks [op, op'] [b, c] = false := by with_unfolding_all rfl) : GE K mg r X O E (.Compare a [op, op'] [b, c] pos) (tChain R R' ta tb tc) (chainE f g ma mb mc) :=
  ⟨pe_chain ho ho' ha.pe hb.pe hc.pe hm, chain_sound hf hg ha hb hc⟩
theorem ge_ix {R : R2} {f : D → D → Option D} {ma mb : SE D} (ho : IxR X R) (hf : OpS K mg r R f) (ha : GO K mg r X O E a ta ma) (hb : GO K mg r X O E b tb mb) (hs : PlainIx b := by exact fun _ _ => rfl) : GE K mg r X O E (.Subscript a b pos) (tOp R ta tb) (binE f ma mb) :=
  ⟨pe_ix ho ha.pe hb.pe hs, bin_sound hf ha.snd hb.snd⟩
def UnS (K : PySem.W.Frag) (mg : Str → Option Value) (r : Addr) (R : V → Hp → VK → Prop) (f : D → Option D) : Prop := ∀ Hs H tp x d z Q, Wd K mg r Hs H tp → RepT K mg r Hs H x d → f d = some z →
  (∀ v Hs' H', Grow r Hs H Hs' H' → Wd K mg r Hs' H' tp → RepD K mg r Hs' v z → Q v H') → R x H Q
def unE (f : D → Option D) (ma : SE D) : SE D := fun env tp => (ma env tp).bind fun d tp1 => RE.of (f d) tp1
theorem ge_un {op : UnaryOp} {R : V → Hp → VK → Prop} {f : D → Option D} {ma : SE D} (ho : UnR X (unaryOp op) R) (hf : UnS K mg r R f) (ha : GO K mg r X O E a ta ma) : GE K mg r X O E (.UnaryOp op a pos) (tUn R ta) (unE f ma) := by
  refine ⟨pe_un ho ha.pe, fun Hs0 H0 Hs H σ env tp Q Rl P => ?_⟩
  refine ha.snd _ _ _ _ _ _ _ _ Rl (Post.bind P fun v Hs1 H1 d tp1 _ g w rv P1 => ?_)
  obtain ⟨z, hz, k⟩ := Post.ok_of P1
  exact hf _ _ _ _ _ _ _ w rv hz k
def CallS (K : PySem.W.Frag) (mg : Str → Option Value) (r : Addr) (R : List V → Hp → VK → Prop) (f : List D → Option D) : Prop := ∀ Hs H tp xs ds z Q, Wd K mg r Hs H tp → Paired (RepT K mg r Hs H) xs ds → f ds = some z →
  (∀ v Hs' H', Grow r Hs H Hs' H' → Wd K mg r Hs' H' tp → RepD K mg r Hs' v z → Q v H') → R xs H Q
def callB (f : List D → Option D) (ms : SE (List D)) : SE D := fun env tp => (ms env tp).bind fun ds tp1 => RE.of (f ds) tp1
theorem callB_sound {R : List V → Hp → VK → Prop} {f : List D → Option D} {ms : SE (List D)} (hf : CallS K mg r R f) (h2 : ∀ Hs0 H0 Hs H σ env tp Q, Rel K mg r O Hs0 H0 Hs H σ env tp → PostAO K mg r E Hs H (ms env tp) Q → ts σ H Q) :
    ∀ Hs0 H0 Hs H σ env tp Q, Rel K mg r O Hs0 H0 Hs H σ env tp → PostE K mg r E Hs H (callB f ms env tp) Q → tCB R ts σ H Q := by
  intro Hs0 H0 Hs H σ env tp Q Rl P
  refine h2 _ _ _ _ _ _ _ _ Rl (Post.bind P fun v Hs1 H1 d tp1 _ g w rv P1 => ?_)
  obtain ⟨z, hz, k⟩ := Post.ok_of P1
  exact hf _ _ _ _ _ _ _ w rv hz k
theorem ge_callB {x : Str} {id : String} {p : Pos} {R : List V → Hp → VK → Prop} {f : List D → Option D} {ms : SE (List D)} (hc : CallR X (.builtin id) R) (hf : CallS K mg r R f) (hm : X.mg x = none) (ha : GAO K mg r X O E (e :: es) ts ms) (hg : Gl X x := by rfl)
    (hv : bootBuiltins x = some (.builtin id) := by decide +kernel) (hn : x ≠ "__name__" := by decide) (hdb : (x == ("__debug__" : Str)) = false := by decide)
    (he : starEach (e :: es) X.env = (false, eval e X.env) :: starEach es X.env := by rfl) (hpl : (backTo pos (starEach es X.env)).any (·.1) = false := by rfl) : GE K mg r X O E (.Call (.Name x p) (e :: es) [] pos) (tCB R ts) (callB f ms) :=
  ⟨pe_callB hc hg hm hv ha.pe hn hdb he hpl, callB_sound hf ha.snd⟩
theorem ge_callTy {x : Str} {T : String} {p : Pos} {R : List V → Hp → VK → Prop} {f : List D → Option D} {ms : SE (List D)} (hc : CallR X (.type T) R) (hf : CallS K mg r R f) (hm : X.mg x = none) (ha : GAO K mg r X O E (e :: es) ts ms) (hg : Gl X x := by rfl)
    (hv : bootBuiltins x = some (.type T) := by decide +kernel) (hn : x ≠ "__name__" := by decide) (hdb : (x == ("__debug__" : Str)) = false := by decide)
    (he : starEach (e :: es) X.env = (false, eval e X.env) :: starEach es X.env := by rfl) (hpl : (backTo pos (starEach es X.env)).any (·.1) = false := by rfl) : GE K mg r X O E (.Call (.Name x p) (e :: es) [] pos) (tCB R ts) (callB f ms) :=
  ⟨pe_callTy hc hg hm hv ha.pe hn hdb he hpl, callB_sound hf ha.snd⟩
theorem CallS.or {R R' : List V → Hp → VK → Prop} {f f1 f2 : List D → Option D} (h : CallS K mg r R f1) (h' : CallS K mg r R' f2) (hf : ∀ d z, f d = some z → f1 d = some z ∨ f2 d = some z) : CallS K mg r (fun x H Q => R x H Q ∨ R' x H Q) f := by
  intro Hs H tp xs ds z Q w rx hz k
  rcases hf ds z hz with q | q
  · exact .inl (h Hs H tp xs ds z Q w rx q k)
  · exact .inr (h' Hs H tp xs ds z Q w rx q k)
def isB : D → Option Bool
  | .bl b => some b
  | _ => none
def boolE (m : SE D) : SE Bool := fun env tp => (m env tp).bind fun d tp1 => RE.of (isB d) tp1
theorem repT_bl {Hs H : Hp} {v : V} {b : Bool} (h : RepT K mg r Hs H v (.bl b)) : v = .bl b := by
  rcases h with h | ⟨p, _, _, h⟩
  · cases h; rfl
  · exact h.elim
theorem repT_int {Hs H : Hp} {v : V} {b : Int} (h : RepT K mg r Hs H v (.int b)) : v = .int b := by
  rcases h with h | ⟨p, _, _, h⟩
  · cases h; rfl
  · exact h.elim
theorem repT_str {Hs H : Hp} {v : V} {b : Str} (h : RepT K mg r Hs H v (.str b)) : v = .str b := by
  rcases h with h | ⟨p, _, _, h⟩
  · cases h; rfl
  · exact h.elim
theorem repT_non {Hs H : Hp} {v : V} (h : RepT K mg r Hs H v .non) : v = .non := by
  rcases h with h | ⟨p, _, _, h⟩
  · cases h; rfl
  · exact h.elim
theorem repT_lst {Hs H : Hp} {tp : List D} {v : V} {ds : List D} (w : Wd K mg r Hs H tp) (h : RepT K mg r Hs H v (.lst ds)) : ∃ p vs, v = .ref p ∧ H p = some (.lst vs) ∧ RepDs K mg r Hs vs ds := by
  rcases h with h | ⟨p, e, _, vs, a, b⟩
  · cases h with
    | lst a b => exact ⟨_, _, rfl, (w.sub _ _ a).lst, b⟩
  · exact ⟨p, vs, e, a, b⟩
theorem repT_tup {Hs H : Hp} {tp : List D} {v : V} {ds : List D} (w : Wd K mg r Hs H tp) (h : RepT K mg r Hs H v (.tup ds)) : ∃ p vs, v = .ref p ∧ Hs p = some (.tup vs) ∧ H p = some (.tup vs) ∧ RepDs K mg r Hs vs ds := by
  rcases h with h | ⟨p, e, _, a⟩
  · cases h with
    | tup a b => exact ⟨_, _, rfl, a, (w.sub _ _ a).tup, b⟩
  · exact a.elim
theorem repT_scr {Hs H : Hp} {tp : List D} {v : V} {ns : List Int} (w : Wd K mg r Hs H tp) (h : RepT K mg r Hs H v (.scr ns)) : ∃ p, v = .ref p ∧ SqL K H p (ns.map V.int) := by
  rcases h with h | ⟨p, e, _, a⟩
  · cases h with
    | scr a => exact ⟨_, rfl, Same.seq w.sub a⟩
  · exact a.elim
theorem repT_tape {Hs H : Hp} {v : V} (h : RepT K mg r Hs H v .tape) : v = .ref r := by
  rcases h with h | ⟨p, e, _, a⟩
  · cases h; rfl
  · exact a.elim
theorem boolE_sound {t : TE} {m : SE D} (h1 : ∀ Hs0 H0 Hs H σ env tp Q, Rel K mg r O Hs0 H0 Hs H σ env tp → PostE K mg r E Hs H (m env tp) Q → t σ H Q) :
    ∀ Hs0 H0 Hs H σ env tp Q, Rel K mg r O Hs0 H0 Hs H σ env tp → PostB K mg r E Hs H (boolE m env tp) Q → t σ H (fun x H1 => ∃ c, x = .bl c ∧ Q c H1) := by
  intro Hs0 H0 Hs H σ env tp Q Rl P
  refine h1 _ _ _ _ _ _ _ _ Rl (Post.bind P fun v Hs1 H1 d tp1 _ g w rv P1 => ?_)
  obtain ⟨z, hz, k⟩ := Post.ok_of P1
  cases d with
  | bl b =>
    cases hz; cases rv
    exact ⟨_, rfl, k _ Hs1 H1 (Grow.refl _ _) w rfl⟩
  | _ => cases hz
theorem gt_val {m : SE D} (h : GE K mg r X O E e t m) (he : ∀ whole, isTrue e X.env whole = (do let v ← whole; standAt e.pos; holding [v] (truthy v)) := by intro _; rfl) : GT K mg r X O E e (tB t) (boolE m) :=
  ⟨pt_val h.pe he, boolE_sound h.snd⟩
theorem gt_cmp {op : CmpOp} {R : R2} {f : D → D → Option D} {ma mb : SE D} (ho : OpR X (compareOp op) R) (hf : OpS K mg r R f) (ha : GO K mg r X O E a ta ma) (hb : GO K mg r X O E b tb mb) (hm : behindInMarks op b = false) : GT K mg r X O E (.Compare a [op] [b] pos) (tTest (tOp R ta tb)) (boolE (binE f ma mb)) :=
  ⟨pt_cmpR ho ha.pe hb.pe hm, boolE_sound (bin_sound hf ha.snd hb.snd)⟩
def notT (m : SE Bool) : SE Bool := fun env tp => (m env tp).bind fun b tp1 => .ok (!b) tp1
def andT (m n : SE Bool) : SE Bool := fun env tp => (m env tp).bind fun b tp1 => if b = true then n env tp1 else .ok false tp1
def orT (m n : SE Bool) : SE Bool := fun env tp => (m env tp).bind fun b tp1 => if b = true then .ok true tp1 else n env tp1
theorem gt_not {m : SE Bool} (h : GT K mg r X O E e tt m) : GT K mg r X O E (.UnaryOp .Not e pos) (tNot tt) (notT m) := by
  refine ⟨pt_not h.pe, fun Hs0 H0 Hs H σ env tp Q Rl P => ?_⟩
  refine h.snd _ _ _ _ _ _ _ _ Rl (Post.bind P fun v Hs1 H1 d tp1 _ g w rv P1 => ?_)
  exact P1 _ Hs1 H1 (Grow.refl _ _) w (by rw [rv])
theorem GW.gt {m : SE Bool} (h : GW K mg r X O E e tt m) : GT K mg r X O E e tt m := ⟨h.pe.pt, h.snd⟩
theorem gw_and1 {m : SE Bool} (h : GT K mg r X O E e tt m) : GW K mg r X O E (.BoolOp .And [e] pos) tt m := ⟨pw_and1 h.pe, h.snd⟩
theorem gw_or1 {m : SE Bool} (h : GT K mg r X O E e tt m) : GW K mg r X O E (.BoolOp .Or [e] pos) tt m := ⟨pw_or1 h.pe, h.snd⟩
theorem gw_and {m n : SE Bool} (h : GT K mg r X O E e tt m) (hb : GW K mg r X O E (.BoolOp .And (b :: es) pos) tu n) : GW K mg r X O E (.BoolOp .And (e :: b :: es) pos) (tAnd tt tu) (andT m n) := by
  refine ⟨pw_and h.pe hb.pe, fun Hs0 H0 Hs H σ env tp Q Rl P => ?_⟩
  refine h.snd _ _ _ _ _ _ _ _ Rl (Post.bind P fun v Hs1 H1 d tp1 _ g w rv P1 => ?_)
  subst rv
  cases v with
  | true => exact iteT (hb.snd _ _ _ _ _ _ _ _ (Rl.grow g w) P1)
  | false => exact iteF (P1 _ Hs1 H1 (Grow.refl _ _) w rfl)
theorem gw_or {m n : SE Bool} (h : GT K mg r X O E e tt m) (hb : GW K mg r X O E (.BoolOp .Or (b :: es) pos) tu n) : GW K mg r X O E (.BoolOp .Or (e :: b :: es) pos) (tOr tt tu) (orT m n) := by
  refine ⟨pw_or h.pe hb.pe, fun Hs0 H0 Hs H σ env tp Q Rl P => ?_⟩
  refine h.snd _ _ _ _ _ _ _ _ Rl (Post.bind P fun v Hs1 H1 d tp1 _ g w rv P1 => ?_)
  subst rv
  cases v with
  | false => exact iteF (hb.snd _ _ _ _ _ _ _ _ (Rl.grow g w) P1)
  | true => exact iteT (P1 _ Hs1 H1 (Grow.refl _ _) w rfl)
def notE (m : SE D) : SE D := fun env tp => (m env tp).bind fun d tp1 => RE.of ((isB d).map fun b => .bl (!b)) tp1
def andE (m n : SE D) : SE D := fun env tp => (m env tp).bind fun d tp1 => match d with
  | .bl true => n env tp1
  | .bl false => .ok (.bl false) tp1
  | _ => .stuck
def orE (m n : SE D) : SE D := fun env tp => (m env tp).bind fun d tp1 => match d with
  | .bl false => n env tp1
  | .bl true => .ok (.bl true) tp1
  | _ => .stuck
theorem ge_one {op} {m : SE D} (h : GE K mg r X O E e t m) : GE K mg r X O E (.BoolOp op [e] pos) t m := ⟨pe_one h.pe, h.snd⟩
theorem ge_not {m : SE D} (h : GE K mg r X O E e t m) : GE K mg r X O E (.UnaryOp .Not e pos) (tNotV t) (notE m) := by
  refine ⟨pe_not h.pe, fun Hs0 H0 Hs H σ env tp Q Rl P => ?_⟩
  refine h.snd _ _ _ _ _ _ _ _ Rl (Post.bind P fun v Hs1 H1 d tp1 _ g w rv P1 => ?_)
  obtain ⟨z, hz, k⟩ := Post.ok_of P1
  cases d with
  | bl b =>
    cases hz; cases rv
    exact ⟨_, rfl, k _ Hs1 H1 (Grow.refl _ _) w (.bl _)⟩
  | _ => cases hz
theorem ge_and {m n : SE D} (h : GE K mg r X O E e ta m) (hb : GE K mg r X O E (.BoolOp .And (b :: es) pos) tb n) : GE K mg r X O E (.BoolOp .And (e :: b :: es) pos) (tAndV ta tb) (andE m n) := by
  refine ⟨pe_and h.pe hb.pe, fun Hs0 H0 Hs H σ env tp Q Rl P => ?_⟩
  refine h.snd _ _ _ _ _ _ _ _ Rl (Post.bind P fun v Hs1 H1 d tp1 _ g w rv P1 => ?_)
  cases d with
  | bl c =>
    cases rv
    refine ⟨c, rfl, ?_⟩
    cases c with
    | true => exact iteT (hb.snd _ _ _ _ _ _ _ _ (Rl.grow g w) P1)
    | false => exact iteF (P1 _ Hs1 H1 (Grow.refl _ _) w (.bl _))
  | _ => exact P1.elim
def ifE (c : SE Bool) (m n : SE D) : SE D := fun env tp => (c env tp).bind fun b tp1 => if b = true then m env tp1 else n env tp1
theorem ge_ifExp {mc : SE Bool} {m n : SE D} (hc : GT K mg r X O E c tt mc) (ha : GE K mg r X O E a ta m) (hb : GE K mg r X O E b tb n) : GE K mg r X O E (.IfExp c a b pos) (tIf tt ta tb) (ifE mc m n) := by
  refine ⟨pe_ifExp hc.pe ha.pe hb.pe, fun Hs0 H0 Hs H σ env tp Q Rl P => ?_⟩
  refine hc.snd _ _ _ _ _ _ _ _ Rl (Post.bind P fun v Hs1 H1 d tp1 _ g w rv P1 => ?_)
  subst rv
  cases v with
  | true => exact iteT (ha.snd _ _ _ _ _ _ _ _ (Rl.grow g w) P1)
  | false => exact iteF (hb.snd _ _ _ _ _ _ _ _ (Rl.grow g w) P1)
end
end G
set_option maxHeartbeats 1000000
namespace G
open PySem PySem.Spec PyProof.Rows L2
variable [_root_.G.Wo]
section
variable {r : Addr} {X : Cx} {K : PySem.W.Frag} {mg : Str → Option Value} {Hs H : Hp} {tp : List D}
def addD : D → D → Option D
  | .int i, .int j => some (.int (i + j))
  | .str a, .str b => if a.length + b.length ≤ sizeLine then some (.str (a ++ b)) else none
  | .tup a, .tup b => if a.length + b.length ≤ sizeLine then some (.tup (a ++ b)) else none
  | .lst a, .lst b => if a.length + b.length ≤ sizeLine then some (.lst (a ++ b)) else none
  | _, _ => none
abbrev rAddD (K : PySem.W.Frag) : R2 := fun x y H Q => (∃ i j, x = .int i ∧ y = .int j ∧ Q (.int (i + j)) H) ∨ (∃ i j, x = .str i ∧ y = .str j ∧ i.length + j.length ≤ sizeLine ∧ Q (.str (i ++ j)) H) ∨ rCatA K x y H Q ∨ rCat x y H Q
theorem opr_add : OpR X (binaryOp .Add) (rAddD X.K) := op_add.or (op_add_str.or (op_catA.or op_cat))
theorem ops_add : OpS K mg r (rAddD K) addD := by
  intro Hs H tp x y d e z Q w rx ry hz k
  unfold addD at hz
  split at hz
  · cases hz
    exact .inl ⟨_, _, repT_int rx, repT_int ry, k _ _ _ (Grow.refl _ _) w (.int _)⟩
  · split at hz
    · rename_i c
      cases hz
      exact .inr (.inl ⟨_, _, repT_str rx, repT_str ry, c, k _ _ _ (Grow.refl _ _) w (.str _)⟩)
    · cases hz
  · split at hz
    · rename_i c
      cases hz
      obtain ⟨p, vs, rfl, h1, h1', h2⟩ := repT_tup w rx
      obtain ⟨q, us, rfl, g1, g1', g2⟩ := repT_tup w ry
      refine .inr (.inr (.inl ⟨p, q, vs, us, rfl, rfl, .of h1', .of g1', by rw [h2.length, g2.length]; exact c, fun e => ?_, fun _ e => ?_, fun _ _ a ha => ?_⟩))
      · subst e; cases h2
        exact k _ _ _ (Grow.refl _ _) w (.tup g1 g2)
      · subst e; cases g2
        rw [List.append_nil] at k
        exact k _ _ _ (Grow.refl _ _) w (.tup h1 h2)
      · obtain ⟨g, w'⟩ := w.alloc (o := .tup (vs ++ us)) ha
        exact k _ _ _ g w' (.tup upd_same ((h2.append g2).mono g.ex))
    · cases hz
  · split at hz
    · rename_i c
      cases hz
      obtain ⟨p, vs, rfl, h1, h2⟩ := repT_lst w rx
      obtain ⟨q, us, rfl, g1, g2⟩ := repT_lst w ry
      refine .inr (.inr (.inr ⟨p, q, vs, us, rfl, rfl, h1, g1, by rw [h2.length, g2.length]; exact c, fun a ha => ?_⟩))
      obtain ⟨g, w'⟩ := w.alloc (o := .lst (vs ++ us)) ha
      exact k _ _ _ g w' (.lst upd_same ((h2.append g2).mono g.ex))
    · cases hz
  · cases hz
def subD : D → D → Option D
  | .int i, .int j => some (.int (i - j))
  | _, _ => none
theorem ops_sub : OpS K mg r (rI0 fun i j => .int (i - j)) subD := by
  intro Hs H tp x y d e z Q w rx ry hz k
  unfold subD at hz
  split at hz
  · cases hz
    exact ⟨_, _, repT_int rx, repT_int ry, k _ _ _ (Grow.refl _ _) w (.int _)⟩
  · cases hz
def cDiv (j : Int) : Bool := decide (0 < j) && decide (j.natAbs.log2 < 9000)
def fdivD : D → D → Option D
  | .int i, .int j => if cDiv j then some (.int (i / j)) else none
  | _, _ => none
theorem ops_fdiv : OpS K mg r (rI CDivW fun i j => .int (i / j)) fdivD := by
  intro Hs H tp x y d e z Q w rx ry hz k
  unfold fdivD at hz
  split at hz
  · split at hz
    · rename_i c
      cases hz
      have c := Bool.and_eq_true_iff.mp c
      exact ⟨_, _, repT_int rx, repT_int ry, ⟨of_decide_eq_true c.1, of_decide_eq_true c.2⟩, k _ _ _ (Grow.refl _ _) w (.int _)⟩
    · cases hz
  · cases hz
def modD : D → D → Option D
  | .int i, .int j => if 0 < j then some (.int (i % j)) else none
  | _, _ => none
theorem ops_mod : OpS K mg r (rI (fun _ j => 0 < j) fun i j => .int (i % j)) modD := by
  intro Hs H tp x y d e z Q w rx ry hz k
  unfold modD at hz
  split at hz
  · split at hz
    · rename_i c
      cases hz
      exact ⟨_, _, repT_int rx, repT_int ry, c, k _ _ _ (Grow.refl _ _) w (.int _)⟩
    · cases hz
  · cases hz
def cPow (i j : Int) : Bool := decide (0 ≤ j) && (decide (j ≤ 1000000) && decide (i.natAbs < 2 ^ 64))
theorem cPow_ok {i j : Int} (h : cPow i j = true) : CPow i j := by
  have h := Bool.and_eq_true_iff.mp h
  have h2 := Bool.and_eq_true_iff.mp h.2
  exact ⟨of_decide_eq_true h.1, of_decide_eq_true h2.1, of_decide_eq_true h2.2⟩
def powD : D → D → Option D
  | .int i, .int j => if cPow i j then some (.int (i ^ j.toNat)) else none
  | _, _ => none
theorem ops_pow : OpS K mg r (rI CPow fun i j => .int (i ^ j.toNat)) powD := by
  intro Hs H tp x y d e z Q w rx ry hz k
  unfold powD at hz
  split at hz
  · split at hz
    · rename_i c
      cases hz
      exact ⟨_, _, repT_int rx, repT_int ry, cPow_ok c, k _ _ _ (Grow.refl _ _) w (.int _)⟩
    · cases hz
  · cases hz
def negD : D → Option D
  | .int i => some (.int (-i))
  | _ => none
theorem uns_neg : UnS K mg r (rU fun i => .int (-i)) negD := by
  intro Hs H tp x d z Q w rx hz k
  unfold negD at hz
  split at hz
  · cases hz
    exact ⟨_, repT_int rx, k _ _ _ (Grow.refl _ _) w (.int _)⟩
  · cases hz
theorem mulOk_small {x : Str} {n : Int} (h0 : 0 ≤ n) (h : (x.length : Int) * n ≤ 16777216) (h1 : n ≤ 16777216) : MulOk x n := by
  have hm : x.length * n.toNat ≤ 16777216 := by
    obtain ⟨k, rfl⟩ := Int.eq_ofNat_of_zero_le h0
    have : ((x.length * k : Nat) : Int) ≤ 16777216 := by rw [Int.natCast_mul]; exact h
    rw [Int.toNat_natCast]; omega
  refine ⟨by simp only [Bool.or_eq_false_iff, decide_eq_false_iff_not]; omega, fun a b => ?_, fun a b => ?_⟩
  · have h2 : (x.length : Int) ≤ (2 ^ 63 - 1) / n := (Int.le_ediv_iff_mul_le (by omega)).mpr (by omega)
    omega
  · unfold Builtin.Str.tooLong; simp only [decide_eq_false_iff_not]; rw [sizeLine_eq]; omega
theorem op_mul_str : OpR X (binaryOp .Mult) (fun x y H Q => ∃ (a : Str) (n : Int), x = .str a ∧ y = .int n ∧ 0 ≤ n ∧ (a.length : Int) * n ≤ 16777216 ∧ n ≤ 16777216 ∧ Q (.str (Txt.mul a n)) H) := by
  intro pins s σ H x y v u Q I rx ry h
  obtain ⟨a, n, rfl, rfl, h0, h1, h2, q⟩ := h
  obtain ⟨t, rfl⟩ := rx
  obtain ⟨t', rfl⟩ := ry
  exact SB.mul (mulOk_small h0 h1 h2) fun t2 k => ⟨.str _, H, I.tok _, ⟨_, rfl⟩, q⟩
def cMul (i j : Int) : Bool := decide (i.natAbs.log2 + j.natAbs.log2 < 1000000)
def cRep (n : Nat) (k : Int) : Bool := decide (0 ≤ k) && (decide ((n : Int) * k ≤ 16777216) && decide (k ≤ 16777216))
theorem cRep_ok {n : Nat} {k : Int} (h : cRep n k = true) : 0 ≤ k ∧ (n : Int) * k ≤ 16777216 ∧ k ≤ 16777216 := by
  have h := Bool.and_eq_true_iff.mp h
  have h2 := Bool.and_eq_true_iff.mp h.2
  exact ⟨of_decide_eq_true h.1, of_decide_eq_true h2.1, of_decide_eq_true h2.2⟩
theorem tuple_mul1 (l : Addr) (items : Array Value) (n : Nat) (dd : Option Addr) (sl : Array (Option Value)) (u : Tok) :
    Meets (Builtin.«tuple.__mul__» ⟨[.ref l, .int 1 u], []⟩) (fun _ R s => s.heap.get? l = some { cls := .type "tuple", dict := dd, data := .seq items n, slots := sl } ∧
      R (.ok (.ret (Value.ref l))) s) :=
  .of_wp fun prog w A R s h => by
    obtain ⟨hp, g, d, tk, os⟩ := s
    obtain ⟨hl, h⟩ := h
    have f1 := AutoSeq1.idx_int
    have c1 : (items.isEmpty || (1 : Int) == 1) = true := by simp
    have c0 : (decide ((1 : Int) < -(2 ^ 63)) || decide ((1 : Int) ≥ 2 ^ 63)) = false := by decide
    wp_walk using wpAny_loadPart' hl
    exact ⟨_, rfl, h⟩
def rRepT1 (K : PySem.W.Frag) : R2 := fun x y H Q => ∃ l xs, x = .ref l ∧ y = .int 1 ∧ SqT K H l xs ∧ Q (.ref l) H
theorem op_repT1 {X : Cx} : OpR X (binaryOp .Mult) (rRepT1 X.K) := by
  intro pins s σ H x y v u Q I rx ry h
  obtain ⟨l, xs, rfl, rfl, hT, q⟩ := h
  cases rx
  obtain ⟨t, rfl⟩ := ry
  obtain ⟨its, r, ⟨⟨cls, dd, data, sl⟩, ho, hc, n, hd⟩, hs⟩ := I.tuple hT
  simp only at hc hd
  subst hc hd
  refine wpAny_binaryOp_repeat_ref (T := "tuple") (U := "int") (by decide) ⟨_, ho, rfl⟩ (fun s' => typeIs_int s' 1 t) noFill_tuple_mul F.fills_int_mul F.slot_int_rmul repeat_tuple F.slot_int_index.lookup
    (call_meets F.slot_int_rmul (typeIs_int s 1 t) F.entry_int_rmul (F.args_int_rmul_2 _ _) (int_rmul_tuple 1 t l its.toArray n dd sl)
      ⟨ho, rfl, ⟨_, ho, rfl⟩, call_meets F.slot_tuple_mul ⟨_, ho, rfl⟩ F.entry_tuple_mul (F.args_tuple_mul_2 _ _) (tuple_mul1 l its.toArray n dd sl t) ⟨ho, ?_⟩⟩)
  exact ⟨.ref l, H, I, rfl, q⟩
theorem tuple_mul0 (l : Addr) (items : Array Value) (n : Nat) (dd : Option Addr) (sl : Array (Option Value)) (u : Tok) (c1 : (items.isEmpty || (0 : Int) == 1) = false) :
    Meets (Builtin.«tuple.__mul__» ⟨[.ref l, .int 0 u], []⟩) (fun _ R s => s.heap.get? l = some { cls := .type "tuple", dict := dd, data := .seq items n, slots := sl } ∧
      R (.ok (.ret (Value.ref s.heap.objs.size))) { s with heap := s.heap.push { cls := Value.type "tuple", data := Data.seq #[] }, toks := s.toks }) :=
  .of_wp fun prog w A R s h => by
    obtain ⟨hp, g, d, tk, os⟩ := s
    obtain ⟨hl, h⟩ := h
    have f1 := AutoSeq1.idx_int
    have c0 : (decide ((0 : Int) < -(2 ^ 63)) || decide ((0 : Int) ≥ 2 ^ 63)) = false := by decide
    have c2 : (decide ((0 : Int) ≤ 0) || items.isEmpty) = true := by simp
    wp_walk using wpAny_loadPart' hl
    repeat (first
      | (refine wpAny_ite_false (decide_eq_false (by rw [c0]; exact Bool.false_ne_true)) ?_; wp_walk using wpAny_loadPart' hl)
      | (refine wpAny_ite_false (decide_eq_false (by rw [c1]; exact Bool.false_ne_true)) ?_; wp_walk using wpAny_loadPart' hl)
      | (refine wpAny_ite_true (decide_eq_true c2) ?_; wp_walk using wpAny_loadPart' hl))
    exact ⟨_, rfl, h⟩
def rRepT0 (K : PySem.W.Frag) : R2 := fun x y H Q => ∃ l xs, x = .ref l ∧ y = .int 0 ∧ SqT K H l xs ∧ xs ≠ [] ∧ ∀ p, H p = none → Q (.ref p) (upd H p (.tup []))
theorem op_repT0 {X : Cx} : OpR X (binaryOp .Mult) (rRepT0 X.K) := by
  intro pins s σ H x y v u Q I rx ry h
  obtain ⟨l, xs, rfl, rfl, hT, hne, q⟩ := h
  cases rx
  obtain ⟨t, rfl⟩ := ry
  obtain ⟨its, r, ⟨⟨cls, dd, data, sl⟩, ho, hc, n, hd⟩, hs⟩ := I.tuple hT
  simp only at hc hd
  subst hc hd
  have hi : its.toArray.isEmpty = false := by
    cases its with
    | nil => exact absurd (List.eq_nil_of_length_eq_zero r.length) hne
    | cons a b => rfl
  have c1 : (its.toArray.isEmpty || (0 : Int) == 1) = false := by rw [hi]; rfl
  refine wpAny_binaryOp_repeat_ref (T := "tuple") (U := "int") (by decide) ⟨_, ho, rfl⟩ (fun s' => typeIs_int s' 0 t) noFill_tuple_mul F.fills_int_mul F.slot_int_rmul repeat_tuple F.slot_int_index.lookup
    (call_meets F.slot_int_rmul (typeIs_int s 0 t) F.entry_int_rmul (F.args_int_rmul_2 _ _) (int_rmul_tuple 0 t l its.toArray n dd sl)
      ⟨ho, rfl, ⟨_, ho, rfl⟩, call_meets F.slot_tuple_mul ⟨_, ho, rfl⟩ F.entry_tuple_mul (F.args_tuple_mul_2 _ _) (tuple_mul0 l its.toArray n dd sl t c1) ⟨ho, ?_⟩⟩)
  refine ⟨.ref s.heap.objs.size, _, I.laid (t' := s.toks) (o := .tup []) (fun b ob q => Heap.get?_push_of_some _ q) (Nat.le_refl _) ?_, rfl, q _ (I.hok.fresh (Nat.le_refl _))⟩
  exact ⟨Nat.zero_le _, [], .nil, IsTup.new _ _⟩
def cRepT (n : Nat) (k : Int) : Bool := decide (0 < n) && (decide (n ≤ 1000) && (decide (0 ≤ k) && decide (k ≤ 1000)))
theorem cRepT_ok {n : Nat} {k : Int} (h : cRepT n k = true) : 0 < n ∧ n ≤ 1000 ∧ 0 ≤ k ∧ k ≤ 1000 := by
  have h := Bool.and_eq_true_iff.mp h
  have h2 := Bool.and_eq_true_iff.mp h.2
  have h3 := Bool.and_eq_true_iff.mp h2.2
  exact ⟨of_decide_eq_true h.1, of_decide_eq_true h2.1, of_decide_eq_true h3.1, of_decide_eq_true h3.2⟩
def mulD : D → D → Option D
  | .int i, .int j => if cMul i j then some (.int (i * j)) else none
  | .str a, .int n => if cRep a.length n then some (.str (Txt.mul a n)) else none
  | .lst a, .int n => if cRep a.length n then some (.lst (List.replicate n.toNat a).flatten) else none
  | .tup a, .int n => if cRepT a.length n then some (.tup (List.replicate n.toNat a).flatten) else none
  | _, _ => none
abbrev rMulD (K : PySem.W.Frag) : R2 := fun x y H Q => (∃ i j, x = .int i ∧ y = .int j ∧ CMulW i j ∧ Q (.int (i * j)) H) ∨ (∃ (a : Str) (n : Int), x = .str a ∧ y = .int n ∧ 0 ≤ n ∧ (a.length : Int) * n ≤ 16777216 ∧ n ≤ 16777216 ∧ Q (.str (Txt.mul a n)) H) ∨ rRep x y H Q ∨ rRepT K x y H Q ∨ rRepT1 K x y H Q ∨ rRepT0 K x y H Q
theorem opr_mul : OpR X (binaryOp .Mult) (rMulD X.K) := op_mulW.or (op_mul_str.or (op_rep.or (op_repT.or (op_repT1.or op_repT0))))
theorem RepDs.rep {vs : List V} {ds : List D} (h : RepDs K mg r Hs vs ds) : ∀ n : Nat, RepDs K mg r Hs (List.replicate n vs).flatten (List.replicate n ds).flatten
  | 0 => .nil
  | n + 1 => by
    rw [List.replicate_succ, List.replicate_succ, List.flatten_cons, List.flatten_cons]
    exact h.append (RepDs.rep h n)
theorem ops_mul : OpS K mg r (rMulD K) mulD := by
  intro Hs H tp x y d e z Q w rx ry hz k
  unfold mulD at hz
  split at hz
  · split at hz
    · rename_i c
      cases hz
      exact .inl ⟨_, _, repT_int rx, repT_int ry, (show _ < _ from of_decide_eq_true c), k _ _ _ (Grow.refl _ _) w (.int _)⟩
    · cases hz
  · split at hz
    · rename_i c
      cases hz
      have c := cRep_ok c
      exact .inr (.inl ⟨_, _, repT_str rx, repT_int ry, c.1, c.2.1, c.2.2, k _ _ _ (Grow.refl _ _) w (.str _)⟩)
    · cases hz
  · split at hz
    · rename_i a n c
      cases hz
      have c := cRep_ok c
      obtain ⟨p, vs, rfl, h1, h2⟩ := repT_lst w rx
      rw [repT_int ry]
      refine .inr (.inr (.inl ⟨p, n, vs, rfl, rfl, h1, by omega, by omega, ?_, fun q hq => ?_⟩))
      · rw [h2.length, sizeLine_eq]
        have : ((a.length * n.toNat : Nat) : Int) ≤ 16777216 := by
          rw [Int.natCast_mul, Int.toNat_of_nonneg c.1]; exact c.2.1
        omega
      · obtain ⟨g, w'⟩ := w.alloc (o := .lst (List.replicate n.toNat vs).flatten) hq
        exact k _ _ _ g w' (.lst upd_same ((h2.rep _).mono g.ex))
    · cases hz
  · split at hz
    · rename_i a n c
      cases hz
      have c := cRepT_ok c
      obtain ⟨p, vs, rfl, h0, h1, h2⟩ := repT_tup w rx
      rw [repT_int ry]
      have lv : vs.length = a.length := h2.length
      by_cases n1 : n = 1
      · subst n1
        refine .inr (.inr (.inr (.inr (.inl ⟨p, vs, rfl, rfl, .of h1, k _ _ _ (Grow.refl _ _) w (.tup h0 ?_)⟩))))
        have e : (List.replicate (Int.toNat 1) a).flatten = a := by show (List.replicate 1 a).flatten = a; simp
        rw [e]; exact h2
      · by_cases n0 : n = 0
        · subst n0
          refine .inr (.inr (.inr (.inr (.inr ⟨p, vs, rfl, rfl, .of h1, ?_, fun q hq => ?_⟩))))
          · intro e; subst e; simp at lv; omega
          · obtain ⟨g, w'⟩ := w.alloc (o := .tup []) hq
            exact k _ _ _ g w' (.tup upd_same .nil)
        refine .inr (.inr (.inr (.inl ⟨p, n, vs, rfl, rfl, .of h1, ?_, by omega, by omega, by omega, fun q hq => ?_⟩)))
        · intro e; subst e; simp at lv; omega
        · obtain ⟨g, w'⟩ := w.alloc (o := .tup (List.replicate n.toNat vs).flatten) hq
          exact k _ _ _ g w' (.tup upd_same ((h2.rep _).mono g.ex))
    · cases hz
  · cases hz
def ltD : D → D → Option D
  | .int i, .int j => some (.bl (decide (i < j)))
  | .str i, .str j => some (.bl (decide (i.cps.toList < j.cps.toList)))
  | _, _ => none
theorem ops_lt : OpS K mg r (fun x y H Q => (∃ i j, x = .int i ∧ y = .int j ∧ Q (.bl (decide (i < j))) H) ∨ (∃ i j, x = .str i ∧ y = .str j ∧ Q (.bl (decide (i.cps.toList < j.cps.toList))) H)) ltD := by
  intro Hs H tp x y d e z Q w rx ry hz k
  unfold ltD at hz
  split at hz
  · cases hz
    exact .inl ⟨_, _, repT_int rx, repT_int ry, k _ _ _ (Grow.refl _ _) w (.bl _)⟩
  · cases hz
    exact .inr ⟨_, _, repT_str rx, repT_str ry, k _ _ _ (Grow.refl _ _) w (.bl _)⟩
  · cases hz
theorem opr_lt : OpR X (compareOp .Lt) (fun x y H Q => (∃ i j, x = .int i ∧ y = .int j ∧ Q (.bl (decide (i < j))) H) ∨ (∃ i j, x = .str i ∧ y = .str j ∧ Q (.bl (decide (i.cps.toList < j.cps.toList))) H)) := op_lt.or op_lt_str
def leD : D → D → Option D
  | .int i, .int j => some (.bl (decide (i ≤ j)))
  | _, _ => none
def gtD : D → D → Option D
  | .int i, .int j => some (.bl (decide (j < i)))
  | _, _ => none
def geD : D → D → Option D
  | .int i, .int j => some (.bl (decide (j ≤ i)))
  | _, _ => none
theorem ops_le : OpS K mg r (rI0 fun i j => .bl (decide (i ≤ j))) leD := by
  intro Hs H tp x y d e z Q w rx ry hz k
  unfold leD at hz
  split at hz
  · cases hz
    exact ⟨_, _, repT_int rx, repT_int ry, k _ _ _ (Grow.refl _ _) w (.bl _)⟩
  · cases hz
theorem ops_gt : OpS K mg r (rI0 fun i j => .bl (decide (j < i))) gtD := by
  intro Hs H tp x y d e z Q w rx ry hz k
  unfold gtD at hz
  split at hz
  · cases hz
    exact ⟨_, _, repT_int rx, repT_int ry, k _ _ _ (Grow.refl _ _) w (.bl _)⟩
  · cases hz
theorem ops_ge : OpS K mg r (rI0 fun i j => .bl (decide (j ≤ i))) geD := by
  intro Hs H tp x y d e z Q w rx ry hz k
  unfold geD at hz
  split at hz
  · cases hz
    exact ⟨_, _, repT_int rx, repT_int ry, k _ _ _ (Grow.refl _ _) w (.bl _)⟩
  · cases hz
theorem dpAll_ints {H : Hp} : ∀ ns : List Int, DpAll K H (ns.map V.int) (ns.map PyData.int)
  | [] => .nil
  | n :: ns => .cons (.int n) (dpAll_ints ns)
mutual
theorem RepD.dp (w : Same Hs H) : ∀ {v : V} {d : D}, RepD K mg r Hs v d → d.pd.plain = true → Dp K H v d.pd
  | _, _, .non, _ => .non
  | _, _, .bl b, _ => .bl b
  | _, _, .int i, _ => .int i
  | _, _, .str s, _ => .str s
  | _, _, .tup (ds := ds) h q, p => .tup (.of (w _ _ h).tup) (RepDs.dp w q (by simpa only [D.pd, PyData.plain] using p))
  | _, _, .lst (ds := ds) h q, p => .lst (.of (w _ _ h).lst) (RepDs.dp w q (by simpa only [D.pd, PyData.plain] using p))
  | _, _, .scr (ns := ns) h, _ => .lst (Same.seq w h) (dpAll_ints ns)
  | _, _, .dicK _ _, p => by simp only [D.pd, PyData.plain] at p; cases p
  | _, _, .dicT _ _, p => by simp only [D.pd, PyData.plain] at p; cases p
  | _, _, .tape, p => by simp only [D.pd, PyData.plain] at p; cases p
  | _, _, .fn _, p => by simp only [D.pd, PyData.plain] at p; cases p
  | _, _, .ty _, p => by simp only [D.pd, PyData.plain] at p; cases p
  | _, _, .memo _, p => by simp only [D.pd, PyData.plain] at p; cases p
theorem RepDs.dp (w : Same Hs H) : ∀ {vs : List V} {ds : List D}, RepDs K mg r Hs vs ds → PyData.plainAll (pdAll ds) = true → DpAll K H vs (pdAll ds)
  | _, _, .nil, _ => .nil
  | _, _, .cons h q, p => by
    simp only [pdAll, PyData.plainAll, Bool.and_eq_true] at p
    exact .cons (RepD.dp w h p.1) (RepDs.dp w q p.2)
end
theorem RepT.dp {v : V} {d : D} (w : Wd K mg r Hs H tp) (h : RepT K mg r Hs H v d) (p : d.pd.plain = true) : Dp K H v d.pd := by
  rcases h with h | ⟨a, rfl, _, h⟩
  · exact RepD.dp w.sub h p
  · cases d with
    | lst ds =>
      obtain ⟨vs, h1, h2⟩ := h
      exact .lst (.of h1) (RepDs.dp w.sub h2 (by simpa only [D.pd, PyData.plain] using p))
    | dic ds => simp only [D.pd, PyData.plain] at p; cases p
    | dct ds => simp only [D.pd, PyData.plain] at p; cases p
    | _ => exact h.elim
/-- may be compared -/
def D.okq (d : D) : Bool := d.pd.plain && decide (d.pd.depth ≤ 60)
theorem okq_ok {d : D} (h : d.okq = true) : d.pd.plain = true ∧ d.pd.depth ≤ 60 := by
  have h := Bool.and_eq_true_iff.mp h
  exact ⟨h.1, of_decide_eq_true h.2⟩
def eqD (d e : D) : Option D := if d.okq && e.okq then some (.bl (PyData.eqv d.pd e.pd)) else none
def neD (d e : D) : Option D := if d.okq && e.okq then some (.bl (!PyData.eqv d.pd e.pd)) else none
def rEqP (K : PySem.W.Frag) : R2 := fun x y H Q => ∃ d e, Dp K H x d ∧ Dp K H y e ∧ d.plain = true ∧ e.plain = true ∧ d.depth ≤ 60 ∧ Q (.bl (PyData.eqv d e)) H
def rNeP (K : PySem.W.Frag) : R2 := fun x y H Q => ∃ d e, Dp K H x d ∧ Dp K H y e ∧ d.plain = true ∧ e.plain = true ∧ d.depth ≤ 60 ∧ Q (.bl (!PyData.eqv d e)) H
theorem op_eqP (hu : X.A.units + 64 < cLine) : OpR X (compareOp .Eq) (rEqP X.K) := by
  intro pins s σ H x y v u Q I rx ry h
  obtain ⟨d, e, hd, he, sd, se, dd, q⟩ := h
  obtain ⟨as, r1⟩ := Dp.reads I d x v hd rx
  obtain ⟨bs, r2⟩ := Dp.reads I e y u he ry
  have : min d.depth e.depth ≤ d.depth := Nat.min_le_left _ _
  exact SeqAt.eq_plain r1 r2 sd se (by omega) ⟨.bl _, H, I, rfl, q⟩
theorem op_neP (hu : X.A.units + 64 < cLine) : OpR X (compareOp .NotEq) (rNeP X.K) := by
  intro pins s σ H x y v u Q I rx ry h
  obtain ⟨d, e, hd, he, sd, se, dd, q⟩ := h
  obtain ⟨as, r1⟩ := Dp.reads I d x v hd rx
  obtain ⟨bs, r2⟩ := Dp.reads I e y u he ry
  have : min d.depth e.depth ≤ d.depth := Nat.min_le_left _ _
  exact SeqAt.ne_plain r1 r2 sd se (by omega) ⟨.bl _, H, I, rfl, q⟩
theorem ops_eq : OpS K mg r (rEqP K) eqD := by
  intro Hs H tp x y d e z Q w rx ry hz k
  unfold eqD at hz
  split at hz
  · rename_i c
    cases hz
    have c := Bool.and_eq_true_iff.mp c
    have c1 := okq_ok c.1
    have c2 := okq_ok c.2
    exact ⟨d.pd, e.pd, rx.dp w c1.1, ry.dp w c2.1, c1.1, c2.1, c1.2, k _ _ _ (Grow.refl _ _) w (.bl _)⟩
  · cases hz
theorem ops_ne : OpS K mg r (rNeP K) neD := by
  intro Hs H tp x y d e z Q w rx ry hz k
  unfold neD at hz
  split at hz
  · rename_i c
    cases hz
    have c := Bool.and_eq_true_iff.mp c
    have c1 := okq_ok c.1
    have c2 := okq_ok c.2
    exact ⟨d.pd, e.pd, rx.dp w c1.1, ry.dp w c2.1, c1.1, c2.1, c1.2, k _ _ _ (Grow.refl _ _) w (.bl _)⟩
  · cases hz
def isNoneD (d e : D) : Option D := match d, e with
  | .non, .non => some (.bl true)
  | .bl a, .bl b => some (.bl (decide (a = b)))
  | _, .non => some (.bl false)
  | _, _ => none
theorem repT_ne_non {v : V} {d : D} (h : RepT K mg r Hs H v d) (n : d ≠ .non) : decide (v = .non) = false := by
  refine decide_eq_false fun e => ?_
  subst e
  rcases h with h | ⟨p, e, _⟩
  · cases h; exact n rfl
  · cases e
theorem ops_is : OpS K mg r (fun x y H Q => (y = .non ∧ Q (.bl (decide (x = .non))) H) ∨ ∃ a b, x = .bl a ∧ y = .bl b ∧ Q (.bl (decide (a = b))) H) isNoneD := by
  intro Hs H tp x y d e z Q w rx ry hz k
  unfold isNoneD at hz
  split at hz
  · cases hz
    rw [repT_non rx, repT_non ry]
    exact .inl ⟨rfl, k _ _ _ (Grow.refl _ _) w (.bl _)⟩
  · cases hz
    rw [repT_bl rx, repT_bl ry]
    exact .inr ⟨_, _, rfl, rfl, k _ _ _ (Grow.refl _ _) w (.bl _)⟩
  · cases hz
    refine .inl ⟨repT_non ry, ?_⟩
    rw [repT_ne_non rx (by intro e; subst e; simp_all)]
    exact k _ _ _ (Grow.refl _ _) w (.bl _)
  · cases hz
theorem opr_is : OpR X (compareOp .Is) (fun x y H Q => (y = .non ∧ Q (.bl (decide (x = .non))) H) ∨ ∃ a b, x = .bl a ∧ y = .bl b ∧ Q (.bl (decide (a = b))) H) := op_isN.or op_is_bl
def ixD : D → D → Option D
  | .lst xs, .int i => atI xs i
  | .tup xs, .int i => atI xs i
  | .scr ns, .int i => (atI ns i).map .int
  | .str s, .int i => if s.length ≤ sizeLine then (atI s.cps.toList i).map fun c => .str ⟨#[c]⟩ else none
  | _, _ => none
theorem atI_rep {vs : List V} {ds : List D} {i : Int} {d : D} (h : RepDs K mg r Hs vs ds) (e : atI ds i = some d) : ∃ v, atI vs i = some v ∧ RepD K mg r Hs v d := by
  unfold atI at e ⊢
  rw [h.length]
  obtain ⟨j, h1, h2⟩ := Option.bind_eq_some_iff.mp e
  obtain ⟨v, h3, h4⟩ := h.get' h2
  exact ⟨v, by rw [h1]; exact h3, h4⟩
theorem atI_map {α β : Type} (f : α → β) (xs : List α) (i : Int) : atI (xs.map f) i = (atI xs i).map f := by
  unfold atI
  rw [List.length_map]
  cases ixN xs.length i with
  | none => rfl
  | some j => simp
theorem ops_ix : OpS K mg r (rIx K) ixD := by
  intro Hs H tp x y d e z Q w rx ry hz k
  unfold ixD at hz
  split at hz
  · obtain ⟨p, vs, rfl, h1, h2⟩ := repT_lst w rx
    obtain ⟨v, h3, h4⟩ := atI_rep h2 hz
    exact .inl ⟨p, vs, _, v, rfl, repT_int ry, .of h1, h3, k _ _ _ (Grow.refl _ _) w h4⟩
  · obtain ⟨p, vs, rfl, _, h1, h2⟩ := repT_tup w rx
    obtain ⟨v, h3, h4⟩ := atI_rep h2 hz
    exact .inr (.inl ⟨p, vs, _, v, rfl, repT_int ry, .of h1, h3, k _ _ _ (Grow.refl _ _) w h4⟩)
  · obtain ⟨p, rfl, h1⟩ := repT_scr w rx
    obtain ⟨n, h2, h3⟩ := Option.map_eq_some_iff.mp hz
    subst h3
    exact .inl ⟨p, _, _, _, rfl, repT_int ry, h1, by rw [atI_map, h2]; rfl, k _ _ _ (Grow.refl _ _) w (.int _)⟩
  · split at hz
    · rename_i c
      obtain ⟨n, h2, h3⟩ := Option.map_eq_some_iff.mp hz
      subst h3
      exact .inr (.inr ⟨_, _, _, repT_str rx, repT_int ry, c, h2, k _ _ _ (Grow.refl _ _) w (.str _)⟩)
    · cases hz
  · cases hz
/-- a slice's part -/
def optI (m : Option (SE D)) : SE (Option Int) := fun env tp => match m with
  | none => .ok none tp
  | some m => (m env tp).bind fun d tp1 => match d with
    | .int i => .ok (some i) tp1
    | _ => .stuck
variable {O : List Nat} {E : XK}
def cutD {α : Type} (xs : List α) (lo hi : Option Int) : List α := (xs.drop (HT.sIx xs.length 0 lo)).take (HT.sIx xs.length xs.length hi - HT.sIx xs.length 0 lo)
def sliceD (d : D) (lo hi : Option Int) : Option D := match d with
  | .lst xs => some (.lst (cutD xs lo hi))
  | .tup xs => some (.tup (cutD xs lo hi))
  | .str s => if s.length ≤ sizeLine then some (.str (cutS s lo hi)) else none
  | _ => none
def sliceE (m : SE D) (ml mh : SE (Option Int)) : SE D := fun env tp => (m env tp).bind fun d tp1 => (ml env tp1).bind fun lo tp2 => (mh env tp2).bind fun hi tp3 => RE.of (sliceD d lo hi) tp3
theorem paired1 {α β : Type} {F : α → β → Prop} {xs : List α} {y : β} (h : Paired F xs [y]) : ∃ x, xs = [x] ∧ F x y := by
  cases h with
  | cons a b => cases b; exact ⟨_, rfl, a⟩
theorem paired2 {α β : Type} {F : α → β → Prop} {xs : List α} {y y' : β} (h : Paired F xs [y, y']) : ∃ x x', xs = [x, x'] ∧ F x y ∧ F x' y' := by
  cases h with
  | cons a b =>
    obtain ⟨x', rfl, h⟩ := paired1 b
    exact ⟨_, _, rfl, a, h⟩
theorem RepP.length : ∀ {vs : List (D × V)} {ds : List (D × D)}, RepP K mg r Hs vs ds → vs.length = ds.length
  | _, _, .nil => rfl
  | _, _, .cons _ q => by simp only [List.length_cons, RepP.length q]
def lenD : List D → Option D
  | [.lst xs] => some (.int xs.length)
  | [.tup xs] => some (.int xs.length)
  | [.scr xs] => some (.int xs.length)
  | [.str s] => if s.length ≤ sizeLine then some (.int s.length) else none
  | _ => none
theorem cs_len : CallS K mg r (fun xs H Q => (∃ p ys, xs = [.ref p] ∧ (SqL K H p ys ∨ SqT K H p ys) ∧ Q (.int ys.length) H) ∨ ∃ z, xs = [.str z] ∧ z.length ≤ sizeLine ∧ Q (.int z.length) H) lenD := by
  intro Hs H tp xs ds z Q w rx hz k
  unfold lenD at hz
  split at hz
  · cases hz
    obtain ⟨x, rfl, h⟩ := paired1 rx
    obtain ⟨p, vs, rfl, h1, h2⟩ := repT_lst w h
    refine .inl ⟨p, vs, rfl, .inl (.of h1), ?_⟩
    rw [h2.length]
    exact k _ _ _ (Grow.refl _ _) w (.int _)
  · cases hz
    obtain ⟨x, rfl, h⟩ := paired1 rx
    obtain ⟨p, vs, rfl, _, h1, h2⟩ := repT_tup w h
    refine .inl ⟨p, vs, rfl, .inr (.of h1), ?_⟩
    rw [h2.length]
    exact k _ _ _ (Grow.refl _ _) w (.int _)
  · cases hz
    obtain ⟨x, rfl, h⟩ := paired1 rx
    obtain ⟨p, rfl, h1⟩ := repT_scr w h
    refine .inl ⟨p, _, rfl, .inl h1, ?_⟩
    rw [List.length_map]
    exact k _ _ _ (Grow.refl _ _) w (.int _)
  · split at hz
    · rename_i c
      cases hz
      obtain ⟨x, rfl, h⟩ := paired1 rx
      exact .inr ⟨_, by rw [repT_str h], c, k _ _ _ (Grow.refl _ _) w (.int _)⟩
    · cases hz
  · cases hz
theorem cr_len : CallR X (.builtin "len") (fun xs H Q => (∃ p ys, xs = [.ref p] ∧ (SqL X.K H p ys ∨ SqT X.K H p ys) ∧ Q (.int ys.length) H) ∨ ∃ z, xs = [.str z] ∧ z.length ≤ sizeLine ∧ Q (.int z.length) H) := call_len_seq.or call_len_str
def intD : List D → Option D
  | [.int i] => some (.int i)
  | [.bl b] => some (.int (if b then 1 else 0))
  | _ => none
theorem cs_int : CallS K mg r (fun xs H Q => (∃ i, xs = [.int i] ∧ Q (.int i) H) ∨ ∃ k, xs = [.bl k] ∧ Q (.int (if k then 1 else 0)) H) intD := by
  intro Hs H tp xs ds z Q w rx hz k
  unfold intD at hz
  split at hz
  · cases hz
    obtain ⟨x, rfl, h⟩ := paired1 rx
    exact .inl ⟨_, by rw [repT_int h], k _ _ _ (Grow.refl _ _) w (.int _)⟩
  · cases hz
    obtain ⟨x, rfl, h⟩ := paired1 rx
    exact .inr ⟨_, by rw [repT_bl h], k _ _ _ (Grow.refl _ _) w (.int _)⟩
  · cases hz
def tupleD : List D → Option D
  | [.lst xs] => some (.tup xs)
  | [.tup xs] => some (.tup xs)
  | _ => none
theorem cs_tuple : CallS K mg r (fun xs H Q => ∃ p ys, xs = [.ref p] ∧ ((SqL K H p ys ∧ ∀ l, H l = none → Q (.ref l) (upd H l (.tup ys))) ∨ (SqT K H p ys ∧ Q (.ref p) H))) tupleD := by
  intro Hs H tp xs ds z Q w rx hz k
  unfold tupleD at hz
  split at hz
  · cases hz
    obtain ⟨x, rfl, h⟩ := paired1 rx
    obtain ⟨p, vs, rfl, h1, h2⟩ := repT_lst w h
    refine ⟨p, vs, rfl, .inl ⟨.of h1, fun q hq => ?_⟩⟩
    obtain ⟨g', w'⟩ := w.alloc (o := .tup vs) hq
    exact k _ _ _ g' w' (.tup upd_same (h2.mono g'.ex))
  · cases hz
    obtain ⟨x, rfl, h⟩ := paired1 rx
    obtain ⟨p, vs, rfl, h0, h1, h2⟩ := repT_tup w h
    exact ⟨p, vs, rfl, .inr ⟨.of h1, k _ _ _ (Grow.refl _ _) w (.tup h0 h2)⟩⟩
  · cases hz
def unI : List D → Option (List Int)
  | [] => some []
  | .int b :: r => (unI r).map (b :: ·)
  | _ => none
theorem unI_ok : ∀ {ds : List D} {bs : List Int}, unI ds = some bs → ds = bs.map .int
  | [], _, h => by cases h; rfl
  | d :: ds, bs, h => by
    cases d with
    | int b =>
      obtain ⟨cs, h1, h2⟩ := Option.map_eq_some_iff.mp (show (unI ds).map (b :: ·) = some bs from h)
      subst h2
      rw [unI_ok h1]; rfl
    | _ => cases h
@[simp] theorem unI_map : ∀ bs : List Int, unI (bs.map .int) = some bs
  | [] => rfl
  | b :: bs => by show (unI (bs.map .int)).map (b :: ·) = _; rw [unI_map bs]; rfl
def sumD : List D → Option D
  | [.lst xs] => (unI xs).map fun bs => .int bs.sum
  | _ => none
theorem lst_typed {α : Type} {f : α → D} {g : α → V} (hfg : ∀ {Hs : Hp} {ns : List α} {vs : List V}, RepDs K mg r Hs vs (ns.map f) → vs = ns.map g) {v : V} {ns : List α} (w : Wd K mg r Hs H tp) (h : RepT K mg r Hs H v (.lst (ns.map f))) : ∃ p, v = .ref p ∧ H p = some (.lst (ns.map g)) := by
  obtain ⟨p, vs, rfl, h1, h2⟩ := repT_lst w h
  rw [hfg h2] at h1
  exact ⟨p, rfl, h1⟩
theorem cs_sum : CallS K mg r (rSum K) sumD := by
  intro Hs H tp xs ds z Q w rx hz k
  unfold sumD at hz
  split at hz
  · obtain ⟨bs, h1, h2⟩ := Option.map_eq_some_iff.mp hz
    subst h2
    obtain ⟨x, rfl, h⟩ := paired1 rx
    rw [unI_ok h1] at h
    obtain ⟨p, rfl, h3⟩ := lst_typed RepDs.ints_of w h
    exact ⟨p, bs, rfl, .of h3, k _ _ _ (Grow.refl _ _) w (.int _)⟩
  · cases hz
def tyN : D → Option String
  | .non => some "NoneType"
  | .bl _ => some "bool"
  | .int _ => some "int"
  | .str _ => some "str"
  | .tup _ => some "tuple"
  | .lst _ => some "list"
  | _ => none
def unT : List D → Option (List String)
  | [] => some []
  | .ty n :: r => (unT r).map (n :: ·)
  | _ => none
theorem unT_ok : ∀ {ds : List D} {bs : List String}, unT ds = some bs → ds = bs.map .ty
  | [], _, h => by cases h; rfl
  | d :: ds, bs, h => by
    cases d with
    | ty b =>
      obtain ⟨cs, h1, h2⟩ := Option.map_eq_some_iff.mp (show (unT ds).map (b :: ·) = some bs from h)
      subst h2
      rw [unT_ok h1]; rfl
    | _ => cases h
theorem RepDs.tys_of : ∀ {ns : List String} {vs : List V}, RepDs K mg r Hs vs (ns.map D.ty) → vs = ns.map V.ty
  | [], _, .nil => rfl
  | n :: ns, _, .cons h q => by cases h; rw [RepDs.tys_of q]; rfl
def kitBs (a : String) : List String → Option Bool
  | [] => some false
  | b :: bs => match kitB a b, kitBs a bs with
    | some true, some _ => some true
    | some false, some c => some c
    | _, _ => none
theorem kitBs_ok {a : String} : ∀ {bs : List String} {c : Bool}, kitBs a bs = some c → PySem.W.kitAny K (.type a) (bs.map Value.type) = some c
  | [], c, h => by cases h; exact kitAny_nil
  | b :: bs, c, h => by
    have h : (match kitB a b, kitBs a bs with
      | some true, some _ => some true
      | some false, some c => some c
      | _, _ => none) = some c := h
    cases e1 : kitB a b with
    | none => rw [e1] at h; cases h
    | some x =>
      cases e2 : kitBs a bs with
      | none => rw [e1, e2] at h; cases x <;> cases h
      | some y =>
        rw [e1, e2] at h
        refine kitAny_cons (b := x) (kit_ty e1) (fun hb => ?_) (fun hb => ?_)
        · subst hb; cases h; exact kitBs_ok e2
        · subst hb; cases h; rfl
def isiD : List D → Option D
  | [d, .ty n] => (tyN d).bind fun t => (kitB t n).map .bl
  | [d, .tup ds] => (tyN d).bind fun t => (unT ds).bind fun ns => (kitBs t ns).map .bl
  | _ => none
theorem tyx_of {v : V} {d : D} {t : String} (w : Wd K mg r Hs H tp) (h : RepT K mg r Hs H v d) (e : tyN d = some t) : TyX K H v (.type t) := by
  cases d with
  | non => cases e; rw [repT_non h]; exact .base .non
  | bl b => cases e; rw [repT_bl h]; exact .base (.bl _)
  | int b => cases e; rw [repT_int h]; exact .base (.int _)
  | str b => cases e; rw [repT_str h]; exact .base (.str _)
  | tup ds => cases e; obtain ⟨p, vs, rfl, _, h1, h2⟩ := repT_tup w h; exact .base (.tup h1)
  | lst ds => cases e; obtain ⟨p, vs, rfl, h1, h2⟩ := repT_lst w h; exact .base (.lst h1)
  | _ => cases e
theorem cls_all : ∀ ns : List String, Paired ClsV (ns.map V.ty) (ns.map Value.type)
  | [] => .nil
  | n :: ns => .cons (.ty n) (cls_all ns)
theorem cs_isi : CallS K mg r (fun x H Q => rIsi K x H Q ∨ rIsiT K x H Q) isiD := by
  intro Hs H tp xs ds z Q w rx hz k
  unfold isiD at hz
  split at hz
  · obtain ⟨t, h1, h2⟩ := Option.bind_eq_some_iff.mp hz
    obtain ⟨b, h3, h4⟩ := Option.map_eq_some_iff.mp h2
    subst h4
    obtain ⟨x, x', rfl, r1, r2⟩ := paired2 rx
    rcases r2 with r2 | ⟨_, _, _, r2⟩
    · cases r2
      exact .inl ⟨x, _, _, _, b, rfl, .ty _, tyx_of w r1 h1, kit_ty h3, k _ _ _ (Grow.refl _ _) w (.bl _)⟩
    · exact r2.elim
  · obtain ⟨t, h1, h2⟩ := Option.bind_eq_some_iff.mp hz
    obtain ⟨ns, h3, h4⟩ := Option.bind_eq_some_iff.mp h2
    obtain ⟨b, h5, h6⟩ := Option.map_eq_some_iff.mp h4
    subst h6
    obtain ⟨x, x', rfl, r1, r2⟩ := paired2 rx
    obtain ⟨p, vs, rfl, _, g1, g2⟩ := repT_tup w r2
    rw [unT_ok h3] at g2
    rw [RepDs.tys_of g2] at g1
    exact .inr ⟨x, p, _, _, _, b, rfl, g1, cls_all ns, tyx_of w r1 h1, kitBs_ok h5, k _ _ _ (Grow.refl _ _) w (.bl _)⟩
  · cases hz
theorem cr_isi : CallR X (.builtin "isinstance") (fun x H Q => rIsi X.K x H Q ∨ rIsiT X.K x H Q) := call_isi.or call_isiT
theorem ge_ty {x : Str} {T : String} {pos : Pos} (hm : X.mg x = none) (hv : bootBuiltins x = some (.type T) := by decide +kernel) (hg : Gl X x := by rfl) (hn : x ≠ "__name__" := by decide) (hd : (x == ("__debug__" : Str)) = false := by decide) : GE K mg r X O E (.Name x pos) (tC (.ty T)) (cE (.ty T)) :=
  ge_c (v := .ty T) (pe_bltn hg hm hv rfl hn hd) fun _ => .ty T
variable {a b c : Expr} {pos : Pos} {ta tb tc : TE} {ma mb mc : SE D}
theorem ge_add (ha : GO K mg r X O E a ta ma) (hb : GO K mg r X O E b tb mb) (hK : X.K = K := by rfl) : GE K mg r X O E (.BinOp a .Add b pos) (tOp (rAddD K) ta tb) (binE addD ma mb) := by subst hK; exact ge_op opr_add ops_add ha hb
theorem ge_sub (ha : GO K mg r X O E a ta ma) (hb : GO K mg r X O E b tb mb) : GE K mg r X O E (.BinOp a .Sub b pos) (tOp (rI0 fun i j => .int (i - j)) ta tb) (binE subD ma mb) := ge_op op_sub ops_sub ha hb
theorem ge_mul (ha : GO K mg r X O E a ta ma) (hb : GO K mg r X O E b tb mb) (hK : X.K = K := by rfl) : GE K mg r X O E (.BinOp a .Mult b pos) (tOp (rMulD K) ta tb) (binE mulD ma mb) := by subst hK; exact ge_op opr_mul ops_mul ha hb
theorem ge_fdiv (ha : GO K mg r X O E a ta ma) (hb : GO K mg r X O E b tb mb) : GE K mg r X O E (.BinOp a .FloorDiv b pos) (tOp (rI CDivW fun i j => .int (i / j)) ta tb) (binE fdivD ma mb) := ge_op op_fdivW ops_fdiv ha hb
theorem ge_mod (ha : GO K mg r X O E a ta ma) (hb : GO K mg r X O E b tb mb) : GE K mg r X O E (.BinOp a .Mod b pos) (tOp (rI (fun _ j => 0 < j) fun i j => .int (i % j)) ta tb) (binE modD ma mb) := ge_op op_mod ops_mod ha hb
theorem ge_pow (ha : GO K mg r X O E a ta ma) (hb : GO K mg r X O E b tb mb) : GE K mg r X O E (.BinOp a .Pow b pos) (tOp (rI CPow fun i j => .int (i ^ j.toNat)) ta tb) (binE powD ma mb) := ge_op op_pow ops_pow ha hb
theorem ge_neg (ha : GO K mg r X O E a ta ma) : GE K mg r X O E (.UnaryOp .USub a pos) (tUn (rU fun i => .int (-i)) ta) (unE negD ma) := ge_un un_neg uns_neg ha
abbrev rLtD : R2 := fun x y H Q => (∃ i j, x = .int i ∧ y = .int j ∧ Q (.bl (decide (i < j))) H) ∨ (∃ i j, x = .str i ∧ y = .str j ∧ Q (.bl (decide (i.cps.toList < j.cps.toList))) H)
abbrev rLeD : R2 := rI0 fun i j => .bl (decide (i ≤ j))
abbrev rGtD : R2 := rI0 fun i j => .bl (decide (j < i))
abbrev rGeD : R2 := rI0 fun i j => .bl (decide (j ≤ i))
theorem ge_eq (hu : X.A.units + 64 < cLine) (ha : GO K mg r X O E a ta ma) (hb : GO K mg r X O E b tb mb) (hK : X.K = K := by rfl) : GE K mg r X O E (.Compare a [.Eq] [b] pos) (tOp (rEqP K) ta tb) (binE eqD ma mb) := by subst hK; exact ge_cmp (op_eqP hu) ops_eq ha hb (nomark _)
abbrev rIsD : R2 := fun x y H Q => (y = .non ∧ Q (.bl (decide (x = .non))) H) ∨ ∃ a b, x = .bl a ∧ y = .bl b ∧ Q (.bl (decide (a = b))) H
theorem ge_sub1 (ha : GO K mg r X O E a ta ma) (hb : GO K mg r X O E b tb mb) (hs : PlainIx b := by exact fun _ _ => rfl) (hK : X.K = K := by rfl) : GE K mg r X O E (.Subscript a b pos) (tOp (rIx K) ta tb) (binE ixD ma mb) := by subst hK; exact ge_ix ix_seq ops_ix ha hb hs
variable {ts : TA} {ms : SE (List D)} {p : Pos} {es : List Expr} {e : Expr}
abbrev rLenD (K : PySem.W.Frag) : List V → Hp → VK → Prop := fun xs H Q => (∃ p ys, xs = [.ref p] ∧ (SqL K H p ys ∨ SqT K H p ys) ∧ Q (.int ys.length) H) ∨ ∃ z, xs = [.str z] ∧ z.length ≤ sizeLine ∧ Q (.int z.length) H
theorem ge_len (hm : X.mg "len" = none) (ha : GAO K mg r X O E [e] ts ms) (hg : Gl X "len" := by rfl) (he : starEach [e] X.env = (false, eval e X.env) :: starEach [] X.env := by rfl) (hpl : (backTo pos (starEach [] X.env)).any (·.1) = false := by rfl) (hK : X.K = K := by rfl) : GE K mg r X O E (.Call (.Name "len" p) [e] [] pos) (tCB (rLenD K) ts) (callB lenD ms) := by
  subst hK; exact ge_callB (R := rLenD X.K) cr_len cs_len hm ha hg PySem.boot_len (by decide) (by decide) he hpl
abbrev rIntD : List V → Hp → VK → Prop := fun xs H Q => (∃ i, xs = [.int i] ∧ Q (.int i) H) ∨ ∃ k, xs = [.bl k] ∧ Q (.int (if k then 1 else 0)) H
theorem ge_int1 (hm : X.mg "int" = none) (ha : GAO K mg r X O E [e] ts ms) (hg : Gl X "int" := by rfl) (he : starEach [e] X.env = (false, eval e X.env) :: starEach [] X.env := by rfl) (hpl : (backTo pos (starEach [] X.env)).any (·.1) = false := by rfl) : GE K mg r X O E (.Call (.Name "int" p) [e] [] pos) (tCB rIntD ts) (callB intD ms) :=
  ge_callTy (R := rIntD) call_int1 cs_int hm ha hg (by decide +kernel) (by decide) (by decide) he hpl
abbrev rTupleD (K : PySem.W.Frag) : List V → Hp → VK → Prop := fun xs H Q => ∃ p ys, xs = [.ref p] ∧ ((SqL K H p ys ∧ ∀ l, H l = none → Q (.ref l) (upd H l (.tup ys))) ∨ (SqT K H p ys ∧ Q (.ref p) H))
theorem ge_tuple (hm : X.mg "tuple" = none) (ha : GAO K mg r X O E [e] ts ms) (hg : Gl X "tuple" := by rfl) (he : starEach [e] X.env = (false, eval e X.env) :: starEach [] X.env := by rfl) (hpl : (backTo pos (starEach [] X.env)).any (·.1) = false := by rfl) (hK : X.K = K := by rfl) : GE K mg r X O E (.Call (.Name "tuple" p) [e] [] pos) (tCB (rTupleD K) ts) (callB tupleD ms) := by
  subst hK; exact ge_callTy (R := rTupleD X.K) call_tuple_of cs_tuple hm ha hg (by decide +kernel) (by decide) (by decide) he hpl
abbrev rIsiD (K : PySem.W.Frag) : List V → Hp → VK → Prop := fun x H Q => rIsi K x H Q ∨ rIsiT K x H Q
theorem ge_isi {e2 : Expr} (hm : X.mg "isinstance" = none) (ha : GAO K mg r X O E [e, e2] ts ms) (hg : Gl X "isinstance" := by rfl) (he : starEach [e, e2] X.env = (false, eval e X.env) :: starEach [e2] X.env := by rfl) (hpl : (backTo pos (starEach [e2] X.env)).any (·.1) = false := by rfl) (hK : X.K = K := by rfl) : GE K mg r X O E (.Call (.Name "isinstance" p) [e, e2] [] pos) (tCB (rIsiD K) ts) (callB isiD ms) := by
  subst hK; exact ge_callB (R := rIsiD X.K) cr_isi cs_isi hm ha hg (by decide +kernel) (by decide) (by decide) he hpl
end
end G
set_option maxHeartbeats 1000000
namespace G
open PySem PySem.Spec PyProof.Rows L2
variable [_root_.G.Wo]
inductive RS where
  | nx (env : DEnv) (tp : List D)
  | rt (d : D) (tp : List D)
  | bk (env : DEnv) (tp : List D)
  | ct (env : DEnv) (tp : List D)
  | exn (c : Str) (fs : List (Str × D)) (tp : List D)
  | stuck
abbrev SS := DEnv → List D → RS
def RE.bindS {α : Type} (x : RE α) (k : α → List D → RS) : RS := match x with
  | .ok a tp => k a tp
  | .exn c fs tp => .exn c fs tp
  | .stuck => .stuck
@[simp] theorem RE.bindS_ok {α : Type} (a : α) (tp : List D) (k : α → List D → RS) : (RE.ok a tp).bindS k = k a tp := rfl
@[simp] theorem RE.bindS_exn {α : Type} (c : Str) (fs : List (Str × D)) (tp : List D) (k : α → List D → RS) : (RE.exn c fs tp : RE α).bindS k = .exn c fs tp := rfl
@[simp] theorem RE.bindS_stuck {α : Type} (k : α → List D → RS) : (RE.stuck : RE α).bindS k = .stuck := rfl
section
variable {K : PySem.W.Frag} {mg : Str → Option Value} {r : Addr} {Hs0 H0 Hs Hs' H H' : Hp} {O O' : List Nat} {σ : L2.St} {env : DEnv} {tp tp' : List D} {p : Addr} {d : D} {v : V}
theorem get_set {α : Type} {xs : List (Option α)} {i j : Nat} {v : α} {w : α} (h : (xs.set i (some v))[j]? = some (some w)) : (j = i ∧ v = w ∧ i < xs.length) ∨ (j ≠ i ∧ xs[j]? = some (some w)) := by
  by_cases q : j = i
  · subst q
    rw [List.getElem?_set] at h
    simp only [if_true] at h
    split at h
    · cases h; exact .inl ⟨rfl, rfl, by assumption⟩
    · cases h
  · rw [List.getElem?_set_ne (Ne.symm q)] at h
    exact .inr ⟨q, h⟩
theorem set_get {α : Type} {xs : List (Option α)} {i : Nat} {v : α} (h : i < xs.length) : (xs.set i (some v))[i]? = some (some v) := by
  rw [List.getElem?_set_self h]
theorem set_gne {α : Type} {xs : List (Option α)} {i j : Nat} {v : Option α} (h : j ≠ i) : (xs.set i v)[j]? = xs[j]? := List.getElem?_set_ne (Ne.symm h)
/-- some owned objects come to stand still -/
theorem Rel.freeze (R : Rel K mg r O Hs0 H0 Hs H σ env tp) (h : ∀ i ∈ O', i ∈ O) : ∃ Hs', Same Hs Hs' ∧ Rel K mg r O' Hs0 H0 Hs' H σ env tp := by
  classical
  let fz : Addr → Prop := fun b => ∃ i, i ∈ O ∧ i ∉ O' ∧ σ[i]? = some (some (.ref b))
  let Hs' : Hp := fun b => if fz b then H b else Hs b
  have fzn : ∀ b, fz b → Hs b = none ∧ H0 b = none ∧ b ≠ r := fun b ⟨i, h1, _, h3⟩ => by
    obtain ⟨d, p, _, b2, c, c0, n, _⟩ := R.own i h1
    rw [h3] at b2; cases b2
    exact ⟨c, c0, n⟩
  have e : Same Hs Hs' := .of fun b o q => by
    show (if fz b then H b else Hs b) = some o
    by_cases z : fz b
    · rw [(fzn b z).1] at q; cases q
    · rw [if_neg z]; exact q
  have sub : Same Hs' H := fun b o q => by
    have q : (if fz b then H b else Hs b) = some o := q
    by_cases z : fz b
    · rw [if_pos z] at q; exact .inl q
    · rw [if_neg z] at q; exact R.wd.sub b o q
  have tn : Hs' r = none := by
    show (if fz r then H r else Hs r) = none
    rw [if_neg fun z => (fzn r z).2.2 rfl]; exact R.wd.tn
  refine ⟨Hs', e, ⟨⟨sub, tn, ?_, fun b φ q => ?_⟩, ⟨R.gr.keep, R.gr.free, R.gr.ex.trans e, fun b o n q => ?_, R.gr.tup⟩, R.len, fun i d a n => ?_, fun i hi => ?_, fun i j p hi hj a b => R.dis i j p (h i hi) (h j hj) a b⟩⟩
  · obtain ⟨vs, a, b⟩ := R.wd.tH
    exact ⟨vs, a, b.mono e⟩
  · have q : (if fz b then H b else Hs b) = some (.ext φ) := q
    by_cases z : fz b
    · rw [if_pos z] at q
      obtain ⟨i, h1, _, h3⟩ := z
      obtain ⟨d, p, _, b2, _, _, _, oa⟩ := R.own i h1
      rw [h3] at b2; cases b2
      exact oa.next φ q
    · rw [if_neg z] at q; exact R.wd.nx b φ q
  · have q : (if fz b then H b else Hs b) = some o := q
    by_cases z : fz b
    · exact .inr (.inl (fzn b z).2.1)
    · rw [if_neg z] at q; exact R.gr.new b o n q
  · by_cases m : i ∈ O
    · obtain ⟨d', p, b1, b2, c, c0, ne, oa⟩ := R.own i m
      rw [a] at b1; cases b1
      refine ⟨_, b2, oa.rep e fun o q => ?_⟩
      show (if fz p then H p else Hs p) = some o
      rw [if_pos ⟨i, m, n, b2⟩]; exact q
    · obtain ⟨v, b1, b2⟩ := R.vars i d a m
      exact ⟨v, b1, b2.mono e⟩
  · obtain ⟨d', p, b1, b2, c, c0, ne, oa⟩ := R.own i (h i hi)
    refine ⟨d', p, b1, b2, ?_, c0, ne, oa.grow e fun o q => q⟩
    show (if fz p then H p else Hs p) = none
    rw [if_neg]
    · exact c
    · rintro ⟨j, hj, hj', q⟩
      have := R.dis i j p (h i hi) hj b2 q
      subst this
      exact hj' hi
/-- a name gets a value that stands still -/
theorem Rel.set (R : Rel K mg r O Hs0 H0 Hs H σ env tp) (i : Nat) (hr : RepD K mg r Hs v d) : Rel K mg r (O.filter (· != i)) Hs0 H0 Hs H (σ.set i (some v)) (env.set i (some d)) tp where
  wd := R.wd
  gr := R.gr
  len := by rw [List.length_set, List.length_set]; exact R.len
  vars := fun j e a n => by
    rcases get_set a with ⟨rfl, rfl, hl⟩ | ⟨ne, a⟩
    · exact ⟨v, set_get (by rw [R.len]; exact hl), hr⟩
    · have n' : j ∉ O := fun m => n (List.mem_filter.mpr ⟨m, by simpa using ne⟩)
      obtain ⟨w, b1, b2⟩ := R.vars j e a n'
      exact ⟨w, by rw [set_gne ne]; exact b1, b2⟩
  own := fun j hj => by
    obtain ⟨m, ne⟩ := List.mem_filter.mp hj
    have ne : j ≠ i := by simpa using ne
    obtain ⟨d', p, b1, b2, c⟩ := R.own j m
    exact ⟨d', p, by rw [set_gne ne]; exact b1, by rw [set_gne ne]; exact b2, c⟩
  dis := fun j l p hj hl a b => by
    obtain ⟨m, ne⟩ := List.mem_filter.mp hj
    obtain ⟨m', ne'⟩ := List.mem_filter.mp hl
    rw [set_gne (by simpa using ne)] at a
    rw [set_gne (by simpa using ne')] at b
    exact R.dis j l p m m' a b
/-- a name gets a fresh object -/
theorem Rel.setF (R : Rel K mg r O Hs0 H0 Hs H σ env tp) (i : Nat) (hi : i < env.length) (h0 : H0 p = none) (hs : Hs p = none) (ne : p ≠ r) (ho : OwnAt K mg r Hs H p d) (hd : ∀ j ∈ O, σ[j]? ≠ some (some (.ref p))) :
    Rel K mg r (i :: O.filter (· != i)) Hs0 H0 Hs H (σ.set i (some (.ref p))) (env.set i (some d)) tp where
  wd := R.wd
  gr := R.gr
  len := by rw [List.length_set, List.length_set]; exact R.len
  vars := fun j e a n => by
    rcases get_set a with ⟨rfl, rfl, hl⟩ | ⟨ne, a⟩
    · exact absurd List.mem_cons_self n
    · have n' : j ∉ O := fun m => n (List.mem_cons_of_mem _ (List.mem_filter.mpr ⟨m, by simpa using ne⟩))
      obtain ⟨w, b1, b2⟩ := R.vars j e a n'
      exact ⟨w, by rw [set_gne ne]; exact b1, b2⟩
  own := fun j hj => by
    rcases List.mem_cons.mp hj with rfl | hj
    · exact ⟨d, p, set_get hi, set_get (by rw [R.len]; exact hi), hs, h0, ne, ho⟩
    · obtain ⟨m, ne⟩ := List.mem_filter.mp hj
      have ne : j ≠ i := by simpa using ne
      obtain ⟨d', p, b1, b2, c⟩ := R.own j m
      exact ⟨d', p, by rw [set_gne ne]; exact b1, by rw [set_gne ne]; exact b2, c⟩
  dis := fun j l q hj hl a b => by
    rcases List.mem_cons.mp hj with rfl | hj
    · rcases List.mem_cons.mp hl with rfl | hl
      · rfl
      · obtain ⟨m', ne'⟩ := List.mem_filter.mp hl
        rw [set_gne (by simpa using ne')] at b
        rw [set_get (by rw [R.len]; exact hi)] at a
        cases a
        exact absurd b (hd l m')
    · obtain ⟨m, ne⟩ := List.mem_filter.mp hj
      rw [set_gne (by simpa using ne)] at a
      rcases List.mem_cons.mp hl with rfl | hl
      · rw [set_get (by rw [R.len]; exact hi)] at b
        cases b
        exact absurd a (hd j m)
      · obtain ⟨m', ne'⟩ := List.mem_filter.mp hl
        rw [set_gne (by simpa using ne')] at b
        exact R.dis j l q m m' a b
/-- an owned object is changed -/
theorem Rel.write {o : HO} {i : Nat} (R : Rel K mg r O Hs0 H0 Hs H σ env tp) (hi : i ∈ O) (hp : σ[i]? = some (some (.ref p))) (ho : OwnAt K mg r Hs (upd H p o) p d) : Rel K mg r O Hs0 H0 Hs (upd H p o) σ (env.set i (some d)) tp := by
  obtain ⟨d0, p0, b1, b2, c, c0, ne, oa⟩ := R.own i hi
  rw [hp] at b2; cases b2
  have hl : i < env.length := by
    rcases Nat.lt_or_ge i env.length with q | q
    · exact q
    · rw [List.getElem?_eq_none q] at b1; cases b1
  refine ⟨R.wd.write c ne (fun xs z => st_no (oa.ntup _ z) xs rfl), ⟨fun b u q n hs => ?_, fun b e => R.gr.free b (upd_free e), R.gr.ex, R.gr.new, fun b xs e => by rw [upd_ne (ne_of_none e c0)]; exact R.gr.tup b xs e⟩, by rw [List.length_set]; exact R.len, fun j e a n => ?_, fun j hj => ?_, R.dis⟩
  · rw [upd_ne (ne_of_none q c0)]; exact R.gr.keep b u q n hs
  · rcases get_set a with ⟨rfl, rfl, _⟩ | ⟨_, a⟩
    · exact absurd hi n
    · exact R.vars j e a n
  · by_cases q : j = i
    · subst q
      exact ⟨d, p, set_get hl, hp, c, c0, ne, ho⟩
    · obtain ⟨d', p', e1, e2, f, f0, fn, fo⟩ := R.own j hj
      have np : p' ≠ p := fun z => q (by subst z; exact R.dis j i p' hj hi e2 hp)
      exact ⟨d', p', by rw [set_gne q]; exact e1, e2, f, f0, fn, fo.grow (Same.refl _) fun u z => by rw [upd_ne np]; exact z⟩
/-- the tape is written -/
theorem Rel.tape {vs : List V} {j : Nat} (R : Rel K mg r O Hs0 H0 Hs H σ env tp) (h : H r = some (.lst vs)) (hv : RepDs K mg r Hs vs tp) (hr : RepD K mg r Hs v d) : Rel K mg r O Hs0 H0 Hs (upd H r (.lst (vs.set j v))) σ env (tp.set j d) := by
  refine ⟨⟨fun b u q => ?_, R.wd.tn, ⟨_, upd_same, hv.set j hr⟩, R.wd.nx⟩, ⟨fun b u q n hs => ?_, fun b e => R.gr.free b (upd_free e), R.gr.ex, R.gr.new, fun b xs e => by have q := R.gr.tup b xs e; rw [upd_ne (ne_of q h (fun z => st_no (o := .lst vs) rfl xs z.symm))]; exact q⟩, R.len, R.vars, fun i hi => ?_, R.dis⟩
  · exact (R.wd.sub b u q).upd (ne_of_none q R.wd.tn) fun xs z => by rw [h] at z; first | exact st_no rfl xs (Option.some.inj z) | cases z
  · rw [upd_ne n]; exact R.gr.keep b u q n hs
  · obtain ⟨d', p, b1, b2, c, c0, ne, oa⟩ := R.own i hi
    exact ⟨d', p, b1, b2, c, c0, ne, oa.grow (Same.refl _) fun u z => by rw [upd_ne ne]; exact z⟩
end
section
variable (K : PySem.W.Frag) (mg : Str → Option Value) (r : Addr) (X : Cx) (E : XK) (O On Ol : List Nat)
def PostS (Hs0 H0 Hs : Hp) (res : RS) (D : Ends) : Prop := match res with
  | .nx env' tp' => ∀ σ' Hs' H', Same Hs Hs' → Rel K mg r On Hs0 H0 Hs' H' σ' env' tp' → D.nx σ' H'
  | .rt d tp' => ∀ v Hs' H', Grow r Hs0 H0 Hs' H' → Wd K mg r Hs' H' tp' → RepD K mg r Hs' v d → D.rt v H'
  | .bk env' tp' => ∀ σ' Hs' H', Same Hs Hs' → Rel K mg r Ol Hs0 H0 Hs' H' σ' env' tp' → D.bk σ' H'
  | .ct env' tp' => ∀ σ' Hs' H', Same Hs Hs' → Rel K mg r Ol Hs0 H0 Hs' H' σ' env' tp' → D.ct σ' H'
  | .exn c fs tp' => ∀ cv dx Hs' H', Grow r Hs0 H0 Hs' H' → Wd K mg r Hs' H' tp' → mg c = some cv → ExD K mg r Hs' fs dx → E cv dx H'
  | .stuck => False
structure GS (st : Stmt) (t : TS) (m : SS) : Prop where
  pe : PS X st t
  snd : ∀ Hs0 H0 Hs H σ env tp D, Rel K mg r O Hs0 H0 Hs H σ env tp → PostS K mg r E On Ol Hs0 H0 Hs (m env tp) D → t D σ H
structure GSs (st : List Stmt) (t : TS) (m : SS) : Prop where
  pe : PSs X st t
  snd : ∀ Hs0 H0 Hs H σ env tp D, Rel K mg r O Hs0 H0 Hs H σ env tp → PostS K mg r E On Ol Hs0 H0 Hs (m env tp) D → t D σ H
end
section
variable {K : PySem.W.Frag} {mg : Str → Option Value} {r : Addr} {X : Cx} {E : XK} {O O1 On Ol : List Nat} {e a b : Expr} {es : List Expr} {pos : Pos} {t ta tb : TE} {tt : TT} {ts : TA} {s1 : Stmt} {ss : List Stmt} {u u1 u2 : TS}
theorem PostS.shift {Hs0 H0 Hs Hs1 : Hp} {res : RS} {D : Ends} (e : Same Hs Hs1) (h : PostS K mg r E On Ol Hs0 H0 Hs res D) : PostS K mg r E On Ol Hs0 H0 Hs1 res D := by
  cases res with
  | nx env tp => exact fun σ Hs' H' e' R => h σ Hs' H' (e.trans e') R
  | bk env tp => exact fun σ Hs' H' e' R => h σ Hs' H' (e.trans e') R
  | ct env tp => exact fun σ Hs' H' e' R => h σ Hs' H' (e.trans e') R
  | _ => exact h
/-- an expression's value, then the rest of a statement -/
theorem PostS.bind {β α : Type} {R1 : Hp → Hp → β → α → Prop} {Hs0 H0 Hs H : Hp} {σ : L2.St} {env : DEnv} {tp : List D} {res : RE α} {k : α → List D → RS} {D : Ends} {Q1 : β → Hp → Prop} (R : Rel K mg r O Hs0 H0 Hs H σ env tp) (h : PostS K mg r E On Ol Hs0 H0 Hs (res.bindS k) D)
    (step : ∀ v Hs1 H1 d tp1, res = .ok d tp1 → Grow r Hs H Hs1 H1 → Wd K mg r Hs1 H1 tp1 → Rel K mg r O Hs0 H0 Hs1 H1 σ env tp1 → R1 Hs1 H1 v d → PostS K mg r E On Ol Hs0 H0 Hs1 (k d tp1) D → Q1 v H1) : Post K mg r R1 E Hs H res Q1 := by
  cases res with
  | ok d tp1 => exact fun v Hs1 H1 g w q => step v Hs1 H1 d tp1 rfl g w (R.grow g w) q (PostS.shift g.ex h)
  | exn c fs tp1 => exact fun cv dx Hs1 H1 g w m x => h cv dx Hs1 H1 (R.gr.trans g) w m x
  | stuck => exact h
theorem PostS.weak {On' : List Nat} {Hs0 H0 Hs : Hp} {res : RS} {D : Ends} (h : PostS K mg r E On' Ol Hs0 H0 Hs res D) (hO : ∀ i ∈ On', i ∈ On) : PostS K mg r E On Ol Hs0 H0 Hs res D := by
  cases res with
  | nx env tp =>
    intro σ Hs1 H e1 R
    obtain ⟨Hs', e, R'⟩ := R.freeze hO
    exact h σ Hs' H (e1.trans e) R'
  | _ => exact h
/-- ahead of it some owned objects come to stand still -/
theorem GS.pre {O' : List Nat} {m : SS} (hO : ∀ i ∈ O', i ∈ O) (h : GS K mg r X E O' On Ol s1 u m) : GS K mg r X E O On Ol s1 u m :=
  ⟨h.pe, fun Hs0 H0 Hs H σ env tp D R P => by
    obtain ⟨Hs', e, R'⟩ := R.freeze hO
    exact h.snd _ _ _ _ _ _ _ _ R' (P.shift e)⟩
/-- behind it -/
theorem GS.post {On' : List Nat} {m : SS} (hO : ∀ i ∈ On', i ∈ On) (h : GS K mg r X E O On Ol s1 u m) : GS K mg r X E O On' Ol s1 u m :=
  ⟨h.pe, fun Hs0 H0 Hs H σ env tp D R P => h.snd _ _ _ _ _ _ _ _ R (P.weak hO)⟩
theorem GSs.post {On' : List Nat} {m : SS} (hO : ∀ i ∈ On', i ∈ On) (h : GSs K mg r X E O On Ol ss u m) : GSs K mg r X E O On' Ol ss u m :=
  ⟨h.pe, fun Hs0 H0 Hs H σ env tp D R P => h.snd _ _ _ _ _ _ _ _ R (P.weak hO)⟩
def skipS : SS := fun env tp => .nx env tp
def seqS (m n : SS) : SS := fun env tp => match m env tp with
  | .nx e tp1 => n e tp1
  | x => x
theorem gss_nil : GSs K mg r X E O O Ol [] tNext skipS := ⟨pss_nil, fun Hs0 H0 Hs H σ env tp D R P => P _ _ _ (Same.refl _) R⟩
theorem gss_cons {m n : SS} (h1 : GS K mg r X E O O1 Ol s1 u1 m) (h2 : GSs K mg r X E O1 On Ol ss u2 n) : GSs K mg r X E O On Ol (s1 :: ss) (tSeq u1 u2) (seqS m n) := by
  refine ⟨pss_cons h1.pe h2.pe, fun Hs0 H0 Hs H σ env tp D R P => ?_⟩
  refine h1.snd _ _ _ _ _ _ _ _ R ?_
  unfold seqS at P
  cases q : m env tp with
  | nx e tp1 => rw [q] at P; exact fun σ' Hs' H' e' R' => h2.snd _ _ _ _ _ _ _ _ R' (P.shift e')
  | rt d tp1 => rw [q] at P; exact P
  | bk e tp1 => rw [q] at P; exact P
  | ct e tp1 => rw [q] at P; exact P
  | exn c fs tp1 => rw [q] at P; exact P
  | stuck => rw [q] at P; exact P
theorem gss_one {m : SS} (h1 : GS K mg r X E O On Ol s1 u1 m) : GSs K mg r X E O On Ol [s1] u1 m := ⟨pss_one h1.pe, h1.snd⟩
def setS (i : Nat) (m : SE D) : SS := fun env tp => (m env tp).bindS fun d tp1 => .nx (env.set i (some d)) tp1
def retS (m : SE D) : SS := fun env tp => (m env tp).bindS fun d tp1 => .rt d tp1
def dropS (m : SE D) : SS := fun env tp => (m env tp).bindS fun _ tp1 => .nx env tp1
def ifS (c : SE Bool) (m n : SS) : SS := fun env tp => (c env tp).bindS fun b tp1 => if b = true then m env tp1 else n env tp1
theorem setS_sound {m : SE D} (i : Nat) (h : ∀ Hs0 H0 Hs H σ env tp Q, Rel K mg r O Hs0 H0 Hs H σ env tp → PostE K mg r E Hs H (m env tp) Q → t σ H Q) :
    ∀ Hs0 H0 Hs H σ env tp D, Rel K mg r O Hs0 H0 Hs H σ env tp → PostS K mg r E (O.filter (· != i)) Ol Hs0 H0 Hs (setS i m env tp) D → tAsg t (gName i) D σ H := by
  intro Hs0 H0 Hs H σ env tp D R P
  exact h _ _ _ _ _ _ _ _ R (PostS.bind R P fun v Hs1 H1 d tp1 _ g w R1 rv P1 => P1 _ _ _ (Same.refl _) (R1.set i rv))
def setFS (i : Nat) (m : SE D) : SS := fun env tp => (m env tp).bindS fun d tp1 => if i < env.length then .nx (env.set i (some d)) tp1 else .stuck
theorem Rel.new_ne {Hs0 H0 Hs H : Hp} {σ : L2.St} {env : DEnv} {tp : List D} {p : Addr} (R : Rel K mg r O Hs0 H0 Hs H σ env tp) (h1 : H p = none) (h3 : p ≠ r) : H0 p = none ∧ ∀ j ∈ O, σ[j]? ≠ some (some (.ref p)) := by
  refine ⟨?_, fun j hj q => ?_⟩
  · exact R.gr.free p h1
  · obtain ⟨d', p', b1, b2, c, c0, ne, oa⟩ := R.own j hj
    rw [q] at b2; cases b2
    obtain ⟨o, ho⟩ := oa.there
    rw [ho] at h1; cases h1
theorem setF_sound {m : SE D} (i : Nat) (h : ∀ Hs0 H0 Hs H σ env tp Q, Rel K mg r O Hs0 H0 Hs H σ env tp → Post K mg r (Fresh K mg r H) E Hs H (m env tp) Q → t σ H Q) :
    ∀ Hs0 H0 Hs H σ env tp D, Rel K mg r O Hs0 H0 Hs H σ env tp → PostS K mg r E (i :: O.filter (· != i)) Ol Hs0 H0 Hs (setFS i m env tp) D → tAsg t (gName i) D σ H := by
  intro Hs0 H0 Hs H σ env tp D R P
  refine h _ _ _ _ _ _ _ _ R (PostS.bind R P fun v Hs1 H1 d tp1 _ g w R1 rv P1 => ?_)
  obtain ⟨p, rfl, h1, h2, h3, h4⟩ := rv
  split at P1
  · rename_i hl
    obtain ⟨n1, n2⟩ := R.new_ne h1 h3
    exact P1 _ _ _ (Same.refl _) (R1.setF i hl n1 h2 h3 h4 n2)
  · exact P1.elim
theorem gs_set {m : SE D} (i : Nat) {x : Str} {pos' : Pos} (hN : X.N.Nodup) (h : GE K mg r X O E e t m) (hi : X.N[i]? = some x := by rfl) (hx : Loc X.env.scope x := by first | exact Or.inl rfl | exact Or.inr rfl) (hs : swapsWith e (some (.Name x pos')) pos.line X.env = pure false := by rfl)
    (hf : X.fn x = true ∨ X.env.scope.names.lookup x = some .local := by first | exact .inl rfl | exact .inr rfl) : GS K mg r X E O (O.filter (· != i)) Ol (.Assign [.Name x pos'] e pos) (tAsg t (gName i)) (setS i m) :=
  ⟨ps_set hN hi hx h.pe hs hf, setS_sound i h.snd⟩
theorem gs_setF {m : SE D} (i : Nat) {x : Str} {pos' : Pos} (hN : X.N.Nodup) (h : GF K mg r X O E e t m) (hi : X.N[i]? = some x := by rfl) (hx : Loc X.env.scope x := by first | exact Or.inl rfl | exact Or.inr rfl) (hs : swapsWith e (some (.Name x pos')) pos.line X.env = pure false := by rfl)
    (hf : X.fn x = true ∨ X.env.scope.names.lookup x = some .local := by first | exact .inl rfl | exact .inr rfl) : GS K mg r X E O (i :: O.filter (· != i)) Ol (.Assign [.Name x pos'] e pos) (tAsg t (gName i)) (setFS i m) :=
  ⟨ps_set hN hi hx h.pe hs hf, setF_sound i h.snd⟩
theorem gs_ret {m : SE D} (h : GE K mg r X O E e t m) : GS K mg r X E O On Ol (.Return (some e) pos) (tRet t) (retS m) :=
  ⟨ps_ret h.pe, fun Hs0 H0 Hs H σ env tp D R P => h.snd _ _ _ _ _ _ _ _ R (PostS.bind R P fun v Hs1 H1 d tp1 _ g w R1 rv P1 => P1 v Hs1 H1 R1.gr w rv)⟩
/-- a slot's own object is handed back -/
theorem gs_retO (i : Nat) {x : Str} (hO : i ∈ O) (hN : X.N[i]? = some x := by rfl) {p2 : Pos} (hv : Vis X.env.scope x := by first | exact Or.inl rfl | exact Or.inr (Or.inl rfl) | exact Or.inr (Or.inr rfl)) (hd : (x == ("__debug__" : Str)) = false := by decide)
    (hcd : (x == ("__classdict__" : Str)) = false := by decide) : GS K mg r X E O On Ol (.Return (some (.Name x p2)) pos) (tRet (tVar i)) (retS (vE i)) :=
  GS.pre (O' := []) (fun _ h => nomatch h) (gs_ret (ge_var i (by simp) hN hv hd hcd))
theorem gs_drop {m : SE D} (h : GE K mg r X O E e t m) (hs : swapsWith e none pos.line X.env = pure false := by rfl) : GS K mg r X E O O Ol (.Expr e pos) (tDrop t) (dropS m) :=
  ⟨ps_expr h.pe hs, fun Hs0 H0 Hs H σ env tp D R P => h.snd _ _ _ _ _ _ _ _ R (PostS.bind R P fun v Hs1 H1 d tp1 _ g w R1 rv P1 => P1 _ _ _ (Same.refl _) R1)⟩
theorem gs_never : GS K mg r X E O On Ol s1 tNever (fun _ _ => .stuck) := ⟨ps_never, fun Hs0 H0 Hs H σ env tp D R P => P⟩
theorem gs_if {mc : SE Bool} {m n : SS} {bs : List Stmt} (hc : GT K mg r X O E e tt mc) (h1 : GSs K mg r X E O On Ol ss u1 m) (h2 : GSs K mg r X E O On Ol bs u2 n) : GS K mg r X E O On Ol (.If e ss bs pos) (tIfS tt u1 u2) (ifS mc m n) := by
  refine ⟨ps_if hc.pe h1.pe h2.pe, fun Hs0 H0 Hs H σ env tp D R P => ?_⟩
  refine hc.snd _ _ _ _ _ _ _ _ R (PostS.bind R P fun v Hs1 H1 d tp1 _ g w R1 rv P1 => ?_)
  subst rv
  cases v with
  | true => exact iteT (h1.snd _ _ _ _ _ _ _ _ R1 P1)
  | false => exact iteF (h2.snd _ _ _ _ _ _ _ _ R1 P1)
def appS (i : Nat) (m : SE D) : SS := fun env tp => match env[i]? with
  | some (some (.lst ds)) => (m env tp).bindS fun d tp1 => if ds.length < sizeLine then .nx (env.set i (some (.lst (ds ++ [d])))) tp1 else .stuck
  | _ => .stuck
def tixE (ma mb : SE D) : SE D := fun env tp => (ma env tp).bind fun d tp1 => match d with
  | .tape => (mb env tp1).bind fun e tp2 => match e with
    | .int i => RE.of (atI tp2 i) tp2
    | _ => .stuck
  | _ => .stuck
theorem ge_tix {ma mb : SE D} (ha : GO K mg r X O E a ta ma) (hb : GO K mg r X O E b tb mb) (hs : PlainIx b := by exact fun _ _ => rfl) (hK : X.K = K := by rfl) : GE K mg r X O E (.Subscript a b pos) (tOp (rIx K) ta tb) (tixE ma mb) := by
  subst hK
  refine ⟨pe_ix ix_seq ha.pe hb.pe hs, fun Hs0 H0 Hs H σ env tp Q R P => ?_⟩
  refine ha.snd _ _ _ _ _ _ _ _ R (Post.bind P fun v Hs1 H1 d tp1 _ g w rv P1 => ?_)
  cases d with
  | tape =>
    refine hb.snd _ _ _ _ _ _ _ _ (R.grow g w) (Post.bind P1 fun u Hs2 H2 e tp2 _ g2 w2 ru P2 => ?_)
    cases e with
    | int i =>
      obtain ⟨z, hz, k⟩ := Post.ok_of P2
      obtain ⟨vs, h1, h2⟩ := w2.tH
      obtain ⟨y, h3, h4⟩ := atI_rep h2 hz
      exact .inl ⟨r, vs, i, y, repT_tape rv, repT_int ru, .of h1, h3, k _ _ _ (Grow.refl _ _) w2 h4⟩
    | _ => exact P2.elim
  | _ => exact P1.elim
def tsetS (j : Nat) (ma mi m : SE D) : SS := fun env tp => (m env tp).bindS fun d tp1 => (ma env tp1).bindS fun o tp2 => (mi env tp2).bindS fun i tp3 => match o, i with
  | .tape, .int k => if ixN tp3.length k = some j then .nx env (tp3.set j d) else .stuck
  | _, _ => .stuck
theorem gs_tset {ma mi m : SE D} (j : Nat) {p1 : Pos} (h : GE K mg r X O E e t m) (ha : GO K mg r X O E a ta ma) (hb : GO K mg r X O E b tb mi)
    (hg : ∀ v, assign (.Subscript a b p1) X.env v = (do
      let ov ← holding [v] (eval a X.env)
      let iv ← holding [v, ov] (eval b X.env)
      standAt p1
      holding [v, ov, iv] (setItem ov iv v)
      release [v, ov, iv] []) := by intro _; rfl)
    (hs : swapsWithSole [.Subscript a b p1] e pos.line X.env = pure false := by rfl) (hw : swappedStores [.Subscript a b p1] e X.env = pure none := by rfl)
    (h1 : (assignEach [.Subscript a b p1] X.env).map (·.2) = [assign (.Subscript a b p1) X.env] := by rfl) :
    GS K mg r X E O O Ol (.Assign [.Subscript a b p1] e pos) (tAsg t (gSub ta tb rSetL)) (tsetS j ma mi m) := by
  refine ⟨ps_asg h.pe (pg_sub ha.pe hb.pe set_list hg) hs hw h1, fun Hs0 H0 Hs H σ env tp D R P => ?_⟩
  refine h.snd _ _ _ _ _ _ _ _ R (PostS.bind R P fun v Hs1 H1 d tp1 _ g w R1 rv P1 => ?_)
  refine ha.snd _ _ _ _ _ _ _ _ R1 (PostS.bind R1 P1 fun o Hs2 H2 od tp2 _ g2 w2 R2 ro P2 => ?_)
  refine hb.snd _ _ _ _ _ _ _ _ R2 (PostS.bind R2 P2 fun i Hs3 H3 id tp3 _ g3 w3 R3 ri P3 => ?_)
  split at P3
  · split at P3
    · rename_i q
      obtain ⟨vs, h1, h2⟩ := w3.tH
      refine ⟨r, vs, _, j, repT_tape ro, repT_int ri, h1, by rw [h2.length]; exact q, ?_⟩
      exact P3 _ _ _ (Same.refl _) (R3.tape h1 h2 (rv.mono (g2.ex.trans g3.ex)))
    · exact P3.elim
  · exact P3.elim
def setAll {α : Type} : List (Option α) → List Nat → List α → List (Option α)
  | s, i :: is, v :: vs => setAll (s.set i (some v)) is vs
  | s, _, _ => s
/-- the target of a loop: the slots that are set -/
structure GG (K : PySem.W.Frag) (mg : Str → Option Value) (r : Addr) (X : Cx) (tg : Expr) (g : TG) (is : List Nat) (f : D → Option (List D)) : Prop where
  pe : PG X tg g
  snd : ∀ v d ds Hs H tp σ (Q : L2.St → Hp → Prop), Wd K mg r Hs H tp → RepD K mg r Hs v d → f d = some ds → (∀ vs, RepDs K mg r Hs vs ds → vs.length = is.length → Q (setAll σ is vs) H) → g v σ H Q
def t1 : D → Option (List D) := fun d => some [d]
def tN (n : Nat) : D → Option (List D)
  | .tup ds => if ds.length = n then some ds else none
  | _ => none
theorem gg_name (i : Nat) {x : Str} (hN : X.N.Nodup) (hi : X.N[i]? = some x := by rfl) (hx : Loc X.env.scope x := by first | exact Or.inl rfl | exact Or.inr rfl) (hf : X.fn x = true ∨ X.env.scope.names.lookup x = some .local := by first | exact .inl rfl | exact .inr rfl) :
    GG K mg r X (.Name x pos) (gName i) [i] t1 :=
  ⟨pg_name hN hi hx hf, fun v d ds Hs H tp σ Q w rv hf q => by
    cases hf
    exact q [v] (.cons rv .nil) rfl⟩
structure GGs (K : PySem.W.Frag) (mg : Str → Option Value) (r : Addr) (X : Cx) (tg : List Expr) (g : TGs) (is : List Nat) : Prop where
  pe : PGs X tg g
  snd : ∀ vs σ H (Q : L2.St → Hp → Prop), vs.length = is.length → Q (setAll σ is vs) H → g vs σ H Q
theorem ggs_nil : GGs K mg r X [] gNil [] := ⟨pgs_nil, fun vs σ H Q hl q => by
  cases vs with
  | nil => exact ⟨rfl, q⟩
  | cons _ _ => cases hl⟩
theorem ggs_cons (i : Nat) {is : List Nat} {x : Str} {g : TGs} (hN : X.N.Nodup) (h : GGs K mg r X es g is) (hi : X.N[i]? = some x := by rfl) (hx : Loc X.env.scope x := by first | exact Or.inl rfl | exact Or.inr rfl) (hf : X.fn x = true ∨ X.env.scope.names.lookup x = some .local := by first | exact .inl rfl | exact .inr rfl)
    (hs : (assignEach (.Name x pos :: es) X.env).map (·.2) = assign (.Name x pos) X.env :: (assignEach es X.env).map (·.2) := by rfl) : GGs K mg r X (.Name x pos :: es) (gCons (gName i) g) (i :: is) :=
  ⟨pgs_cons (pg_name hN hi hx hf) h.pe hs, fun vs σ H Q hl q => by
    cases vs with
    | nil => cases hl
    | cons v vs => exact ⟨v, vs, rfl, h.snd vs _ H Q (by simpa using hl) q⟩⟩
theorem gg_tup {is : List Nat} {g : TGs} {k : Nat} {n : Nat} (hc : X.calm = true) (h : GGs K mg r X es g is) (hn : is.length = n) (hK : X.K = K := by rfl) (hn1 : (assignEach es X.env).length = n := by rfl) (hst : (assignEach es X.env).findIdx? (·.1) = none := by rfl) : GG K mg r X (.Tuple es k pos) (gTup K n g) is (tN n) := by
  subst hK
  refine ⟨pg_tup hc h.pe hn1 hst, fun v d ds Hs H tp σ Q w rv hf q => ?_⟩
  cases d with
  | tup xs =>
    have hf : (if xs.length = n then some xs else none) = some ds := hf
    split at hf
    · rename_i hl
      cases hf
      cases rv with
      | tup h1 h2 => exact ⟨_, _, rfl, .of (w.sub _ _ h1).tup, by rw [h2.length]; exact hl, h.snd _ σ H Q (by rw [h2.length, hn]; exact hl) (q _ h2 (by rw [h2.length, hn]; exact hl))⟩
    · cases hf
  | _ => cases hf
theorem filt_id {O : List Nat} {i : Nat} (h : i ∉ O) : O.filter (· != i) = O := List.filter_eq_self.mpr fun a ha => by
  have : a ≠ i := fun e => h (e ▸ ha)
  simpa using this
theorem rel_setAll {Hs0 H0 Hs H : Hp} {tp : List D} : ∀ (is : List Nat) (σ : L2.St) (env : DEnv) (vs : List V) (ds : List D), Rel K mg r O Hs0 H0 Hs H σ env tp → (∀ i ∈ is, i ∉ O) → RepDs K mg r Hs vs ds → vs.length = is.length → Rel K mg r O Hs0 H0 Hs H (setAll σ is vs) (setAll env is ds) tp
  | [], σ, env, vs, ds, R, _, h, hl => by
    cases vs with
    | nil => cases h; exact R
    | cons _ _ => cases hl
  | i :: is, σ, env, vs, ds, R, hn, h, hl => by
    cases h with
    | nil => cases hl
    | cons h1 h2 =>
      have R1 := R.set i h1
      rw [filt_id (hn i List.mem_cons_self)] at R1
      exact rel_setAll is _ _ _ _ R1 (fun j hj => hn j (List.mem_cons_of_mem _ hj)) h2 (by simpa using hl)
def WalksD (K : PySem.W.Frag) (mg : Str → Option Value) (r : Addr) (J : It) (Hs1 : Hp) (items : List D) : Prop :=
  ∃ (Gd : Hp → Prop) (Y : Nat → Hp → V → Hp → Prop), Walk J items.length Gd Y ∧ (∀ Hs H, Same Hs1 Hs → Same Hs H → Gd H) ∧
    ∀ i Hs H tp x H', i < items.length → Same Hs1 Hs → Wd K mg r Hs H tp → Y i H x H' → ∃ Hs' d, Grow r Hs H Hs' H' ∧ Wd K mg r Hs' H' tp ∧ items[i]? = some d ∧ RepD K mg r Hs' x d
structure GI (K : PySem.W.Frag) (mg : Str → Option Value) (r : Addr) (X : Cx) (O : List Nat) (E : XK) (tg : Expr) (e : Expr) (wi : TI) (m : SE (List D)) : Prop where
  pe : PI X tg e wi
  snd : ∀ Hs0 H0 Hs H σ env tp Q, Rel K mg r O Hs0 H0 Hs H σ env tp → Post K mg r (fun Hs _ J items => WalksD K mg r J Hs items) E Hs H (m env tp) Q → wi σ H Q
theorem pi_or {tg : Expr} {w1 w2 : TI} (h1 : PI X tg e w1) (h2 : PI X tg e w2) : PI X tg e (fun σ H R => w1 σ H R ∨ w2 σ H R) :=
  ⟨fun pins s σ H R I h => h.elim (h1.run pins s σ H R I) (h2.run pins s σ H R I)⟩
/-- the items of a list, a tuple, a text -/
def seqD : D → Option (List D)
  | .lst xs => some xs
  | .tup xs => some xs
  | .scr ns => some (ns.map .int)
  | .str s => some (s.cps.toList.map fun c => .str ⟨#[c]⟩)
  | _ => none
def seqI (m : SE D) : SE (List D) := fun env tp => (m env tp).bind fun d tp1 => RE.of (seqD d) tp1
abbrev iSeq (K : PySem.W.Frag) (t : TE) : TI := fun σ H R => iList K t σ H R ∨ iTup K t σ H R ∨ iStr t σ H R
theorem walks_list {K : PySem.W.Frag} {mg : Str → Option Value} {r : Addr} {Hs : Hp} {a : Addr} {vs : List V} {ds : List D} (h : SqL K Hs a vs) (hr : RepDs K mg r Hs vs ds) : WalksD K mg r (Itl K a) Hs ds := by
  refine ⟨_, _, by rw [← hr.length]; exact walk_list (K := K) (a := a) (xs := vs), fun Hs2 H e1 e2 => Same.seq e2 (Same.seq e1 h), fun i Hs2 H tp x H' hi e w y => ?_⟩
  obtain ⟨rfl, y⟩ := y
  obtain ⟨d, h1, h2⟩ := hr.get y
  exact ⟨Hs2, d, Grow.refl _ _, w, h1, h2.mono e⟩
theorem sqt_mono {K : PySem.W.Frag} {H H' : Hp} {a : Addr} {xs : List V} (e : Same H H') (h : SqT K H a xs) : SqT K H' a xs := e.sqt h
theorem walks_tup {K : PySem.W.Frag} {mg : Str → Option Value} {r : Addr} {Hs : Hp} {a : Addr} {vs : List V} {ds : List D} (h : SqT K Hs a vs) (hr : RepDs K mg r Hs vs ds) : WalksD K mg r (Itt K a) Hs ds := by
  refine ⟨_, _, by rw [← hr.length]; exact walk_tup (K := K) (a := a) (xs := vs), fun Hs2 H e1 e2 => sqt_mono e2 (sqt_mono e1 h), fun i Hs2 H tp x H' hi e w y => ?_⟩
  obtain ⟨rfl, y⟩ := y
  obtain ⟨d, h1, h2⟩ := hr.get y
  exact ⟨Hs2, d, Grow.refl _ _, w, h1, h2.mono e⟩
theorem walks_str {K : PySem.W.Frag} {mg : Str → Option Value} {r : Addr} {Hs : Hp} {z : Str} : WalksD K mg r (Its z) Hs (z.cps.toList.map fun c => .str ⟨#[c]⟩) := by
  refine ⟨_, _, by rw [List.length_map, Array.length_toList]; exact walk_str (z := z), fun Hs2 H e1 e2 => trivial, fun i Hs2 H tp x H' hi e w y => ?_⟩
  obtain ⟨rfl, c, y, rfl⟩ := y
  refine ⟨Hs2, .str ⟨#[c]⟩, Grow.refl _ _, w, ?_, .str _⟩
  rw [List.getElem?_map, Array.getElem?_toList, y]
  rfl
theorem gi_seq {tg : Expr} {m : SE D} (h : GE K mg r X O E e t m) (hK : X.K = K := by rfl) : GI K mg r X O E tg e (iSeq K t) (seqI m) := by
  subst hK
  refine ⟨pi_or (pi_list h.pe) (pi_or (pi_tup h.pe) (pi_str h.pe)), fun Hs0 H0 Hs H σ env tp Q R P => ?_⟩
  unfold seqI at P
  cases q : m env tp with
  | stuck => rw [q] at P; exact P.elim
  | exn c fs tp1 =>
    rw [q] at P
    refine .inl (h.snd _ _ _ _ _ _ _ _ R ?_)
    rw [q]; exact P
  | ok d tp1 =>
    rw [q] at P
    obtain ⟨items, hz, k⟩ := Post.ok_of (show Post X.K mg r (fun Hs _ J items => WalksD X.K mg r J Hs items) E Hs H (RE.of (seqD d) tp1) Q from P)
    cases d with
    | lst xs =>
      cases hz
      refine .inl (h.snd _ _ _ _ _ _ _ _ R ?_)
      rw [q]
      intro v Hs1 H1 g w rv
      cases rv with
      | lst h1 h2 => exact ⟨_, rfl, ⟨_, .of (w.sub _ _ h1).lst⟩, k _ Hs1 H1 g w (walks_list (.of h1) h2)⟩
    | scr ns =>
      cases hz
      refine .inl (h.snd _ _ _ _ _ _ _ _ R ?_)
      rw [q]
      intro v Hs1 H1 g w rv
      cases rv with
      | scr h1 => exact ⟨_, rfl, ⟨_, Same.seq w.sub h1⟩, k _ Hs1 H1 g w (walks_list h1 (RepDs.ints ns))⟩
    | tup xs =>
      cases hz
      refine .inr (.inl (h.snd _ _ _ _ _ _ _ _ R ?_))
      rw [q]
      intro v Hs1 H1 g w rv
      cases rv with
      | tup h1 h2 => exact ⟨_, rfl, ⟨_, .of (w.sub _ _ h1).tup⟩, k _ Hs1 H1 g w (walks_tup (.of h1) h2)⟩
    | str s =>
      cases hz
      refine .inr (.inr (h.snd _ _ _ _ _ _ _ _ R ?_))
      rw [q]
      intro v Hs1 H1 g w rv
      cases rv
      exact ⟨_, rfl, k _ Hs1 H1 g w walks_str⟩
    | _ => cases hz
/-- range -/
def cRg (i : Int) : Bool := decide (-(2 ^ 62) ≤ i) && decide (i < 2 ^ 62)
theorem cRg_ok {i : Int} (h : cRg i = true) : -(2 ^ 62) ≤ i ∧ i < 2 ^ 62 := by
  have h := Bool.and_eq_true_iff.mp h
  exact ⟨of_decide_eq_true h.1, of_decide_eq_true h.2⟩
def rangeL (lo hi : Int) : List D := (List.range (hi - lo).toNat).map fun (i : Nat) => .int (lo + i)
def range1D : List D → Option (List D)
  | [.int j] => if cRg j then some (rangeL 0 j) else none
  | _ => none
def range2D : List D → Option (List D)
  | [.int i, .int j] => if cRg i && cRg j then some (rangeL i j) else none
  | _ => none
def rangeI (f : List D → Option (List D)) (ms : SE (List D)) : SE (List D) := fun env tp => (ms env tp).bind fun ds tp1 => RE.of (f ds) tp1
theorem walks_range {K : PySem.W.Frag} {mg : Str → Option Value} {r : Addr} {Hs : Hp} {lo hi : Int} : WalksD K mg r (Itr lo (hi - lo).toNat) Hs (rangeL lo hi) := by
  have hl : (rangeL lo hi).length = (hi - lo).toNat := by unfold rangeL; rw [List.length_map, List.length_range]
  refine ⟨_, _, by rw [hl]; exact walk_range, fun Hs2 H e1 e2 => trivial, fun i Hs2 H tp x H' hi e w y => ?_⟩
  obtain ⟨rfl, rfl⟩ := y
  refine ⟨Hs2, .int (lo + i), Grow.refl _ _, w, ?_, .int _⟩
  rw [hl] at hi
  unfold rangeL
  rw [List.getElem?_map, List.getElem?_range hi]
  rfl
theorem gi_range1 {tg : Expr} {m : SE (List D)} {p : Pos} (hm : X.mg "range" = none) (h : GAO K mg r X O E [e] ts m) (hg : Gl X "range" := by rfl) (hs : starEach [e] X.env = [(false, eval e X.env)] := by rfl) : GI K mg r X O E tg (.Call (.Name "range" p) [e] [] pos) (iRng1 ts) (rangeI range1D m) := by
  refine ⟨pi_range1 hg hm h.pe hs, fun Hs0 H0 Hs H σ env tp Q R P => ?_⟩
  refine h.snd _ _ _ _ _ _ _ _ R (Post.bind P fun vs Hs1 H1 ds tp1 _ g w rv P1 => ?_)
  obtain ⟨items, hz, k⟩ := Post.ok_of P1
  unfold range1D at hz
  split at hz
  · split at hz
    · rename_i c
      cases hz
      obtain ⟨x, rfl, h1⟩ := paired1 rv
      have c := cRg_ok c
      refine ⟨_, by rw [repT_int h1], c.1, c.2, ?_⟩
      refine k _ Hs1 H1 (Grow.refl _ _) w ?_
      have q := fun j => walks_range (K := K) (mg := mg) (r := r) (Hs := Hs1) (lo := 0) (hi := j)
      simp only [Int.sub_zero] at q
      exact q _
    · cases hz
  · cases hz
theorem gi_range2 {tg e2 : Expr} {m : SE (List D)} {p : Pos} (hm : X.mg "range" = none) (h : GAO K mg r X O E [e, e2] ts m) (hg : Gl X "range" := by rfl) (hs : starEach [e, e2] X.env = [(false, eval e X.env), (false, eval e2 X.env)] := by rfl) (hs2 : starEach [e2] X.env = [(false, eval e2 X.env)] := by rfl) :
    GI K mg r X O E tg (.Call (.Name "range" p) [e, e2] [] pos) (iRng2 ts) (rangeI range2D m) := by
  refine ⟨pi_range2 hg hm h.pe hs hs2, fun Hs0 H0 Hs H σ env tp Q R P => ?_⟩
  refine h.snd _ _ _ _ _ _ _ _ R (Post.bind P fun vs Hs1 H1 ds tp1 _ g w rv P1 => ?_)
  obtain ⟨items, hz, k⟩ := Post.ok_of P1
  unfold range2D at hz
  split at hz
  · split at hz
    · rename_i c
      cases hz
      obtain ⟨x, x', rfl, h1, h2⟩ := paired2 rv
      have c := Bool.and_eq_true_iff.mp c
      have c1 := cRg_ok c.1
      have c2 := cRg_ok c.2
      exact ⟨_, _, by rw [repT_int h1, repT_int h2], ⟨c1.1, c1.2, c2.1, c2.2⟩, k _ Hs1 H1 (Grow.refl _ _) w walks_range⟩
    · cases hz
  · cases hz
def forL (tgt : D → Option (List D)) (is : List Nat) (body : SS) : List D → SS
  | [], env, tp => .nx env tp
  | d :: ds, env, tp => match tgt d with
    | some es => (match body (setAll env is es) tp with
      | .nx e t => forL tgt is body ds e t
      | .ct e t => forL tgt is body ds e t
      | .bk e t => .nx e t
      | x => x)
    | none => .stuck
def forS (mi : SE (List D)) (tgt : D → Option (List D)) (is : List Nat) (body : SS) : SS := fun env tp => (mi env tp).bindS fun items tp1 => forL tgt is body items env tp1
theorem gs_for {tg : Expr} {mi : SE (List D)} {wi : TI} {g : TG} {is : List Nat} {tgt : D → Option (List D)} {body : SS} (hp : PassesOwn (model X.prog X.w) X.A X.env X.xe) (hc : X.calm = true) (hi : GI K mg r X O E tg e wi mi) (hg : GG K mg r X tg g is tgt) (hb : GSs K mg r X E O O O ss u body) (hO : ∀ i ∈ is, i ∉ O)
    (hlen : ∀ d ds, tgt d = some ds → ds.length = is.length) (hs : ∀ x, foldedSetIterable e X.env x = pure x := by intro _; rfl) : GS K mg r X E O O Ol (.For tg e ss [] pos) (tFor wi g u) (forS mi tgt is body) := by
  refine ⟨ps_for hp hc hi.pe hg.pe hb.pe hs, fun Hs0 H0 Hs H σ env tp D R P => ?_⟩
  refine hi.snd _ _ _ _ _ _ _ _ R (PostS.bind R P fun J Hs1 H1 items tp1 _ gg w R1 wd P1 => ?_)
  obtain ⟨Gd, Y, wk, hG, hY⟩ := wd
  refine for_it wk (fun i σ H => ∃ Hs env tp, Rel K mg r O Hs0 H0 Hs H σ env tp ∧ Same Hs1 Hs ∧ PostS K mg r E O Ol Hs0 H0 Hs (forL tgt is body (items.drop i) env tp) D) ⟨Hs1, env, tp1, R1, Same.refl _, P1⟩ (fun i σ H _ ⟨Hs2, _, _, R2, e2, _⟩ => hG Hs2 H e2 R2.wd.sub) (fun i x σ H H' hi ⟨Hs2, env2, tp2, R2, e2, P2⟩ y => ?_) (fun σ H ⟨Hs2, env2, tp2, R2, e2, P2⟩ => ?_)
  · obtain ⟨Hs3, d, g3, w3, hd, rd⟩ := hY i Hs2 H tp2 x H' hi e2 R2.wd y
    rw [List.drop_eq_getElem_cons hi] at P2
    have hd' : items[i] = d := by rw [List.getElem?_eq_getElem hi] at hd; exact Option.some.inj hd
    rw [hd'] at P2
    unfold forL at P2
    cases q : tgt d with
    | none => rw [q] at P2; exact P2.elim
    | some es =>
      rw [q] at P2
      simp only at P2
      refine hg.snd x d es Hs3 H' tp2 σ _ w3 rd q fun vs rs hl => ?_
      have R3 := rel_setAll is _ _ _ _ (R2.grow g3 w3) hO rs hl
      refine hb.snd _ _ _ _ _ _ _ _ R3 ?_
      have P2 := P2.shift g3.ex
      have e3 := e2.trans g3.ex
      have again : ∀ {e t}, PostS K mg r E O Ol Hs0 H0 Hs3 (forL tgt is body (items.drop (i + 1)) e t) D → ∀ σ' Hs' H', Same Hs3 Hs' → Rel K mg r O Hs0 H0 Hs' H' σ' e t → ∃ Hs env tp, Rel K mg r O Hs0 H0 Hs H' σ' env tp ∧ Same Hs1 Hs ∧ PostS K mg r E O Ol Hs0 H0 Hs (forL tgt is body (items.drop (i + 1)) env tp) D := fun P σ' Hs' H' e4 R' => ⟨Hs', _, _, R', e3.trans e4, P.shift e4⟩
      cases q2 : body (setAll env2 is es) tp2 with
      | nx e t => rw [q2] at P2; exact again P2
      | ct e t => rw [q2] at P2; exact again P2
      | bk e t => rw [q2] at P2; exact P2
      | rt d t => rw [q2] at P2; exact P2
      | exn c fs t => rw [q2] at P2; exact P2
      | stuck => rw [q2] at P2; exact P2
  · rw [List.drop_length] at P2
    exact P2 _ _ _ (Same.refl _) R2
end
end G
set_option maxHeartbeats 1000000
namespace G
open PySem PySem.Spec PyProof.Rows L2
variable [_root_.G.Wo]
section
variable {K : PySem.W.Frag} {mg : Str → Option Value} {r : Addr} {X : Cx} {E : XK} {O O1 On Ol : List Nat} {e a b : Expr} {es : List Expr} {pos : Pos} {t ta tb : TE} {tt : TT} {ts : TA} {s1 : Stmt} {ss : List Stmt} {u u1 u2 : TS}
def whileF (c : SE Bool) (body : SS) : Nat → SS
  | 0, _, _ => .stuck
  | n + 1, env, tp => (c env tp).bindS fun b tp1 => if b = true then (match body env tp1 with
      | .nx e t => whileF c body n e t
      | .ct e t => whileF c body n e t
      | .bk e t => .nx e t
      | x => x)
    else .nx env tp1
def whileS (n : Nat) (c : SE Bool) (body : SS) : SS := whileF c body n
theorem gs_while (n : Nat) {mc : SE Bool} {body : SS} (hp : PassesOwn (model X.prog X.w) X.A X.env X.xe) (hc : GT K mg r X O E e tt mc) (hb : GSs K mg r X E O O O ss u body) : GS K mg r X E O O Ol (.While e ss [] pos) (tWhile tt u) (whileS n mc body) := by
  refine ⟨ps_while hp hc.pe hb.pe, fun Hs0 H0 Hs H σ env tp D R P => ?_⟩
  refine ⟨fun m σ H => ∃ Hs env tp, Rel K mg r O Hs0 H0 Hs H σ env tp ∧ PostS K mg r E O Ol Hs0 H0 Hs (whileF mc body m env tp) D, ⟨n, Hs, env, tp, R, P⟩, ?_⟩
  rintro m σ1 H1 ⟨Hs1, env1, tp1, R1, P1⟩
  cases m with
  | zero => exact P1.elim
  | succ m =>
    unfold whileF at P1
    refine hc.snd _ _ _ _ _ _ _ _ R1 (PostS.bind R1 P1 fun v Hs2 H2 d tp2 _ g w R2 rv P2 => ?_)
    subst rv
    cases v with
    | false => exact iteF (P2 _ _ _ (Same.refl _) R2)
    | true =>
      refine iteT ⟨fun σ H => ∃ Hs env tp, Rel K mg r O Hs0 H0 Hs H σ env tp ∧ PostS K mg r E O Ol Hs0 H0 Hs (whileF mc body m env tp) D, fun σ' H' q => ⟨m, Nat.lt_succ_self m, q⟩, ?_⟩
      rw [if_pos rfl] at P2
      refine hb.snd _ _ _ _ _ _ _ _ R2 ?_
      have again : ∀ {e t}, PostS K mg r E O Ol Hs0 H0 Hs2 (whileF mc body m e t) D → ∀ σ' Hs' H', Same Hs2 Hs' → Rel K mg r O Hs0 H0 Hs' H' σ' e t → ∃ Hs env tp, Rel K mg r O Hs0 H0 Hs H' σ' env tp ∧ PostS K mg r E O Ol Hs0 H0 Hs (whileF mc body m env tp) D := fun P σ' Hs' H' e4 R' => ⟨Hs', _, _, R', P.shift e4⟩
      cases q2 : body env1 tp2 with
      | nx e t => rw [q2] at P2; exact again P2
      | ct e t => rw [q2] at P2; exact again P2
      | bk e t => rw [q2] at P2; exact P2
      | rt d t => rw [q2] at P2; exact P2
      | exn c fs t => rw [q2] at P2; exact P2
      | stuck => rw [q2] at P2; exact P2
def wipeE {α : Type} (σ : List (Option α)) : List Nat → List (Option α)
  | [] => σ
  | v :: vs => (wipeE σ vs).set v none
theorem wipe_eq (σ : L2.St) : ∀ vs : List Nat, wipe σ vs = wipeE σ vs
  | [] => rfl
  | v :: vs => by unfold wipe wipeE; rw [wipe_eq σ vs]
theorem Rel.unset {Hs0 H0 Hs H : Hp} {σ : L2.St} {env : DEnv} {tp : List D} (R : Rel K mg r O Hs0 H0 Hs H σ env tp) (i : Nat) (hi : i ∉ O) : Rel K mg r O Hs0 H0 Hs H (σ.set i none) (env.set i none) tp where
  wd := R.wd
  gr := R.gr
  len := by rw [List.length_set, List.length_set]; exact R.len
  vars := fun j d a n => by
    have ne : j ≠ i := fun q => by
      subst q
      rw [List.getElem?_set] at a
      simp only [if_true] at a
      split at a <;> cases a
    rw [set_gne ne] at a ⊢
    exact R.vars j d a n
  own := fun j hj => by
    have ne : j ≠ i := fun q => hi (q ▸ hj)
    rw [set_gne ne, set_gne ne]
    exact R.own j hj
  dis := fun j l p hj hl a b => by
    rw [set_gne (by rintro rfl; exact hi hj)] at a
    rw [set_gne (by rintro rfl; exact hi hl)] at b
    exact R.dis j l p hj hl a b
theorem Rel.wiped {Hs0 H0 Hs H : Hp} {σ : L2.St} {env : DEnv} {tp : List D} (R : Rel K mg r O Hs0 H0 Hs H σ env tp) : ∀ vs : List Nat, (∀ i ∈ vs, i ∉ O) → Rel K mg r O Hs0 H0 Hs H (wipeE σ vs) (wipeE env vs) tp
  | [], _ => R
  | v :: vs, h => (Rel.wiped R vs fun i hi => h i (List.mem_cons_of_mem _ hi)).unset v (h v List.mem_cons_self)
theorem wipe_get {α : Type} {σ : List (Option α)} {i : Nat} : ∀ {vs : List Nat}, i ∉ vs → (wipeE σ vs)[i]? = σ[i]?
  | [], _ => rfl
  | v :: vs, h => by
    unfold wipeE
    rw [set_gne (by rintro rfl; exact h List.mem_cons_self), wipe_get fun q => h (List.mem_cons_of_mem _ q)]
theorem wipe_len {α : Type} {σ : List (Option α)} : ∀ {vs : List Nat}, (wipeE σ vs).length = σ.length
  | [] => rfl
  | v :: vs => by unfold wipeE; rw [List.length_set, wipe_len]
theorem wipe_none {α : Type} {σ : List (Option α)} {i : Nat} : ∀ {vs : List Nat}, i ∈ vs → (wipeE σ vs)[i]? = some none ∨ (wipeE σ vs)[i]? = none
  | v :: vs, h => by
    unfold wipeE
    by_cases q : i = v
    · subst q
      rw [List.getElem?_set]
      simp only [if_true]
      split
      · exact .inl rfl
      · exact .inr rfl
    · rw [set_gne q]
      rcases List.mem_cons.mp h with z | z
      · exact absurd z q
      · exact wipe_none z
theorem wipe_set {α : Type} {σ : List (Option α)} {i : Nat} {v : Option α} {vs : List Nat} (h : i ∈ vs) : wipeE (σ.set i v) vs = wipeE σ vs := by
  apply List.ext_getElem?
  intro j
  by_cases hj : j ∈ vs
  · have l1 : (wipeE (σ.set i v) vs).length = (wipeE σ vs).length := by rw [wipe_len, wipe_len, List.length_set]
    rcases Nat.lt_or_ge j (wipeE σ vs).length with q | q
    · rcases wipe_none (σ := σ.set i v) hj with a | a
      · rcases wipe_none (σ := σ) hj with b | b
        · rw [a, b]
        · rw [List.getElem?_eq_none_iff] at b; omega
      · rw [List.getElem?_eq_none_iff] at a; omega
    · rw [List.getElem?_eq_none q, List.getElem?_eq_none (by omega)]
  · rw [wipe_get hj, wipe_get hj, set_gne (by rintro rfl; exact hj h)]
theorem wipe_wipe {α : Type} {σ : List (Option α)} {vs : List Nat} : ∀ ws : List Nat, (∀ i ∈ ws, i ∈ vs) → wipeE (wipeE σ ws) vs = wipeE σ vs
  | [], _ => rfl
  | w :: ws, h => by
    show wipeE ((wipeE σ ws).set w none) vs = _
    rw [wipe_set (h w List.mem_cons_self), wipe_wipe ws fun i hi => h i (List.mem_cons_of_mem _ hi)]
theorem wipe_setAll {α : Type} {vs : List Nat} : ∀ (is : List Nat) (σ : List (Option α)) (ws : List α), (∀ i ∈ is, i ∈ vs) → wipeE (setAll σ is ws) vs = wipeE σ vs
  | [], σ, ws, _ => by unfold setAll; rfl
  | i :: is, σ, [], _ => by unfold setAll; rfl
  | i :: is, σ, w :: ws, h => by
    show wipeE (setAll (σ.set i (some w)) is ws) vs = _
    rw [wipe_setAll is _ ws fun j hj => h j (List.mem_cons_of_mem _ hj), wipe_set (h i List.mem_cons_self)]
/-- the items that a comprehension makes -/
def compL (f : D → List D → RE (Option D)) : List D → List D → RE (List D)
  | [], tp => .ok [] tp
  | d :: ds, tp => match f d tp with
    | .ok o tp1 => (match compL f ds tp1 with
      | .ok xs tp2 => .ok (o.toList ++ xs) tp2
      | _ => .stuck)
    | _ => .stuck
def yesT : SE Bool := fun _ tp => .ok true tp
def compTurn1 (tgt : D → Option (List D)) (is : List Nat) (c : SE Bool) (m : SE D) (env : DEnv) (d : D) (tp : List D) : RE (Option D) := match tgt d with
  | some ds => (c (setAll env is ds) tp).bind fun b tp1 => if b = true then (m (setAll env is ds) tp1).bind fun x tp2 => .ok (some x) tp2 else .ok none tp1
  | none => .stuck
def compE (mi : SE (List D)) (vs : List Nat) (tgt : D → Option (List D)) (is : List Nat) (c : SE Bool) (m : SE D) : SE D := fun env tp => (mi env tp).bind fun items tp1 =>
  if items.length ≤ sizeLine then (match compL (compTurn1 tgt is c m (wipeE env vs)) items tp1 with
    | .ok xs tp2 => .ok (.lst xs) tp2
    | _ => .stuck) else .stuck
/-- a clause's tests -/
structure GTs (K : PySem.W.Frag) (mg : Str → Option Value) (r : Addr) (X : Cx) (O : List Nat) (E : XK) (es : List Expr) (t : TT) (m : SE Bool) : Prop where
  pe : PTs X es t
  snd : ∀ Hs0 H0 Hs H σ env tp Q, Rel K mg r O Hs0 H0 Hs H σ env tp → PostB K mg r E Hs H (m env tp) Q → t σ H Q
theorem gts_nil : GTs K mg r X O E [] tYes yesT := ⟨pts_nil, fun Hs0 H0 Hs H σ env tp Q R P => P true Hs H (Grow.refl _ _) R.wd rfl⟩
theorem gts_one {m : SE Bool} (h : GT K mg r X O E e tt m) : GTs K mg r X O E [e] tt m := ⟨pts_one h.pe, h.snd⟩
theorem compL_cons {f : D → List D → RE (Option D)} {d : D} {ds : List D} {tp tpE : List D} {xs : List D} (h : compL f (d :: ds) tp = .ok xs tpE) : ∃ o tp1 xs', f d tp = .ok o tp1 ∧ compL f ds tp1 = .ok xs' tpE ∧ xs = o.toList ++ xs' := by
  unfold compL at h
  cases q : f d tp with
  | ok o tp1 =>
    rw [q] at h
    simp only at h
    cases q2 : compL f ds tp1 with
    | ok xs' tp2 =>
      rw [q2] at h
      simp only [RE.ok.injEq] at h
      exact ⟨o, tp1, xs', rfl, by rw [q2, h.2], h.1.symm⟩
    | _ => rw [q2] at h; cases h
  | _ => rw [q] at h; cases h
theorem Rel.other {Hs0 H0 Hs H : Hp} {σ : L2.St} {env : DEnv} {tp : List D} {p : Addr} {o : HO} (R : Rel K mg r O Hs0 H0 Hs H σ env tp) (hs : Hs p = none) (h0 : H0 p = none) (ne : p ≠ r) (hO : ∀ j ∈ O, σ[j]? ≠ some (some (.ref p))) (nt : ∀ xs : StU, H p ≠ some xs.1 := by (intro xs z; first | (rw [upd_same] at z; exact st_no rfl xs (Option.some.inj z)) | (rename_i zh _; rw [zh] at z; exact st_no rfl xs (Option.some.inj z)) | (exfalso; simp [*] at z; done))) : Rel K mg r O Hs0 H0 Hs (upd H p o) σ env tp := by
  refine ⟨R.wd.write hs ne nt, ⟨fun b u q n hs => ?_, fun b e => R.gr.free b (upd_free e), R.gr.ex, R.gr.new, fun b xs e => by rw [upd_ne (ne_of_none e h0)]; exact R.gr.tup b xs e⟩, R.len, R.vars, fun j hj => ?_, R.dis⟩
  · rw [upd_ne (ne_of_none q h0)]; exact R.gr.keep b u q n hs
  · obtain ⟨d', p', b1, b2, c, c0, n, oa⟩ := R.own j hj
    have np : p' ≠ p := fun z => hO j hj (z ▸ b2)
    exact ⟨d', p', b1, b2, c, c0, n, oa.grow (Same.refl _) fun u z => by rw [upd_ne np]; exact z⟩
theorem Grow.other {Hs H Hs' H' : Hp} {p : Addr} {o : HO} (g : Grow r Hs H Hs' H') (h : H p = none) : Grow r Hs H Hs' (upd H' p o) :=
  ⟨fun b u q n hs => by rw [upd_ne (ne_of_none q h)]; exact g.keep b u q n hs, fun b e => g.free b (upd_free e), g.ex, g.new, fun b xs e => by rw [upd_ne (ne_of_none e h)]; exact g.tup b xs e⟩
theorem comp_sound {wi : TI} {g : TG} {te : TE} {is vs : List Nat} {tgt : D → Option (List D)} {mi : SE (List D)} {c : SE Bool} {m : SE D}
    (hi : ∀ Hs0 H0 Hs H σ env tp Q, Rel K mg r O Hs0 H0 Hs H σ env tp → Post K mg r (fun Hs _ J items => WalksD K mg r J Hs items) E Hs H (mi env tp) Q → wi σ H Q)
    (hg : ∀ v d ds Hs H tp σ (Q : L2.St → Hp → Prop), Wd K mg r Hs H tp → RepD K mg r Hs v d → tgt d = some ds → (∀ vs, RepDs K mg r Hs vs ds → vs.length = is.length → Q (setAll σ is vs) H) → g v σ H Q)
    (ht : ∀ Hs0 H0 Hs H σ env tp Q, Rel K mg r O Hs0 H0 Hs H σ env tp → PostB K mg r E0 Hs H (c env tp) Q → tt σ H Q)
    (he : ∀ Hs0 H0 Hs H σ env tp Q, Rel K mg r O Hs0 H0 Hs H σ env tp → PostE K mg r E0 Hs H (m env tp) Q → te σ H Q)
    (hvs : ∀ i ∈ vs, i ∉ O) (his : ∀ i ∈ is, i ∈ vs) :
    ∀ Hs0 H0 Hs H σ env tp Q, Rel K mg r O Hs0 H0 Hs H σ env tp → Post K mg r (Fresh K mg r H) E Hs H (compE mi vs tgt is c m env tp) Q → tLc wi g tt te vs σ H Q := by
  intro Hs0 H0 Hs H σ env tp Q R P
  refine hi _ _ _ _ _ _ _ _ R ?_
  unfold compE at P
  cases q : mi env tp with
  | stuck => rw [q] at P; exact P.elim
  | exn cc fs tp1 => rw [q] at P; exact P
  | ok items tp1 =>
    rw [q] at P
    intro J Hs1 H1 g1 w1 wd Dl hD
    simp only [RE.bind_ok] at P
    by_cases hz : items.length ≤ sizeLine
    case neg => rw [if_neg hz] at P; exact P.elim
    rw [if_pos hz] at P
    cases q2 : compL (compTurn1 tgt is c m (wipeE env vs)) items tp1 with
    | stuck => rw [q2] at P; exact P.elim
    | exn cc fs tp2 => rw [q2] at P; exact P.elim
    | ok all tpE =>
      rw [q2] at P
      have P : ∀ v Hs' H', Grow r Hs H Hs' H' → Wd K mg r Hs' H' tpE → Fresh K mg r H Hs' H' v (.lst all) → Q v H' := P
      obtain ⟨Gd, Y, wk, hG, hY⟩ := wd
      have R1 := R.grow g1 w1
      obtain ⟨fD, neD⟩ := w1.fresh hD
      have h0D : H Dl = none := g1.free Dl hD
      have Rw := R1.wiped vs hvs
      obtain ⟨gl, wl⟩ := w1.lay (o := .lst []) hD
      obtain ⟨n1, n2⟩ := R.new_ne h0D neD
      have n3 : ∀ j ∈ O, (wipeE σ vs)[j]? ≠ some (some (.ref Dl)) := fun j hj z => n2 j hj (by rw [← z, wipe_get fun q => hvs j q hj])
      have hisO : ∀ i ∈ is, i ∉ O := fun i hi => hvs i (his i hi)
      refine lc_it wk (Qd := fun H' => Q (.ref Dl) H') (fun i H' => ∃ Hs2 vsL dsL tp xs, Rel K mg r O Hs0 H0 Hs2 H' (wipeE σ vs) (wipeE env vs) tp ∧ Same Hs1 Hs2 ∧ Grow r Hs H Hs2 H' ∧ Hs2 Dl = none ∧ H' Dl = some (.lst vsL) ∧ RepDs K mg r Hs2 vsL dsL ∧ dsL.length ≤ i ∧
        compL (compTurn1 tgt is c m (wipeE env vs)) (items.drop i) tp = .ok xs tpE ∧ dsL ++ xs = all) ⟨Hs1, [], [], tp1, all, Rw.grow gl wl, Same.refl _, g1.trans gl, fD, upd_same, .nil, Nat.le_refl _, q2, rfl⟩ ?_ ?_ ?_
      · rintro i H' _ ⟨Hs2, vsL, dsL, tp2, xs, R2, e2, _⟩
        exact hG Hs2 H' e2 R2.wd.sub
      · rintro i x H2 H3 hi2 ⟨Hs2, vsL, dsL, tp2, xs, R2, e2, g2, f2, hD2, rs2, hl2, hc2, ha2⟩ y
        obtain ⟨Hs3, d, g3, w3, hd, rd⟩ := hY i Hs2 H2 tp2 x H3 hi2 e2 R2.wd y
        rw [List.drop_eq_getElem_cons hi2] at hc2
        have hd' : items[i] = d := by rw [List.getElem?_eq_getElem hi2] at hd; exact Option.some.inj hd
        rw [hd'] at hc2
        obtain ⟨o, tp3, xs', hf, hrest, hxs⟩ := compL_cons hc2
        unfold compTurn1 at hf
        cases qt : tgt d with
        | none => rw [qt] at hf; cases hf
        | some es =>
          rw [qt] at hf
          simp only at hf
          rw [wipe_eq]
          refine hg x d es Hs3 H3 tp2 _ _ w3 rd qt fun ws rs hl => ⟨by rw [wipe_eq, wipe_setAll is _ _ his, wipe_wipe vs fun _ h => h], ?_⟩
          have R3 := rel_setAll is _ _ _ _ (R2.grow g3 w3) hisO rs hl
          have f3 := g3.no f2 hD2 neD
          have hD3 := g3.keep Dl _ hD2 neD f2
          refine ht _ _ _ _ _ _ _ _ R3 ?_
          cases qb : c (setAll (wipeE env vs) is es) tp2 with
          | stuck => rw [qb] at hf; cases hf
          | exn cc fs tp4 => rw [qb] at hf; cases hf
          | ok b tpb =>
            rw [qb] at hf
            simp only [RE.bind_ok] at hf
            intro v Hs4 H4 g4 w4 ev
            subst ev
            have f4 := g4.no f3 hD3 neD
            have hD4 := g4.keep Dl _ hD3 neD f3
            cases v with
            | false =>
              rw [if_neg Bool.false_ne_true] at hf
              simp only [RE.ok.injEq] at hf
              obtain ⟨ho, htp⟩ := hf
              subst ho htp
              refine iteF ⟨Hs4, vsL, dsL, tpb, xs', R2.grow (g3.trans g4) w4, e2.trans (g3.ex.trans g4.ex), g2.trans (g3.trans g4), f4, hD4, rs2.mono (g3.ex.trans g4.ex), by omega, hrest, ?_⟩
              rw [← ha2, hxs]; rfl
            | true =>
              rw [if_pos rfl] at hf
              refine iteT (he _ _ _ _ _ _ _ _ (R3.grow g4 w4) ?_)
              cases qm : m (setAll (wipeE env vs) is es) tpb with
              | stuck => rw [qm] at hf; cases hf
              | exn cc fs tp4 => rw [qm] at hf; cases hf
              | ok z tpz =>
                rw [qm] at hf
                simp only [RE.bind_ok, RE.ok.injEq] at hf
                obtain ⟨ho, htp⟩ := hf
                subst ho htp
                intro y5 Hs5 H5 g5 w5 ry
                have f5 := g5.no f4 hD4 neD
                have hD5 := g5.keep Dl _ hD4 neD f4
                have e5 := g3.ex.trans (g4.ex.trans g5.ex)
                refine ⟨vsL, hD5, by rw [rs2.length]; omega, Hs5, vsL ++ [y5], dsL ++ [z], tpz, xs', ?_, e2.trans e5, ?_, f5, upd_same, (rs2.mono e5).append (.cons ry .nil), by rw [List.length_append, List.length_singleton]; omega, hrest, ?_⟩
                · exact (R2.grow (g3.trans (g4.trans g5)) w5).other f5 n1 neD n3 (fun xs z => by rw [hD5] at z; first | exact st_no rfl xs (Option.some.inj z) | cases z)
                · exact (g2.trans (g3.trans (g4.trans g5))).other h0D
                · rw [← ha2, hxs, List.append_assoc]; rfl
      · rintro H2 ⟨Hs2, vsL, dsL, tp2, xs, R2, e2, g2, f2, hD2, rs2, hl2, hc2, ha2⟩
        rw [List.drop_length] at hc2
        unfold compL at hc2
        simp only [RE.ok.injEq] at hc2
        obtain ⟨hx, htp⟩ := hc2
        subst hx htp
        rw [List.append_nil] at ha2
        subst ha2
        exact P _ Hs2 H2 g2 R2.wd ⟨Dl, rfl, h0D, f2, neD, vsL, hD2, rs2⟩
/-- a list comprehension (one clause) -/
theorem gf_lc {elt tg iter : Expr} {ifs : List Expr} {scope : Scope} {own : List (Str × Nat)} {wi : TI} {g : TG} {te : TE} {is : List Nat} {tgt : D → Option (List D)} {mi : SE (List D)} {c : SE Bool} {m : SE D} (hc : X.calm = true) (hN : X.N.Nodup) (hi : GI K mg r X O E tg iter wi mi) (ok : BlkOk X.N X.env.scope scope own)
    (hg : ∀ (s : Shared) (H : Hp) (C : Addr) (cl : List (Str × Addr)) (fp : List Addr), GG K mg r (X.blk s H scope (compEnvC scope cl C X.env) fp) tg g is tgt)
    (ht : ∀ (s : Shared) (H : Hp) (C : Addr) (cl : List (Str × Addr)) (fp : List Addr), GTs K mg r (X.blk s H scope (compEnvC scope cl C X.env) fp) O E0 ifs tt c)
    (he : ∀ (s : Shared) (H : Hp) (C : Addr) (cl : List (Str × Addr)) (fp : List Addr), GE K mg r (X.blk s H scope (compEnvC scope cl C X.env) fp) O E0 elt te m)
    (hvs : ∀ i ∈ own.map (·.2), i ∉ O) (his : ∀ i ∈ is, i ∈ own.map (·.2)) (hs : ∀ x, foldedSetIterable iter X.env x = pure x := by intro _; rfl) :
    GF K mg r X O E (.ListComp elt [⟨tg, iter, ifs, 0⟩] scope pos) (tLc wi g tt te (own.map (·.2))) (compE mi (own.map (·.2)) tgt is c m) :=
  ⟨pe_lc hc hN hi.pe ok (fun s H C cl fp => (hg s H C cl fp).pe) (fun s H C cl fp => (ht s H C cl fp).pe) (fun s H C cl fp => (he s H C cl fp).pe) hs,
    comp_sound hi.snd (hg X.s_0 X.H_0 0 [] []).snd (ht X.s_0 X.H_0 0 [] []).snd (he X.s_0 X.H_0 0 [] []).snd hvs his⟩
def spOf (K : PySem.W.Frag) (mg : Str → Option Value) (r : Addr) (n : Nat) (m : List D → List D → RE D) : Sp := fun vs H Q E => ∃ Hs ds tp, vs.length = n ∧ Wd K mg r Hs H tp ∧ RepDs K mg r Hs vs ds ∧ PostE K mg r E Hs H (m ds tp) Q
structure DefOk (P : Program) (w : World) (K : PySem.W.Frag) (mg : Str → Option Value) (base : Heap) (CX : CXT) (r : Addr) (x : Str) (k n : Nat) (m : List D → List D → RE D) : Prop where
  ex : ∃ f fd ps, FnOk P w K mg base CX k f fd ps (spOf K mg r n m) ∧ mg x = some (.ref f) ∧ PySem.W.keepIn K (.ref f) = true ∧ Binds K fd ps []
def callE (n : Nat) (m : List D → List D → RE D) (ms : SE (List D)) : SE D := fun env tp => (ms env tp).bind fun ds tp1 => if ds.length = n then m ds tp1 else .stuck
theorem call_sound {n : Nat} {m : List D → List D → RE D} {ms : SE (List D)} (h : ∀ Hs0 H0 Hs H σ env tp Q, Rel K mg r O Hs0 H0 Hs H σ env tp → PostA K mg r E Hs H (ms env tp) Q → ts σ H Q) :
    ∀ Hs0 H0 Hs H σ env tp Q, Rel K mg r O Hs0 H0 Hs H σ env tp → PostE K mg r E Hs H (callE n m ms env tp) Q → tCall (spOf K mg r n m) [] E ts σ H Q := by
  intro Hs0 H0 Hs H σ env tp Q R P
  refine h _ _ _ _ _ _ _ _ R (Post.bind P fun vs Hs1 H1 ds tp1 _ g w rs P1 => ?_)
  split at P1
  · rename_i hl
    exact ⟨Hs1, ds, tp1, by rw [List.append_nil, rs.length]; exact hl, w, by rw [List.append_nil]; exact rs, P1⟩
  · exact P1.elim
theorem ge_call {CX : CXT} {x : Str} {k n : Nat} {m : List D → List D → RE D} {ms : SE (List D)} {p : Pos} (dk : DefOk X.prog X.w X.K X.mg X.base CX r x k n m) (hr : Room k X.A) (hx : Passes CX X E) (ha : GA K mg r X O E (e :: es) ts ms) (hK : X.K = K := by rfl) (hmg : X.mg = mg := by rfl) (hg : Gl X x := by rfl)
    (hdb : (x == ("__debug__" : Str)) = false := by decide) (he : starEach (e :: es) X.env = (false, eval e X.env) :: starEach es X.env := by rfl) (hpl : (backTo pos (starEach es X.env)).any (·.1) = false := by rfl) :
    GE K mg r X O E (.Call (.Name x p) (e :: es) [] pos) (tCall (spOf K mg r n m) [] E ts) (callE n m ms) := by
  subst hK hmg
  obtain ⟨f, fd, ps, F, hm, hk, hb⟩ := dk.ex
  exact ⟨pe_call F hr hg hm hk hb .nil hx ha.pe hdb he hpl, call_sound ha.snd⟩
/-- a body's result as a def's -/
def retR : RS → RE D
  | .rt d tp => .ok d tp
  | .nx _ tp => .ok .non tp
  | _ => .stuck
def defD (N : Nat) (body : SS) : List D → List D → RE D := fun ds tp => retR (body (ds.map some ++ List.replicate (N - ds.length) none) tp)
theorem rel_start {Hs H : Hp} {tp : List D} {N : List Str} {vs : List V} {ds : List D} (w : Wd K mg r Hs H tp) (rs : RepDs K mg r Hs vs ds) : Rel K mg r [] Hs H Hs H (L2.start N vs) (ds.map some ++ List.replicate (N.length - ds.length) none) tp where
  wd := w
  gr := Grow.refl _ _
  len := by unfold L2.start; rw [List.length_append, List.length_append, List.length_map, List.length_map, List.length_replicate, List.length_replicate, rs.length]
  vars := fun i d a _ => by
    have hi : i < ds.length := by
      rcases Nat.lt_or_ge i ds.length with q | q
      · exact q
      · rw [List.getElem?_append_right (by rw [List.length_map]; exact q), List.getElem?_replicate] at a
        split at a <;> cases a
    rw [List.getElem?_append_left (by rw [List.length_map]; exact hi), List.getElem?_map] at a
    obtain ⟨d', h1, h2⟩ := Option.map_eq_some_iff.mp a
    cases h2
    obtain ⟨v, h3, h4⟩ := rs.get' h1
    refine ⟨v, ?_, h4⟩
    unfold L2.start
    rw [List.getElem?_append_left (by rw [List.length_map, rs.length]; exact hi), List.getElem?_map, h3]
    rfl
  own := fun i hi => nomatch hi
  dis := fun i j p hi => nomatch hi
section
variable {P : Program} {w : World} {base : Heap}
theorem fn_def {x qual : Str} {params : Arguments} {body : List Stmt} {scope : Scope} {f : Addr} {fd : FuncData} {N ps : List Str} {k : Nat} {m : SS} (F : FunD K x qual params body scope [] [] f fd) (S : FnScope N ps scope) (hm : mg x = some (.ref f))
    (hb : ∀ (kV doc pm : Value) (an : Option Addr) (cdv ct : Value) (us : List Value), us.length = ps.length → bindArgs (PySem.W.fnOf x qual params body scope .none kV doc pm an cdv ct) ⟨us, []⟩ = pure (ps.zip us))
    (h : ∀ (cdv : Value) (A : Around) (outer : List Env) (s : Shared) (H : Hp) (E : XK), Room k (A.deeper (envOfC qual scope s.heap.objs.size f cdv)) → ∃ On u, GSs K mg r (cxOf CX0 P w K mg base N qual scope f cdv A outer s H E).nox E0 [] On [] body u m) :
    DefOk P w K mg base CX0 r x (k + 1) ps.length (defD N.length m) := by
  refine ⟨f, fd, ps, F.ok S (fun vs H Q E q => ?_) (fun cdv A outer s H vs Q E hr q => ?_), hm, F.kp, F.bindsN hb⟩
  · obtain ⟨_, _, _, h1, _⟩ := q
    exact h1
  · obtain ⟨Hs, ds, tp, hl, wd, rs, P1⟩ := q
    obtain ⟨On, u, hG⟩ := h cdv A outer s H E hr
    refine ⟨u, hG.pe.nox, hG.snd _ _ _ _ _ _ _ _ (rel_start wd rs) ?_⟩
    unfold defD at P1
    cases q : m (ds.map some ++ List.replicate (N.length - ds.length) none) tp with
    | rt d tp' =>
      rw [q] at P1
      exact fun v Hs' H' g w rv => P1 v Hs' H' g w rv
    | nx env' tp' =>
      rw [q] at P1
      exact fun σ' Hs' H' e R => P1 .non Hs' H' R.gr R.wd .non
    | bk env' tp' => rw [q] at P1; exact P1.elim
    | ct env' tp' => rw [q] at P1; exact P1.elim
    | exn c fs tp' => rw [q] at P1; exact P1.elim
    | stuck => rw [q] at P1; exact P1.elim
/-- the law: its first statement makes the tape -/
def spLaw (K : PySem.W.Frag) : Sp := fun vs H Q _ => ∃ (a : Addr) (ns : List Int), vs = [.ref a] ∧ SqL K H a (ns.map V.int) ∧ ns.length ≤ 63 ∧ ∀ H', Q (.bl true) H'
/-- the heap without its other things -/
def noX (H : Hp) : Hp := fun b => match H b with
  | some (.ext _) => none
  | o => o
theorem noX_some {H : Hp} {b : Addr} {o : HO} (h : noX H b = some o) : H b = some o := by
  unfold noX at h
  split at h
  · cases h
  · exact h
theorem noX_next {H : Hp} {b : Addr} {φ : Heap → Prop} : noX H b ≠ some (.ext φ) := fun h => by
  have e := noX_some h
  unfold noX at h
  rw [e] at h
  cases h
theorem noX_none {H : Hp} {b : Addr} (h : H b = none) : noX H b = none := by unfold noX; rw [h]
theorem noX_seq {H : Hp} {a : Addr} {xs : List V} (h : SqL K H a xs) : SqL K (noX H) a xs := h.imp (fun h => by
  rcases h with h | ⟨o, h⟩
  · exact .inl (by unfold noX; rw [h])
  · exact .inr ⟨o, by unfold noX; rw [h]⟩) id
theorem fn_law {x qual : Str} {params : Arguments} {body : List Stmt} {scope : Scope} {f : Addr} {fd : FuncData} {N : List Str} {k : Nat} {sx rx : Str} {p1 p2 p3 p4 p5 p6 p7 : Pos} {k0 k1 k2 : Nat} {c : Int} {m : SS}
    (F : FunD K x qual params (.Assign [.Name rx p1] (.List [.Name sx p2, .Constant (.int 0) k0 p3, .Constant (.int c) k1 p4, .Constant (.int 0) k2 p5] p6) p7 :: body) scope [] [] f fd) (S : FnScope (sx :: rx :: N) [sx] scope) (hlx : scope.names.lookup sx = some .local ∨ scope.names.lookup sx = some .cell) (hlr : scope.names.lookup rx = some .local ∨ scope.names.lookup rx = some .cell)
    (hd : (sx == ("__debug__" : Str)) = false := by decide) (hcd : (sx == ("__classdict__" : Str)) = false := by decide)
    (h : ∀ (r : Addr) (cdv : Value) (A : Around) (outer : List Env) (s : Shared) (H : Hp) (E : XK), Room k (A.deeper (envOfC qual scope s.heap.objs.size f cdv)) → ∃ On u, GSs K mg r (cxOf CX0 P w K mg base (sx :: rx :: N) qual scope f cdv A outer s H E).nox E0 [] On [] body u m)
    (hv : ∀ ns : List Int, ns.length ≤ 63 → ∃ tp', retR (m (some (.scr ns) :: some .tape :: List.replicate N.length none) [.scr ns, .int 0, .int c, .int 0]) = .ok (.bl true) tp') :
    FnOk P w K mg base CX0 (k + 1) f fd [sx] (spLaw K) := by
  refine F.ok S (fun vs H Q E q => ?_) (fun cdv A outer s H vs Q E hr q => ?_)
  · obtain ⟨a, ns, rfl, _⟩ := q
    rfl
  · obtain ⟨a, ns, rfl, hS, hlen, kq⟩ := q
    have vs1 : Vis scope sx := hlx.elim .inl fun q => .inr (.inl q)
    refine ⟨tSeq (tAsg (tLst (tCons (tVar 0) (tCons (tC (.int 0)) (tCons (tC (.int c)) (tCons (tC (.int 0)) tNil))))) (gName 1)) (fun D σ H1 => ∃ p, H p = none ∧ H1 = upd H p (.lst [.ref a, .int 0, .int c, .int 0]) ∧ σ = some (.ref a) :: some (.ref p) :: List.replicate N.length none ∧ ∀ v H', v = .bl true → D.rt v H'), ?_, ?_⟩
    · refine PSs.nox (pss_cons (ps_set (i := 1) S.nd rfl hlr (pe_lst (pa_cons (pe_var (i := 0) rfl vs1 hd hcd) (pa_cons pe_int (pa_cons pe_int (pa_cons pe_int pa_nil)))))) ?_)
      refine ⟨fun pins s2 σ H1 D I q => ?_⟩
      obtain ⟨p, hp, rfl, rfl, hq⟩ := q
      obtain ⟨On, u, hG⟩ := h p cdv A outer s H E hr
      refine hG.pe.run pins s2 _ _ D I (hG.snd (noX H) (upd H p (.lst [.ref a, .int 0, .int c, .int 0])) (noX H) _ _ (some (.scr ns) :: some .tape :: List.replicate N.length none) [.scr ns, .int 0, .int c, .int 0] _ ⟨⟨.of fun b o e => upd_new hp _ _ (noX_some e), noX_none hp, ⟨_, upd_same, ?_⟩, fun _ _ => noX_next⟩, Grow.refl _ _, ?_, ?_, (fun i hi => nomatch hi), (fun i j p hi => nomatch hi)⟩ ?_)
      · exact .cons (.scr (noX_seq hS)) (.cons (.int 0) (.cons (.int c) (.cons (.int 0) .nil)))
      · simp
      · intro i d hi _
        match i, hi with
        | 0, hi => cases hi; exact ⟨_, rfl, .scr (noX_seq hS)⟩
        | 1, hi => cases hi; exact ⟨_, rfl, .tape⟩
        | i + 2, hi =>
          rw [List.getElem?_cons_succ, List.getElem?_cons_succ, List.getElem?_replicate] at hi
          split at hi <;> cases hi
      · obtain ⟨tp', e⟩ := hv ns hlen
        cases q : m (some (.scr ns) :: some .tape :: List.replicate N.length none) [.scr ns, .int 0, .int c, .int 0] with
        | rt d tp2 =>
          rw [q] at e
          cases e
          intro v Hs' H' g w rv
          cases rv
          exact hq _ _ rfl
        | nx env' tp2 => rw [q] at e; cases e
        | bk env' tp' => rw [q] at e; cases e
        | ct env' tp' => rw [q] at e; cases e
        | exn c fs tp' => rw [q] at e; cases e
        | stuck => rw [q] at e; cases e
    · refine ⟨_, rfl, by show 4 ≤ sizeLine; rw [sizeLine_eq]; decide, fun p hp => ⟨p, hp, rfl, ?_, fun v H' ev => ev ▸ kq H'⟩⟩
      show List.set (L2.start (sx :: rx :: N) [.ref a]) 1 (some (.ref p)) = _
      unfold L2.start
      simp [List.replicate_succ]
end
end
end G
set_option maxHeartbeats 1000000
namespace G
open PySem PySem.Spec PyProof.Rows L2
variable [_root_.G.Wo]
section
variable {K : PySem.W.Frag} {mg : Str → Option Value} {r : Addr} {X : Cx} {E : XK} {O O1 On Ol : List Nat} {e a b c : Expr} {es : List Expr} {pos : Pos} {t ta tb : TE} {tt : TT} {ts : TA} {s1 : Stmt} {ss : List Stmt} {u u1 u2 : TS}
inductive RepK (K : PySem.W.Frag) (mg : Str → Option Value) (r : Addr) (Hs H : Hp) : List Bool → List V → List D → List Addr → Prop
  | nil : RepK K mg r Hs H [] [] [] []
  | st {v : V} {d : D} {ks : List Bool} {vs : List V} {ds : List D} {ps : List Addr} : RepD K mg r Hs v d → RepK K mg r Hs H ks vs ds ps → RepK K mg r Hs H (false :: ks) (v :: vs) (d :: ds) ps
  | fr {p : Addr} {d : D} {ks : List Bool} {vs : List V} {ds : List D} {ps : List Addr} : Hs p = none → p ≠ r → OwnAt K mg r Hs H p d → RepK K mg r Hs H ks vs ds ps → RepK K mg r Hs H (true :: ks) (.ref p :: vs) (d :: ds) (p :: ps)
theorem RepK.len {Hs H : Hp} : ∀ {ks : List Bool} {vs : List V} {ds : List D} {ps : List Addr}, RepK K mg r Hs H ks vs ds ps → vs.length = ks.length ∧ ds.length = ks.length
  | _, _, _, _, .nil => ⟨rfl, rfl⟩
  | _, _, _, _, .st _ q => by simp only [List.length_cons, q.len.1, q.len.2, and_self]
  | _, _, _, _, .fr _ _ _ q => by simp only [List.length_cons, q.len.1, q.len.2, and_self]
/-- the tuple that holds them (or any other object of no one's) is laid -/
theorem RepK.lay {Hs H : Hp} {q : Addr} {o : HO} (hq : H q = none) : ∀ {ks : List Bool} {vs : List V} {ds : List D} {ps : List Addr}, RepK K mg r Hs H ks vs ds ps → RepK K mg r Hs (upd H q o) ks vs ds ps
  | _, _, _, _, .nil => .nil
  | _, _, _, _, .st h k => .st h (RepK.lay hq k)
  | _, _, _, _, .fr h n oa k => .fr h n (oa.grow (Same.refl _) fun u z => by rw [upd_ne (ne_of_none z hq)]; exact z) (RepK.lay hq k)
structure GAK (K : PySem.W.Frag) (mg : Str → Option Value) (r : Addr) (X : Cx) (O : List Nat) (E : XK) (es : List Expr) (t : TA) (ks : List Bool) (m : SE (List D)) : Prop where
  pe : PA X es t
  snd : ∀ Hs0 H0 Hs H σ env tp Q, Rel K mg r O Hs0 H0 Hs H σ env tp → Post K mg r (fun Hs' H' vs ds => ∃ ps, RepK K mg r Hs' H' ks vs ds ps ∧ ps.Nodup ∧ ∀ p ∈ ps, H p = none) E Hs H (m env tp) Q → t σ H Q
theorem gak_nil : GAK K mg r X O E [] tNil [] nilA := ⟨pa_nil, fun Hs0 H0 Hs H σ env tp Q R P => P [] Hs H (Grow.refl _ _) R.wd ⟨[], .nil, List.nodup_nil, fun _ h => nomatch h⟩⟩
theorem free_back {Hs H Hs' H' : Hp} {p : Addr} (g : Grow r Hs H Hs' H') (h : H' p = none) (ne : p ≠ r) : H p = none := g.free p h
theorem RepK.ner {Hs H : Hp} : ∀ {ks : List Bool} {vs : List V} {ds : List D} {ps : List Addr}, RepK K mg r Hs H ks vs ds ps → ∀ p ∈ ps, p ≠ r
  | _, _, _, _, .nil, _, h => nomatch h
  | _, _, _, _, .st _ k, p, h => RepK.ner k p h
  | _, _, _, _, .fr _ n _ k, p, h => by
    rcases List.mem_cons.mp h with rfl | h
    · exact n
    · exact RepK.ner k p h
theorem gak_st {ks : List Bool} {m : SE D} {ms : SE (List D)} (h : GE K mg r X O E e t m) (hs : GAK K mg r X O E es ts ks ms) (hst : starEach (e :: es) X.env = (false, eval e X.env) :: starEach es X.env := by rfl) : GAK K mg r X O E (e :: es) (tCons t ts) (false :: ks) (consA m ms) := by
  refine ⟨pa_cons h.pe hs.pe hst, fun Hs0 H0 Hs H σ env tp Q R P => ?_⟩
  refine h.snd _ _ _ _ _ _ _ _ R ?_
  unfold consA at P
  cases q : m env tp with
  | stuck => rw [q] at P; exact P
  | exn c fs tp1 => rw [q] at P; exact P
  | ok d tp1 =>
    rw [q] at P
    intro v Hs1 H1 g w rv
    refine hs.snd _ _ _ _ _ _ _ _ (R.grow g w) ?_
    simp only [RE.bind_ok] at P
    cases q2 : ms env tp1 with
    | stuck => rw [q2] at P; exact P
    | exn c fs tp2 => rw [q2] at P; exact Post.shift g P
    | ok ds tp2 =>
      rw [q2] at P
      rintro vs Hs2 H2 g2 w2 ⟨ps, hk, nd, fr⟩
      exact P _ Hs2 H2 (g.trans g2) w2 ⟨ps, .st (rv.mono g2.ex) hk, nd, fun p hp => free_back g (fr p hp) (hk.ner p hp)⟩
theorem gak_fr {ks : List Bool} {m : SE D} {ms : SE (List D)} (h : GF K mg r X O E e t m) (hs : GAK K mg r X O E es ts ks ms) (hst : starEach (e :: es) X.env = (false, eval e X.env) :: starEach es X.env := by rfl) : GAK K mg r X O E (e :: es) (tCons t ts) (true :: ks) (consA m ms) := by
  refine ⟨pa_cons h.pe hs.pe hst, fun Hs0 H0 Hs H σ env tp Q R P => ?_⟩
  refine h.snd _ _ _ _ _ _ _ _ R ?_
  unfold consA at P
  cases q : m env tp with
  | stuck => rw [q] at P; exact P
  | exn c fs tp1 => rw [q] at P; exact P
  | ok d tp1 =>
    rw [q] at P
    rintro v Hs1 H1 g w ⟨p, rfl, hb, hp, ne, oa⟩
    refine hs.snd _ _ _ _ _ _ _ _ (R.grow g w) ?_
    simp only [RE.bind_ok] at P
    cases q2 : ms env tp1 with
    | stuck => rw [q2] at P; exact P
    | exn c fs tp2 => rw [q2] at P; exact Post.shift g P
    | ok ds tp2 =>
      rw [q2] at P
      rintro vs Hs2 H2 g2 w2 ⟨ps, hk, nd, fr⟩
      obtain ⟨o, ho⟩ := oa.there
      refine P _ Hs2 H2 (g.trans g2) w2 ⟨p :: ps, .fr (g2.no hp ho ne (oa.ntup o ho)) ne (oa.grow g2.ex fun u z => g2.keep p u z ne hp) hk, List.nodup_cons.mpr ⟨fun m => ?_, nd⟩, fun p' hp' => ?_⟩
      · have := fr p m; rw [ho] at this; cases this
      · rcases List.mem_cons.mp hp' with rfl | hp'
        · exact hb
        · exact free_back g (fr p' hp') (hk.ner p' hp')
/-- who owns behind it -/
def ownAll : List Nat → List Nat → List Bool → List Nat
  | O, i :: is, k :: ks => ownAll (if k = true then i :: O.filter (· != i) else O.filter (· != i)) is ks
  | O, _, _ => O
theorem repK_setAll {Hs0 H0 Hs H : Hp} {tp : List D} : ∀ (is : List Nat) (ks : List Bool) (O : List Nat) (σ : L2.St) (env : DEnv) (vs : List V) (ds : List D) (ps : List Addr), Rel K mg r O Hs0 H0 Hs H σ env tp → RepK K mg r Hs H ks vs ds ps → ps.Nodup → (∀ p ∈ ps, H0 p = none ∧ ∀ j ∈ O, σ[j]? ≠ some (some (.ref p))) → is.length = ks.length → (∀ i ∈ is, i < env.length) →
    Rel K mg r (ownAll O is ks) Hs0 H0 Hs H (setAll σ is vs) (setAll env is ds) tp
  | [], ks, O, σ, env, vs, ds, ps, R, hk, _, _, hl, _ => by
    cases ks with
    | nil => cases hk; exact R
    | cons _ _ => cases hl
  | i :: is, [], O, σ, env, vs, ds, ps, R, hk, _, _, hl, _ => by cases hl
  | i :: is, k :: ks, O, σ, env, vs, ds, ps, R, hk, nd, hp, hl, hi => by
    cases hk with
    | st h1 h2 =>
      refine repK_setAll is ks _ _ _ _ _ ps (R.set i h1) h2 nd (fun p q => ⟨(hp p q).1, fun j hj => ?_⟩) (by simpa using hl) fun j hj => by rw [List.length_set]; exact hi j (List.mem_cons_of_mem _ hj)
      obtain ⟨m, ne⟩ := List.mem_filter.mp hj
      rw [set_gne (by simpa using ne)]
      exact (hp p q).2 j m
    | @fr p d ks vs ds ps h1 n oa h2 =>
      obtain ⟨np, nd'⟩ := List.nodup_cons.mp nd
      have hp0 := hp p List.mem_cons_self
      refine repK_setAll is ks _ _ _ _ _ ps (R.setF i (hi i List.mem_cons_self) hp0.1 h1 n oa hp0.2) h2 nd' (fun p' q => ⟨(hp p' (List.mem_cons_of_mem _ q)).1, fun j hj z => ?_⟩) (by simpa using hl) fun j hj => by rw [List.length_set]; exact hi j (List.mem_cons_of_mem _ hj)
      rcases List.mem_cons.mp hj with rfl | hj
      · rcases get_set z with ⟨_, e, _⟩ | ⟨ne, _⟩
        · cases e; exact np q
        · exact ne rfl
      · obtain ⟨m, ne⟩ := List.mem_filter.mp hj
        rw [set_gne (by simpa using ne)] at z
        exact (hp p' (List.mem_cons_of_mem _ q)).2 j m z
def parS (is : List Nat) (ms : SE (List D)) : SS := fun env tp => (ms env tp).bindS fun ds tp1 => if is.all (fun i => decide (i < env.length)) = true then .nx (setAll env is ds) tp1 else .stuck
theorem par_sound {is : List Nat} {ks : List Bool} {ms : SE (List D)} {k : L2.Ends → L2.St → Hp → List V → Hp → Prop} (hl : is.length = ks.length) (h : ∀ Hs0 H0 Hs H σ env tp Q, Rel K mg r O Hs0 H0 Hs H σ env tp → Post K mg r (fun Hs' H' vs ds => ∃ ps, RepK K mg r Hs' H' ks vs ds ps ∧ ps.Nodup ∧ ∀ p ∈ ps, H p = none) E Hs H (ms env tp) Q → ts σ H Q)
    (hk : ∀ D σ vs Hs H tp ds ps, Wd K mg r Hs H tp → RepK K mg r Hs H ks vs ds ps → (∀ H', (H' = H ∨ ∃ q o, H q = none ∧ H' = upd H q o) → D.nx (setAll σ is vs) H') → k D σ H vs H) :
    ∀ Hs0 H0 Hs H σ env tp D, Rel K mg r O Hs0 H0 Hs H σ env tp → PostS K mg r E (ownAll O is ks) Ol Hs0 H0 Hs (parS is ms env tp) D → ts σ H (fun vs H1 => k D σ H1 vs H1) := by
  intro Hs0 H0 Hs H σ env tp D R P
  refine h _ _ _ _ _ _ _ _ R (PostS.bind R P fun vs Hs1 H1 ds tp1 _ g w R1 rv P1 => ?_)
  obtain ⟨ps, hrk, nd, fr⟩ := rv
  split at P1
  · rename_i hi
    have hi : ∀ i ∈ is, i < env.length := fun i m => of_decide_eq_true (List.all_eq_true.mp hi i m)
    have hfr : ∀ p ∈ ps, H0 p = none ∧ ∀ j ∈ O, σ[j]? ≠ some (some (.ref p)) := fun p hp => R.new_ne (fr p hp) (hrk.ner p hp)
    refine hk D σ vs Hs1 H1 tp1 ds ps w hrk fun H' hH' => ?_
    rcases hH' with rfl | ⟨q, o, hq, rfl⟩
    · exact P1 _ _ _ (Same.refl _) (repK_setAll is ks _ _ _ _ _ ps R1 hrk nd hfr hl hi)
    · obtain ⟨g2, w2⟩ := w.lay (o := o) hq
      exact P1 _ _ _ (Same.refl _) (repK_setAll is ks _ _ _ _ _ ps (R1.grow g2 w2) (hrk.lay hq) nd hfr hl hi)
  · exact P1.elim
/-- a, b = x, y (two local names) -/
theorem gs_par2 (i j : Nat) {ks : List Bool} {x y : Str} {ms : SE (List D)} {px py pt : Pos} {kt k2 pt2} (hN : X.N.Nodup) (ha : GAK K mg r X O E [a, b] ts ks ms) (hks : ks.length = 2 := by rfl) (hc : X.calm = true := by rfl) (hi : X.N[i]? = some x := by rfl) (hj : X.N[j]? = some y := by rfl) (hij : i ≠ j := by decide)
    (hx : X.env.scope.names.lookup x = some .local := by rfl) (hy : X.env.scope.names.lookup y = some .local := by rfl)
    (hw : swappedStores [.Tuple [.Name x px, .Name y py] kt pt] (.Tuple [a, b] k2 pt2) X.env = pure (some [x, y]) := by rfl)
    (hs : swapsWithSole [.Tuple [.Name x px, .Name y py] kt pt] (.Tuple [a, b] k2 pt2) pos.line X.env = pure false := by rfl) :
    GS K mg r X E O (ownAll O [i, j] ks) Ol (.Assign [.Tuple [.Name x px, .Name y py] kt pt] (.Tuple [a, b] k2 pt2) pos) (tPar i j ts) (parS [i, j] ms) := by
  refine ⟨ps_par hc hN hi hj hij hx hy ha.pe hw hs, ?_⟩
  refine par_sound (k := fun D σ _ vs H1 => ∃ v w, vs = [v, w] ∧ D.nx ((σ.set i (some v)).set j (some w)) H1) (by rw [hks]; rfl) ha.snd ?_
  intro D σ vs Hs H tp ds ps _ hrk q
  have hl := hrk.len.1
  rw [hks] at hl
  match vs, hl with
  | [v, w], _ => exact ⟨v, w, rfl, q H (.inl rfl)⟩
/-- a, b, c = x, y, z (three local names) -/
theorem gs_par3 (i j l : Nat) {ks : List Bool} {x y z : Str} {ms : SE (List D)} {px py pz pt : Pos} {kt k2 pt2} (hN : X.N.Nodup) (ha : GAK K mg r X O E [a, b, c] ts ks ms) (hks : ks.length = 3 := by rfl) (hc : X.calm = true := by rfl) (hi : X.N[i]? = some x := by rfl) (hj : X.N[j]? = some y := by rfl) (hl : X.N[l]? = some z := by rfl) (hij : i ≠ j := by decide) (hil : i ≠ l := by decide) (hjl : j ≠ l := by decide)
    (hx : X.env.scope.names.lookup x = some .local := by rfl) (hy : X.env.scope.names.lookup y = some .local := by rfl) (hz : X.env.scope.names.lookup z = some .local := by rfl)
    (hw : swappedStores [.Tuple [.Name x px, .Name y py, .Name z pz] kt pt] (.Tuple [a, b, c] k2 pt2) X.env = pure (some [x, y, z]) := by rfl)
    (hs : swapsWithSole [.Tuple [.Name x px, .Name y py, .Name z pz] kt pt] (.Tuple [a, b, c] k2 pt2) pos.line X.env = pure false := by rfl) :
    GS K mg r X E O (ownAll O [i, j, l] ks) Ol (.Assign [.Tuple [.Name x px, .Name y py, .Name z pz] kt pt] (.Tuple [a, b, c] k2 pt2) pos) (tPar3 i j l ts) (parS [i, j, l] ms) := by
  refine ⟨ps_par3 hc hN hi hj hl hij hil hjl hx hy hz ha.pe hw hs, ?_⟩
  refine par_sound (k := fun D σ _ vs H1 => ∃ u v w, vs = [u, v, w] ∧ D.nx (((σ.set i (some u)).set j (some v)).set l (some w)) H1) (by rw [hks]; rfl) ha.snd ?_
  intro D σ vs Hs H tp ds ps _ hrk q
  have hl := hrk.len.1
  rw [hks] at hl
  match vs, hl with
  | [u, v, w], _ => exact ⟨u, v, w, rfl, q H (.inl rfl)⟩
/-- the plain way: a tuple is made and unpacked -/
theorem gs_tup {is : List Nat} {n : Nat} {ks : List Bool} {ms : SE (List D)} {tgs : List Expr} {g : TGs} {pt pt2 : Pos} {kt k2} (ha : GAK K mg r X O E es ts ks ms) (hg : GGs K mg r X tgs g is) (hl : is.length = ks.length := by rfl) (hn : is.length = n := by rfl) (hz : n ≤ sizeLine := by decide) (hc : X.calm = true := by rfl) (hK : X.K = K := by rfl) (hn1 : (assignEach tgs X.env).length = n := by rfl) (hst : (assignEach tgs X.env).findIdx? (·.1) = none := by rfl)
    (hs : swapsWithSole [.Tuple tgs kt pt] (.Tuple es k2 pt2) pos.line X.env = pure false := by rfl) (hw : swappedStores [.Tuple tgs kt pt] (.Tuple es k2 pt2) X.env = pure none := by rfl) (h1 : (assignEach [.Tuple tgs kt pt] X.env).map (·.2) = [assign (.Tuple tgs kt pt) X.env] := by rfl) :
    GS K mg r X E O (ownAll O is ks) Ol (.Assign [.Tuple tgs kt pt] (.Tuple es k2 pt2) pos) (tAsg (tTup ts) (gTup K n g)) (parS is ms) := by
  subst hK
  refine ⟨ps_asg (pe_tup ha.pe) (pg_tup hc hg.pe hn1 hst) hs hw h1, ?_⟩
  refine par_sound (k := fun D σ _ vs H1 => vs.length ≤ sizeLine ∧ ∀ p, H1 p = none → gTup X.K n g (.ref p) σ (upd H1 p (.tup vs)) D.nx) hl ha.snd ?_
  intro D σ vs Hs H tp ds ps _ hrk q
  have hv : vs.length = n := by rw [hrk.len.1, ← hl, hn]
  refine ⟨by rw [hv]; exact hz, fun p hp => ⟨p, vs, rfl, .of upd_same, hv, hg.snd vs σ _ _ (by rw [hv, hn]) (q _ (.inr ⟨p, _, hp, rfl⟩))⟩⟩
def methE (p : D → Bool) (f : D → D → Option D) (ma mb : SE D) : SE D := fun env tp => (ma env tp).bind fun d tp1 => if p d = true then (mb env tp1).bind fun e tp2 => RE.of (f d e) tp2 else .stuck
end
end G
namespace G
open PySem PySem.Spec PyProof.Rows L2
variable [_root_.G.Wo]
section
variable {K : PySem.W.Frag} {mg : Str → Option Value} {r : Addr} {X : Cx} {E : XK} {O O1 On Ol : List Nat} {e a b c : Expr} {es : List Expr} {pos p : Pos} {t ta tb tc : TE} {tt : TT} {ts : TA} {ma mb mc : SE D} {ms : SE (List D)}
theorem gt_eq (hu : X.A.units + 64 < cLine) (ha : GO K mg r X O E a ta ma) (hb : GO K mg r X O E b tb mb) (hK : X.K = K := by rfl) : GT K mg r X O E (.Compare a [.Eq] [b] pos) (tTest (tOp (rEqP K) ta tb)) (boolE (binE eqD ma mb)) := by subst hK; exact gt_cmp (op_eqP hu) ops_eq ha hb (nomark _)
theorem gt_ne (hu : X.A.units + 64 < cLine) (ha : GO K mg r X O E a ta ma) (hb : GO K mg r X O E b tb mb) (hK : X.K = K := by rfl) : GT K mg r X O E (.Compare a [.NotEq] [b] pos) (tTest (tOp (rNeP K) ta tb)) (boolE (binE neD ma mb)) := by subst hK; exact gt_cmp (op_neP hu) ops_ne ha hb (nomark _)
theorem gt_lt (ha : GO K mg r X O E a ta ma) (hb : GO K mg r X O E b tb mb) : GT K mg r X O E (.Compare a [.Lt] [b] pos) (tTest (tOp rLtD ta tb)) (boolE (binE ltD ma mb)) := gt_cmp opr_lt ops_lt ha hb (nomark _)
theorem gt_gt (ha : GO K mg r X O E a ta ma) (hb : GO K mg r X O E b tb mb) : GT K mg r X O E (.Compare a [.Gt] [b] pos) (tTest (tOp rGtD ta tb)) (boolE (binE gtD ma mb)) := gt_cmp op_gt ops_gt ha hb (nomark _)
theorem gt_ge (ha : GO K mg r X O E a ta ma) (hb : GO K mg r X O E b tb mb) : GT K mg r X O E (.Compare a [.GtE] [b] pos) (tTest (tOp rGeD ta tb)) (boolE (binE geD ma mb)) := gt_cmp op_ge ops_ge ha hb (nomark _)
theorem gt_is (ha : GO K mg r X O E a ta ma) (hb : GO K mg r X O E b tb mb) : GT K mg r X O E (.Compare a [.Is] [b] pos) (tTest (tOp rIsD ta tb)) (boolE (binE isNoneD ma mb)) := gt_cmp opr_is ops_is ha hb (nomark _)
theorem ge_leLe (ha : GO K mg r X O E a ta ma) (hb : GO K mg r X O E b tb mb) (hc : GO K mg r X O E c tc mc) (hm : lastMarks [.LtE, .LtE] [b, c] = false := by with_unfolding_all rfl) : GE K mg r X O E (.Compare a [.LtE, .LtE] [b, c] pos) (tChain rLeD rLeD ta tb tc) (chainE leD leD ma mb mc) := ge_chain op_le op_le ops_le ops_le ha hb hc hm
theorem tN_len {n : Nat} {d : D} {ds : List D} (h : tN n d = some ds) : ds.length = n := by
  cases d with
  | tup xs =>
    have h : (if xs.length = n then some xs else none) = some ds := h
    split at h
    · cases h; assumption
    · cases h
  | _ => cases h
theorem def_stuck {P : Program} {w : World} {base : Heap} {x qual : Str} {params : Arguments} {body : List Stmt} {scope : Scope} {f : Addr} {fd : FuncData} {ps : List Str} {k : Nat} (F : FunD K x qual params body scope [] [] f fd) (hm : mg x = some (.ref f))
    (hb : ∀ (kV doc pm : Value) (an : Option Addr) (cdv ct : Value) (us : List Value), us.length = ps.length → bindArgs (PySem.W.fnOf x qual params body scope .none kV doc pm an cdv ct) ⟨us, []⟩ = pure (ps.zip us)) :
    DefOk P w K mg base CX0 r x k ps.length (fun _ _ => .stuck) :=
  ⟨f, fd, ps, ⟨fun vs H Q E h => by
      obtain ⟨_, _, _, _, _, _, h⟩ := h
      exact h.elim, fun A outer s H args us vs Q E hr e0 hb r h => by
      obtain ⟨_, _, _, _, _, _, h⟩ := h
      exact h.elim⟩, hm, F.kp, F.bindsN hb⟩
end
end G
set_option maxHeartbeats 1000000
namespace G
open PySem PySem.Spec PyProof.Rows L2
end G
set_option maxHeartbeats 1000000
namespace G
open PySem PySem.Spec PyProof.Rows L2
variable [_root_.G.Wo]
theorem crr_or {X : Cx} {f : Value} {r1 r2 : List V → Hp → VK → Prop} (h1 : CallR X f r1) (h2 : CallR X f r2) : CallR X f (fun vs H Q => r1 vs H Q ∨ r2 vs H Q) := by
  intro pins s σ H vs us Q I r h
  rcases h with h | h
  · exact h1 pins s σ H vs us Q I r h
  · exact h2 pins s σ H vs us Q I r h
section
variable {r : Addr} {X : Cx} {K : PySem.W.Frag} {mg : Str → Option Value} {O : List Nat} {E : XK} {e a : Expr} {ts : TA} {ta : TE} {p pos : Pos} {ms : SE (List D)} {ma : SE D}
theorem RepDs.rev {Hs : Hp} {vs : List V} {ds : List D} (h : RepDs K mg r Hs vs ds) : RepDs K mg r Hs vs.reverse ds.reverse := by
  induction vs generalizing ds with
  | nil => cases h; exact .nil
  | cons v vs ih =>
    cases h with
    | cons h1 h2 =>
      rw [List.reverse_cons, List.reverse_cons]
      exact (ih h2).append (.cons h1 .nil)
end
end G
set_option maxHeartbeats 1000000
namespace G
open PySem PySem.Spec PyProof.Rows L2
variable [_root_.G.Wo]
section
variable {r : Addr} {X : Cx} {K : PySem.W.Frag} {mg : Str → Option Value} {O : List Nat} {E : XK} {e e2 a b : Expr} {ts : TA} {ta tb : TE} {p pos : Pos} {ms : SE (List D)}
def absD : List D → Option D
  | [.int i] => some (.int (if i < 0 then -i else i))
  | _ => none
abbrev rAbs : List V → Hp → VK → Prop := fun xs H Q => ∃ i, xs = [.int i] ∧ Q (.int (if i < 0 then -i else i)) H
theorem cs_abs : CallS K mg r rAbs absD := by
  intro Hs H tp xs ds z Q w rx hz k
  unfold absD at hz
  split at hz
  · cases hz
    obtain ⟨x, rfl, h⟩ := paired1 rx
    exact ⟨_, by rw [repT_int h], k _ _ _ (Grow.refl _ _) w (.int _)⟩
  · cases hz
theorem ge_abs (hm : X.mg "abs" = none) (ha : GAO K mg r X O E [e] ts ms) (hg : Gl X "abs" := by rfl) (he : starEach [e] X.env = (false, eval e X.env) :: starEach [] X.env := by rfl) (hpl : (backTo pos (starEach [] X.env)).any (·.1) = false := by rfl) : GE K mg r X O E (.Call (.Name "abs" p) [e] [] pos) (tCB rAbs ts) (callB absD ms) :=
  ge_callB call_abs cs_abs hm ha hg (by decide +kernel) (by decide) (by decide) he hpl
end
end G
set_option maxHeartbeats 1000000
namespace G
open PySem PySem.Spec PyProof.Rows L2
variable [_root_.G.Wo]
section
variable {r : Addr} {X : Cx} {K : PySem.W.Frag} {mg : Str → Option Value} {O : List Nat} {E : XK} {tt tt1 : TT}
def augS (i : Nat) (f : D → D → Option D) (m : SE D) : SS := fun env tp => match env[i]? with
  | some (some d) => (m env tp).bindS fun e tp1 => match d, e with
    | .int _, .int _ => (match f d e with
      | some z => .nx (env.set i (some z)) tp1
      | none => .stuck)
    | _, _ => .stuck
  | _ => .stuck
theorem aug_sound {m : SE D} {e : Expr} {t : TE} {Ol : List Nat} {f : D → D → Option D} {F : Int → Int → Int} {op : Operator} {pos pos' : Pos} (i : Nat) {x : Str} (hip : PIp X op (ipI F)) (hf : ∀ a b, f (.int a) (.int b) = some (.int (F a b))) (hO : i ∉ O) (hN : X.N.Nodup) (h : GE K mg r X O E e t m) (hi : X.N[i]? = some x) (hx : Loc X.env.scope x)
    (hfn : X.fn x = true ∨ X.env.scope.names.lookup x = some .local) : GS K mg r X E O O Ol (.AugAssign (.Name x pos') op e pos) (tAug i t (ipI F)) (augS i f m) := by
  refine ⟨ps_aug hN hi hx h.pe hip hfn, fun Hs0 H0 Hs H σ env tp Dn R P => ?_⟩
  unfold augS at P
  cases q : env[i]? with
  | none => rw [q] at P; exact P.elim
  | some od =>
    cases od with
    | none => rw [q] at P; exact P.elim
    | some d =>
      rw [q] at P
      simp only at P
      obtain ⟨v, hv, rv⟩ := R.vars i d q hO
      refine ⟨v, hv, h.snd _ _ _ _ _ _ _ _ R (PostS.bind R P fun u Hs1 H1 d1 tp1 _ g w R1 ru P1 => ?_)⟩
      cases d with
      | int a =>
        cases d1 with
        | int b =>
          simp only [hf] at P1
          cases rv
          cases ru
          exact ⟨a, b, rfl, rfl, P1 _ _ _ (Same.refl _) (by
            have := R1.set i (.int (F a b))
            have eO : O.filter (· != i) = O := List.filter_eq_self.mpr fun j hj => by
              have : j ≠ i := fun z => hO (z ▸ hj)
              simpa using this
            rw [eO] at this
            exact this)⟩
        | _ => exact P1.elim
      | _ => exact P1.elim
theorem gs_augAdd {m : SE D} {e : Expr} {t : TE} {Ol : List Nat} {pos pos' : Pos} (i : Nat) {x : Str} (hN : X.N.Nodup) (h : GE K mg r X O E e t m) (hO : i ∉ O := by decide) (hi : X.N[i]? = some x := by rfl) (hx : Loc X.env.scope x := by first | exact Or.inl rfl | exact Or.inr rfl)
    (hfn : X.fn x = true ∨ X.env.scope.names.lookup x = some .local := by first | exact .inl rfl | exact .inr rfl) : GS K mg r X E O O Ol (.AugAssign (.Name x pos') .Add e pos) (tAug i t (ipI fun i j => i + j)) (augS i addD m) :=
  aug_sound i ip_add (fun _ _ => rfl) hO hN h hi hx hfn
end
end G
set_option maxHeartbeats 1000000
namespace SumT
open PySem PySem.Spec PyProof.Rows
variable [_root_.G.Wo]
section
variable {prog : Program} {w : World} {A : Around} {E : Value → Shared → Prop} {s : Shared} {l : Addr} {xs : Array (Int × Tok)}
theorem iter_intTuple {Q : Value → Shared → Prop} (hl : s.heap.IsTuple l (intItems xs))
    (h : ∀ s₂ : Shared, s₂ = { s with heap := s.heap.push { cls := .type "tuple_iterator", data := .fields #[.ref l, .int 0 0] } } →
      (s₂.heap.IsTupleIter s.heap.objs.size l 0 ∧ s₂.heap.IsTuple l (intItems xs)) → (∀ b ∈ [s.heap.objs.size, l], b < s₂.heap.objs.size) → l ≠ s.heap.objs.size → Q (.ref s.heap.objs.size) s₂) :
    wpAny (model prog w) A (pyIter (.ref l)) Q E s := by
  have hlt : l < s.heap.objs.size := by obtain ⟨_, e, _⟩ := hl; exact Heap.lt_size e
  refine wpAny_pyIter_tuple hl (h _ rfl ⟨⟨_, Heap.get?_push_size _ rfl, rfl, rfl⟩, hl.push _⟩ (fun b hb => ?_) (Nat.ne_of_lt hlt))
  show b < (s.heap.push _).objs.size
  rw [Heap.size_push]
  rcases List.mem_cons.mp hb with rfl | hb
  · exact Nat.lt_succ_self _
  · rcases List.mem_cons.mp hb with rfl | hb
    · exact Nat.lt_succ_of_lt hlt
    · cases hb
theorem old_keptT {h' : Heap} (hk : ∀ b o, b ∉ [s.heap.objs.size] → (s.heap.push { cls := .type "tuple_iterator", data := .fields #[.ref l, .int 0 0] }).get? b = some o → h'.get? b = some o) :
    ∀ b o, s.heap.get? b = some o → h'.get? b = some o := fun b o e => by
  refine hk b o (fun hm => ?_) (Heap.get?_push_of_some _ e)
  rcases List.mem_cons.mp hm with e1 | hm
  · exact absurd (e1 ▸ Heap.lt_size e) (Nat.lt_irrefl _)
  · cases hm
theorem sum_intTupG {Q : Value → Shared → Prop} (hh : A.handled = none) (hl : s.heap.IsTuple l (intItems xs))
    (h : ∀ h' tk t', (∀ b o, s.heap.get? b = some o → h'.get? b = some o) → Q (.int (preSum (numAt xs) xs.size) t') { s with heap := h', toks := tk }) :
    wpAny (model prog w) A (call (.builtin "sum") [.ref l]) Q E s := by
  refine call_sum_walkG (iter_intTuple hl fun s₂ e st hfp hlI => ?_)
  subst e
  refine ⟨_, _, _, _, _, _, numAt xs, rfl, Walks.tuple (A := A.in1) hh _ l hlI (intItems xs), st, hfp, (fun _ _ => intItems_at), fun h' tk t' hk => ?_⟩
  have := h h' tk t' (old_keptT hk)
  simpa [intItems] using this
theorem sumT_raw {its : List Value} {ns : List Int} {Q : Value → Shared → Prop} (hh : A.handled = none) (hl : s.heap.IsTuple l its.toArray) (hi : IntsAre its ns)
    (h : ∀ h' tk t', (∀ b o, s.heap.get? b = some o → h'.get? b = some o) → Q (.int ns.sum t') { s with heap := h', toks := tk }) : wpAny (model prog w) A (call (.builtin "sum") [.ref l]) Q E s := by
  obtain ⟨xs, e⟩ := hi.allInts.items
  have hn : numsOf (intItems xs).toList = ns := by rw [← e]; exact hi.numsOf
  rw [nums_intItems] at hn
  rw [e] at hl
  refine sum_intTupG hh hl fun h' tk t' hk => ?_
  have := h h' tk t' hk
  rw [preSum_eq, List.take_of_length_le (by simp), hn]; exact this
end
end SumT
namespace G
open PySem PySem.Spec PyProof.Rows L2
variable [_root_.G.Wo]
def rSumA (K : PySem.W.Frag) : List V → Hp → VK → Prop := fun vs H Q => ∃ (a : Addr) (ns : List Int), vs = [V.ref a] ∧ SqT K H a (ns.map V.int) ∧ Q (.int ns.sum) H
theorem cr_sumA {X : Cx} (hc : X.calm = true) : CallR X (.builtin "sum") (rSumA X.K) := by
  intro pins s σ H vs us Q I r h
  obtain ⟨a, ns, rfl, hs, q⟩ := h
  obtain ⟨its, rv, hl, _⟩ := I.tuple hs
  rw [Vals.ref1 r]
  exact SumT.sumT_raw (I.ok.hd hc) hl rv.ints fun h' tk t' hk => ⟨.int _, H, I.kept hk, ⟨_, rfl⟩, q⟩
def sum2D : List D → Option D
  | [.lst xs] => (unI xs).map fun bs => .int bs.sum
  | [.tup xs] => (unI xs).map fun bs => .int bs.sum
  | _ => none
def sumTD : List D → Option D
  | [.tup xs] => (unI xs).map fun bs => .int bs.sum
  | _ => none
abbrev rSum2 (K : PySem.W.Frag) : List V → Hp → VK → Prop := fun vs H Q => rSum K vs H Q ∨ rSumA K vs H Q
section
variable {K : PySem.W.Frag} {mg : Str → Option Value} {r : Addr} {X : Cx} {O : List Nat} {E : XK} {e : Expr} {pos : Pos} {ts : TA}
theorem cs_sumA : CallS K mg r (rSumA K) sumTD := by
  intro Hs H tp xs ds z Q w rx hz k
  unfold sumTD at hz
  split at hz
  · obtain ⟨bs, h1, h2⟩ := Option.map_eq_some_iff.mp hz
    subst h2
    obtain ⟨x, rfl, h⟩ := paired1 rx
    rw [unI_ok h1] at h
    obtain ⟨p, vs, rfl, _, a, b⟩ := repT_tup w h
    have := RepDs.ints_of b
    subst this
    exact ⟨p, bs, rfl, .of a, k _ _ _ (Grow.refl _ _) w (.int _)⟩
  · cases hz
theorem ge_sum2 {p0 : Pos} {ms : SE (List D)} (hc : X.calm = true) (hm : X.mg "sum" = none) (ha : GAO K mg r X O E [e] ts ms) (hg : Gl X "sum" := by rfl) (he : starEach [e] X.env = (false, eval e X.env) :: starEach [] X.env := by rfl) (hpl : (backTo pos (starEach [] X.env)).any (·.1) = false := by rfl) (hK : X.K = K := by rfl) :
    GE K mg r X O E (.Call (.Name "sum" p0) [e] [] pos) (tCB (rSum2 K) ts) (callB sum2D ms) := by
  subst hK
  exact ge_callB (crr_or (cr_sum hc) (cr_sumA hc)) (CallS.or cs_sum cs_sumA fun d z h => by
    unfold sum2D at h
    split at h
    · exact .inl h
    · exact .inr h
    · cases h) hm ha hg (by decide +kernel) (by decide) (by decide) he hpl
end
end G
set_option maxHeartbeats 1000000
set_option maxHeartbeats 1000000
set_option maxHeartbeats 1000000
namespace G
open PySem PySem.Spec PyProof.Rows L2
variable [_root_.G.Wo]
def keyOf : D → Option Key
  | .int i => some (.inl i)
  | .str s => some (.inr s)
  | _ => none
def keysL : List D → Option (List Key)
  | [] => some []
  | d :: ds => (keyOf d).bind fun q => (keysL ds).map (q :: ·)
def keysOf : D → Option (List Key)
  | .tup ds => keysL ds
  | _ => none
def findP {κ : Type} [DecidableEq κ] (kf : D → Option κ) : List (D × D) → κ → Option D
  | [], _ => none
  | (a, b) :: r, q => if kf a = some q then some b else findP kf r q
def putP {κ : Type} [DecidableEq κ] (kf : D → Option κ) (kd : κ → D) (ds : List (D × D)) (q : κ) (v : D) : List (D × D) :=
  if (findP kf ds q).isSome = true then ds.map (fun p => if kf p.1 = some q then (p.1, v) else p) else ds ++ [(kd q, v)]
theorem keyOf_D (q : Key) : keyOf (keyD q) = some q := by cases q <;> rfl
theorem keysL_D (qs : List Key) : keysL (qs.map keyD) = some qs := by
  induction qs with
  | nil => rfl
  | cons q qs ih =>
    rw [List.map_cons]
    unfold keysL
    rw [keyOf_D, ih]; rfl
theorem keysOf_T (qs : List Key) : keysOf (keyT qs) = some qs := keysL_D qs
section
variable {K : PySem.W.Frag} {mg : Str → Option Value} {r : Addr} {Hs Hs' H H' : Hp} {tp : List D}
theorem repT_key {v : V} {d : D} {q : Key} (h : RepT K mg r Hs H v d) (e : keyOf d = some q) : v = kV q := by
  cases d with
  | int i => cases e; rw [repT_int h]; rfl
  | str s => cases e; rw [repT_str h]; rfl
  | _ => cases e
theorem reps_keys : ∀ {ds : List D} {vs : List V} {qs : List Key}, RepDs K mg r Hs vs ds → keysL ds = some qs → vs = qs.map kV
  | [], _, _, .nil, e => by cases e; rfl
  | d :: ds, _, qs, .cons h hs, e => by
    unfold keysL at e
    obtain ⟨q, h1, e⟩ := Option.bind_eq_some_iff.mp e
    obtain ⟨qs', h2, e⟩ := Option.map_eq_some_iff.mp e
    subst e
    rw [repT_key (H := Hs) h.top h1, reps_keys hs h2]; rfl
theorem repT_keys {v : V} {d : D} {qs : List Key} (w : Wd K mg r Hs H tp) (h : RepT K mg r Hs H v d) (e : keysOf d = some qs) : ∃ b, v = .ref b ∧ H b = some (.tup (qs.map kV)) := by
  cases d with
  | tup ds =>
    obtain ⟨p, vs, rfl, _, a, b⟩ := repT_tup w h
    exact ⟨p, rfl, by rw [a, reps_keys b e]⟩
  | _ => cases e
theorem repT_dic {v : V} {ds : List (D × D)} (w : Wd K mg r Hs H tp) (h : RepT K mg r Hs H v (.dic ds)) : ∃ p kvs, v = .ref p ∧ Rd H p (.dK kvs) ∧ RepP K mg r Hs (kvs.map fun q => (keyD q.1, q.2)) ds := by
  rcases h with h | ⟨p, e, _, kvs, a, b⟩
  · cases h with
    | dicK a b => exact ⟨_, _, rfl, w.sub.rd a, b⟩
  · exact ⟨p, kvs, e, .of a, b⟩
theorem repT_dct {v : V} {ds : List (D × D)} (w : Wd K mg r Hs H tp) (h : RepT K mg r Hs H v (.dct ds)) : ∃ p kvs, v = .ref p ∧ Rd H p (.dT kvs) ∧ RepP K mg r Hs (kvs.map fun q => (keyT q.1, q.2)) ds := by
  rcases h with h | ⟨p, e, _, kvs, a, b⟩
  · cases h with
    | dicT a b => exact ⟨_, _, rfl, w.sub.rd a, b⟩
  · exact ⟨p, kvs, e, .of a, b⟩
section
variable {κ : Type} [DecidableEq κ] {kf : D → Option κ} {kd : κ → D}
theorem find_rep (hk : ∀ q, kf (kd q) = some q) (q : κ) : ∀ {kvs : List (κ × V)} {ds : List (D × D)}, RepP K mg r Hs (kvs.map fun p => (kd p.1, p.2)) ds →
    (∀ d, findP kf ds q = some d → ∃ v, valV kvs q = some v ∧ RepD K mg r Hs v d) ∧ (findP kf ds q = none → valV kvs q = none)
  | [], _, .nil => ⟨fun d e => (by cases e), fun _ => rfl⟩
  | p :: kvs, _, .cons (d := d0) (ds := ds) h hs => by
    obtain ⟨a, b⟩ := find_rep hk q (kvs := kvs) (ds := ds) hs
    by_cases e : p.1 = q
    · have ek : kf (kd p.1) = some q := by rw [hk, e]
      unfold findP
      rw [if_pos ek]
      refine ⟨fun d ed => ?_, fun ed => by cases ed⟩
      cases ed
      exact ⟨p.2, valV_pos e, h⟩
    · have ek : ¬ kf (kd p.1) = some q := by rw [hk]; intro z; exact e (Option.some.inj z)
      unfold findP
      rw [if_neg ek]
      refine ⟨fun d ed => ?_, fun ed => by rw [valV_neg e]; exact b ed⟩
      obtain ⟨v, h1, h2⟩ := a d ed
      exact ⟨v, by rw [valV_neg e]; exact h1, h2⟩
theorem repP_map (hk : ∀ q, kf (kd q) = some q) {q : κ} {z : V} {v : D} (hz : RepD K mg r Hs z v) : ∀ {kvs : List (κ × V)} {ds : List (D × D)}, RepP K mg r Hs (kvs.map fun p => (kd p.1, p.2)) ds →
    RepP K mg r Hs ((kvs.map fun kv => if kv.1 = q then (kv.1, z) else kv).map fun p => (kd p.1, p.2)) (ds.map fun p => if kf p.1 = some q then (p.1, v) else p)
  | [], _, .nil => .nil
  | p :: kvs, _, .cons (d := d0) (ds := ds) h hs => by
    have ih := repP_map (q := q) hk hz (kvs := kvs) (ds := ds) hs
    rw [List.map_cons, List.map_cons, List.map_cons]
    by_cases e : p.1 = q
    · rw [if_pos e, if_pos (by show kf (kd p.1) = some q; rw [hk, e])]
      exact .cons hz ih
    · rw [if_neg e, if_neg (by show ¬ kf (kd p.1) = some q; rw [hk]; intro y; exact e (Option.some.inj y))]
      exact .cons h ih
theorem repP_app {a b : List (D × V)} {ds es : List (D × D)} : RepP K mg r Hs a ds → RepP K mg r Hs b es → RepP K mg r Hs (a ++ b) (ds ++ es)
  | .nil, q => q
  | .cons h p, q => .cons h (repP_app p q)
theorem put_rep (hk : ∀ q, kf (kd q) = some q) {q : κ} {z : V} {v : D} {kvs : List (κ × V)} {ds : List (D × D)} (hz : RepD K mg r Hs z v) (h : RepP K mg r Hs (kvs.map fun p => (kd p.1, p.2)) ds) :
    RepP K mg r Hs ((putK kvs q z).map fun p => (kd p.1, p.2)) (putP kf kd ds q v) := by
  obtain ⟨a, b⟩ := find_rep hk q h
  unfold putK putP
  rw [valV_any]
  cases e : findP kf ds q with
  | some d =>
    obtain ⟨v0, h1, _⟩ := a d e
    rw [h1]
    exact repP_map hk hz h
  | none =>
    rw [b e]
    rw [if_neg (by simp), if_neg (by simp), List.map_append]
    exact repP_app h (.cons hz .nil)
theorem repP_len : ∀ {a : List (D × V)} {ds : List (D × D)}, RepP K mg r Hs a ds → a.length = ds.length
  | _, _, .nil => rfl
  | _, _, .cons _ q => by simp only [List.length_cons, repP_len q]
end
def dgetD (d k : D) : Option (Option D) := match d with
  | .dic ds => (keyOf k).map fun q => findP keyOf ds q
  | .dct ds => (keysOf k).map fun q => findP keysOf ds q
  | _ => none
theorem dget_ok {x y : V} {d k : D} {o : Option D} (w : Wd K mg r Hs H tp) (hx : RepT K mg r Hs H x d) (hy : RepT K mg r Hs H y k) (e : dgetD d k = some o) :
    ∃ a, x = .ref a ∧ IsD H a ∧ ∃ ov, DGet H a y ov ∧ ov.isSome = o.isSome ∧ ∀ z, o = some z → ∃ v, ov = some v ∧ RepD K mg r Hs v z := by
  unfold dgetD at e
  cases d with
  | dic ds =>
    obtain ⟨q, h1, h2⟩ := Option.map_eq_some_iff.mp e
    obtain ⟨p, kvs, rfl, a, b⟩ := repT_dic w hx
    obtain ⟨f1, f2⟩ := find_rep (K := K) (mg := mg) (r := r) keyOf_D q b
    refine ⟨p, rfl, .inl ⟨kvs, a⟩, valV kvs q, ?_, ?_, fun z hz => ?_⟩
    · rw [repT_key hy h1]; exact .inl ⟨kvs, q, a, rfl, rfl⟩
    · cases c : findP keyOf ds q with
      | none => rw [f2 c, ← h2, c]; rfl
      | some z => obtain ⟨v, e1, _⟩ := f1 z c; rw [e1, ← h2, c]; rfl
    · obtain ⟨v, e1, e2⟩ := f1 z (h2.trans hz)
      exact ⟨v, e1, e2⟩
  | dct ds =>
    obtain ⟨q, h1, h2⟩ := Option.map_eq_some_iff.mp e
    obtain ⟨p, kvs, rfl, a, b⟩ := repT_dct w hx
    obtain ⟨f1, f2⟩ := find_rep (K := K) (mg := mg) (r := r) keysOf_T q b
    obtain ⟨c, rfl, hc⟩ := repT_keys w hy h1
    refine ⟨p, rfl, .inr ⟨kvs, a⟩, valV kvs q, .inr ⟨kvs, q, c, a, rfl, hc, rfl⟩, ?_, fun z hz => ?_⟩
    · cases c : findP keysOf ds q with
      | none => rw [f2 c, ← h2, c]; rfl
      | some z => obtain ⟨v, e1, _⟩ := f1 z c; rw [e1, ← h2, c]; rfl
    · obtain ⟨v, e1, e2⟩ := f1 z (h2.trans hz)
      exact ⟨v, e1, e2⟩
  | _ => cases e
end
section
variable {r : Addr} {X : Cx} {K : PySem.W.Frag} {mg : Str → Option Value} {O : List Nat} {E : XK} {a b c : Expr} {ta tb tc : TE} {pos : Pos}
/-- d.get(k, x) -/
def isDicD : D → Bool
  | .dic _ => true
  | .dct _ => true
  | _ => false
def get2E (ma mb mc : SE D) : SE D := fun env tp => (ma env tp).bind fun d tp1 => if isDicD d = true then (mb env tp1).bind fun k tp2 => (mc env tp2).bind fun x tp3 => (match dgetD d k with
  | some o => .ok (o.getD x) tp3
  | none => .stuck) else .stuck
theorem isD_of {Hs H : Hp} {tp : List D} {x : V} {d : D} (w : Wd K mg r Hs H tp) (hx : RepT K mg r Hs H x d) (e : isDicD d = true) : ∃ p, x = .ref p ∧ IsD H p := by
  cases d with
  | dic ds =>
    obtain ⟨p, kvs, rfl, a, _⟩ := repT_dic w hx
    exact ⟨p, rfl, .inl ⟨kvs, a⟩⟩
  | dct ds =>
    obtain ⟨p, kvs, rfl, a, _⟩ := repT_dct w hx
    exact ⟨p, rfl, .inr ⟨kvs, a⟩⟩
  | _ => cases e
theorem ge_get2 {ma mb mc : SE D} {apos cpos : Pos} (hu : X.A.units + 64 < cLine) (ha : GO K mg r X O E a ta ma) (hb : GE K mg r X O E b tb mb) (hc : GE K mg r X O E c tc mc)
    (hbase : attributeBase a "get" X.env (eval a X.env) = eval a X.env := by rfl)
    (hfew : ((backTo cpos (starEach [b, c] X.env)).all (fun x => !x.1) && (backToKw cpos (keywordEach [] X.env)).all (fun x => x.1.isSome) && decide (([b, c] : List Expr).length + ([] : List Keyword).length + (if ([] : List Keyword).isEmpty then 0 else 1) < 30)) = true := by rfl)
    (hline : (apos.endLine == cpos.line) = true := by rfl) (htrees : backTo cpos (starEach [b, c] X.env) = [(false, eval b X.env), (false, eval c X.env)] := by rfl) :
    GE K mg r X O E (.Call (.Attribute a "get" apos) [b, c] [] cpos) (tDGet2 ta tb tc) (get2E ma mb mc) := by
  refine ⟨pe_dget2 (by omega) ha.pe hb.pe hc.pe ⟨hbase, hfew, hline, htrees⟩, fun Hs0 H0 Hs H σ env tp Q Rl P => ?_⟩
  unfold get2E at P
  refine ha.snd _ _ _ _ _ _ _ _ Rl (Post.bind P fun v Hs1 H1 d tp1 _ g w rv P1 => ?_)
  by_cases hd : isDicD d = true
  · rw [if_pos hd] at P1
    obtain ⟨p, rfl, isd⟩ := isD_of w rv hd
    refine ⟨p, rfl, isd, ?_⟩
    refine hb.snd _ _ _ _ _ _ _ _ (Rl.grow g w) (Post.bind P1 fun u Hs2 H2 k tp2 _ g2 w2 ru P2 => ?_)
    refine hc.snd _ _ _ _ _ _ _ _ ((Rl.grow g w).grow g2 w2) (Post.bind P2 fun y Hs3 H3 x tp3 _ g3 w3 ry P3 => ?_)
    cases e : dgetD d k with
    | none => rw [e] at P3; exact P3.elim
    | some o =>
      rw [e] at P3
      obtain ⟨p', hp, _, ov, dg, hs, e1⟩ := dget_ok w3 (rv.grow (g2.trans g3)) (RepD.top (ru.mono g3.ex)) e
      cases hp
      refine ⟨ov, dg, P3 _ Hs3 H3 (Grow.refl _ _) w3 ?_⟩
      cases o with
      | none =>
        cases ov with
        | none => exact ry
        | some _ => cases hs
      | some z =>
        obtain ⟨v1, rfl, rv1⟩ := e1 z rfl
        exact rv1
  · rw [if_neg hd] at P1; exact P1.elim
theorem gf_dnew : GF K mg r X O E (.Dict [] [] pos) tDNewK (cE (.dic [])) := by
  refine ⟨pe_dnewK, fun Hs0 H0 Hs H σ env tp Q R P p hp => ?_⟩
  obtain ⟨g, w, f⟩ := fresh_new (K := K) (mg := mg) (o := .dK []) (d := .dic []) (Grow.refl Hs H) R.wd hp ⟨[], upd_same, .nil⟩
  exact P _ _ _ g w f
def putD (d k v : D) : Option D := match d with
  | .dic ds => if ds.length < sizeLine then (keyOf k).map fun q => .dic (putP keyOf keyD ds q v) else none
  | .dct ds => if ds.length < sizeLine then (keysOf k).map fun q => .dct (putP keysOf keyT ds q v) else none
  | _ => none
def dsetS (i : Nat) (mk mv : SE D) : SS := fun env tp => match env[i]? with
  | some (some d) => (mv env tp).bindS fun v tp1 => (mk env tp1).bindS fun k tp2 => (match putD d k v with
    | some d' => .nx (env.set i (some d')) tp2
    | none => .stuck)
  | _ => .stuck
theorem gs_dset {mk mv : SE D} {Ol : List Nat} (i : Nat) {x : Str} {p1 p2 : Pos} {k val : Expr} {tk tv : TE} (hu : X.A.units + 64 < cLine) (hO : i ∈ O) (hk : GE K mg r X O E k tk mk) (hv : GE K mg r X O E val tv mv) (hN : X.N[i]? = some x := by rfl)
    (hvis : Vis X.env.scope x := by first | exact Or.inl rfl | exact Or.inr (Or.inl rfl) | exact Or.inr (Or.inr rfl)) (hd : (x == ("__debug__" : Str)) = false := by decide) (hcd : (x == ("__classdict__" : Str)) = false := by decide)
    (hs : swapsWith val (some (.Subscript (.Name x p1) k p2)) pos.line X.env = pure false := by rfl) : GS K mg r X E O O Ol (.Assign [.Subscript (.Name x p1) k p2] val pos) (sDPut (tVar i) tk tv) (dsetS i mk mv) := by
  refine ⟨ps_dput (by omega) (pe_var hN hvis hd hcd) hk.pe hv.pe hs, fun Hs0 H0 Hs H σ env tp Dn R P => ?_⟩
  obtain ⟨d0, p, b1, b2, c, c0, ne, oa⟩ := R.own i hO
  unfold dsetS at P
  rw [b1] at P
  simp only at P
  refine hv.snd _ _ _ _ _ _ _ _ R (PostS.bind R P fun v Hs1 H1 dv tp1 _ g w R1 rv P1 => ?_)
  refine ⟨_, b2, ?_⟩
  refine hk.snd _ _ _ _ _ _ _ _ R1 (PostS.bind R1 P1 fun u Hs2 H2 dk tp2 _ g2 w2 R2 ru P2 => ?_)
  obtain ⟨d1, p1, e1, e2, f, f0, fn, fo⟩ := R2.own i hO
  rw [b2] at e2; cases e2
  rw [b1] at e1; cases e1
  cases e : putD d0 dk dv with
  | none => rw [e] at P2; exact P2.elim
  | some d' =>
    rw [e] at P2
    have rv2 := rv.mono g2.ex
    cases d0 with
    | dic ds =>
      obtain ⟨kvs, h1, h2⟩ := fo
      unfold putD at e
      simp only at e
      split at e
      · rename_i hz
        obtain ⟨q, hq, hd'⟩ := Option.map_eq_some_iff.mp e
        subst hd'
        have ek := repT_key (H := H2) ru.top hq
        subst ek
        have hl : kvs.length < sizeLine := by have := repP_len h2; rw [List.length_map] at this; omega
        exact ⟨p, _, rfl, .k h1 hl, P2 _ _ _ (Same.refl _) (R2.write hO b2 ⟨_, upd_same, put_rep keyOf_D rv2 h2⟩)⟩
      · cases e
    | dct ds =>
      obtain ⟨kvs, h1, h2⟩ := fo
      unfold putD at e
      simp only at e
      split at e
      · rename_i hz
        obtain ⟨q, hq, hd'⟩ := Option.map_eq_some_iff.mp e
        subst hd'
        obtain ⟨b, eb, hb⟩ := repT_keys w2 ru.top hq
        subst eb
        have hl : kvs.length < sizeLine := by have := repP_len h2; rw [List.length_map] at this; omega
        exact ⟨p, _, rfl, .inr ⟨kvs, q, b, h1, rfl, hb, hl, rfl⟩, P2 _ _ _ (Same.refl _) (R2.write hO b2 ⟨_, upd_same, put_rep keysOf_T rv2 h2⟩)⟩
      · cases e
    | _ => cases e
end
end G
set_option maxHeartbeats 1000000
namespace G
open PySem PySem.Spec PyProof.Rows L2
end G
set_option maxHeartbeats 1000000
namespace G
open PySem PySem.Spec PyProof.Rows L2
theorem nk_entries [Wo] {P : Program} {w : World} (hw : ∀ k, Wo.hash k = NestedKey.hash w k) (xs : List (NestedKey × Addr × Value)) : xs.map (entryOfKey (nestedKind P w)) = xs.map fun x => (⟨Wo.hash x.1, .ref x.2.1, x.2.2⟩ : DictEntry) :=
  List.map_congr_left fun x _ => by
    show (⟨(x.1).hash w, .ref x.2.1, x.2.2⟩ : DictEntry) = _
    rw [hw]
/-- the object at b is a key -/
def KeyIs (H : Hp) (b : Addr) (k : NestedKey) : Prop := KeyV H (.ref b) k ∧ k.depth ≤ 8
mutual
theorem key_nested {P : Program} {w : World} {H : Hp} {h : Heap} (ok : HOk P w H h) : ∀ {v : V} {k : NestedKey} {u : Value}, KeyV H v k → RelV v u → NestedIs h k u
  | _, _, _, .non, r => by cases (show _ = Value.none from r); exact .none
  | _, _, _, .int i, r => by obtain ⟨t, rfl⟩ := r; exact .int _ _
  | _, _, _, .bl b, r => by cases (show _ = Value.bool b from r); exact .bool rfl
  | _, _, _, .str s, r => by obtain ⟨t, rfl⟩ := r; exact .text _ _
  | _, _, _, .tup (p := p) (vs := vs) e q, r => by
    cases (show _ = Value.ref p from r)
    obtain ⟨_, its, r, o, h1, h2, n, h3⟩ := (show ObjOk P w H h p (.tup vs) from ok p _ e)
    exact .tup h1 h2 h3 (by simpa using keys_nested ok q r)
theorem keys_nested {P : Program} {w : World} {H : Hp} {h : Heap} (ok : HOk P w H h) : ∀ {vs : List V} {ks : List NestedKey} {us : List Value}, KeyVs H vs ks → Vals vs us → NestedAll h ks us
  | _, _, _, .nil, .nil => .nil
  | _, _, _, .cons a b, .cons r rs => .cons (key_nested ok a r) (keys_nested ok b rs)
end
theorem key_is {P : Program} {w : World} {H : Hp} {h : Heap} {b : Addr} {k : NestedKey} (ok : HOk P w H h) (hk : KeyIs H b k) : (nestedKind P w).is h k b := ⟨key_nested ok hk.1 rfl, hk.2⟩
section
variable [Wo]
theorem memo_no_mark {P : Program} {w : World} {H : Hp} {h : Heap} {a : Addr} {n : Int} {ps : List Str} (ok : HOk P w H h) (m : At H a (markM n ps)) : MemoAt n ps H a := by
  rcases m with m | ⟨m, _⟩ | ⟨k, qs, e, m⟩
  · obtain ⟨_, z, _⟩ := (show ObjOk P w H h a (markM n ps) from ok a _ m)
    rw [List.length_cons, List.length_append, List.length_replicate] at z
    omega
  · cases m
  · obtain ⟨rfl, rfl⟩ := markM_inj e; exact m
theorem memo_dict {P : Program} {w : World} {H : Hp} {h : Heap} {a : Addr} {n : Int} {ps : List Str} {xs : List (NestedKey × Addr × Value)} (hw : ∀ k, Wo.hash k = NestedKey.hash w k) (ok : HOk P w H h) (e : H a = some (.ext (memoP a xs))) (hx : ∀ x ∈ xs, EntOk n ps H x) : h.DictOfH (nestedKind P w) a xs ∧ (xs.map (·.1)).Nodup := by
  obtain ⟨⟨o, es, ep, h1, h2, h3, h4, h5⟩, _⟩ := (show ObjOk P w H h a (.ext (memoP a xs)) from ok a _ e)
  exact ⟨⟨o, es, ep, h1, h2, h3, by rw [nk_entries hw]; exact h4, fun y hy => key_is ok (hx y hy).1, h5⟩, h5⟩
/-- the dict of known answers holds the key -/
def MemoHas (n : Int) (ps : List Str) (H : Hp) (a : Addr) (k : NestedKey) : Prop := ∃ xs, H a = some (.ext (memoP a xs)) ∧ (a == sysModules) = false ∧ (∀ x ∈ xs, EntOk n ps H x) ∧ ∃ x ∈ xs, x.1 = k
end
theorem atKey_nk {xs : List (NestedKey × Addr × Value)} {k : NestedKey} : (atKey xs k).isSome = true ↔ ∃ x ∈ xs, x.1 = k := by
  unfold atKey
  rw [Option.isSome_map, List.find?_isSome]
  constructor
  · rintro ⟨y, hy, e⟩; exact ⟨y, hy, of_decide_eq_true e⟩
  · rintro ⟨x, hx, e⟩; exact ⟨x, hx, decide_eq_true e⟩
theorem atKey_mem {xs : List (NestedKey × Addr × Value)} {k : NestedKey} {p : Addr × Value} (h : atKey xs k = some p) : (k, p) ∈ xs := by
  unfold atKey at h
  obtain ⟨y, hy, e⟩ := Option.map_eq_some_iff.mp h
  have h1 := List.mem_of_find?_eq_some hy
  have h2 : y.1 = k := of_decide_eq_true (List.find?_some (p := fun x : NestedKey × Addr × Value => decide (x.1 = k)) hy)
  rw [← h2, ← e]; exact h1
section
variable [Wo] {X : Cx} {pins : List (Addr × Obj)} {σ : L2.St} {H : Hp} {s : Shared} {a b : Addr} {n : Int} {ps : List Str} {k : NestedKey} {A : Around} {E : Value → Shared → Prop}
theorem memo_few {xs : List (NestedKey × Addr × Value)} (nd : (xs.map (·.1)).Nodup) (hx : ∀ x ∈ xs, EntOk n ps H x) : xs.length ≤ sizeLine := by
  refine Nat.le_trans ?_ (tells_few n ps (xs.map (·.1)) nd fun k hk => ?_)
  · rw [List.length_map]; exact Nat.le_refl _
  · obtain ⟨x, h, rfl⟩ := List.mem_map.mp hk
    obtain ⟨_, v, d, e, _⟩ := hx x h
    rw [e]; rfl
theorem m_room (hu : A.units + 64 < cLine) : (nestedKind X.prog X.w).room A.in1 := by
  show A.units + 1 + 8 < cLine; omega
theorem m_notIn {Q : Value → Shared → Prop} (hw : ∀ k, Wo.hash k = NestedKey.hash X.w k) (hu : A.units + 64 < cLine) (I : Inv X pins σ H s) (m : At H a (markM n ps)) (hk : KeyIs H b k)
    (h : ∀ s', Inv X pins σ H s' → Q (.bool true) s') (h2 : MemoHas n ps H a k → ∀ s', Inv X pins σ H s' → Q (.bool false) s') : wpAny (model X.prog X.w) A (compareOp .NotIn (.ref b) (.ref a)) Q E s := by
  obtain ⟨xs, e, hd, hx⟩ := memo_no_mark I.hok m
  obtain ⟨dd, _⟩ := memo_dict (P := X.prog) (w := X.w) hw I.hok e hx
  refine wpAny_notIn_heap (m_room hu) (key_is I.hok hk) hd dd ?_
  cases z : (atKey xs k).isSome with
  | false => exact h _ (I.tok _)
  | true => exact h2 ⟨xs, e, hd, hx, atKey_nk.mp z⟩ _ (I.tok _)
theorem m_get {Q : Value → Shared → Prop} (hw : ∀ k, Wo.hash k = NestedKey.hash X.w k) (hu : A.units + 64 < cLine) (I : Inv X pins σ H s) (m : MemoHas n ps H a k) (hk : KeyIs H b k)
    (h : ∀ v d u s', tellsF n ps k = some d → VRep H v d → RelV v u → Inv X pins σ H s' → Q u s') : wpAny (model X.prog X.w) A (getItem (.ref a) (.ref b)) Q E s := by
  obtain ⟨xs, e, hd, hx, hm⟩ := m
  obtain ⟨dd, _⟩ := memo_dict (P := X.prog) (w := X.w) hw I.hok e hx
  obtain ⟨p, hp⟩ := Option.isSome_iff_exists.mp (atKey_nk.mpr hm)
  refine wpAny_getItem_heap (m_room hu) (key_is I.hok hk) dd hp ?_
  obtain ⟨_, v, d, td, rv, ev⟩ := hx _ (atKey_mem hp)
  exact h v d p.2 _ td rv ev (I.tok _)
theorem m_set {v : V} {u : Value} {d : D} {Q : Unit → Shared → Prop} (hw : ∀ k, Wo.hash k = NestedKey.hash X.w k) (hu : A.units + 64 < cLine) (I : Inv X pins σ H s) (m : At H a (markM n ps)) (hk : KeyIs H b k) (ht : tellsF n ps k = some d) (hv : VRep H v d) (ru : RelV v u)
    (h : ∀ H' s', MemoHas n ps H' a k → (∀ c, c ≠ a → H' c = H c) → Inv X pins σ H' s' → Q () s') : wpAny (model X.prog X.w) A (setItem (.ref a) (.ref b) u) Q E s := by
  obtain ⟨xs, e, hd, hx⟩ := memo_no_mark I.hok m
  obtain ⟨dd, nd⟩ := memo_dict (P := X.prog) (w := X.w) hw I.hok e hx
  have hz : xs.length ≤ sizeLine := memo_few nd hx
  have entY : ∀ y ∈ storedH xs k b u, EntOk n ps H y := fun y hy => by
    unfold storedH at hy
    split at hy
    · obtain ⟨x, hx', rfl⟩ := List.mem_map.mp hy
      unfold putAt
      split
      · rename_i w
        exact ⟨(hx x hx').1, v, d, by rw [show x.1 = k from w]; exact ht, hv, ru⟩
      · exact hx x hx'
    · rcases List.mem_append.mp hy with z | z
      · exact hx y z
      · rw [List.mem_singleton.mp z]; exact ⟨hk, v, d, ht, hv, ru⟩
  have has : ∃ y ∈ storedH xs k b u, y.1 = k := by
    unfold storedH
    by_cases z : (atKey xs k).isSome = true
    · rw [if_pos z]
      obtain ⟨x, hx', e⟩ := atKey_nk.mp z
      refine ⟨_, List.mem_map_of_mem hx', ?_⟩
      unfold putAt
      rw [if_pos e]; exact e
    · rw [if_neg z]; exact ⟨_, List.mem_append_right _ List.mem_cons_self, rfl⟩
  refine wpAny_setItem_heap (hsz := hz) (m_room hu) (key_is I.hok hk) dd fun h' dd' hs => ?_
  generalize storedH xs k b u = ys at dd' entY has
  obtain ⟨q, es, ep, hq, h2, h3, h4, h5, h6⟩ := dd'
  have keep : ∀ c (xs : StU), H c = some xs.1 → upd H a (.ext (memoP a ys)) c = some xs.1 := fun c xs ec => by
    rw [upd_ne fun z => st_no rfl xs (Option.some.inj (e.symm.trans (by rw [← z]; exact ec)))]; exact ec
  refine h (upd H a (.ext (memoP a ys))) _ ⟨ys, upd_same, hd, fun y hy => (entY y hy).keep keep, has⟩ (fun c hc => upd_ne hc) (d_write I (by rw [e]; exact True.intro) hs ⟨q, hq⟩ ⟨⟨q, es, ep, hq, h2, h3, by rw [← nk_entries (P := X.prog) (w := X.w) hw]; exact h4, h6⟩, ⟨q, hq⟩, ?_⟩)
  rintro h1 h2 ⟨o, es, ep, g1, g⟩ kk
  exact ⟨o, es, ep, kk _ g1, g⟩
end
section
variable [Wo]
def tMNotIn (ty td : TE) : TE := fun σ H Q => ty σ H fun y H1 => td σ H1 fun x H2 => ∃ a b n ps k, x = .ref a ∧ y = .ref b ∧ At H2 a (markM n ps) ∧ KeyIs H2 b k ∧ Q (.bl true) H2 ∧ (MemoHas n ps H2 a k → Q (.bl false) H2)
def tMGet (td ty : TE) : TE := fun σ H Q => td σ H fun x H1 => ty σ H1 fun y H2 => ∃ a b n ps k, x = .ref a ∧ y = .ref b ∧ MemoHas n ps H2 a k ∧ KeyIs H2 b k ∧ ∀ v d, tellsF n ps k = some d → VRep H2 v d → Q v H2
def sMPut (td ty tv : TE) : TS := fun D σ H => tv σ H fun v H1 => td σ H1 fun x H2 => ty σ H2 fun y H3 => ∃ a b n ps k d, x = .ref a ∧ y = .ref b ∧ VRep H3 v d ∧ At H3 a (markM n ps) ∧ KeyIs H3 b k ∧ tellsF n ps k = some d ∧ ∀ H4, MemoHas n ps H4 a k → (∀ c, c ≠ a → H4 c = H3 c) → D.nx σ H4
/-- as sMPut; what is put is a dict, which is locked for good -/
def sMPutL (td ty tv : TE) : TS := fun D σ H => tv σ H fun v H1 => td σ H1 fun x H2 => ty σ H2 fun y H3 => ∃ a b n ps k d p kvs, x = .ref a ∧ y = .ref b ∧ v = .ref p ∧ H3 p = some (.dK kvs) ∧ (∀ o, At (upd H3 p (.frz o (.dK kvs))) a (markM n ps) ∧ KeyIs (upd H3 p (.frz o (.dK kvs))) b k ∧ VRep (upd H3 p (.frz o (.dK kvs))) v d) ∧ tellsF n ps k = some d ∧ ∀ o H4, MemoHas n ps H4 a k → (∀ c, c ≠ a → H4 c = upd H3 p (.frz o (.dK kvs)) c) → D.nx σ H4
def tDNewM : TE := fun _ H Q => ∀ p, H p = none → (p == sysModules) = false → Q (.ref p) (upd H p (.ext (memoP p [])))
end
section
variable [Wo] {X : Cx} {o i value : Expr} {pos pos' : Pos} {td ty tv : TE}
theorem pc_mnotin (hw : ∀ k, Wo.hash k = NestedKey.hash X.w k) (hu : X.A.units + 64 < cLine) (hi : PE X i ty) (ho : PE X o td) : PC X .NotIn i o (tMNotIn ty td) := by
  refine ⟨fun pins s σ H Q I h => ?_⟩
  refine thn (hi.run pins s σ H _ I h) fun iv s1 ⟨y, H1, I1, ry, q1⟩ => thn (ho.run pins s1 σ H1 _ I1 q1) fun u s2 ⟨x, H2, I2, rx, a, b, n, ps, k, ex, ey, m, hk, q2, q3⟩ => ?_
  subst ex ey
  obtain rfl : u = Value.ref a := rx
  obtain rfl : iv = Value.ref b := ry
  exact m_notIn hw hu I2 m hk (fun s3 I3 => ⟨.bl true, H2, I3, rfl, q2⟩) fun hm s3 I3 => ⟨.bl false, H2, I3, rfl, q3 hm⟩
theorem pe_mget (hw : ∀ k, Wo.hash k = NestedKey.hash X.w k) (hu : X.A.units + 64 < cLine) (ho : PE X o td) (hi : PE X i ty) (hs : NoSl i) : PE X (.Subscript o i pos) (tMGet td ty) := by
  refine ⟨fun pins s σ H Q I h => ?_⟩
  refine subD_of PySem.F.slot_dict_getitem.lookup hs (thn (ho.run pins s σ H _ I h) fun u s1 ⟨x, H1, I1, rx, q1⟩ => thn (hi.run pins s1 σ H1 _ I1 q1) fun iv s2 ⟨y, H2, I2, ry, a, b, n, ps, k, ex, ey, m, hk, q2⟩ => ?_)
  subst ex ey
  obtain rfl : u = Value.ref a := rx
  obtain rfl : iv = Value.ref b := ry
  refine ⟨?_, m_get hw hu I2 m hk fun v d u s3 td rv ru I3 => ⟨v, H2, I3, ru, q2 v d td rv⟩⟩
  obtain ⟨xs, e, hd, hx, _⟩ := m
  exact (memo_dict (P := X.prog) (w := X.w) hw I2.hok e hx).1.typeIs
theorem ps_mput (hw : ∀ k, Wo.hash k = NestedKey.hash X.w k) (hu : X.A.units + 64 < cLine) (ho : PE X o td) (hi : PE X i ty) (hv : PE X value tv) (hs : swapsWith value (some (.Subscript o i pos')) pos.line X.env = pure false := by rfl) :
    PS X (.Assign [.Subscript o i pos'] value pos) (sMPut td ty tv) := by
  refine ⟨fun pins s σ H D I h => ?_⟩
  refine wpAny_Assign_Subscript (thn (hv.run pins s σ H _ I h) fun r s1 ⟨v, H1, I1, rv, q1⟩ => thn (ho.run pins s1 σ H1 _ I1 q1) fun u s2 ⟨x, H2, I2, rx, q2⟩ => thn (hi.run pins s2 σ H2 _ I2 q2) fun iv s3 ⟨y, H3, I3, ry, a, b, n, ps, k, d, ex, ey, ev, m, hk, ht, q3⟩ => ?_) hs
  subst ex ey
  obtain rfl : u = Value.ref a := rx
  obtain rfl : iv = Value.ref b := ry
  exact m_set hw hu I3 m hk ht ev rv fun H4 s4 mh off I4 => ⟨σ, H4, I4, q3 H4 mh off⟩
theorem ps_mputL (hw : ∀ k, Wo.hash k = NestedKey.hash X.w k) (hu : X.A.units + 64 < cLine) (ho : PE X o td) (hi : PE X i ty) (hv : PE X value tv) (hs : swapsWith value (some (.Subscript o i pos')) pos.line X.env = pure false := by rfl) :
    PS X (.Assign [.Subscript o i pos'] value pos) (sMPutL td ty tv) := by
  refine ⟨fun pins s σ H D I h => ?_⟩
  refine wpAny_Assign_Subscript (thn (hv.run pins s σ H _ I h) fun r s1 ⟨v, H1, I1, rv, q1⟩ => thn (ho.run pins s1 σ H1 _ I1 q1) fun u s2 ⟨x, H2, I2, rx, q2⟩ => thn (hi.run pins s2 σ H2 _ I2 q2) fun iv s3 ⟨y, H3, I3, ry, a, b, n, ps, k, d, p, kvs, ex, ey, ev, hp, hl, ht, q3⟩ => ?_) hs
  subst ex ey
  obtain rfl : u = Value.ref a := rx
  obtain rfl : iv = Value.ref b := ry
  obtain ⟨o, I4⟩ := I3.lock hp trivial
  obtain ⟨m, hk, hr⟩ := hl o
  exact m_set hw hu I4 m hk ht hr rv fun H4 s4 mh off I5 => ⟨σ, H4, I5, q3 o H4 mh off⟩
theorem pe_dnewM : PE X (.Dict [] [] pos) tDNewM := ⟨fun pins s σ H Q I h =>
  wpAny_Dict_empty ⟨.ref s.heap.objs.size, _, I.laid (a := s.heap.objs.size) (o := .ext (memoP s.heap.objs.size [])) (t' := s.toks) (fun _ _ q => Heap.get?_push_of_some _ q) (Nat.le_refl _)
    ⟨⟨_, #[], 0, Heap.get?_push_size _ rfl, ⟨rfl, rfl, rfl⟩, rfl, rfl, List.nodup_nil⟩, ⟨_, Heap.get?_push_size _ rfl⟩, fun h1 h2 ⟨o, es, ep, g1, g⟩ kk => ⟨o, es, ep, kk _ g1, g⟩⟩,
    rfl, h _ (I.hok.fresh (Nat.le_refl _)) (beq_eq_false_iff_ne.mpr (Ne.symm (Nat.ne_of_lt I.big)))⟩⟩
end
end G
set_option maxHeartbeats 1000000
namespace G
open PySem PySem.Spec PyProof.Rows L2
mutual
/-- the key that data makes -/
def dKey : D → Option NestedKey
  | .non => some .none
  | .int i => some (.num i)
  | .bl b => some (.num (if b = true then 1 else 0))
  | .str s => some (.text s)
  | .tup ds => (dKeys ds).map .tup
  | _ => none
def dKeys : List D → Option (List NestedKey)
  | [] => some []
  | d :: ds => (dKey d).bind fun k => (dKeys ds).map (k :: ·)
end
mutual
/-- data of numbers, truth values, texts and tuples -/
def okVD : D → Bool
  | .non => true
  | .int _ => true
  | .bl _ => true
  | .str _ => true
  | .tup ds => okVDs ds
  | _ => false
def okVDs : List D → Bool
  | [] => true
  | d :: ds => okVD d && okVDs ds
end
/-- a dict of numbers by numbers -/
def okKVs : List (D × D) → Bool
  | [] => true
  | (.int _, .int _) :: ds => okKVs ds
  | _ => false
def okDD : D → Bool
  | .dic ds => okKVs ds
  | _ => false
/-- data that a dict of known answers may hold -/
def okVX (d : D) : Bool := okVD d || okDD d
theorem okvX {d : D} (h : okVD d = true) : okVX d = true := by unfold okVX; rw [h]; rfl
theorem okvD {d : D} (h : okDD d = true) : okVX d = true := by unfold okVX; rw [h]; exact Bool.or_true _
section
variable [Wo] {K : PySem.W.Frag} {mg : Str → Option Value} {r : Addr} {X : Cx} {E : XK} {O O1 On On' Ol : List Nat}
mutual
theorem rep_keyV {Hs : Hp} : ∀ {v : V} {d : D} {k : NestedKey}, RepD K mg r Hs v d → dKey d = some k → KeyV Hs v k
  | _, _, _, .non, e => by cases e; exact .non
  | _, _, _, .bl b, e => by cases e; exact .bl b
  | _, _, _, .int i, e => by cases e; exact .int i
  | _, _, _, .str s, e => by cases e; exact .str s
  | _, _, k, .tup (ds := ds) h q, e => by
    obtain ⟨ks, e1, rfl⟩ := Option.map_eq_some_iff.mp (show (dKeys ds).map NestedKey.tup = some k from e)
    exact .tup h (rep_keysV q e1)
  | _, _, _, .lst _ _, e => by cases e
  | _, _, _, .dicK _ _, e => by cases e
  | _, _, _, .dicT _ _, e => by cases e
  | _, _, _, .scr _, e => by cases e
  | _, _, _, .tape, e => by cases e
  | _, _, _, .fn _, e => by cases e
  | _, _, _, .ty _, e => by cases e
  | _, _, _, .memo _, e => by cases e
theorem rep_keysV {Hs : Hp} : ∀ {vs : List V} {ds : List D} {ks : List NestedKey}, RepDs K mg r Hs vs ds → dKeys ds = some ks → KeyVs Hs vs ks
  | _, _, _, .nil, e => by cases e; exact .nil
  | _, _, ks, .cons (d := d) (ds := ds) h q, e => by
    obtain ⟨k, e1, e2⟩ := Option.bind_eq_some_iff.mp (show (dKey d).bind (fun k => (dKeys ds).map (k :: ·)) = some ks from e)
    obtain ⟨ks, e3, rfl⟩ := Option.map_eq_some_iff.mp e2
    exact .cons (rep_keyV h e1) (rep_keysV q e3)
end
mutual
theorem rep_v {Hs : Hp} : ∀ {v : V} {d : D}, RepD K mg r Hs v d → okVD d = true → VRep Hs v d
  | _, _, .non, _ => .non
  | _, _, .bl b, _ => .bl b
  | _, _, .int i, _ => .int i
  | _, _, .str s, _ => .str s
  | _, _, .tup h q, e => .tup h (rep_vs q e)
  | _, _, .lst _ _, e => by cases e
  | _, _, .dicK _ _, e => by cases e
  | _, _, .dicT _ _, e => by cases e
  | _, _, .scr _, e => by cases e
  | _, _, .tape, e => by cases e
  | _, _, .fn _, e => by cases e
  | _, _, .ty _, e => by cases e
  | _, _, .memo _, e => by cases e
theorem rep_vs {Hs : Hp} : ∀ {vs : List V} {ds : List D}, RepDs K mg r Hs vs ds → okVDs ds = true → VReps Hs vs ds
  | _, _, .nil, _ => .nil
  | _, _, .cons (d := d) (ds := ds) h q, e => by
    have e : (okVD d && okVDs ds) = true := e
    rw [Bool.and_eq_true] at e
    exact .cons (rep_v h e.1) (rep_vs q e.2)
end
theorem At.nottup {H : Hp} {a : Addr} {n : Int} {ps : List Str} (m : At H a (markM n ps)) (xs : StU) : H a ≠ some xs.1 := fun e => by
  rcases m with m | ⟨m, _⟩ | ⟨_, _, _, ys, m, _⟩
  · exact st_no rfl xs (Option.some.inj (m.symm.trans e))
  · cases m
  · exact st_no rfl xs (Option.some.inj (m.symm.trans e))
theorem At.is_tup {H : Hp} {p : Addr} {u : HO} {vs : List V} (h : At H p u) (e : H p = some (.tup vs)) : u = .tup vs := by
  rcases h with q | ⟨_, x, q⟩ | ⟨_, _, _, ys, q, _⟩
  · rw [e] at q; exact (Option.some.inj q).symm
  · rw [e] at q; cases q
  · rw [e] at q; cases q
/-- a tuple comes to stand still -/
theorem take_tup {Hs H : Hp} {tp : List D} {p : Addr} {vs : List V} (w : Wd K mg r Hs H tp) (e : H p = some (.tup vs)) : ∃ Hs', Grow r Hs H Hs' H ∧ Wd K mg r Hs' H tp ∧ Hs' p = some (.tup vs) := by
  cases z : Hs p with
  | some u =>
    have := At.is_tup (w.sub p u z) e
    exact ⟨Hs, Grow.refl _ _, w, by rw [z, this]⟩
  | none =>
    have ne : p ≠ r := fun q => by
      obtain ⟨us, h1, _⟩ := w.tH
      rw [← q, e] at h1; cases h1
    refine ⟨upd Hs p (.tup vs), ⟨fun b u a _ _ => a, fun b a => a, same_new z, fun b u n a => ?_, fun b ys a => a⟩, ⟨fun b u a => ?_, by rw [upd_ne ne.symm]; exact w.tn, ?_, fun b φ a => ?_⟩, upd_same⟩
    · by_cases q : b = p
      · subst q; exact .inr (.inr ⟨⟨.tup vs, rfl⟩, e⟩)
      · rw [upd_ne q] at a; exact .inl ⟨_, a⟩
    · by_cases q : b = p
      · subst q; rw [upd_same] at a; cases a; exact .inl e
      · rw [upd_ne q] at a; exact w.sub b u a
    · obtain ⟨us, h1, h2⟩ := w.tH
      exact ⟨us, h1, h2.mono (same_new z)⟩
    · by_cases q : b = p
      · subst q; rw [upd_same] at a; cases a
      · rw [upd_ne q] at a; exact w.nx b φ a
/-- a locked dict comes to stand still -/
theorem take_frz {Hs H : Hp} {tp : List D} {p : Addr} {x : Obj} {u : HO} (w : Wd K mg r Hs H tp) (e : H p = some (.frz x u)) : ∃ Hs', Grow r Hs H Hs' H ∧ Wd K mg r Hs' H tp ∧ Rd Hs' p u := by
  cases z : Hs p with
  | some o =>
    refine ⟨Hs, Grow.refl _ _, w, ?_⟩
    rcases w.sub p o z with q | ⟨_, y, q⟩ | ⟨_, _, _, ys, q, _⟩
    · rw [e] at q; cases q; exact .inr ⟨x, z⟩
    · rw [e] at q; cases q; exact .inl z
    · rw [e] at q; cases q
  | none =>
    have ne : p ≠ r := fun q => by
      obtain ⟨us, h1, _⟩ := w.tH
      rw [← q, e] at h1; cases h1
    refine ⟨upd Hs p (.frz x u), ⟨fun b u a _ _ => a, fun b a => a, same_new z, fun b u n a => ?_, fun b ys a => a⟩, ⟨fun b u a => ?_, by rw [upd_ne ne.symm]; exact w.tn, ?_, fun b φ a => ?_⟩, .inr ⟨x, upd_same⟩⟩
    · by_cases q : b = p
      · subst q; exact .inr (.inr ⟨⟨.frz x _, rfl⟩, e⟩)
      · rw [upd_ne q] at a; exact .inl ⟨_, a⟩
    · by_cases q : b = p
      · subst q; rw [upd_same] at a; cases a; exact .inl e
      · rw [upd_ne q] at a; exact w.sub b u a
    · obtain ⟨us, h1, h2⟩ := w.tH
      exact ⟨us, h1, h2.mono (same_new z)⟩
    · by_cases q : b = p
      · subst q; rw [upd_same] at a; cases a
      · rw [upd_ne q] at a; exact w.nx b φ a
theorem rep_kvs {Hs : Hp} : ∀ is : List (Int × Int), RepP K mg r Hs ((is.map fun q => ((.inl q.1 : Key), V.int q.2)).map fun q => (keyD q.1, q.2)) (is.map fun q => (D.int q.1, D.int q.2))
  | [] => .nil
  | q :: is => .cons (.int q.2) (rep_kvs is)
theorem kvs_rep {Hs : Hp} : ∀ {kvs : List (Key × V)} {ds : List (D × D)}, RepP K mg r Hs (kvs.map fun q => (keyD q.1, q.2)) ds → okKVs ds = true → ∃ is : List (Int × Int), kvs = is.map (fun q => ((.inl q.1 : Key), V.int q.2)) ∧ ds = is.map fun q => (D.int q.1, D.int q.2)
  | [], _, .nil, _ => ⟨[], rfl, rfl⟩
  | (k, v) :: kvs, _, .cons (d := d) (ds := ds) h hs, ok => by
    cases k with
    | inr s => cases d <;> exact absurd ok (by simp [keyD, okKVs])
    | inl i =>
      cases d with
      | int j =>
        cases h
        obtain ⟨is, e1, e2⟩ := kvs_rep (kvs := kvs) hs ok
        exact ⟨(i, j) :: is, by rw [e1]; rfl, by rw [e2]; rfl⟩
      | _ => exact absurd ok (by simp [keyD, okKVs])
mutual
theorem take_v {H : Hp} {tp : List D} : ∀ {v : V} {d : D} {Hs : Hp}, VRep H v d → Wd K mg r Hs H tp → ∃ Hs', Grow r Hs H Hs' H ∧ Wd K mg r Hs' H tp ∧ RepD K mg r Hs' v d
  | _, _, _, .non, w => ⟨_, Grow.refl _ _, w, .non⟩
  | _, _, _, .int i, w => ⟨_, Grow.refl _ _, w, .int i⟩
  | _, _, _, .bl b, w => ⟨_, Grow.refl _ _, w, .bl b⟩
  | _, _, _, .str s, w => ⟨_, Grow.refl _ _, w, .str s⟩
  | _, _, _, .tup e q, w => by
    obtain ⟨H1, g1, w1, r1⟩ := take_vs q w
    obtain ⟨H2, g2, w2, e2⟩ := take_tup w1 e
    exact ⟨H2, g1.trans g2, w2, .tup e2 (r1.mono g2.ex)⟩
  | _, _, _, .dic e, w => by
    obtain ⟨H2, g2, w2, e2⟩ := take_frz w e
    exact ⟨H2, g2, w2, .dicK e2 (rep_kvs _)⟩
theorem take_vs {H : Hp} {tp : List D} : ∀ {vs : List V} {ds : List D} {Hs : Hp}, VReps H vs ds → Wd K mg r Hs H tp → ∃ Hs', Grow r Hs H Hs' H ∧ Wd K mg r Hs' H tp ∧ RepDs K mg r Hs' vs ds
  | _, _, _, .nil, w => ⟨_, Grow.refl _ _, w, .nil⟩
  | _, _, _, .cons a b, w => by
    obtain ⟨H1, g1, w1, r1⟩ := take_v a w
    obtain ⟨H2, g2, w2, r2⟩ := take_vs b w1
    exact ⟨H2, g1.trans g2, w2, .cons (r1.mono g2.ex) r2⟩
end
/-- {}, a dict of known answers; its mark may tell texts of some variables -/
def memoE (n : Int) (f : DEnv → Option (List Str)) : SE D := fun env tp => match f env with
  | some ps => .ok (.memo n ps) tp
  | none => .stuck
theorem ge_memoE (n : Int) (f : DEnv → Option (List Str)) {pos : Pos} : GE K mg r X O E (.Dict [] [] pos) tDNewM (memoE n f) := by
  refine ⟨pe_dnewM, fun Hs0 H0 Hs H σ env tp Q R P p hp hsys => ?_⟩
  unfold memoE at P
  cases q : f env with
  | none => rw [q] at P; exact P.elim
  | some ps =>
    rw [q] at P
    have w := R.wd
    obtain ⟨hs, ne⟩ := w.fresh hp
    refine P _ (upd Hs p (markM n ps)) (upd H p (.ext (memoP p []))) ⟨fun b u e _ _ => upd_new hp b u e, fun b e => upd_free e, same_new hs, fun b u n e => ?_, fun b xs e => upd_new hp b _ e⟩ ⟨fun b u e => ?_, ?_, ?_, fun b φ e => ?_⟩ (.memo (.inl upd_same))
    · by_cases q : b = p
      · subst q; exact .inr (.inl hp)
      · rw [upd_ne q] at e; exact .inl ⟨_, e⟩
    · by_cases q : b = p
      · subst q; rw [upd_same] at e
        exact .inr (.inr ⟨n, ps, (Option.some.inj e).symm, [], upd_same, hsys, fun x hx => nomatch hx⟩)
      · rw [upd_ne q] at e; exact (w.sub b u e).upd q fun xs z => by rw [hp] at z; first | exact st_no rfl xs (Option.some.inj z) | cases z
    · rw [upd_ne ne.symm]; exact w.tn
    · obtain ⟨vs, q, z⟩ := w.tH
      exact ⟨vs, by rw [upd_ne ne.symm]; exact q, z.mono (same_new hs)⟩
    · by_cases q : b = p
      · subst q; rw [upd_same] at e; cases e
      · rw [upd_ne q] at e; exact w.nx b φ e
theorem memo_mark {Hs H : Hp} {tp : List D} {a : Addr} {n : Int} {ps : List Str} (w : Wd K mg r Hs H tp) (m : At Hs a (markM n ps)) : Hs a = some (markM n ps) := by
  rcases m with m | ⟨m, _⟩ | ⟨_, _, _, xs, m, _⟩
  · exact m
  · cases m
  · exact (w.nx _ _ m).elim
/-- the dict of known answers is written -/
theorem memo_put {Hs0 H0 Hs H H4 : Hp} {tp : List D} {a : Addr} {n : Int} {ps : List Str} {k : NestedKey} (g : Grow r Hs0 H0 Hs H) (w : Wd K mg r Hs H tp) (m : Hs a = some (markM n ps)) (h : MemoHas n ps H4 a k) (off : ∀ c, c ≠ a → H4 c = H c) : Grow r Hs0 H0 Hs H4 ∧ Wd K mg r Hs H4 tp := by
  have nt := At.nottup (w.sub _ _ m)
  have ne := w.ne m
  obtain ⟨xs, e4, hd, hx, _⟩ := h
  have kt : ∀ b (ys : StU), H b = some ys.1 → H4 b = some ys.1 := fun b ys e => by
    rw [off b fun z => nt ys (by rw [← z]; exact e)]; exact e
  refine ⟨⟨fun b o e n1 hs => ?_, fun b e => ?_, g.ex, g.new, fun b ys e => kt b ys (g.tup b ys e)⟩, ⟨fun b o e => ?_, w.tn, ?_, w.nx⟩⟩
  · by_cases z : b = a
    · exfalso
      rcases g.new a _ (by rw [← z]; exact n1) m with ⟨u, q⟩ | q | ⟨ys, q⟩
      · rw [← z, hs] at q; cases q
      · rw [← z, e] at q; cases q
      · exact nt ys (g.tup a ys q)
    · rw [off b z]; exact g.keep b o e n1 hs
  · by_cases z : b = a
    · rw [z, e4] at e; cases e
    · rw [off b z] at e; exact g.free b e
  · by_cases z : b = a
    · subst z
      rw [m] at e
      exact .inr (.inr ⟨n, ps, (Option.some.inj e).symm, xs, e4, hd, hx⟩)
    · exact (w.sub b o e).keep (fun u q => by rw [off b z]; exact q) kt
  · obtain ⟨vs, q, z⟩ := w.tH
    exact ⟨vs, by rw [off r ne.symm]; exact q, z⟩
/-- a statement that does not return -/
def NoRt (m : SS) : Prop := ∀ env tp d t, m env tp ≠ .rt d t
open Classical in
noncomputable def mputS (kn ky : Nat) (m : SE D) : SS := fun env tp => match env[kn]?, env[ky]? with
  | some (some (.memo n ps)), some (some (.tup ds)) => (match m env tp with
    | .ok d tp' => if okVD d = true ∧ ∃ k, dKey (.tup ds) = some k ∧ k.depth ≤ 8 ∧ tellsF n ps k = some d then .rt d tp' else .stuck
    | _ => .stuck)
  | _, _ => .stuck
structure GPs (K : PySem.W.Frag) (mg : Str → Option Value) (r : Addr) (X : Cx) (O : List Nat) (kn ky : Nat) (sts : List Stmt) (u : TS) (mB : SS) : Prop where
  pe : PSs X sts u
  snd : ∀ Hs0 H0 Hs H σ env tp (D : Ends), Rel K mg r O Hs0 H0 Hs H σ env tp → (match mB env tp with
    | .rt d tp' => ∀ σ' Hs' H' a b n ps k, Grow r Hs0 H0 Hs' H' → Wd K mg r Hs' H' tp' → σ'[kn]? = some (some (.ref a)) → σ'[ky]? = some (some (.ref b)) → MemoHas n ps H' a k → KeyIs H' b k → tellsF n ps k = some d → okVX d = true → D.nx σ' H'
    | _ => False) → u D σ H
theorem gps_put {kn ky : Nat} {e : Expr} {t : TE} {m : SE D} {pn pk p1 p2 : Pos} {xn xk : Str} (he : GE K mg r X O E0 e t m) (hp : ∀ {t : TE}, PE X e t → PS X (.Assign [.Subscript (.Name xn pn) (.Name xk pk) p1] e p2) (sMPut (tVar kn) (tVar ky) t)) (kn1 : kn ∉ O := by decide) (ky1 : ky ∉ O := by decide) :
    GPs K mg r X O kn ky [.Assign [.Subscript (.Name xn pn) (.Name xk pk) p1] e p2] (sMPut (tVar kn) (tVar ky) t) (mputS kn ky m) := by
  refine ⟨pss_one (hp he.pe), fun Hs0 H0 Hs H σ env tp D R P => ?_⟩
  unfold mputS at P
  split at P
  case h_2 h => exact absurd P (by simp)
  case h_1 d tp' hq =>
    split at hq
    case h_2 => cases hq
    case h_1 n ps ds ekn eky =>
      cases em : m env tp with
      | exn c f t => rw [em] at hq; cases hq
      | stuck => rw [em] at hq; cases hq
      | ok d1 t1 =>
        rw [em] at hq
        simp only at hq
        split at hq
        case isFalse => cases hq
        case isTrue hh =>
          cases hq
          obtain ⟨ok, k, hk, hdp, ht⟩ := hh
          obtain ⟨v1, s1, r1⟩ := R.vars kn _ ekn kn1
          obtain ⟨v2, s2, r2⟩ := R.vars ky _ eky ky1
          refine he.snd _ _ _ _ _ _ _ _ R ?_
          rw [em]
          intro v Hs' H' g w rv
          cases r1 with
          | memo m1 =>
            rename_i a
            cases r2 with
            | tup t1 t2 =>
              rename_i b vs
              have hm := memo_mark w (At.mono g.ex m1)
              have kt : ∀ a (xs : StU), Hs' a = some xs.1 → H' a = some xs.1 := fun a xs e => (w.sub _ _ e).st xs.2
              have hkey : KeyIs H' b k := ⟨KeyV.keep kt (rep_keyV ((RepD.tup t1 t2).mono g.ex) hk), hdp⟩
              refine ⟨_, s1, _, s2, a, b, n, ps, k, d, rfl, rfl, VRep.keep kt (rep_v rv ok), w.sub _ _ hm, hkey, ht, fun H4 mh off => ?_⟩
              obtain ⟨g4, w4⟩ := memo_put (R.gr.trans g) w hm mh off
              refine P σ Hs' H4 a b n ps k g4 w4 s1 s2 mh ⟨KeyV.keep (fun c xs e => ?_) hkey.1, hdp⟩ ht (okvX ok)
              rw [off c fun z => At.nottup (w.sub _ _ hm) xs (by rw [← z]; exact e)]; exact e
open Classical in
/-- what is put is a slot's own dict -/
noncomputable def mputLS (kn ky fn : Nat) : SS := fun env tp => match env[kn]?, env[ky]?, env[fn]? with
  | some (some (.memo n ps)), some (some (.tup ds)), some (some (.dic es)) => if okKVs es = true ∧ ∃ k, dKey (.tup ds) = some k ∧ k.depth ≤ 8 ∧ tellsF n ps k = some (.dic es) then .rt (.dic es) tp else .stuck
  | _, _, _ => .stuck
theorem gps_putO {kn ky fn : Nat} {s1 : Stmt} (hp : PS X s1 (sMPutL (tVar kn) (tVar ky) (tVar fn))) (hO : fn ∈ O := by decide) (kn1 : kn ∉ O := by decide) (ky1 : ky ∉ O := by decide) :
    GPs K mg r X O kn ky [s1] (sMPutL (tVar kn) (tVar ky) (tVar fn)) (mputLS kn ky fn) := by
  refine ⟨pss_one hp, fun Hs0 H0 Hs H σ env tp D R P => ?_⟩
  unfold mputLS at P
  split at P
  case h_2 h => exact absurd P (by simp)
  case h_1 d tp' hq =>
    split at hq
    case h_2 => cases hq
    case h_1 n ps ds es ekn eky efn =>
      split at hq
      case isFalse => cases hq
      case isTrue hh =>
        cases hq
        obtain ⟨ok, k, hk, hdp, ht⟩ := hh
        obtain ⟨v1, s1, r1⟩ := R.vars kn _ ekn kn1
        obtain ⟨v2, s2, r2⟩ := R.vars ky _ eky ky1
        obtain ⟨d, p, e3, s3, hsp, h0p, nr, oa⟩ := R.own fn hO
        rw [efn] at e3
        cases e3
        obtain ⟨kvs, hpK, rp⟩ := oa
        obtain ⟨is, rfl, rfl⟩ := kvs_rep rp ok
        have w := R.wd
        cases r1 with
        | memo m1 =>
          rename_i a
          cases r2 with
          | tup t1 t2 =>
            rename_i b vs
            have hm := memo_mark w m1
            have ap : a ≠ p := fun z => by rw [z, hsp] at hm; cases hm
            have nt : ∀ xs : StU, H p ≠ some xs.1 := fun xs z => st_no rfl xs (Option.some.inj (hpK.symm.trans z))
            have kt : ∀ o c (xs : StU), Hs c = some xs.1 → upd H p o c = some xs.1 := fun o c xs e => by
              rw [upd_ne fun z => by rw [z, hsp] at e; cases e]; exact (w.sub _ _ e).st xs.2
            have hkey : ∀ o, KeyIs (upd H p o) b k := fun o => ⟨KeyV.keep (kt o) (rep_keyV (RepD.tup t1 t2) hk), hdp⟩
            refine ⟨_, s3, _, s1, _, s2, a, b, n, ps, k, _, p, _, rfl, rfl, rfl, hpK, fun o => ⟨(w.sub _ _ hm).upd ap nt, hkey _, .dic upd_same⟩, ht, fun o H4 mh off => ?_⟩
            have w1 := w.write (o := .frz o (.dK (is.map fun q => ((.inl q.1 : Key), V.int q.2)))) hsp nr nt
            have g1 : Grow r Hs0 H0 Hs (upd H p (.frz o (.dK (is.map fun q => ((.inl q.1 : Key), V.int q.2))))) := ⟨fun b u q n hs => by rw [upd_ne (ne_of_none q h0p)]; exact R.gr.keep b u q n hs, fun b e => R.gr.free b (upd_free e), R.gr.ex, R.gr.new, fun b xs e => by rw [upd_ne (ne_of_none e h0p)]; exact R.gr.tup b xs e⟩
            obtain ⟨g4, w4⟩ := memo_put g1 w1 hm mh off
            refine P σ Hs H4 a b n ps k g4 w4 s1 s2 mh ⟨KeyV.keep (fun c xs e => ?_) (hkey (.frz o (.dK (is.map fun q => ((.inl q.1 : Key), V.int q.2))))).1, hdp⟩ ht (okvD ok)
            rw [off c fun z => At.nottup (w1.sub _ _ hm) xs (by rw [← z]; exact e)]; exact e
theorem gps_cons {kn ky : Nat} {s1 : Stmt} {rest : List Stmt} {u1 u2 : TS} {m1 m2 : SS} (h1 : GS K mg r X E0 O O1 [] s1 u1 m1) (h2 : GPs K mg r X O1 kn ky rest u2 m2) (nr : NoRt m1) :
    GPs K mg r X O kn ky (s1 :: rest) (tSeq u1 u2) (seqS m1 m2) := by
  refine ⟨pss_cons h1.pe h2.pe, fun Hs0 H0 Hs H σ env tp D R P => ?_⟩
  refine h1.snd _ _ _ _ _ _ _ _ R ?_
  unfold seqS at P
  cases em : m1 env tp with
  | nx env' tp' =>
    rw [em] at P
    exact fun σ' Hs' H' e' R' => h2.snd _ _ _ _ _ _ _ _ R' P
  | rt d t => exact (nr _ _ _ _ em).elim
  | bk e t => rw [em] at P; exact P.elim
  | ct e t => rw [em] at P; exact P.elim
  | exn c f t => rw [em] at P; exact P.elim
  | stuck => rw [em] at P; exact P.elim
open Classical in
noncomputable def memoS (kn ky : Nat) (mB : SS) : SS := fun env tp => match env[kn]?, env[ky]? with
  | some (some (.memo n ps)), some (some (.tup ds)) => (match mB env tp with
    | .rt d tp' => if tp' = tp ∧ okVX d = true ∧ ∃ k, dKey (.tup ds) = some k ∧ k.depth ≤ 8 ∧ tellsF n ps k = some d then .rt d tp else .stuck
    | _ => .stuck)
  | _, _ => .stuck
theorem gss_memo {kn ky : Nat} {c e : Expr} {sts : List Stmt} {u : TS} {mB : SS} {p1 p2 : Pos} (hc : PT X c (tB (tMNotIn (tVar ky) (tVar kn)))) (hB : GPs K mg r X O kn ky sts u mB) (hg : PE X e (tMGet (tVar kn) (tVar ky))) (kn1 : kn ∉ O := by decide) (ky1 : ky ∉ O := by decide) :
    GSs K mg r X E O On' Ol [.If c sts [] p1, .Return (some e) p2] (tSeq (tIfS (tB (tMNotIn (tVar ky) (tVar kn))) u tNext) (tRet (tMGet (tVar kn) (tVar ky)))) (memoS kn ky mB) := by
  refine ⟨pss_cons (ps_if hc hB.pe pss_nil) (pss_one (ps_ret hg)), fun Hs0 H0 Hs H σ env tp D R P => ?_⟩
  unfold memoS at P
  split at P
  case h_2 => exact P.elim
  case h_1 n ps ds ekn eky =>
    split at P
    case h_2 => exact P.elim
    case h_1 d tp' eB =>
      split at P
      case isFalse => exact P.elim
      case isTrue hh =>
        obtain ⟨rfl, ok, k, hk, hdp, ht⟩ := hh
        obtain ⟨v1, s1, r1⟩ := R.vars kn _ ekn kn1
        obtain ⟨v2, s2, r2⟩ := R.vars ky _ eky ky1
        cases r1 with
        | memo m1 =>
          rename_i a
          cases r2 with
          | tup t1 t2 =>
            rename_i b vs
            have w := R.wd
            have hm := memo_mark w m1
            have kt : ∀ a (xs : StU), Hs a = some xs.1 → H a = some xs.1 := fun a xs e => (w.sub _ _ e).st xs.2
            have hkey : KeyIs H b k := ⟨KeyV.keep kt (rep_keyV (RepD.tup t1 t2) hk), hdp⟩
            refine ⟨_, s2, _, s1, a, b, n, ps, k, rfl, rfl, w.sub _ _ hm, hkey, ⟨true, rfl, iteT ?_⟩, fun hhas => ⟨false, rfl, iteF ?_⟩⟩
            · refine hB.snd _ _ _ _ _ _ _ _ R ?_
              rw [eB]
              intro σ' Hs' H' a' b' n' ps' k' g' w' q1 q2 mh kh ht' _
              refine ⟨_, q1, _, q2, a', b', n', ps', k', rfl, rfl, mh, kh, fun v d' hd' rv => ?_⟩
              rw [ht'] at hd'
              cases hd'
              obtain ⟨Hs2, g2, w2, rd⟩ := take_v rv w'
              exact P v Hs2 H' (g'.trans g2) w2 rd
            · refine ⟨_, s1, _, s2, a, b, n, ps, k, rfl, rfl, hhas, hkey, fun v d' hd' rv => ?_⟩
              rw [ht] at hd'
              cases hd'
              obtain ⟨Hs2, g2, w2, rd⟩ := take_v rv w
              exact P v Hs2 H (R.gr.trans g2) w2 rd
end
theorem nr_set {i : Nat} {m : SE D} : NoRt (setS i m) := fun env tp d t e => by
  unfold setS at e
  cases h : m env tp <;> rw [h] at e <;> cases e
theorem nr_setF {i : Nat} {m : SE D} : NoRt (setFS i m) := fun env tp d t e => by
  unfold setFS at e
  cases h : m env tp with
  | ok d t =>
    rw [h] at e
    simp only [RE.bindS_ok] at e
    split at e <;> cases e
  | exn c f t => rw [h] at e; cases e
  | stuck => rw [h] at e; cases e
theorem nr_app {i : Nat} {m : SE D} : NoRt (appS i m) := fun env tp d t e => by
  unfold appS at e
  split at e
  · cases h : m env tp with
    | ok d1 t1 =>
      rw [h] at e
      simp only [RE.bindS_ok] at e
      split at e <;> cases e
    | exn c f t => rw [h] at e; cases e
    | stuck => rw [h] at e; cases e
  · cases e
theorem nr_par {is : List Nat} {ms : SE (List D)} : NoRt (parS is ms) := fun env tp d t e => by
  unfold parS at e
  cases h : ms env tp with
  | ok d t =>
    rw [h] at e
    simp only [RE.bindS_ok] at e
    split at e <;> cases e
  | exn c f t => rw [h] at e; cases e
  | stuck => rw [h] at e; cases e
theorem nr_aug {i : Nat} {f : D → D → Option D} {m : SE D} : NoRt (augS i f m) := fun env tp d t e => by
  unfold augS at e
  split at e
  · cases h : m env tp with
    | ok d1 t1 =>
      rw [h] at e
      simp only [RE.bindS_ok] at e
      first
        | (split at e <;> cases e; done)
        | (split at e
           · split at e <;> cases e
           · cases e)
    | exn c f t => rw [h] at e; cases e
    | stuck => rw [h] at e; cases e
  · cases e
theorem nr_dset {i : Nat} {mk mv : SE D} : NoRt (dsetS i mk mv) := fun env tp d t e => by
  unfold dsetS at e
  split at e
  · cases h : mv env tp with
    | ok v t1 =>
      rw [h] at e
      simp only [RE.bindS_ok] at e
      cases h2 : mk env t1 with
      | ok k t2 =>
        rw [h2] at e
        simp only [RE.bindS_ok] at e
        split at e <;> cases e
      | exn c f t => rw [h2] at e; cases e
      | stuck => rw [h2] at e; cases e
    | exn c f t => rw [h] at e; cases e
    | stuck => rw [h] at e; cases e
  · cases e
theorem nr_seq {a b : SS} (ha : NoRt a) (hb : NoRt b) : NoRt (seqS a b) := fun env tp d t e => by
  unfold seqS at e
  cases h : a env tp with
  | nx e1 t1 => rw [h] at e; exact hb _ _ _ _ e
  | rt d1 t1 => exact ha _ _ _ _ h
  | bk _ _ => rw [h] at e; cases e
  | ct _ _ => rw [h] at e; cases e
  | exn _ _ _ => rw [h] at e; cases e
  | stuck => rw [h] at e; cases e
theorem nr_if {c : SE Bool} {a b : SS} (ha : NoRt a) (hb : NoRt b) : NoRt (ifS c a b) := fun env tp d t e => by
  unfold ifS at e
  cases h : c env tp with
  | ok x t1 =>
    rw [h] at e
    simp only [RE.bindS_ok] at e
    split at e
    · exact ha _ _ _ _ e
    · exact hb _ _ _ _ e
  | exn _ _ _ => rw [h] at e; cases e
  | stuck => rw [h] at e; cases e
theorem nr_forL {tgt : D → Option (List D)} {is : List Nat} {b : SS} (hb : NoRt b) : ∀ (ds : List D) (env : DEnv) (tp : List D) (d : D) (t : List D), forL tgt is b ds env tp ≠ .rt d t
  | [], _, _, _, _, e => by cases e
  | x :: ds, env, tp, d, t, e => by
    unfold forL at e
    split at e
    · cases h : b (setAll env is ‹_›) tp with
      | nx _ _ => rw [h] at e; exact nr_forL hb ds _ _ _ _ e
      | ct _ _ => rw [h] at e; exact nr_forL hb ds _ _ _ _ e
      | rt _ _ => exact hb _ _ _ _ h
      | bk _ _ => rw [h] at e; cases e
      | exn _ _ _ => rw [h] at e; cases e
      | stuck => rw [h] at e; cases e
    · cases e
theorem nr_for {mi : SE (List D)} {tgt : D → Option (List D)} {is : List Nat} {b : SS} (hb : NoRt b) : NoRt (forS mi tgt is b) := fun env tp d t e => by
  unfold forS at e
  cases h : mi env tp with
  | ok ds t1 => rw [h] at e; exact nr_forL hb ds _ _ _ _ e
  | exn _ _ _ => rw [h] at e; cases e
  | stuck => rw [h] at e; cases e
end G
set_option maxHeartbeats 1000000
namespace G
open PySem PySem.Spec PyProof.Rows L2
end G
set_option maxHeartbeats 1000000
namespace G
open PySem PySem.Spec PyProof.Rows L2
end G
set_option maxHeartbeats 1000000
namespace G
open PySem PySem.Spec PyProof.Rows L2
end G
set_option maxHeartbeats 1000000
namespace G
open PySem PySem.Spec PyProof.Rows L2
end G
set_option maxHeartbeats 1000000
namespace G
open PySem PySem.Spec PyProof.Rows L2
end G
set_option maxHeartbeats 1000000
namespace G
open PySem PySem.Spec PyProof.Rows L2
end G
set_option maxHeartbeats 1000000
namespace G
open PySem PySem.Spec PyProof.Rows L2
end G
set_option maxHeartbeats 1000000
namespace G
open PySem PySem.Spec PyProof.Rows L2
variable [_root_.G.Wo]
section
variable {r : Addr} {X : Cx} {K : PySem.W.Frag} {mg : Str → Option Value} {O : List Nat} {E : XK} {a : Expr} {ta : TE} {p pos apos mpos : Pos}
/-- {k: v} -/
theorem gf_d1 {i j : Int} {n1 n2 : Nat} {p1 p2 : Pos} : GF K mg r X O E (.Dict [some (.Constant (.int i) n1 p1)] [.Constant (.int j) n2 p2] pos) (tDisp [(tC (.int i), tC (.int j))]) (cE (.dic [(.int i, .int j)])) := by
  refine ⟨pe_disp (pps_cons pe_int pe_int pps_nil) rfl rfl (by simp) (by simp), fun Hs0 H0 Hs H σ env tp Q R P p hp => ?_⟩
  refine ⟨upd_same, [(.inl i, .int j)], rfl, by simp, ?_⟩
  have e : upd (upd H p (.dK [])) p (.dK (mergeK [] [((.inl i : Key), V.int j)])) = upd H p (.dK [((.inl i : Key), V.int j)]) := by
    funext b
    by_cases q : b = p
    · subst q; rw [upd_same, upd_same]; rfl
    · rw [upd_ne q, upd_ne q, upd_ne q]
  show Q (.ref p) (upd (upd H p (.dK [])) p (.dK (mergeK [] [((.inl i : Key), V.int j)])))
  rw [e]
  obtain ⟨g, w, f⟩ := fresh_new (K := K) (mg := mg) (o := .dK [((.inl i : Key), V.int j)]) (d := .dic [(.int i, .int j)]) (Grow.refl Hs H) R.wd hp ⟨_, upd_same, .cons (.int j) .nil⟩
  exact P _ _ _ g w f
def tSumVals (td : TE) : TE := fun σ H Q => td σ H fun x H1 => ∃ (a : Addr) (kvs : List (Key × V)) (is : List Int), x = V.ref a ∧ Rd H1 a (.dK kvs) ∧ kvs.map (·.2) = is.map V.int ∧ Q (.int is.sum) H1
theorem preSum_list : ∀ is : List Int, preSum (fun i => is.getD i 0) is.length = is.sum
  | [] => rfl
  | x :: is => by
    show preSum (fun i => (x :: is).getD i 0) (is.length + 1) = _
    rw [PySem.W.kdu_shift, List.sum_cons, ← preSum_list is]
    rfl
theorem pe_sumVals (hc : X.calm = true) (hg : Gl X "sum") (hm : X.mg "sum" = none) (hd : PE X a ta) (hbase : attributeBase a "values" X.env (eval a X.env) = eval a X.env := by rfl) (hline : (apos.endLine == mpos.line) = true := by rfl)
    (hse : starEach [Expr.Call (.Attribute a "values" apos) [] [] mpos] X.env = [(false, eval (Expr.Call (.Attribute a "values" apos) [] [] mpos) X.env)] := by rfl) :
    PE X (.Call (.Name "sum" p) [.Call (.Attribute a "values" apos) [] [] mpos] [] pos) (tSumVals ta) := by
  refine ⟨fun pins s σ H Q I h => ?_⟩
  refine wpAny_Call_Name_kw (ld_blt I hg hm (u := .builtin "sum") (by first | rfl | decide +kernel) ?_ (by first | decide +kernel | decide) (by first | decide +kernel | decide))
  rw [hse]
  refine PySem.callWith_builtin1 (wpAny_Call_method0_late hbase hline (thn (hd.run pins s σ H _ I h) fun v s1 ⟨x, H1, I1, r1, a, kvs, is, ex, ha, hv, q⟩ => ?_))
  subst ex
  obtain rfl : v = Value.ref a := r1
  obtain ⟨_, hsys, vs, rel, dof⟩ := dk_rd I1.hok ha
  obtain ⟨ep, dat⟩ := dof.dictAt
  have dat' := dat
  obtain ⟨ob, es, ho, ex, hdat, hko, hpr, hnd⟩ := dat'
  refine ⟨"dict", "dict.values", F.plainAttrs_dict, F.slot_dict_values, F.type_dict_values, ⟨ob, ho, ex.1⟩, fun b e => ?_, Calls.callWith_builtin rfl (PySem.evalArgs_none ?_)⟩
  · cases e
    exact ⟨ob, ho, ex.2.1⟩
  refine call_meetsIn F.slot_dict_values ⟨ob, ho, ex.1⟩ F.entry_dict_values (F.args_dict_values_1 _) (meets_dict_values (mixKind X.prog X.w) a hsys) ⟨⟨vs, dof⟩, ?_⟩
  have k1 : ∀ b u, s1.heap.get? b = some u → (s1.heap.push { cls := .type "dict_values", data := .fields #[.ref a] }).get? b = some u := fun b u e => Heap.get?_push_of_some _ e
  have dat1 : (s1.heap.push { cls := .type "dict_values", data := .fields #[.ref a] }).DictAt (mixKind X.prog X.w) a vs ep := dat.keep k1
  have hlv : vs.length = is.length := by
    have e1 := congrArg List.length hv
    rw [List.length_map, List.length_map] at e1
    rw [← e1]
    exact (KV.length rel).symm
  have hval : ∀ (i : Nat) (v : Value), (∃ k, vs[i]? = some (k, v)) → ∃ t, v = Value.int (is.getD i 0) t := fun i v ⟨k, hk⟩ => by
    obtain ⟨x, h1, h2⟩ := KV.at' rel hk
    have e1 : (kvs.map (·.2))[i]? = some x := by rw [List.getElem?_map, h1] <;> rfl
    rw [hv, List.getElem?_map] at e1
    obtain ⟨j, hj, e2⟩ := Option.map_eq_some_iff.mp e1
    subst e2
    obtain ⟨t, e3⟩ := h2
    refine ⟨t, ?_⟩
    rw [e3, List.getD_eq_getElem?_getD, hj] <;> rfl
  refine call_sum_walkAnyS (wpAny_pyIter_values (v := s1.heap.objs.size) (d := a) ⟨_, Heap.get?_push_size _ rfl, rfl, rfl⟩ dat1 ?_)
  have hlt : a < s1.heap.objs.size := Heap.lt_size ho
  have hsz : (s1.heap.push { cls := .type "dict_values", data := .fields #[.ref a] }).objs.size = s1.heap.objs.size + 1 := Heap.size_push _ _
  refine ⟨_, _, _, _, _, _, _, fun i => is.getD i 0, rfl, (Walks.dictValues (knd := mixKind X.prog X.w) (A := X.A.in1) (I.ok.hd hc) (s1.heap.push { cls := .type "dict_values", data := .fields #[.ref a] }).objs.size a (by rw [hsz]; exact Nat.ne_of_lt (Nat.lt_succ_of_lt hlt)) vs ep).toS,
    ⟨⟨_, Heap.get?_push_size _ rfl, rfl, rfl⟩, dat1.keep fun b u e => Heap.get?_push_of_some _ e⟩, fun b hb => ?_, hval, fun s' t' hm => ?_⟩
  · show b < ((s1.heap.push _).push _).objs.size
    rw [Heap.size_push, Heap.size_push]
    rw [hsz] at hb
    rcases List.mem_cons.mp hb with e | hb
    · rw [e]
      exact Nat.lt_succ_self _
    · have e : b = a := List.mem_singleton.mp hb
      rw [e]
      exact Nat.lt_succ_of_lt (Nat.lt_succ_of_lt hlt)
  · rw [Moved.eq_with hm, hlv, preSum_list]
    refine ⟨.int _, H1, I1.kept (t' := s'.toks) fun b u e => hm.heap b u (fun hmem => ?_) (Heap.get?_push_of_some _ (k1 b u e)), ⟨t', rfl⟩, q⟩
    have e1 : b = (s1.heap.push { cls := .type "dict_values", data := .fields #[.ref a] }).objs.size := List.mem_singleton.mp hmem
    have e2 := Heap.lt_size e
    rw [hsz] at e1
    rw [e1] at e2
    exact absurd e2 (Nat.not_lt.mpr (Nat.le_succ _))
def sumVD : D → Option D
  | .dic kvs => (unI (kvs.map (·.2))).map fun ns => .int ns.sum
  | _ => none
def sumVE (m : SE D) : SE D := fun env tp => (m env tp).bind fun d tp1 => RE.of (sumVD d) tp1
theorem RepP.vals {Hs : Hp} : ∀ {ps : List (D × V)} {ds : List (D × D)}, RepP K mg r Hs ps ds → RepDs K mg r Hs (ps.map (·.2)) (ds.map (·.2))
  | _, _, .nil => .nil
  | _, _, .cons h q => .cons h (RepP.vals q)
theorem ge_sumVals {m : SE D} (hc : X.calm = true) (hm : X.mg "sum" = none) (h : GO K mg r X O E a ta m) (hg : Gl X "sum" := by rfl) (hbase : attributeBase a "values" X.env (eval a X.env) = eval a X.env := by rfl) (hline : (apos.endLine == mpos.line) = true := by rfl)
    (hse : starEach [Expr.Call (.Attribute a "values" apos) [] [] mpos] X.env = [(false, eval (Expr.Call (.Attribute a "values" apos) [] [] mpos) X.env)] := by rfl) :
    GE K mg r X O E (.Call (.Name "sum" p) [.Call (.Attribute a "values" apos) [] [] mpos] [] pos) (tSumVals ta) (sumVE m) := by
  refine ⟨pe_sumVals hc hg hm h.pe hbase hline hse, fun Hs0 H0 Hs H σ env tp Q R P => ?_⟩
  refine h.snd _ _ _ _ _ _ _ _ R (Post.bind P fun v Hs1 H1 d tp1 _ g w rv P1 => ?_)
  obtain ⟨z, hz, k⟩ := Post.ok_of P1
  unfold sumVD at hz
  split at hz
  · rename_i ds _
    obtain ⟨ns, h1, rfl⟩ := Option.map_eq_some_iff.mp hz
    have key : ∃ a kvs, v = V.ref a ∧ Rd H1 a (.dK kvs) ∧ RepP K mg r Hs1 (kvs.map fun q => (keyD q.1, q.2)) ds := by
      rcases rv with rv | ⟨q, e, _, kvs, e1, e2⟩
      · cases rv with
        | dicK e1 e2 => exact ⟨_, _, rfl, w.sub.rd e1, e2⟩
      · exact ⟨q, kvs, e, .of e1, e2⟩
    obtain ⟨a, kvs, e0, e1, e2⟩ := key
    have e3 := RepP.vals e2
    rw [unI_ok h1, List.map_map] at e3
    exact ⟨a, kvs, ns, e0, e1, RepDs.ints_of e3, k _ Hs1 H1 (Grow.refl _ _) w (.int _)⟩
  · cases hz
end
end G
set_option maxHeartbeats 1000000
namespace RvT
open PySem PySem.Spec PyProof.Rows L2 HT
variable [_root_.G.Wo]
theorem adjust_rev (n : Nat) : Builtin.Slice.sliceAdjust none none (-1) (n : Int) = ((n : Int) - 1, -1) := by
  unfold Builtin.Slice.sliceAdjust
  simp
theorem places_rev (n : Nat) : Builtin.Slice.slicePlaces ((n : Int) - 1) (-1) (-1) = n := by
  unfold Builtin.Slice.slicePlaces
  rw [if_neg (by decide)]
  by_cases h : n = 0
  · subst h; rfl
  · rw [if_pos (by omega)]
    have : -(-1 : Int) = 1 := rfl
    rw [this, Int.ediv_one]
    omega
theorem filterMap_cong {α β : Type} {f g : α → Option β} : ∀ {xs : List α}, (∀ x ∈ xs, f x = g x) → xs.filterMap f = xs.filterMap g
  | [], _ => rfl
  | x :: xs, h => by rw [List.filterMap_cons, List.filterMap_cons, h x List.mem_cons_self, filterMap_cong fun y hy => h y (List.mem_cons_of_mem _ hy)]
theorem pick_rev (xs : Array Value) : ((List.range xs.size).filterMap fun (m : Nat) => xs[(((xs.size : Int) - 1) + (m : Int) * (-1)).toNat]?).toArray = xs.toList.reverse.toArray := by
  have h : ((List.range xs.size).filterMap fun (m : Nat) => xs[(((xs.size : Int) - 1) + (m : Int) * (-1)).toNat]?) = (List.range xs.size).reverse.filterMap (xs[·]?) := by
    rw [← PySem.W.krv_range, List.filterMap_map]
    refine filterMap_cong fun m hm => ?_
    have := List.mem_range.mp hm
    show xs[_]? = xs[xs.size - 1 - m]?
    congr 1
    omega
  rw [h, List.filterMap_reverse, PySem.W.krv_all]
section
variable {prog : Program} {w : World} {A : Around} {E : Value → Shared → Prop} {s : Shared}
theorem sliceApplied_rev {sl : Addr} {vl vu vs : Value} {n : Nat} {Q : Int × Int × Nat → Shared → Prop} (hs : s.heap.IsSliceOf sl vl vu vs) (pl : IsPart vl none) (pu : IsPart vu none) (ps : IsPart vs (some (-1)))
    (h : Q ((n : Int) - 1, -1, n) s) : wpAny (model prog w) A (Builtin.Slice.sliceApplied (.ref sl) (pure (n : Int))) Q E s := by
  obtain ⟨os, hos, hcs, hds⟩ := id hs
  unfold Builtin.Slice.sliceApplied Builtin.Slice.sliceFields
  refine wpAny_bind (wpAny_bind (wpAny_field hos hds (x := vl) rfl (wpAny_bind (wpAny_field hos hds (x := vu) rfl (wpAny_bind (wpAny_field hos hds (x := vs) rfl (wpAny_pure ?_)))))))
  refine wpAny_bind (slicePart_ ps ?_)
  show wpAny _ _ (if ((-1 : Int) == 0) = true then _ else _) _ _ s
  rw [if_neg (by decide)]
  refine wpAny_bind (slicePart_ pl (wpAny_bind (slicePart_ pu (wpAny_bind (wpAny_pure ?_)))))
  show wpAny _ _ (match Builtin.Slice.sliceAdjust none none (-1) (n : Int) with | (lo, hi) => pure (lo, (-1 : Int), Builtin.Slice.slicePlaces lo hi (-1))) _ _ s
  rw [adjust_rev n]
  show wpAny _ _ (pure ((n : Int) - 1, (-1 : Int), Builtin.Slice.slicePlaces ((n : Int) - 1) (-1) (-1))) _ _ s
  rw [places_rev]
  exact wpAny_pure h
theorem getItem_tuple_rev {t sl : Addr} {items : Array Value} {vl vu vs : Value} {Q : Value → Shared → Prop} (ht : IsTup s.heap t items) (hs : s.heap.IsSliceOf sl vl vu vs) (pl : IsPart vl none) (pu : IsPart vu none) (ps : IsPart vs (some (-1)))
    (h : Q (.ref s.heap.objs.size) { s with heap := s.heap.push { cls := .type "tuple", data := .seq items.toList.reverse.toArray } })
    (hsz : items.size ≤ sizeLine) : wpAny (model prog w) A (getItem (.ref t) (.ref sl)) Q E s := by
  have htake : sizeOk (.seq items.toList.reverse.toArray) := by
    show items.toList.reverse.toArray.size ≤ sizeLine
    rw [List.size_toArray, List.length_reverse, Array.length_toList]
    exact hsz
  obtain ⟨os, hos, hcs, hds⟩ := id hs
  have hTs : s.TypeIs (.ref sl) "slice" := ⟨os, hos, hcs⟩
  unfold getItem
  try with_reducible refine wpAny_holding ?_
  first | refine wpAny_bind (wpAny_pure ?_) | skip
  refine wpAny_bind (wpAny_sequenceKey ht.typeIs (by decide) ?_)
  refine wpAny_bind (wpAny_callSpecial?_slot (name := Str.ofString "__getitem__") ht.typeIs PyProof.Rows.slot_tuple_getitem
    (wpAny_call_entry PyProof.Rows.slot_tuple_getitem ht.typeIs entry_tuple_getitem ?_ (args_tuple_getitem _ _)))
  show wpAny _ _ (Builtin.Tuple.tupleItemsOf (.ref t) >>= _) _ _ s
  refine wpAny_bind (tupleItemsOf_ ht ?_)
  refine wpAny_bind (wpAny_typeOf hTs ?_)
  rw [if_pos (by decide)]
  refine wpAny_bind (sliceApplied_rev hs pl pu ps ?_)
  have hno : ¬ ((((items.size : Int) - 1) == 0 && (-1 : Int) == 1 && items.size == items.size) = true) := by
    intro q
    rw [Bool.and_eq_true, Bool.and_eq_true] at q
    exact absurd q.1.2 (by decide)
  show wpAny _ _ (if (((items.size : Int) - 1) == 0 && (-1 : Int) == 1 && items.size == items.size) = true then _ else _) _ _ s
  rw [if_neg hno, pick_rev]
  first
    | exact wpAny_bind (m := Builtin.Tuple.tupleExact _) (wpAny_newObj_type (wpAny_pure ⟨_, rfl, wpAny_pure h⟩) htake)
    | exact wpAny_bind (m := Builtin.Tuple.tupleExact _) (wpAny_newObj_type (wpAny_bind (wpAny_pure (wpAny_pure ⟨_, rfl, wpAny_pure h⟩))) htake)
    | exact wpAny_bind (wpAny_bind (m := Builtin.Tuple.tupleExact _) (wpAny_newObj_type (wpAny_pure (wpAny_pure ⟨_, rfl, wpAny_pure h⟩)) htake))
    | exact wpAny_bind (wpAny_bind (m := Builtin.Tuple.tupleExact _) (wpAny_newObj_type (wpAny_pure ⟨_, rfl, wpAny_pure h⟩) htake))
end
def tRevT (K : PySem.W.Frag) (te : TE) : TE := fun σ H Q => te σ H fun x H1 => ∃ a xs, x = .ref a ∧ SqT K H1 a xs ∧ ∀ p, H1 p = none → Q (.ref p) (upd H1 p (.tup xs.reverse))
section
variable {X : Cx}
theorem pe_revT {e : Expr} {te : TE} {k : Nat} {p1 p2 p3 pos : Pos} (he : PE X e te) : PE X (.Subscript e (.Slice none none (some (.UnaryOp .USub (.Constant (.int 1) k p1) p2)) p3) pos) (tRevT X.K te) := by
  refine ⟨fun pins s σ H Q I h => ?_⟩
  refine Subscript_ (thn (he.run pins s σ H _ I h) fun v s1 ⟨x, H1, I1, r1, q1⟩ => ?_)
  obtain ⟨a, xs, ex, hx, q⟩ := q1
  subst ex
  cases r1
  have hst : PO X (some (.UnaryOp .USub (.Constant (.int 1) k p1) p2)) (tPart (tUn (rU fun i => .int (-i)) (tC (.int 1)))) := po_some (pe_un un_neg pe_int)
  refine wpAny_Slice (thn (po_none.run pins s1 σ H1 (fun o H2 => o = none ∧ H2 = H1) I1 ⟨rfl, rfl⟩) fun vl s2 ⟨l, H2, I2, pl, el, e2⟩ => ?_)
  subst el e2
  refine thn (po_none.run pins s2 σ H2 (fun o H3 => o = none ∧ H3 = H2) I2 ⟨rfl, rfl⟩) fun vu s3 ⟨u, H3, I3, pu, eu, e3⟩ => ?_
  subst eu e3
  refine thn (hst.run pins s3 σ H3 (fun o H4 => o = some (-1) ∧ H4 = H3) I3 ⟨1, rfl, -1, rfl, rfl, rfl⟩) fun vs s4 ⟨o, H4, I4, ps, eo, e4⟩ => ?_
  subst eo e4
  have I5 : Inv X pins σ H4 { s4 with heap := s4.heap.push { cls := .type "slice", data := .fields #[vl, vu, vs] } } := I4.kept (t' := s4.toks) fun b ob q => Heap.get?_push_of_some _ q
  obtain ⟨its, r, ht, hz⟩ := I5.tuple hx
  have hlen := r.length
  show wpAny (model X.prog X.w) X.A (subscriptTail e (.Slice none none (some (.UnaryOp .USub (.Constant (.int 1) k p1) p2)) p3) (.ref a) (.ref s4.heap.objs.size)) (EP X pins σ Q) X.xe { s4 with heap := s4.heap.push { cls := .type "slice", data := .fields #[vl, vu, vs] } }
  refine tail_any (ops := [.ref a, .ref s4.heap.objs.size]) ht.typeIs (PyProof.Rows.slot_tuple_getitem.lookup) ?_ (by with_unfolding_all rfl)
  refine getItem_tuple_rev ht (Heap.IsSliceOf.new _ vl vu vs) pl pu ps ?_ (by rw [List.size_toArray]; omega)
  refine ⟨.ref _, _, I5.laid (t' := s4.toks) (o := .tup xs.reverse) (fun b ob q => Heap.get?_push_of_some _ q) (Nat.le_refl _) ?_, rfl, q _ (I5.hok.fresh (Nat.le_refl _))⟩
  exact ⟨by rw [List.length_reverse]; exact hz, _, r.reverse, IsTup.new _ _⟩
end
end RvT
namespace G
open PySem PySem.Spec PyProof.Rows L2 RvT
variable [_root_.G.Wo]
section
variable {r : Addr} {X : Cx} {K : PySem.W.Frag} {mg : Str → Option Value} {O : List Nat} {E : XK} {a b : Expr} {ta tb : TE} {p pos : Pos}
def revTD : D → Option D
  | .tup xs => some (.tup xs.reverse)
  | _ => none
def revTE (m : SE D) : SE D := fun env tp => (m env tp).bind fun d tp1 => RE.of (revTD d) tp1
theorem ge_revT {m : SE D} {k : Nat} {p1 p2 p3 : Pos} (ha : GO K mg r X O E a ta m) (hK : X.K = K := by rfl) : GE K mg r X O E (.Subscript a (.Slice none none (some (.UnaryOp .USub (.Constant (.int 1) k p1) p2)) p3) pos) (tRevT K ta) (revTE m) := by
  subst hK
  refine ⟨pe_revT ha.pe, fun Hs0 H0 Hs H σ env tp Q Rl P => ?_⟩
  refine ha.snd _ _ _ _ _ _ _ _ Rl (Post.bind P fun v Hs1 H1 d tp1 _ g w rv P1 => ?_)
  obtain ⟨z, hz, k⟩ := Post.ok_of P1
  unfold revTD at hz
  split at hz
  · cases hz
    obtain ⟨p, vs, rfl, _, h1, h2⟩ := repT_tup w rv
    refine ⟨p, vs, rfl, .of h1, fun q hq => ?_⟩
    obtain ⟨g', w'⟩ := w.alloc (o := .tup vs.reverse) hq
    exact k _ _ _ g' w' (.tup upd_same ((RepDs.rev h2).mono g'.ex))
  · cases hz
end
end G
set_option maxHeartbeats 1000000
namespace G
open PySem PySem.Spec PyProof.Rows L2
variable [_root_.G.Wo]
section
variable {r : Addr} {X : Cx} {K : PySem.W.Frag} {mg : Str → Option Value} {O : List Nat} {E : XK} {e : Expr} {te : TE} {apos cpos tpos : Pos} {elts : List Expr} {kk : Nat}
def iItemsL (td : TE) : TI := fun σ H R => td σ H fun x H1 => ∃ (d : Addr) (kvs : List (Key × V)), x = .ref d ∧ ((H1 d = some (.dK kvs) ∧ ∀ o, R (Iti d o kvs) (upd H1 d (.frz o (.dK kvs)))) ∨ ∃ o, H1 d = some (.frz o (.dK kvs)) ∧ R (Iti d o kvs) H1)
theorem pi_itemsL (he : PE X e te) (hbase : attributeBase e "items" X.env (eval e X.env) = eval e X.env := by rfl) (hline : (apos.endLine == cpos.line) = true := by rfl) :
    PI X (.Tuple elts kk tpos) (.Call (.Attribute e "items" apos) [] [] cpos) (iItemsL te) := by
  refine ⟨fun pins s σ H R I h => ?_⟩
  refine wpAny_Call_method (T := "dict") (id := "dict.items") hbase rfl hline F.plainAttrs_dict F.slot_dict_items F.type_dict_items (thn (he.run pins s σ H _ I h) fun u s1 ⟨x, H1, I1, rx, d, kvs, ex, q⟩ => ?_)
  subst ex
  obtain rfl : u = Value.ref d := rx
  obtain ⟨o, H2, I1, hd, q⟩ : ∃ o H2, Inv X pins σ H2 s1 ∧ H2 d = some (.frz o (.dK kvs)) ∧ R (Iti d o kvs) H2 := by
    rcases q with ⟨hd, q⟩ | ⟨o, hd, q⟩
    · obtain ⟨o, I2⟩ := I1.lock hd trivial
      exact ⟨o, _, I2, upd_same, q o⟩
    · exact ⟨o, H1, I1, hd, q⟩
  obtain ⟨hs, hgd, hx, es, ep, vs, hdt, hsz, kv, hm⟩ := I1.frzK hd
  have hl : kvs.length = vs.length := Paired.length kv
  refine ⟨hm.dictOf.typeIs, hm.dictOf.mapOf.noDict, ?_⟩
  have I2 : Inv X pins σ H2 { s1 with heap := s1.heap.push { cls := .type "dict_items", data := .fields #[.ref d] } } := I1.kept (t' := s1.toks) fun b ob q => Heap.get?_push_of_some _ q
  have fin : wpAny (model X.prog X.w) X.A (pyIter (.ref s1.heap.objs.size)) (PIE X pins σ (.Tuple elts kk tpos) R) X.xe { s1 with heap := s1.heap.push { cls := .type "dict_items", data := .fields #[.ref d] } } := by
    refine wpAny_pyIter_items (d := d) (knd := mixKind X.prog X.w) ⟨_, Heap.get?_push_size _ rfl, rfl, rfl⟩ (hm.push _) (pi_one (tk := s1.toks) I2 _ (turn_items _ hdt) ⟨.none, .none, ?_⟩ q)
    rw [hl]
    exact Heap.get?_push_size _ rfl
  show wpAny _ _ (callWith cpos (.builtin "dict.items") [.ref d] [] []) _ X.xe s1
  exact method_meetsIn F.slot_dict_items F.entry_dict_items rfl (PySem.evalArgs_none ⟨rfl, hm.dictOf.typeIs, F.args_dict_items_1 _, _, meets_dict_items (mixKind X.prog X.w) d hs, ⟨vs, hm.dictOf⟩, fin⟩)
theorem upd_id {H : Hp} {p : Addr} {u : HO} (h : H p = some u) : upd H p u = H := by
  funext b
  by_cases z : b = p
  · subst z; rw [upd_same, h]
  · rw [upd_ne z]
theorem Wd.lock {Hs H : Hp} {tp : List D} {p : Addr} {o : Obj} {kvs : List (Key × V)} (w : Wd K mg r Hs H tp) (hs : Hs p = some (.dK kvs)) (hq : H p = some (.dK kvs) ∨ H p = some (.frz o (.dK kvs))) : Grow r Hs H (upd Hs p (.frz o (.dK kvs))) (upd H p (.frz o (.dK kvs))) ∧ Wd K mg r (upd Hs p (.frz o (.dK kvs))) (upd H p (.frz o (.dK kvs))) tp := by
  have ne : p ≠ r := w.ne hs
  have ex : Same Hs (upd Hs p (.frz o (.dK kvs))) := fun b u q => by
    by_cases z : b = p
    · subst z; rw [hs] at q; cases q; exact .inr (.inl ⟨rfl, o, upd_same⟩)
    · exact .inl (by rw [upd_ne z]; exact q)
  refine ⟨⟨fun b u q n hn => ?_, fun b q => upd_free q, ex, fun b u n q => ?_, fun b xs q => ?_⟩, ⟨fun b u q => ?_, ?_, ?_, fun b φ q => ?_⟩⟩
  · have z : b ≠ p := fun z => by rw [z, hs] at hn; cases hn
    rw [upd_ne z]; exact q
  · by_cases z : b = p
    · subst z; exact .inl ⟨_, hs⟩
    · rw [upd_ne z] at q; exact .inl ⟨_, q⟩
  · by_cases z : b = p
    · subst z
      rcases hq with y | y
      · exact (st_no rfl xs (Option.some.inj (y.symm.trans q))).elim
      · rw [upd_same, ← q]; exact y.symm
    · rw [upd_ne z]; exact q
  · by_cases z : b = p
    · subst z; rw [upd_same] at q; exact .inl (by rw [upd_same]; exact q)
    · rw [upd_ne z] at q
      rcases hq with y | y
      · exact (w.sub b u q).upd z (fun xs x => st_no rfl xs (Option.some.inj (y.symm.trans x)))
      · rw [upd_id y]; exact w.sub b u q
  · rw [upd_ne ne.symm]; exact w.tn
  · obtain ⟨vs, q, z⟩ := w.tH
    exact ⟨vs, by rw [upd_ne ne.symm]; exact q, z.mono ex⟩
  · by_cases z : b = p
    · subst z; rw [upd_same] at q; cases q
    · rw [upd_ne z] at q; exact w.nx b φ q
theorem RepP.getK {Hs : Hp} : ∀ {kvs : List (Key × V)} {ds : List (D × D)} {i : Nat} {k : Key} {v : V}, RepP K mg r Hs (kvs.map fun q => (keyD q.1, q.2)) ds → kvs[i]? = some (k, v) → ∃ d, ds[i]? = some (keyD k, d) ∧ RepD K mg r Hs v d
  | [], _, _, _, _, _, h => by simp at h
  | p :: kvs, _, 0, k, v, .cons h hs, e => by
    have e : p = (k, v) := by simpa using e
    subst e; exact ⟨_, rfl, h⟩
  | p :: kvs, _, i + 1, k, v, .cons h hs, e => by
    obtain ⟨d, h1, h2⟩ := RepP.getK (i := i) hs (by simpa using e)
    exact ⟨d, by simpa using h1, h2⟩
theorem RepP.len {Hs : Hp} : ∀ {a : List (D × V)} {ds : List (D × D)}, RepP K mg r Hs a ds → a.length = ds.length
  | _, _, .nil => rfl
  | _, _, .cons _ q => by simp only [List.length_cons, RepP.len q]
theorem rep_key {Hs : Hp} (k : Key) : RepD K mg r Hs (kV k) (keyD k) := by
  cases k with
  | inl i => exact .int i
  | inr s => exact .str s
def itemsKD : D → Option (List D)
  | .dic ds => some (ds.map fun p => .tup [p.1, p.2])
  | _ => none
def itemsI (m : SE D) : SE (List D) := fun env tp => (m env tp).bind fun d tp1 => RE.of (itemsKD d) tp1
theorem walks_items {Hs : Hp} {p : Addr} {o : Obj} {kvs : List (Key × V)} {ds : List (D × D)} (h : Hs p = some (.frz o (.dK kvs))) (hr : RepP K mg r Hs (kvs.map fun q => (keyD q.1, q.2)) ds) : WalksD K mg r (Iti p o kvs) Hs (ds.map fun p => .tup [p.1, p.2]) := by
  have hl : ds.length = kvs.length := by have := RepP.len hr; rw [List.length_map] at this; exact this.symm
  refine ⟨fun H => H p = some (.frz o (.dK kvs)), fun i H v H' => ∃ T k v', kvs[i]? = some (k, v') ∧ v = .ref T ∧ H T = none ∧ H' = upd H T (.tup [kV k, v']), ?_, fun Hs2 H e1 e2 => ((e1.trans e2) _ _ h).frz, fun i Hs2 H tp v H' hi e w y => ?_⟩
  · rw [List.length_map, hl]
    exact ⟨fun i H hi q => ⟨q, hi⟩, fun H q => ⟨q, Nat.le_refl _⟩, fun i H x H' hi q y => y⟩
  · obtain ⟨T, k, v', h1, rfl, hT, rfl⟩ := y
    obtain ⟨d, h2, h3⟩ := RepP.getK hr h1
    obtain ⟨g', w'⟩ := w.alloc (o := .tup [kV k, v']) hT
    refine ⟨_, .tup [keyD k, d], g', w', by rw [List.getElem?_map, h2]; rfl, .tup upd_same (.cons (rep_key k) (.cons ((h3.mono e).mono g'.ex) .nil))⟩
theorem gi_items {m : SE D} (h : GE K mg r X O E e te m) (hbase : attributeBase e "items" X.env (eval e X.env) = eval e X.env := by rfl) (hline : (apos.endLine == cpos.line) = true := by rfl) :
    GI K mg r X O E (.Tuple elts kk tpos) (.Call (.Attribute e "items" apos) [] [] cpos) (iItemsL te) (itemsI m) := by
  refine ⟨pi_itemsL h.pe hbase hline, fun Hs0 H0 Hs H σ env tp Q R P => ?_⟩
  refine h.snd _ _ _ _ _ _ _ _ R (Post.bind P fun v Hs1 H1 d tp1 _ g w rv P1 => ?_)
  obtain ⟨items, hz, k⟩ := Post.ok_of P1
  unfold itemsKD at hz
  split at hz
  · rename_i ds _
    cases hz
    cases rv with
    | dicK e1 e2 =>
      rename_i p kvs
      refine ⟨p, kvs, rfl, ?_⟩
      rcases e1 with e1 | ⟨o, e1⟩
      · rcases (w.sub _ _ e1).dic rfl with q | ⟨o, q⟩
        · refine .inl ⟨q, fun o => ?_⟩
          obtain ⟨g2, w2⟩ := w.lock (o := o) e1 (.inl q)
          exact k _ _ _ g2 w2 (walks_items upd_same (RepP.mono g2.ex e2))
        · refine .inr ⟨o, q, ?_⟩
          obtain ⟨g2, w2⟩ := w.lock (o := o) e1 (.inr q)
          have := k _ _ _ g2 w2 (walks_items upd_same (RepP.mono g2.ex e2))
          rwa [upd_id q] at this
      · exact .inr ⟨o, (w.sub _ _ e1).frz, k _ Hs1 H1 (Grow.refl _ _) w (walks_items e1 e2)⟩
  · cases hz
end
end G
set_option maxHeartbeats 1000000
namespace SrtI
open PySem PySem.Spec PyProof.Rows PyProof.Rows.G PySem.W
variable [_root_.G.Wo]
/-- the key of a pair of ints -/
def kII (p : Int × Int) : List (Int ⊕ List Nat) := [.inl p.1, .inl p.2]
def ltII (a b : Int × Int) : Bool := lexLt itemOrd (kII a) (kII b)
section
variable {prog : Program} {w : World} {A : Around} {E : Value → Shared → Prop} {s : Shared} {r d : Addr} {es : Array DictEntry} {ep : Nat}
/-- the pair that stands at a -/
def PrAt (h : Heap) (a : Addr) (p : Int × Int) : Prop := ∃ t u, h.get? a = some { cls := .type "tuple", data := .seq #[.int p.1 t, .int p.2 u] }
theorem PrAt.key {h : Heap} {a : Addr} {p : Int × Int} (x : PrAt h a p) : tupKeyC h (fun _ => false) (.ref a) = some (kII p) := by
  obtain ⟨t, u, e⟩ := x
  unfold tupKeyC
  have e1 : isTupObj h (.ref a) = true := by simp [isTupObj, e]
  rw [if_pos e1]
  simp only [tupKey, e]
  rfl
theorem firsts {h : Heap} : ∀ {as : List Addr} {ps : List (Int × Int)}, Paired (PrAt h) as ps → ∃ fs, TupsOf h (fun _ => false) (as.map Value.ref) fs
  | _, _, .nil => ⟨[], .nil⟩
  | _, _, .cons x r => by
    obtain ⟨fs, h1⟩ := firsts r
    obtain ⟨t, u, e⟩ := x
    rename_i a p _ _
    exact ⟨Value.int p.1 t :: fs, .cons ⟨_, _, _, _, rfl, e, rfl, rfl, by simp, (fun _ => ⟨_, _, rfl⟩), (fun z => by cases z)⟩ h1⟩
def pairAt (h : Heap) (a : Addr) : Int × Int := match h.get? a with
  | some o => (match o.data with
    | .seq xs _ => (match xs.toList with
      | [.int i _, .int j _] => (i, j)
      | _ => (0, 0))
    | _ => (0, 0))
  | none => (0, 0)
theorem PrAt.pair {h : Heap} {a : Addr} {p : Int × Int} (x : PrAt h a p) : pairAt h a = p := by
  obtain ⟨t, u, e⟩ := x
  unfold pairAt
  rw [e]
theorem PrAt.keep {h h' : Heap} {a : Addr} {p : Int × Int} (x : PrAt h a p) (k : ∀ o, h.get? a = some o → h'.get? a = some o) : PrAt h' a p := by
  obtain ⟨t, u, e⟩ := x
  exact ⟨t, u, k _ e⟩
theorem map_paired {h : Heap} : ∀ {as : List Addr}, (∀ a ∈ as, ∃ p, PrAt h a p) → Paired (PrAt h) as (as.map (pairAt h))
  | [], _ => .nil
  | a :: as, k => by
    obtain ⟨p, x⟩ := k a List.mem_cons_self
    refine .cons ?_ (map_paired fun b hb => k b (List.mem_cons_of_mem _ hb))
    rw [x.pair]; exact x
def refOf : Value → Addr
  | .ref a => a
  | _ => 0
theorem refs_map : ∀ {vs : List Value}, (∀ v ∈ vs, ∃ a, v = Value.ref a) → vs = (vs.map refOf).map Value.ref
  | [], _ => rfl
  | v :: vs, k => by
    obtain ⟨a, rfl⟩ := k v List.mem_cons_self
    rw [List.map_cons, List.map_cons, ← refs_map fun u hu => k u (List.mem_cons_of_mem _ hu)]
    rfl
theorem items_collect {R : List Value → Shared → Prop} (hh : A.handled = none) (hv : s.heap.IsItemsView r d) (hm : s.heap.DictRaw d es ep) (hn : es.size ≤ sizeLine)
    (h : ∀ (h' : Heap) (tk : Nat) (as : List Addr), (∀ b o, s.heap.get? b = some o → h'.get? b = some o) → as.length = es.size → s.heap.objs.size < h'.objs.size → DilG es s.heap.objs.size h' as → R (as.map Value.ref) { s with heap := h', toks := tk }) :
    wpAny (model prog w) A (collect (.ref r)) R E s := by
  have hr : r < s.heap.objs.size := let ⟨_, ho, _⟩ := hv; Heap.lt_size ho
  have hd : d < s.heap.objs.size := hm.lt_size
  unfold collect
  refine wpAny_bind (wpAny_runValue (codeAny_builtin entry_proto_collect' ?_))
  rw [Around.under_plainId PySem.F.plain_proto_collect _]
  show wpAny _ A.in1 (newList [] >>= fun l => again (.builtin "list.__iadd__" ⟨[l, .ref r], []⟩)) _ _ s
  refine wpAny_bind (wpAny_newObj_type ?_)
  refine wpAny_pure ⟨plainId_quiet PySem.F.plain_list_iadd _, codeAny_builtin entry_list_iadd' ?_⟩
  rw [Around.under_plainId PySem.F.plain_list_iadd _]
  have hS₁ : (s.heap.push { cls := .type "list", data := .seq ([] : List Value).toArray }).get? s.heap.objs.size = some { cls := .type "list", data := .seq #[] } := Heap.get?_push_size _ rfl
  show wpAny _ A.in1 (Builtin.List.listExtendWith (.ref s.heap.objs.size) (.ref r) (.ref s.heap.objs.size)) _ _ _
  have key := dil_extend (prog := prog) (w := w) (A := A) (s := { s with heap := s.heap.push { cls := .type "list", data := .seq ([] : List Value).toArray } }) (es := es) (ep := ep)
    (R := fun (q : Result) (s' : Shared) => ∃ (h' : Heap) (tk : Nat) (acc' : Array Value) (c' : Nat) (as : List Addr), q = .ok (.ret (.ref s.heap.objs.size)) ∧ s' = { s with heap := h', toks := tk } ∧
      (∀ b o, s.heap.get? b = some o → h'.get? b = some o) ∧ h'.get? s.heap.objs.size = some { cls := .type "list", dict := none, data := .seq acc' c', slots := #[] } ∧ as.length = es.size ∧ DilG es s.heap.objs.size h' as ∧ acc'.toList = as.map Value.ref)
    hh (let ⟨o, ho, x⟩ := hv; ⟨o, Heap.get?_push_of_some _ ho, x⟩) (hm.push _) s.heap.objs.size (Nat.ne_of_gt hr) (Nat.ne_of_lt hd) (.ref s.heap.objs.size) 0 hS₁
    (fun h' tk acc' c' as hk hS' hl hG hacc => ⟨h', tk, acc', c', as, rfl, rfl, fun b o e => hk b o (Nat.ne_of_lt (Heap.lt_size e)) (Heap.get?_push_of_some _ e), hS', hl, hG.low (by show s.heap.objs.size ≤ (s.heap.push _).objs.size; rw [Heap.size_push]; exact Nat.le_succ _), hacc⟩) hn
  refine wpAny_mono key (fun fin s' x => ?_) fun e s' x => ?_
  · cases fin with
    | done f =>
      obtain ⟨h', tk, acc', c', as, e, rfl, hk, hS', hl, hG, hacc⟩ := x
      cases e
      show wpAny _ A (load s.heap.objs.size >>= _) _ _ _
      refine wpAny_bind (wpAny_load hS' ?_)
      refine wpAny_pure ?_
      show R acc'.toList _
      rw [hacc]
      exact h h' tk as hk hl (Heap.lt_size hS') hG
    | again c₁ =>
      refine ⟨x.1, codeAny_mono x.2 fun q s₂ y => ?_⟩
      obtain ⟨h', tk, acc', c', as, rfl, rfl, hk, hS', hl, hG, hacc⟩ := y
      show wpAny _ A (load s.heap.objs.size >>= _) _ _ _
      refine wpAny_bind (wpAny_load hS' ?_)
      refine wpAny_pure ?_
      show R acc'.toList _
      rw [hacc]
      exact h h' tk as hk hl (Heap.lt_size hS') hG
  · obtain ⟨_, _, _, _, _, e', _⟩ := x
    cases e'
theorem sorted_items {ps : List (Int × Int)} {Q : Value → Shared → Prop} (hh : A.in1.handled = none) (hv : s.heap.IsItemsView r d) (hm : s.heap.DictRaw d es ep) (hn : es.size ≤ sizeLine)
    (he : ∀ (i : Nat) (hi : i < es.size), ∃ p t u, ps[i]? = some p ∧ es[i].key = .int p.1 t ∧ es[i].val = .int p.2 u) (hl : ps.length = es.size)
    (h : ∀ (h' : Heap) (tk : Nat) (as : List Addr) (qs : List (Int × Int)) (S : Addr) (n : Nat), (∀ b o, s.heap.get? b = some o → h'.get? b = some o) → as.Nodup → (∀ a ∈ as, s.heap.objs.size ≤ a) → s.heap.objs.size ≤ S → S ∉ as → Paired (PrAt h') as qs → qs.Perm ps → qs.Pairwise (fun x y => ltII y x = false) →
      h'.get? S = some (seqObj "list" (as.map Value.ref).toArray n) → Q (.ref S) { s with heap := h', toks := tk }) :
    wpAny (model prog w) A (call (.builtin "sorted") [.ref r]) Q E s := by
  refine Calls.call_function_entry kind_sorted plain_sorted entry_sorted (args_sorted1 _) ?_
  unfold Builtin.«sorted»
  refine wpAny_bind (m := checkCount "sorted" 1 1 _) (wpAny_pure ?_)
  refine wpAny_bind (items_collect hh hv hm hn fun h1 tk as hk hal hlt hG => ?_)
  have lz : (as.map Value.ref).length ≤ sizeLine := by rw [List.length_map, hal]; exact hn
  refine wpAny_bind (wpAny_newList ?_ lz)
  have hoL : (h1.push (seqObj "list" (as.map Value.ref).toArray 0)).get? h1.objs.size = some (seqObj "list" (as.map Value.ref).toArray 0) := Heap.get?_push_size _ rfl
  have k2 : ∀ b o, h1.get? b = some o → (h1.push (seqObj "list" (as.map Value.ref).toArray 0)).get? b = some o := fun b o e => Heap.get?_push_of_some _ e
  have pr : ∀ a ∈ as, ∃ p, PrAt h1 a p := fun a ha => by
    obtain ⟨j, hj⟩ := List.mem_iff_getElem?.mp ha
    obtain ⟨hj', e⟩ := hG.pairs j a hj
    obtain ⟨p, t, u, _, e1, e2⟩ := he j hj'
    exact ⟨p, t, u, by rw [e, e1, e2]⟩
  have pas : ps = as.map (pairAt h1) := by
    apply List.ext_getElem?
    intro j
    rcases Nat.lt_or_ge j as.length with hj | hj
    · have ej : as[j]? = some as[j] := List.getElem?_eq_getElem hj
      obtain ⟨hj', e⟩ := hG.pairs j _ ej
      obtain ⟨p, t, u, e0, e1, e2⟩ := he j hj'
      have x : PrAt h1 as[j] p := ⟨t, u, by rw [e, e1, e2]⟩
      rw [e0, List.getElem?_map, ej]
      show some p = some (pairAt h1 as[j])
      rw [x.pair]
    · rw [List.getElem?_eq_none (by omega), List.getElem?_eq_none (by rw [List.length_map]; exact hj)]
  have mp := map_paired (h := h1.push (seqObj "list" (as.map Value.ref).toArray 0)) (as := as) fun a ha => by
    obtain ⟨p, x⟩ := pr a ha
    exact ⟨p, x.keep fun o e => k2 _ o e⟩
  obtain ⟨fs, hf⟩ := firsts mp
  have key : ∀ a ∈ as, tupKeyC (h1.push (seqObj "list" (as.map Value.ref).toArray 0)) (fun _ => false) (.ref a) = some (kII (pairAt h1 a)) := fun a ha => by
    obtain ⟨p, x⟩ := pr a ha
    rw [x.pair]
    exact (x.keep fun o e => k2 _ o e).key
  refine wpAny_bind (wpAny_holding (wpAny_call_entry slot_list_sort ⟨_, hoL, rfl⟩ entry_list_sort (list_sort_tups (shape := fun _ => false) (s := { s with heap := h1.push (seqObj "list" (as.map Value.ref).toArray 0), toks := tk }) hoL hf (fun v hv => ?_) lz fun st' hp hst _ => ⟨_, rfl, ?_⟩) (args_list_sort _)))
  · obtain ⟨a, ha, rfl⟩ := List.mem_map.mp hv
    exact ⟨_, key a ha⟩
  have hp2 : (arrOf st').toList.Perm ((as.map Value.ref).zip (as.map Value.ref)) := by
    have e := Array.perm_iff_toList_perm.mp hp
    rwa [pairsOf_toList] at e
  have mem : ∀ p ∈ (arrOf st').toList, p.1 = p.2 ∧ p.1 ∈ as.map Value.ref := fun p hp => mem_zip_self (hp2.mem_iff.mp hp)
  have eo : ((arrOf st').map (·.2)).toList = (arrOf st').toList.map (·.1) := by
    rw [Array.toList_map]
    exact List.map_congr_left fun p hp => (mem p hp).1.symm
  have ez : ∀ ls : List Value, (ls.zip ls).map (·.1) = ls := fun ls => by
    induction ls with
    | nil => rfl
    | cons x ls ih => rw [List.zip_cons_cons, List.map_cons, ih]
  have hp3 : ((arrOf st').toList.map (·.1)).Perm (as.map Value.ref) := by
    have := hp2.map (·.1)
    rwa [ez] at this
  have hrf : ∀ v ∈ (arrOf st').toList.map (·.1), ∃ a, v = Value.ref a := fun v hv => by
    obtain ⟨a, _, e⟩ := List.mem_map.mp (hp3.mem_iff.mp hv)
    exact ⟨a, e.symm⟩
  have eb := refs_map hrf
  have hp4 : (((arrOf st').toList.map (·.1)).map refOf).Perm as := by
    have e : (as.map Value.ref).map refOf = as := by
      rw [List.map_map]
      exact List.map_id' as
    have := hp3.map refOf
    rwa [e] at this
  have old : ∀ b o, h1.get? b = some o → (sortedHeap (h1.push (seqObj "list" (as.map Value.ref).toArray 0)) h1.objs.size (as.map Value.ref) ((arrOf st').map (·.2))).get? b = some o := fun b o e => by
    have lt := Heap.lt_size e
    rw [sortedHeap_old (Nat.ne_of_lt lt) (by rw [size_push']; exact Nat.lt_succ_of_lt lt)]
    exact k2 b o e
  have nd : as.Nodup := List.Pairwise.imp (fun {a b} (h : a < b) => Nat.ne_of_lt h) hG.rise
  obtain ⟨ep', ho⟩ := sortedHeap_at (h := h1.push (seqObj "list" (as.map Value.ref).toArray 0)) (a := h1.objs.size) (vs := as.map Value.ref) (out := (arrOf st').map (·.2)) (n := 0) hoL
  have hsz : (pairsOf (as.map Value.ref)).size = (arrOf st').toList.length := by rw [pairsOf_size, hp2.length_eq, List.length_zip, Nat.min_self]
  refine wpAny_pure ⟨_, rfl, h _ tk (((arrOf st').toList.map (·.1)).map refOf) ((((arrOf st').toList.map (·.1)).map refOf).map (pairAt h1)) h1.objs.size ep' (fun b o e => old b o (hk b o e)) (hp4.nodup_iff.mpr nd) (fun a ha => Nat.le_of_lt (hG.above a (hp4.mem_iff.mp ha))) ?_ (fun z => ?_) ?_ ?_ ?_ ?_⟩
  · exact Nat.le_of_lt hlt
  · exact absurd (hG.there (hp4.mem_iff.mp z)) (Nat.lt_irrefl _)
  · have : ∀ l : List Addr, (∀ a ∈ l, a ∈ as) → Paired (PrAt (sortedHeap (h1.push (seqObj "list" (as.map Value.ref).toArray 0)) h1.objs.size (as.map Value.ref) ((arrOf st').map (·.2)))) l (l.map (pairAt h1)) := fun l hl => by
      induction l with
      | nil => exact .nil
      | cons a l ih =>
        obtain ⟨p, x⟩ := pr a (hl a List.mem_cons_self)
        refine .cons ?_ (ih fun b hb => hl b (List.mem_cons_of_mem _ hb))
        rw [x.pair]
        exact x.keep fun o e => old _ o e
    exact this _ fun a ha => hp4.mem_iff.mp ha
  · rw [pas]; exact hp4.map _
  · rw [List.pairwise_map, List.pairwise_map, List.pairwise_map, List.pairwise_iff_getElem]
    intro i j hi hj hij
    have := hst i j (Nat.le_of_lt hij) (by rw [hsz]; exact hj)
    have kk : ∀ m (hm : m < (arrOf st').toList.length), KK (tupKindC (h1.push (seqObj "list" (as.map Value.ref).toArray 0)) (fun _ => false)) (arrOf st') m = kII (pairAt h1 (refOf ((arrOf st').toList[m]).1)) := fun m hm => by
      have e0 : (arrOf st')[m]? = some (arrOf st').toList[m] := by rw [← Array.getElem?_toList, List.getElem?_eq_getElem hm]
      obtain ⟨a, ha, e⟩ := List.mem_map.mp (mem _ (List.getElem_mem hm)).2
      unfold KK
      rw [e0]
      show (tupKeyC (h1.push (seqObj "list" (as.map Value.ref).toArray 0)) (fun _ => false) ((arrOf st').toList[m]).1).getD [] = _
      rw [← e, key a ha]; rfl
    rw [kk i hi, kk j hj] at this
    exact this
  · rw [← eb, ← eo, Array.toArray_toList]
    exact ho
end
end SrtI
namespace G
open PySem PySem.Spec PyProof.Rows L2 SrtI
variable [_root_.G.Wo]
def kvI (ps : List (Int × Int)) : List (Key × V) := ps.map fun p => (.inl p.1, V.int p.2)
section
variable {r : Addr} {X : Cx} {K : PySem.W.Frag} {mg : Str → Option Value} {O : List Nat} {E : XK} {a : Expr} {ta : TE} {p pos apos mpos : Pos}
theorem pairs_laid {pins : List (Addr × Obj)} {σ : L2.St} {H : Hp} {s : Shared} {h' : Heap} {tk n : Nat} {qs : List (Int × Int)} {as : List Addr} {S : Addr} (I : Inv X pins σ H s) (hz : qs.length ≤ sizeLine)
    (hk : ∀ b o, s.heap.get? b = some o → h'.get? b = some o) (nd : as.Nodup) (hab : ∀ a ∈ as, s.heap.objs.size ≤ a) (hSb : s.heap.objs.size ≤ S) (hSn : S ∉ as) (hp : Paired (PrAt h') as qs) (hS : h'.get? S = some (seqObj "list" (as.map Value.ref).toArray n)) :
    ∃ H' : Hp, (∀ b o, H b = some o → H' b = some o) ∧ H S = none ∧ (∀ t ∈ as, H t = none) ∧ H' S = some (.lst (as.map V.ref)) ∧ Paired (fun (t : Addr) (q : Key × V) => H' t = some (.tup [kV q.1, q.2])) as (kvI qs) ∧ Inv X pins σ H' { s with heap := h', toks := tk } := by
  have hl : as.length = qs.length := Paired.length hp
  have new : ∀ t ∈ as, H t = none := fun t ht => I.hok.fresh (hab t ht)
  have newS : H S = none := I.hok.fresh hSb
  have atP := LiI.putT_at as (kvI qs) (upd H S (.lst (as.map V.ref))) (by unfold kvI; rw [List.length_map]; omega) nd
  have off : ∀ b, b ∉ as → b ≠ S → LiI.putT (upd H S (.lst (as.map V.ref))) as (kvI qs) b = H b := fun b h1 h2 => by rw [LiI.putT_off as (kvI qs) _ h1, upd_ne h2]
  have low : ∀ b o, s.heap.get? b = some o → b ∉ as ∧ b ≠ S := fun b o e => ⟨fun z => absurd (Heap.lt_size e) (Nat.not_lt.mpr (hab b z)), fun z => absurd (Heap.lt_size e) (Nat.not_lt.mpr (by rw [z]; exact hSb))⟩
  have kp : ∀ b u, H b = some u → (LiI.putT (upd H S (.lst (as.map V.ref))) as (kvI qs)) b = some u := fun b u e => by
    rw [off b (fun z => by rw [new b z] at e; cases e) (fun z => by rw [z, newS] at e; cases e)]
    exact e
  have eS : LiI.putT (upd H S (.lst (as.map V.ref))) as (kvI qs) S = some (.lst (as.map V.ref)) := by rw [LiI.putT_off as (kvI qs) _ hSn, upd_same]
  refine ⟨LiI.putT (upd H S (.lst (as.map V.ref))) as (kvI qs), kp, newS, new, eS, atP, ?_⟩
  refine I.call' (ch := []) rfl ⟨fun b o q _ _ _ => hk b o q, fun b o q _ _ _ => ⟨o.slots, hk b o q⟩, fun b o q n _ => ?_, fun b o q _ => ⟨o, hk b o q⟩, fun b xs q => kp b _ q, fun b o u q => kp b _ q, fun b ps q => ⟨#[], by rw [kp b _ q]; simp⟩⟩ (fun b u q => ?_) I.bare fun b z => by simp at z
  · obtain ⟨z1, z2⟩ := low b o q
    rw [off b z1 z2]
    exact n
  · by_cases hb : b ∈ as
    · obtain ⟨j, pk, e1, e2, e3⟩ := LiI.paired_ix atP hb
      rw [e3] at q
      cases q
      obtain ⟨pq, g1, t, u, g2⟩ := LiI.paired_get hp e1
      have e4 : (kvI qs)[j]? = some (.inl pq.1, V.int pq.2) := by unfold kvI; rw [List.getElem?_map, g1]; rfl
      rw [e4] at e2
      cases e2
      exact ⟨by show 2 ≤ sizeLine; decide, [.int pq.1 t, .int pq.2 u], .cons ⟨t, rfl⟩ (.cons ⟨u, rfl⟩ .nil), ⟨_, g2, rfl, _, rfl⟩⟩
    · by_cases hb2 : b = S
      · rw [hb2] at q ⊢
        rw [eS] at q
        cases q
        refine ⟨by rw [List.length_map, hl]; exact hz, as.map Value.ref, n, LiI.vals_refs as, hS⟩
      · rw [off b hb hb2] at q
        exact (I.hok b u q).stay (fun d v _ y => hk d v y) (fun d y => kp d _ y) fun d xs y => kp d _ y
def tSortIt (td : TE) : TE := fun σ H Q => td σ H fun x H1 => ∃ (a : Addr) (ps : List (Int × Int)), x = V.ref a ∧ Rd H1 a (.dK (kvI ps)) ∧
  ∀ (H' : Hp) (S : Addr) (as : List Addr) (qs : List (Int × Int)), (∀ b o, H1 b = some o → H' b = some o) → H1 S = none → (∀ t ∈ as, H1 t = none) → S ∉ as → as.Nodup → H' S = some (.lst (as.map V.ref)) → Paired (fun (t : Addr) (q : Key × V) => H' t = some (.tup [kV q.1, q.2])) as (kvI qs) →
    qs.Perm ps → qs.Pairwise (fun x y => ltII y x = false) → Q (.ref S) H'
theorem pe_sortIt (hc : X.calm = true) (hg : Gl X "sorted") (hm : X.mg "sorted" = none) (hd : PE X a ta) (hbase : attributeBase a "items" X.env (eval a X.env) = eval a X.env := by rfl) (hline : (apos.endLine == mpos.line) = true := by rfl)
    (hse : starEach [Expr.Call (.Attribute a "items" apos) [] [] mpos] X.env = [(false, eval (Expr.Call (.Attribute a "items" apos) [] [] mpos) X.env)] := by rfl) :
    PE X (.Call (.Name "sorted" p) [.Call (.Attribute a "items" apos) [] [] mpos] [] pos) (tSortIt ta) := by
  refine ⟨fun pins s σ H Q I h => ?_⟩
  refine wpAny_Call_Name_kw (ld_blt I hg hm (u := .builtin "sorted") (by first | rfl | decide +kernel) ?_ (by first | decide +kernel | decide) (by first | decide +kernel | decide))
  rw [hse]
  refine PySem.callWith_builtin1 (wpAny_Call_method0_late hbase hline (thn (hd.run pins s σ H _ I h) fun v s1 ⟨x, H1, I1, r1, a, ps, ex, ha, q⟩ => ?_))
  subst ex
  obtain rfl : v = Value.ref a := r1
  obtain ⟨hz, hsys, vs, rel, dof⟩ := dk_rd I1.hok ha
  obtain ⟨es, ep, raw, hsz, hent⟩ := dof.raw
  have raw' := raw
  obtain ⟨ob, ho, ex, hdat⟩ := raw'
  have hl : (kvI ps).length = vs.length := KV.length rel
  have hpl : ps.length = es.size := by rw [hsz, ← hl]; unfold kvI; rw [List.length_map]
  have hn : es.size ≤ sizeLine := by rw [hsz, ← hl]; exact hz
  refine ⟨"dict", "dict.items", F.plainAttrs_dict, F.slot_dict_items, F.type_dict_items, ⟨ob, ho, ex.1⟩, fun b e => ?_, Calls.callWith_builtin rfl (PySem.evalArgs_none ?_)⟩
  · cases e
    exact ⟨ob, ho, ex.2.1⟩
  refine call_meetsIn F.slot_dict_items ⟨ob, ho, ex.1⟩ F.entry_dict_items (F.args_dict_items_1 _) (meets_dict_items (mixKind X.prog X.w) a hsys) ⟨⟨vs, dof⟩, ?_⟩
  have k1 : ∀ b u, s1.heap.get? b = some u → (s1.heap.push { cls := .type "dict_items", data := .fields #[.ref a] }).get? b = some u := fun b u e => Heap.get?_push_of_some _ e
  have I2 : Inv X pins σ H1 { s1 with heap := s1.heap.push { cls := .type "dict_items", data := .fields #[.ref a] } } := I1.kept (t' := s1.toks) k1
  refine sorted_items (s := { s1 with heap := s1.heap.push { cls := .type "dict_items", data := .fields #[.ref a] } }) (es := es) (ep := ep) (ps := ps) (I.ok.hd hc) ⟨_, Heap.get?_push_size _ rfl, rfl, rfl⟩ (raw.at fun o e => k1 _ o e) hn (fun i hi => ?_) hpl fun h' tk as qs S n hk nd hab hSb hSn hpp hperm hsrt hS => ?_
  · obtain ⟨pq, hpq⟩ : ∃ pq, ps[i]? = some pq := ⟨ps[i], List.getElem?_eq_getElem (by omega)⟩
    have e1 : (kvI ps)[i]? = some (.inl pq.1, V.int pq.2) := by unfold kvI; rw [List.getElem?_map, hpq]; rfl
    obtain ⟨u, hu, ru⟩ := kv_get rel e1
    obtain ⟨h1, h2⟩ := hent i hi _ _ hu
    obtain ⟨t, ht⟩ : RelV (kV (.inl pq.1)) es[i].key := relV_key (show keyIs (.inl pq.1) es[i].key = true from h1)
    obtain ⟨t2, ht2⟩ := ru
    exact ⟨pq, t, t2, hpq, ht, h2.trans ht2⟩
  · have hql : qs.length ≤ sizeLine := by rw [hperm.length_eq, hpl]; exact hn
    obtain ⟨H', kp, nS, nT, eS, eP, I3⟩ := pairs_laid (tk := tk) I2 hql hk nd hab hSb hSn hpp hS
    exact ⟨.ref S, H', I3, rfl, q H' S as qs kp nS nT hSn nd eS eP hperm hsrt⟩
end
end G
set_option maxHeartbeats 1000000
namespace G
open PySem PySem.Spec PyProof.Rows L2 SrtI
variable [_root_.G.Wo]
def lII (a b : Int × Int) : Bool := decide (a.1 < b.1 ∨ (a.1 = b.1 ∧ a.2 < b.2))
theorem ltII_eq (a b : Int × Int) : ltII a b = lII a b := by
  unfold ltII lII kII
  by_cases h : a.1 < b.1
  · simp [PyProof.Rows.lexLt, itemOrd, itemLt, h]
  · by_cases h2 : b.1 < a.1
    · simp [PyProof.Rows.lexLt, itemOrd, itemLt, h, h2]; omega
    · have e : a.1 = b.1 := by omega
      by_cases h3 : a.2 < b.2 <;> simp [PyProof.Rows.lexLt, itemOrd, itemLt, e, h3]
theorem lII_false {a b : Int × Int} : lII a b = false ↔ b.1 < a.1 ∨ (b.1 = a.1 ∧ b.2 ≤ a.2) := by
  unfold lII
  rw [decide_eq_false_iff_not]
  omega
def insL (x : Int × Int) : List (Int × Int) → List (Int × Int)
  | [] => [x]
  | y :: ys => if lII y x then y :: insL x ys else x :: y :: ys
def sortL : List (Int × Int) → List (Int × Int)
  | [] => []
  | x :: xs => insL x (sortL xs)
theorem insL_perm (x : Int × Int) : ∀ ys, (insL x ys).Perm (x :: ys)
  | [] => .refl _
  | y :: ys => by
    unfold insL
    split
    · exact ((insL_perm x ys).cons y).trans (.swap _ _ _)
    · exact .refl _
theorem sortL_perm : ∀ xs, (sortL xs).Perm xs
  | [] => .refl _
  | x :: xs => (insL_perm x _).trans ((sortL_perm xs).cons x)
abbrev SrtL (xs : List (Int × Int)) : Prop := xs.Pairwise fun a b => lII b a = false
theorem insL_sorted (x : Int × Int) : ∀ {ys : List (Int × Int)}, SrtL ys → SrtL (insL x ys)
  | [], _ => List.pairwise_singleton _ _
  | y :: ys, h => by
    unfold insL
    have h' := List.pairwise_cons.mp h
    cases c : lII y x with
    | true =>
      rw [if_pos rfl]
      refine List.pairwise_cons.mpr ⟨fun z hz => ?_, insL_sorted x h'.2⟩
      rcases List.mem_cons.mp ((insL_perm x ys).mem_iff.mp hz) with e | q
      · rw [e]
        have c := of_decide_eq_true c
        rw [lII_false]; omega
      · exact h'.1 z q
    | false =>
      rw [if_neg (by simp)]
      refine List.pairwise_cons.mpr ⟨fun z hz => ?_, h⟩
      rcases List.mem_cons.mp hz with e | q
      · rw [e]; exact c
      · have h2 := lII_false.mp (h'.1 z q)
        have c := lII_false.mp c
        rw [lII_false]; omega
theorem sortL_sorted : ∀ xs, SrtL (sortL xs)
  | [] => .nil
  | x :: xs => insL_sorted x (sortL_sorted xs)
theorem uniqL : ∀ {xs ys : List (Int × Int)}, xs.Perm ys → SrtL xs → SrtL ys → xs = ys
  | [], ys, p, _, _ => p.nil_eq
  | x :: xs, [], p, _, _ => absurd p.symm.nil_eq (by simp)
  | x :: xs, y :: ys, p, h1, h2 => by
    have h1' := List.pairwise_cons.mp h1
    have h2' := List.pairwise_cons.mp h2
    have e : x = y := by
      have a : x ∈ y :: ys := p.mem_iff.mp List.mem_cons_self
      have b : y ∈ x :: xs := p.mem_iff.mpr List.mem_cons_self
      rcases List.mem_cons.mp a with e | a
      · exact e
      rcases List.mem_cons.mp b with e | b
      · exact e.symm
      have q1 := lII_false.mp (h1'.1 y b)
      have q2 := lII_false.mp (h2'.1 x a)
      exact Prod.ext (by omega) (by omega)
    subst e
    rw [uniqL (List.Perm.cons_inv p) h1'.2 h2'.2]
def pairsI : List (D × D) → Option (List (Int × Int))
  | [] => some []
  | (.int i, .int j) :: r => (pairsI r).map ((i, j) :: ·)
  | _ => none
def sortItD : D → Option D
  | .dic ds => (pairsI ds).map fun ps => .lst ((sortL ps).map fun p => .tup [.int p.1, .int p.2])
  | _ => none
def sortItE (m : SE D) : SE D := fun env tp => (m env tp).bind fun d tp1 => RE.of (sortItD d) tp1
section
variable {r : Addr} {X : Cx} {K : PySem.W.Frag} {mg : Str → Option Value} {O : List Nat} {E : XK} {a : Expr} {ta : TE} {p pos apos mpos : Pos}
theorem kvs_I {Hs : Hp} : ∀ {kvs : List (Key × V)} {ds : List (D × D)} {ps : List (Int × Int)}, RepP K mg r Hs (kvs.map fun q => (keyD q.1, q.2)) ds → pairsI ds = some ps → kvs = kvI ps
  | [], _, ps, .nil, h => by cases h; rfl
  | (k, v) :: kvs, _, ps, .cons (d := d) (ds := ds) h hs, e => by
    cases k with
    | inr z => cases e
    | inl i =>
      cases d with
      | int j =>
        obtain ⟨qs, h1, h2⟩ := Option.map_eq_some_iff.mp (show (pairsI ds).map ((i, j) :: ·) = some ps from e)
        subst h2
        cases h
        show (Sum.inl i, V.int j) :: kvs = (Sum.inl i, V.int j) :: kvI qs
        rw [kvs_I hs h1]
      | _ => cases e
theorem reps_pairs {Hs : Hp} : ∀ {as : List Addr} {qs : List (Int × Int)}, Paired (fun (t : Addr) (q : Key × V) => Hs t = some (.tup [kV q.1, q.2])) as (kvI qs) → RepDs K mg r Hs (as.map V.ref) (qs.map fun p => D.tup [.int p.1, .int p.2])
  | [], [], .nil => .nil
  | a :: as, q :: qs, .cons h t => .cons (.tup h (.cons (.int _) (.cons (.int _) .nil))) (reps_pairs t)
theorem pair_next {H' : Hp} : ∀ {as : List Addr} {qs : List (Key × V)}, Paired (fun (t : Addr) (q : Key × V) => H' t = some (.tup [kV q.1, q.2])) as qs → ∀ b ∈ as, ∀ φ, H' b ≠ some (.ext φ)
  | [], [], .nil, b, hb, _ => by cases hb
  | a :: as, q :: qs, .cons h t, b, hb, φ => fun e => by
    rcases List.mem_cons.mp hb with z | z
    · rw [z, h] at e; cases e
    · exact pair_next t b z φ e
theorem gf_sortIt {m : SE D} (hc : X.calm = true) (hm : X.mg "sorted" = none) (h : GO K mg r X O E a ta m) (hg : Gl X "sorted" := by rfl) (hbase : attributeBase a "items" X.env (eval a X.env) = eval a X.env := by rfl) (hline : (apos.endLine == mpos.line) = true := by rfl)
    (hse : starEach [Expr.Call (.Attribute a "items" apos) [] [] mpos] X.env = [(false, eval (Expr.Call (.Attribute a "items" apos) [] [] mpos) X.env)] := by rfl) :
    GF K mg r X O E (.Call (.Name "sorted" p) [.Call (.Attribute a "items" apos) [] [] mpos] [] pos) (tSortIt ta) (sortItE m) := by
  refine ⟨pe_sortIt hc hg hm h.pe hbase hline hse, fun Hs0 H0 Hs H σ env tp Q R P => ?_⟩
  refine h.snd _ _ _ _ _ _ _ _ R ?_
  unfold sortItE at P
  cases q : m env tp with
  | stuck => rw [q] at P; exact P
  | exn cc fs tp1 => rw [q] at P; exact P
  | ok d tp1 =>
    rw [q] at P
    intro v Hs1 H1 g w rv
    obtain ⟨z, hz, k⟩ := Post.ok_of (show Post K mg r (Fresh K mg r H) E Hs H (RE.of (sortItD d) tp1) Q from P)
    unfold sortItD at hz
    split at hz
    · rename_i ds
      obtain ⟨ps, h1, h2⟩ := Option.map_eq_some_iff.mp hz
      subst h2
      obtain ⟨p, kvs, rfl, e1, e2⟩ := repT_dic w rv
      have ek := kvs_I e2 h1
      subst ek
      refine ⟨p, ps, rfl, e1, fun H' S as qs kp nS nT hSn nd eS eP hperm hsrt => ?_⟩
      have eq : qs = sortL ps := by
        refine uniqL (hperm.trans (sortL_perm ps).symm) ?_ (sortL_sorted ps)
        refine hsrt.imp fun {a b} h => ?_
        rw [← ltII_eq]; exact h
      subst eq
      let Hs2 : Hp := fun b => if b ∈ as then H' b else Hs1 b
      have free1 : ∀ t ∈ as, Hs1 t = none := fun t ht => w.sub.free (nT t ht)
      have at2 : ∀ t ∈ as, Hs2 t = H' t := fun t ht => if_pos ht
      have off2 : ∀ b, b ∉ as → Hs2 b = Hs1 b := fun b hb => if_neg hb
      have rne : r ∉ as := fun z => by
        obtain ⟨vs, q, _⟩ := w.tH
        rw [nT r z] at q; cases q
      have Sne : S ≠ r := fun z => by
        obtain ⟨vs, q, _⟩ := w.tH
        rw [← z, nS] at q; cases q
      have ex : Same Hs1 Hs2 := .of fun b u q => by
        have hb : b ∉ as := fun z => by rw [free1 b z] at q; cases q
        rw [off2 b hb]; exact q
      have w2 : Wd K mg r Hs2 H' tp1 := by
        refine ⟨fun b u q => ?_, by rw [off2 r rne]; exact w.tn, ?_, fun b φ q => ?_⟩
        · by_cases hb : b ∈ as
          · rw [at2 b hb] at q; exact .inl q
          · rw [off2 b hb] at q; exact (w.sub b u q).keep (fun v e => kp b v e) fun a xs e => kp a _ e
        · obtain ⟨vs, q, z⟩ := w.tH
          exact ⟨vs, kp r _ q, z.mono ex⟩
        · by_cases hb : b ∈ as
          · rw [at2 b hb] at q; exact pair_next eP b hb φ q
          · rw [off2 b hb] at q; exact w.nx b φ q
      have fr : ∀ b, H' b = none → H1 b = none := fun b e => by
        cases z : H1 b with
        | none => rfl
        | some u => rw [kp b u z] at e; cases e
      have g2 : Grow r Hs1 H1 Hs2 H' := ⟨fun b u e _ _ => kp b u e, fr, ex, fun b u n e => by
        by_cases hb : b ∈ as
        · exact .inr (.inl (nT b hb))
        · rw [off2 b hb] at e; exact .inl ⟨_, e⟩, fun b xs e => kp b _ e⟩
      refine k _ Hs2 H' (g.trans g2) w2 ⟨S, rfl, g.free S nS, by rw [off2 S hSn]; exact w.sub.free nS, Sne, as.map V.ref, eS, reps_pairs ?_⟩
      have imp : ∀ (l : List Addr) (ks : List (Key × V)), (∀ t ∈ l, t ∈ as) → Paired (fun (t : Addr) (q : Key × V) => H' t = some (.tup [kV q.1, q.2])) l ks → Paired (fun (t : Addr) (q : Key × V) => Hs2 t = some (.tup [kV q.1, q.2])) l ks := fun l ks hl hp => by
        induction hp with
        | nil => exact .nil
        | cons h t ih => exact .cons ((at2 _ (hl _ List.mem_cons_self)).trans h) (ih fun u hu => hl u (List.mem_cons_of_mem _ hu))
      exact imp as _ (fun t ht => ht) eP
    · cases hz
end
end G
set_option maxHeartbeats 1000000
namespace MxI
open PySem PySem.Spec PyProof.Rows PySem.W SrtI G
variable [_root_.G.Wo]
theorem al (a b : Int × Int) : alike (.tuple [.int a.1, .int a.2]) (.tuple [.int b.1, .int b.2]) = true := by simp [alike, alikeAll]
theorem dd (a : Int × Int) : (PyData.tuple [.int a.1, .int a.2]).depth ≤ 3 := by simp [PyData.depth, PyData.depthAll]
theorem PrAt.reads {h : Heap} {a : Addr} {p : Int × Int} (x : PrAt h a p) : Reads h (.ref a) (.tuple [.int p.1, .int p.2]) [] := by
  obtain ⟨t, u, e⟩ := x
  exact .tuple e rfl rfl (.cons (as := []) (bs := []) (.int _ _) (.cons (as := []) (bs := []) (.int _ _) .nil))
end MxI
namespace G
open PySem PySem.Spec PyProof.Rows L2 SrtI MxI
end G
set_option maxHeartbeats 1000000
namespace G
open PySem PySem.Spec PyProof.Rows L2
variable [_root_.G.Wo]
def tupPd : PyData → Bool
  | .tuple (_ :: _) => true
  | _ => false
def othPd : PyData → Bool
  | .none => false
  | .tuple _ => false
  | _ => true
def sortOk (ds : List D) : Bool := ds.all D.okq && (ds.all fun d => ds.all fun e => PySem.W.alike d.pd e.pd) && (ds.all (fun d => tupPd d.pd) || ds.all fun d => othPd d.pd)
def sortDat (ds : List D) : List D := ds.mergeSort (PySem.W.dataLe false D.pd)
def sortDD : List D → Option D
  | [.lst ds] => if sortOk ds then some (.lst (sortDat ds)) else none
  | _ => none
theorem tupPd_ok {d : PyData} (h : tupPd d = true) : ∃ x r, d = .tuple (x :: r) := by
  cases d with
  | tuple xs => cases xs with
    | nil => cases h
    | cons x r => exact ⟨x, r, rfl⟩
  | _ => cases h
theorem othPd_ok {d : PyData} (h : othPd d = true) : d ≠ .none ∧ ∀ xs, d ≠ .tuple xs := by
  refine ⟨fun e => ?_, fun xs e => ?_⟩ <;> rw [e] at h <;> cases h
def rSortDat (K : PySem.W.Frag) : List V → Hp → VK → Prop := fun vs H Q => ∃ (a : Addr) (bs : List (V × D)), vs = [V.ref a] ∧ SqL K H a (bs.map (·.1)) ∧ (∀ b ∈ bs, Dp K H b.1 b.2.pd) ∧ sortOk (bs.map (·.2)) = true ∧
  ∀ p, H p = none → Q (.ref p) (upd H p (.lst ((bs.mergeSort (PySem.W.dataLe false fun b => b.2.pd)).map (·.1))))
theorem each_vals : ∀ {bs : List (V × D)} {us : List Value}, Vals (bs.map (·.1)) us → PySem.W.EachIs (fun v b => RelV b.1 v) us bs
  | [], _, .nil => .nil
  | b :: bs, _ :: us, .cons r t => .cons r (each_vals t)
theorem vals_each : ∀ {bs : List (V × D)} {us : List Value}, PySem.W.EachIs (fun v (b : V × D) => RelV b.1 v) us bs → Vals (bs.map (·.1)) us
  | [], _, .nil => .nil
  | b :: bs, _ :: us, .cons r t => .cons r (vals_each t)
theorem each_and {R S : Value → V × D → Prop} : ∀ {bs : List (V × D)} {us : List Value}, PySem.W.EachIs R us bs → (∀ b ∈ bs, ∀ u, R u b → S u b) → PySem.W.EachIs S us bs
  | [], _, .nil, _ => .nil
  | b :: bs, _ :: us, .cons r t, h => .cons (h b List.mem_cons_self _ r) (each_and t fun c hc => h c (List.mem_cons_of_mem _ hc))
section
variable {X : Cx}
theorem cr_sortDat (hu : X.A.units + 64 < cLine) : CallR X (.builtin "sorted") (rSortDat X.K) := by
  intro pins s σ H vs us Q I r h
  obtain ⟨a, bs, rfl, hs, hd, ok, q⟩ := h
  obtain ⟨its, rv, hl, hz⟩ := I.list hs
  obtain ⟨u, rfl, ru⟩ := vals1 r
  obtain rfl : u = Value.ref a := ru
  unfold sortOk at ok
  simp only [Bool.and_eq_true, Bool.or_eq_true, List.all_eq_true] at ok
  obtain ⟨⟨ok1, ok2⟩, ok3⟩ := ok
  have mem2 : ∀ b ∈ bs, b.2 ∈ bs.map (·.2) := fun b hb => List.mem_map.mpr ⟨b, hb, rfl⟩
  have e := each_vals rv
  have er : PySem.W.EachIs (fun v (b : V × D) => ∃ as, Reads s.heap v b.2.pd as) its bs := each_and e fun b hb u ru => Dp.reads I b.2.pd b.1 u (hd b hb) ru
  have hlen : bs.length ≤ sizeLine := by rw [List.length_map] at hz; exact hz
  refine PySem.W.sorted_data (enc := fun b : V × D => b.2.pd) hl.isList e er ?_ ?_ hlen (fun b hb => ?_) fun out ho eo => ?_
  · intro d hd d' hd'
    obtain ⟨b, hb, rfl⟩ := List.mem_map.mp hd
    obtain ⟨b', hb', rfl⟩ := List.mem_map.mp hd'
    exact ok2 _ (mem2 b hb) _ (mem2 b' hb')
  · rcases ok3 with h | h
    · refine .inl fun d hd => ?_
      obtain ⟨b, hb, rfl⟩ := List.mem_map.mp hd
      exact tupPd_ok (h _ (mem2 b hb))
    · refine .inr fun d hd => ?_
      obtain ⟨b, hb, rfl⟩ := List.mem_map.mp hd
      exact othPd_ok (h _ (mem2 b hb))
  · have := (okq_ok (ok1 _ (mem2 b hb))).2
    show X.A.units + 2 + b.2.pd.depth < cLine
    omega
  · obtain ⟨ep, hob⟩ := PyProof.Rows.sortedAll_at s.heap its (List.toArray out)
    refine ⟨.ref (s.heap.objs.size + 1), upd H (s.heap.objs.size + 1) (.lst ((bs.mergeSort (PySem.W.dataLe false fun b => b.2.pd)).map (·.1))), I.laid (t' := s.toks) (fun b o e => PyProof.Rows.sortedAll_old e) (Nat.le_succ _) ⟨?_, out, ep, vals_each eo, hob⟩, rfl, q _ (I.hok.fresh (Nat.le_succ _))⟩
    rw [List.length_map, List.length_mergeSort]; exact hlen
end
theorem reps_zip {K : PySem.W.Frag} {mg : Str → Option Value} {r : Addr} {Hs : Hp} : ∀ {vs : List V} {ds : List D}, RepDs K mg r Hs vs ds → (vs.zip ds).map (·.1) = vs ∧ (vs.zip ds).map (·.2) = ds ∧ ∀ b ∈ vs.zip ds, RepD K mg r Hs b.1 b.2
  | _, _, .nil => ⟨rfl, rfl, fun b hb => by cases hb⟩
  | v :: vs, d :: ds, .cons h q => by
    obtain ⟨a, b, c⟩ := reps_zip q
    refine ⟨by rw [List.zip_cons_cons, List.map_cons, a], by rw [List.zip_cons_cons, List.map_cons, b], fun x hx => ?_⟩
    rw [List.zip_cons_cons] at hx
    rcases List.mem_cons.mp hx with e | e
    · rw [e]; exact h
    · exact c x e
theorem reps_unzip {K : PySem.W.Frag} {mg : Str → Option Value} {r : Addr} {Hs : Hp} : ∀ {bs : List (V × D)}, (∀ b ∈ bs, RepD K mg r Hs b.1 b.2) → RepDs K mg r Hs (bs.map (·.1)) (bs.map (·.2))
  | [], _ => .nil
  | b :: bs, h => .cons (h b List.mem_cons_self) (reps_unzip fun c hc => h c (List.mem_cons_of_mem _ hc))
section
variable {r : Addr} {X : Cx} {K : PySem.W.Frag} {mg : Str → Option Value} {O : List Nat} {E : XK} {e a : Expr} {ts : TA} {ta : TE} {p pos : Pos} {ms : SE (List D)}
theorem gf_sortDat (hu : X.A.units + 64 < cLine) (hm : X.mg "sorted" = none) (ha : GAO K mg r X O E [e] ts ms) (hg : Gl X "sorted" := by rfl) (he : starEach [e] X.env = (false, eval e X.env) :: starEach [] X.env := by rfl) (hpl : (backTo pos (starEach [] X.env)).any (·.1) = false := by rfl) (hK : X.K = K := by rfl) : GF K mg r X O E (.Call (.Name "sorted" p) [e] [] pos) (tCB (rSortDat K) ts) (callB sortDD ms) := by
  subst hK
  refine ⟨pe_callB (r := rSortDat X.K) (cr_sortDat hu) hg hm boot_sorted ha.pe (by decide) (by decide) he hpl, fun Hs0 H0 Hs H σ env tp Q Rl P => ?_⟩
  refine ha.snd _ _ _ _ _ _ _ _ Rl ?_
  unfold callB at P
  cases q : ms env tp with
  | stuck => rw [q] at P; exact P
  | exn cc fs tp1 => rw [q] at P; exact P
  | ok ds tp1 =>
    rw [q] at P
    intro xs Hs1 H1 g w rx
    obtain ⟨z, hz, k⟩ := Post.ok_of (show Post X.K mg r (Fresh X.K mg r H) E Hs H (RE.of (sortDD ds) tp1) Q from P)
    unfold sortDD at hz
    split at hz
    · rename_i ds0
      split at hz
      · rename_i ok
        cases hz
        obtain ⟨x, rfl, h⟩ := paired1 rx
        obtain ⟨p, vs, rfl, h6, h7⟩ := repT_lst w h
        obtain ⟨z1, z2, z3⟩ := reps_zip h7
        have ok' := ok
        unfold sortOk at ok'
        simp only [Bool.and_eq_true, List.all_eq_true] at ok'
        refine ⟨p, vs.zip ds0, rfl, ?_, fun b hb => ?_, ?_, fun q hq => ?_⟩
        · rw [z1]; exact .of h6
        · have hm2 : b.2 ∈ ds0 := by rw [← z2]; exact List.mem_map.mpr ⟨b, hb, rfl⟩
          exact RepD.dp w.sub (z3 b hb) (okq_ok (ok'.1.1 _ hm2)).1
        · rw [z2]; exact ok
        · have er : ((vs.zip ds0).mergeSort (PySem.W.dataLe false fun b => b.2.pd)).map (·.2) = sortDat ds0 := by
            unfold sortDat
            conv => rhs; rw [← z2]
            exact List.map_mergeSort (r := PySem.W.dataLe false fun b : V × D => b.2.pd) (s := PySem.W.dataLe false D.pd) (f := fun b : V × D => b.2) fun a _ b _ => rfl
          have hr := reps_unzip (K := X.K) (mg := mg) (r := r) (Hs := Hs1) (bs := (vs.zip ds0).mergeSort (PySem.W.dataLe false fun b => b.2.pd)) fun b hb => z3 b ((List.mergeSort_perm _ _).mem_iff.mp hb)
          rw [er] at hr
          obtain ⟨a, b, c⟩ := fresh_new (o := .lst (((vs.zip ds0).mergeSort (PySem.W.dataLe false fun b => b.2.pd)).map (·.1))) (d := .lst (sortDat ds0)) g w hq ⟨_, upd_same, hr⟩
          exact k _ _ _ a b c
      · cases hz
    · cases hz
end
end G
set_option maxHeartbeats 1000000
namespace G
open PySem PySem.Spec PyProof.Rows L2
end G
set_option maxHeartbeats 1000000
namespace G
open PySem PySem.Spec PyProof.Rows L2
end G
set_option maxHeartbeats 1000000
namespace G
open PySem PySem.Spec PyProof.Rows L2
end G
set_option maxHeartbeats 1000000
namespace G
open PySem L2
local instance : _root_.G.Wo := ⟨fun _ => 0⟩
abbrev Row := List Bool
abbrev Pic := List Row
structure PicOk (h w : Nat) (p : Pic) : Prop where
  len : p.length = h
  row : ∀ r ∈ p, r.length = w
  h1 : 1 ≤ h
  h30 : h ≤ 30
  w1 : 1 ≤ w
  w30 : w ≤ 30
theorem atI_nat' {α : Type} (xs : List α) (j : Nat) : atI xs (j : Int) = xs[j]? := by
  unfold atI ixN
  rw [if_pos (by omega)]
  by_cases h : (j : Int) < xs.length
  · rw [if_pos h]; rfl
  · rw [if_neg h, List.getElem?_eq_none (by omega)]; rfl
theorem atI_int {α : Type} (xs : List α) {i : Int} (h : 0 ≤ i) : atI xs i = xs[i.toNat]? := by
  obtain ⟨j, rfl⟩ := Int.eq_ofNat_of_zero_le h
  rw [atI_nat', Int.toNat_natCast]
theorem small_line {n : Nat} (h : n ≤ 1000000) : n ≤ sizeLine := by rw [sizeLine_eq]; omega
structure Tape (tp : List D) : Prop where
  ex : ∃ (ns : List Int) (pos seed rest : Int), tp = [.scr ns, .int pos, .int seed, .int rest] ∧ 0 ≤ pos ∧ 0 ≤ seed ∧ seed < 2147483647 ∧ ns.length ≤ 63
theorem tape0 (ns : List Int) (c : Int) (h : ns.length ≤ 63) (h0 : 0 ≤ c) (h1 : c < 2147483647) : Tape [.scr ns, .int 0, .int c, .int 0] := ⟨⟨ns, 0, c, 0, rfl, by omega, h0, h1, h⟩⟩
end G
set_option maxHeartbeats 1000000
namespace T
open PySem L2 G
local instance : _root_.G.Wo := ⟨fun _ => 0⟩
abbrev eN (n : Nat) : D := .int (n : Int)
abbrev eZ (i : Int) : D := .int i
abbrev eB (b : Bool) : D := .bl b
abbrev eS (s : Str) : D := .str s
abbrev eU (_ : Unit) : D := .non
abbrev eL {α : Type} (e : α → D) (xs : List α) : D := .lst (xs.map e)
abbrev eT {α : Type} (e : α → D) (xs : List α) : D := .tup (xs.map e)
abbrev eP {α β : Type} (a : α → D) (b : β → D) (x : α × β) : D := .tup [a x.1, b x.2]
abbrev eP3 {α β γ : Type} (a : α → D) (b : β → D) (c : γ → D) (x : α × β × γ) : D := .tup [a x.1, b x.2.1, c x.2.2]
abbrev eO {α : Type} (e : α → D) : Option α → D
  | none => .non
  | some x => e x
structure EqE {α : Type} [DecidableEq α] (k : Nat) (e : α → D) : Prop where
  pl : ∀ x, (e x).pd.plain = true
  dp : ∀ x, (e x).pd.depth ≤ k
  eq : ∀ x y, PyData.eqv (e x).pd (e y).pd = decide (x = y)
theorem qN : EqE 1 eN := ⟨fun _ => rfl, fun _ => by simp [D.pd, PyData.depth], fun x y => by
  show ((x : Int) == (y : Int)) = _
  by_cases h : x = y
  · subst h; simp
  · rw [decide_eq_false h]; exact beq_eq_false_iff_ne.mpr fun e => h (by omega)⟩
theorem qZ : EqE 1 eZ := ⟨fun _ => rfl, fun _ => by simp [D.pd, PyData.depth], fun x y => by
  show (x == y) = _
  by_cases h : x = y <;> simp [h]⟩
section
variable {α β γ δ : Type} [DecidableEq α] [DecidableEq β] [DecidableEq γ] [DecidableEq δ] {k k1 k2 k3 k4 : Nat} {e : α → D} {e1 : β → D} {e2 : γ → D} {e3 : δ → D}
theorem plainAll_map (h : EqE k e) (xs : List α) : PyData.plainAll (pdAll (xs.map e)) = true := by
  induction xs with
  | nil => rfl
  | cons x xs ih =>
    show PyData.plainAll ((e x).pd :: pdAll (xs.map e)) = true
    simp only [PyData.plainAll, h.pl x, ih, Bool.and_self]
theorem depthAll_map (h : EqE k e) (xs : List α) : PyData.depthAll (pdAll (xs.map e)) ≤ k := by
  induction xs with
  | nil => exact Nat.zero_le _
  | cons x xs ih =>
    show PyData.depthAll ((e x).pd :: pdAll (xs.map e)) ≤ k
    simp only [PyData.depthAll]
    have := h.dp x
    omega
theorem eqvAll_mapE (h : EqE k e) : ∀ xs ys : List α, PyData.eqvAll (pdAll (xs.map e)) (pdAll (ys.map e)) = decide (xs = ys)
  | [], [] => rfl
  | [], y :: ys => by show false = _; simp
  | x :: xs, [] => by show false = _; simp
  | x :: xs, y :: ys => by
    show (PyData.eqv (e x).pd (e y).pd && PyData.eqvAll (pdAll (xs.map e)) (pdAll (ys.map e))) = _
    rw [h.eq, eqvAll_mapE h xs ys]
    by_cases h1 : x = y <;> by_cases h2 : xs = ys <;> simp [h1, h2]
theorem qL (h : EqE k e) : EqE (k + 1) (eL e) := ⟨fun xs => by
    show (PyData.list (pdAll (xs.map e))).plain = true
    simp only [PyData.plain]; exact plainAll_map h xs, fun xs => by
    show (PyData.list (pdAll (xs.map e))).depth ≤ k + 1
    simp only [PyData.depth]
    have := depthAll_map h xs
    omega, fun xs ys => eqvAll_mapE h xs ys⟩
theorem qT (h : EqE k e) : EqE (k + 1) (eT e) := ⟨fun xs => by
    show (PyData.tuple (pdAll (xs.map e))).plain = true
    simp only [PyData.plain]; exact plainAll_map h xs, fun xs => by
    show (PyData.tuple (pdAll (xs.map e))).depth ≤ k + 1
    simp only [PyData.depth]
    have := depthAll_map h xs
    omega, fun xs ys => eqvAll_mapE h xs ys⟩
theorem qP (h : EqE k e) (h1 : EqE k1 e1) : EqE (max k k1 + 1) (eP e e1) := ⟨fun x => by
    show PyData.plainAll [(e x.1).pd, (e1 x.2).pd] = true
    simp only [PyData.plainAll, h.pl, h1.pl, Bool.and_self], fun x => by
    show (PyData.tuple [(e x.1).pd, (e1 x.2).pd]).depth ≤ _
    simp only [PyData.depth, PyData.depthAll]
    have := h.dp x.1; have := h1.dp x.2
    omega, fun x y => by
    show (PyData.eqv (e x.1).pd (e y.1).pd && (PyData.eqv (e1 x.2).pd (e1 y.2).pd && true)) = _
    rw [h.eq, h1.eq]
    obtain ⟨a, b⟩ := x; obtain ⟨c, d⟩ := y
    by_cases p : a = c <;> by_cases q : b = d <;> simp [p, q]⟩
theorem okq_of (h : EqE k e) (hk : k ≤ 60) (x : α) : (e x).okq = true := by
  unfold D.okq
  have a := h.dp x
  rw [h.pl x, decide_eq_true (by omega : (e x).pd.depth ≤ 60)]; rfl
theorem eqD_E (h : EqE k e) (hk : k ≤ 60) (x y : α) : eqD (e x) (e y) = some (.bl (decide (x = y))) := by
  unfold eqD
  rw [okq_of h hk x, okq_of h hk y, h.eq]; rfl
theorem neD_E (h : EqE k e) (hk : k ≤ 60) (x y : α) : neD (e x) (e y) = some (.bl (decide (x ≠ y))) := by
  unfold neD
  rw [okq_of h hk x, okq_of h hk y, h.eq]
  by_cases q : x = y <;> simp [q]
end
section
variable {α β γ δ : Type} {e : α → D} {e1 : β → D} {e2 : γ → D} {env : DEnv} {tp t1' t2' t3' t4' : List D} {m ma mb mc : SE D} {ms : SE (List D)} {c c2 : SE Bool} {P Q : Prop} [Decidable P] [Decidable Q]
theorem ev_v {i : Nat} {d : D} (h : env[i]? = some (some d)) : vE i env tp = .ok d tp := by unfold vE; rw [h]
theorem ev_cN (n : Nat) {i : Int} (h : i = (n : Int) := by rfl) : cE (.int i) env tp = .ok (eN n) tp := by rw [h]; rfl
theorem ev_c {d d' : D} (h : d = d') : cE d env tp = .ok d' tp := by rw [h]; rfl
theorem ev_bin {f : D → D → Option D} {a b z : D} (ha : ma env tp = .ok a t1') (hb : mb env t1' = .ok b t2') (h : f a b = some z) : binE f ma mb env tp = .ok z t2' := by
  unfold binE; rw [ha]; simp only [RE.bind_ok]; rw [hb]; simp only [RE.bind_ok]; rw [h]; rfl
theorem ev_un {f : D → Option D} {a z : D} (ha : ma env tp = .ok a t1') (h : f a = some z) : unE f ma env tp = .ok z t1' := by
  unfold unE; rw [ha]; simp only [RE.bind_ok]; rw [h]; rfl
theorem ev_callB {f : List D → Option D} {ds : List D} {z : D} (ha : ms env tp = .ok ds t1') (h : f ds = some z) : callB f ms env tp = .ok z t1' := by
  unfold callB; rw [ha]; simp only [RE.bind_ok]; rw [h]; rfl
theorem ev_nil : nilA env tp = .ok [] tp := rfl
theorem ev_cons {d : D} {ds : List D} (h : m env tp = .ok d t1') (hs : ms env t1' = .ok ds t2') : consA m ms env tp = .ok (d :: ds) t2' := by
  unfold consA; rw [h]; simp only [RE.bind_ok]; rw [hs]; rfl
theorem ev_call {n : Nat} {f : List D → List D → RE D} {ds : List D} {d : D} (hs : ms env tp = .ok ds t1') (hn : ds.length = n) (h : f ds t1' = .ok d t2') : callE n f ms env tp = .ok d t2' := by
  unfold callE; rw [hs]; simp only [RE.bind_ok]; rw [if_pos hn, h]
theorem ev_tup {ds : List D} (hs : ms env tp = .ok ds t1') (hn : decide (ds.length ≤ 1000000) = true) : tupE ms env tp = .ok (.tup ds) t1' := by
  unfold tupE; rw [hs]; simp only [RE.bind_ok]; rw [if_pos (small_line (of_decide_eq_true hn))]
theorem ev_lst {ds : List D} (hs : ms env tp = .ok ds t1') (hn : decide (ds.length ≤ 1000000) = true) : lstE ms env tp = .ok (.lst ds) t1' := by
  unfold lstE; rw [hs]; simp only [RE.bind_ok]; rw [if_pos (small_line (of_decide_eq_true hn))]
theorem ev_bool {b : Bool} (h : m env tp = .ok (.bl b) t1') : boolE m env tp = .ok b t1' := by
  unfold boolE; rw [h]; rfl
theorem ev_dec (b : Bool) (h : m env tp = .ok (.bl b) t1') : boolE m env tp = .ok (decide (b = true)) t1' := by
  rw [ev_bool h]; cases b <;> rfl
theorem ev_notT (h : c env tp = .ok (decide P) t1') : notT c env tp = .ok (decide (¬P)) t1' := by
  unfold notT; rw [h]; simp only [RE.bind_ok]; by_cases q : P <;> simp [q]
theorem ev_andT (h : c env tp = .ok (decide P) tp) (h2 : P → c2 env tp = .ok (decide Q) tp) : andT c c2 env tp = .ok (decide (P ∧ Q)) tp := by
  unfold andT; rw [h]; simp only [RE.bind_ok]
  by_cases q : P
  · rw [decide_eq_true q, if_pos rfl, h2 q]; simp [q]
  · rw [decide_eq_false q, if_neg (by decide)]; simp [q]
theorem ev_orT (h : c env tp = .ok (decide P) tp) (h2 : ¬P → c2 env tp = .ok (decide Q) tp) : orT c c2 env tp = .ok (decide (P ∨ Q)) tp := by
  unfold orT; rw [h]; simp only [RE.bind_ok]
  by_cases q : P
  · rw [decide_eq_true q, if_pos rfl]; simp [q]
  · rw [decide_eq_false q, if_neg (by decide), h2 q]; simp [q]
theorem ev_notE (h : m env tp = .ok (eB (decide P)) t1') : notE m env tp = .ok (eB (decide (¬P))) t1' := by
  unfold notE; rw [h]; simp only [RE.bind_ok]; by_cases q : P <;> simp [q, isB]
theorem ev_andE (h : ma env tp = .ok (eB (decide P)) tp) (h2 : P → mb env tp = .ok (eB (decide Q)) tp) : andE ma mb env tp = .ok (eB (decide (P ∧ Q))) tp := by
  unfold andE; rw [h]; simp only [RE.bind_ok]
  by_cases q : P
  · rw [decide_eq_true q]; rw [h2 q]; simp [q]
  · rw [decide_eq_false q]; simp [q]
theorem ev_ifE {x y : α} (h : c env tp = .ok (decide P) t1') (hp : P → ma env t1' = .ok (e x) t1') (hn : ¬P → mb env t1' = .ok (e y) t1') : ifE c ma mb env tp = .ok (e (if P then x else y)) t1' := by
  unfold ifE; rw [h]; simp only [RE.bind_ok]
  by_cases q : P
  · rw [decide_eq_true q, if_pos rfl, hp q, if_pos q]
  · rw [decide_eq_false q, if_neg (by decide), hn q, if_neg q]
theorem ev_decB (b : Bool) (h : m env tp = .ok (eB b) t1') : m env tp = .ok (eB (decide (b = true))) t1' := by
  rw [h]; cases b <;> rfl
theorem ev_add {x y : Nat} (ha : ma env tp = .ok (eN x) t1') (hb : mb env t1' = .ok (eN y) t2') : binE addD ma mb env tp = .ok (eN (x + y)) t2' :=
  (ev_bin ha hb rfl).trans (by simp)
theorem ev_sub {x y : Nat} (h : y ≤ x) (ha : ma env tp = .ok (eN x) t1') (hb : mb env t1' = .ok (eN y) t2') : binE subD ma mb env tp = .ok (eN (x - y)) t2' :=
  (ev_bin ha hb rfl).trans (by show RE.ok (D.int ((x : Int) - (y : Int))) t2' = RE.ok (D.int ((x - y : Nat) : Int)) t2'; rw [Int.ofNat_sub h])
theorem ev_mul {x y : Nat} (h : cMul x y = true) (ha : ma env tp = .ok (eN x) t1') (hb : mb env t1' = .ok (eN y) t2') : binE mulD ma mb env tp = .ok (eN (x * y)) t2' :=
  (ev_bin ha hb (by unfold mulD; simp only; rw [if_pos h])).trans (by simp)
theorem ev_fdiv {x y : Nat} (h : cDiv y = true) (ha : ma env tp = .ok (eN x) t1') (hb : mb env t1' = .ok (eN y) t2') : binE fdivD ma mb env tp = .ok (eN (x / y)) t2' :=
  (ev_bin ha hb (by unfold fdivD; simp only; rw [if_pos h])).trans (by simp)
theorem ev_mod {x y : Nat} (h : 0 < y) (ha : ma env tp = .ok (eN x) t1') (hb : mb env t1' = .ok (eN y) t2') : binE modD ma mb env tp = .ok (eN (x % y)) t2' :=
  (ev_bin ha hb (by unfold modD; simp only; rw [if_pos (by omega)])).trans (by simp)
theorem ev_lt {x y : Nat} (ha : ma env tp = .ok (eN x) t1') (hb : mb env t1' = .ok (eN y) t2') : binE ltD ma mb env tp = .ok (eB (decide (x < y))) t2' :=
  (ev_bin ha hb rfl).trans (by simp)
theorem ev_addZ {x y : Int} (ha : ma env tp = .ok (eZ x) t1') (hb : mb env t1' = .ok (eZ y) t2') : binE addD ma mb env tp = .ok (eZ (x + y)) t2' := ev_bin ha hb rfl
theorem ev_subZ {x y : Int} (ha : ma env tp = .ok (eZ x) t1') (hb : mb env t1' = .ok (eZ y) t2') : binE subD ma mb env tp = .ok (eZ (x - y)) t2' := ev_bin ha hb rfl
theorem ev_mulZ {x y : Int} (h : cMul x y = true) (ha : ma env tp = .ok (eZ x) t1') (hb : mb env t1' = .ok (eZ y) t2') : binE mulD ma mb env tp = .ok (eZ (x * y)) t2' :=
  ev_bin ha hb (by unfold mulD; simp only; rw [if_pos h])
theorem ev_gtZ {x y : Int} (ha : ma env tp = .ok (eZ x) t1') (hb : mb env t1' = .ok (eZ y) t2') : binE gtD ma mb env tp = .ok (eB (decide (x > y))) t2' := ev_bin ha hb rfl
theorem ev_negZ {x : Int} (ha : ma env tp = .ok (eZ x) t1') : unE negD ma env tp = .ok (eZ (-x)) t1' := ev_un ha rfl
theorem ev_chLeLe {x y z : Nat} (ha : ma env tp = .ok (eN x) tp) (hb : mb env tp = .ok (eN y) tp) (hc : mc env tp = .ok (eN z) tp) : chainE leD leD ma mb mc env tp = .ok (eB (decide (x ≤ y ∧ y ≤ z))) tp := by
  unfold chainE; rw [ha]; simp only [RE.bind_ok]; rw [hb]; simp only [RE.bind_ok]
  by_cases q : x ≤ y
  · rw [show leD (eN x) (eN y) = some (.bl true) from by show some (D.bl (decide ((x : Int) ≤ y))) = _; rw [decide_eq_true (by omega)]]
    simp only; rw [hc]; simp only [RE.bind_ok]
    show RE.of (some (D.bl (decide ((y : Int) ≤ z)))) tp = _
    simp [q]
  · rw [show leD (eN x) (eN y) = some (.bl false) from by show some (D.bl (decide ((x : Int) ≤ y))) = _; rw [decide_eq_false (by omega)]]
    simp [q]
section
variable [DecidableEq α] {k : Nat}
theorem ev_eq {x y : α} (h : EqE k e) (hk : Nat.ble k 60 = true) (ha : ma env tp = .ok (e x) t1') (hb : mb env t1' = .ok (e y) t2') : binE eqD ma mb env tp = .ok (eB (decide (x = y))) t2' := ev_bin ha hb (eqD_E h (Nat.le_of_ble_eq_true hk) x y)
theorem ev_ne {x y : α} (h : EqE k e) (hk : Nat.ble k 60 = true) (ha : ma env tp = .ok (e x) t1') (hb : mb env t1' = .ok (e y) t2') : binE neD ma mb env tp = .ok (eB (decide (x ≠ y))) t2' := ev_bin ha hb (neD_E h (Nat.le_of_ble_eq_true hk) x y)
end
theorem isNon_O {e : α → D} (n : ∀ x, isNoneD (e x) .non = some (.bl false)) (x : Option α) : isNoneD (eO e x) .non = some (.bl (decide (x = none))) := by
  cases x with
  | none => rfl
  | some x => refine (n x).trans ?_; simp
theorem ev_isNon {x : Option α} (n : ∀ x, isNoneD (e x) .non = some (.bl false)) (ha : ma env tp = .ok (eO e x) t1') (hb : mb env t1' = .ok .non t2') : binE isNoneD ma mb env tp = .ok (eB (decide (x = none))) t2' := ev_bin ha hb (isNon_O n x)
theorem ev_get {x : Option α} [Inhabited α] (h : x ≠ none) (ha : m env tp = .ok (eO e x) t1') : m env tp = .ok (e (x.getD default)) t1' := by
  cases x with
  | none => exact (h rfl).elim
  | some x => exact ha
theorem get!_map [Inhabited α] {xs : List α} {i : Nat} (h : i < xs.length) : atI (xs.map e) (i : Int) = some (e xs[i]!) := by
  rw [atI_nat', List.getElem?_map, List.getElem?_eq_getElem h, getElem!_pos xs i h]; rfl
theorem ev_ixL [Inhabited α] {xs : List α} {i : Nat} (h : i < xs.length) (ha : ma env tp = .ok (eL e xs) t1') (hb : mb env t1' = .ok (eN i) t2') : binE ixD ma mb env tp = .ok (e xs[i]!) t2' := ev_bin ha hb (get!_map h)
theorem ev_ixT [Inhabited α] {xs : List α} {i : Nat} (h : i < xs.length) (ha : ma env tp = .ok (eT e xs) t1') (hb : mb env t1' = .ok (eN i) t2') : binE ixD ma mb env tp = .ok (e xs[i]!) t2' := ev_bin ha hb (get!_map h)
theorem lastI [Inhabited α] {xs : List α} (h : xs ≠ []) : atI (xs.map e) (-1) = some (e xs[xs.length - 1]!) := by
  have hp := List.length_pos_iff.mpr h
  have hi : ixN (xs.map e).length (-1) = some (xs.length - 1) := by
    unfold ixN
    rw [List.length_map]
    simp
    omega
  unfold atI
  rw [hi]
  show (xs.map e)[xs.length - 1]? = _
  rw [List.getElem?_map, List.getElem?_eq_getElem (show xs.length - 1 < xs.length by omega), getElem!_pos xs _ (show xs.length - 1 < xs.length by omega)]; rfl
theorem ev_lastT [Inhabited α] {xs : List α} (h : xs ≠ []) (ha : ma env tp = .ok (eT e xs) t1') (hb : mb env t1' = .ok (.int (-1)) t2') : binE ixD ma mb env tp = .ok (e xs[xs.length - 1]!) t2' := ev_bin ha hb (lastI h)
theorem ev_fst {x : α × β} (ha : ma env tp = .ok (eP e e1 x) t1') (hb : mb env t1' = .ok (.int 0) t2') : binE ixD ma mb env tp = .ok (e x.1) t2' := ev_bin ha hb rfl
theorem ev_snd {x : α × β} (ha : ma env tp = .ok (eP e e1 x) t1') (hb : mb env t1' = .ok (.int 1) t2') : binE ixD ma mb env tp = .ok (e1 x.2) t2' := ev_bin ha hb rfl
theorem ev_tupleL {xs : List α} (h : m env tp = .ok (eL e xs) t1') : callB tupleD (consA m nilA) env tp = .ok (eT e xs) t1' := ev_callB (ev_cons h ev_nil) rfl
end
end T
set_option maxHeartbeats 1000000
namespace T
open PySem L2 G
local instance : _root_.G.Wo := ⟨fun _ => 0⟩
theorem kb_int_int : kitB "int" "int" = some true := by decide +kernel
theorem kb_int_bool : kitB "int" "bool" = some false := by decide +kernel
section
variable {α β γ δ : Type} {e : α → D} {e1 : β → D} {e2 : γ → D} {env : DEnv} {tp t1' t2' t3' t4' : List D} {m ma mb mc : SE D} {mi mi1 : SE (List D)} {ms : SE (List D)} {c c1 : SE Bool}
theorem ev_isi {d : D} {a n : String} {b : Bool} (ha : ma env tp = .ok d t1') (ht : tyN d = some a) (hk : kitB a n = some b) : callB isiD (consA ma (consA (cE (.ty n)) nilA)) env tp = .ok (eB b) t1' := by
  refine ev_callB (ds := [d, .ty n]) (ev_cons ha (ev_cons (m := cE (.ty n)) rfl ev_nil)) ?_
  show (tyN d).bind (fun t => (kitB t n).map D.bl) = some (.bl b)
  rw [ht]
  show (kitB a n).map D.bl = some (.bl b)
  rw [hk]; rfl
theorem it_L {xs : List α} (h : m env tp = .ok (eL e xs) t1') : seqI m env tp = .ok (xs.map e) t1' := by unfold seqI; rw [h]; rfl
theorem it_T {xs : List α} (h : m env tp = .ok (eT e xs) t1') : seqI m env tp = .ok (xs.map e) t1' := by unfold seqI; rw [h]; rfl
theorem rangeL_N (n : Nat) : rangeL 0 (n : Int) = (List.range n).map eN := by
  unfold rangeL
  rw [Int.sub_zero, Int.toNat_natCast]
  exact List.map_congr_left fun a _ => by rw [Int.zero_add]
theorem rangeL_N2 (a n : Nat) : rangeL (a : Int) (n : Int) = (List.range' a (n - a)).map eN := by
  unfold rangeL
  have : ((n : Int) - (a : Int)).toNat = n - a := by omega
  rw [this, List.range'_eq_map_range, List.map_map]
  exact List.map_congr_left fun b _ => by simp
theorem cRg_nat {n : Nat} (h : n ≤ 1073741824) : cRg (n : Int) = true := by
  unfold cRg
  have h1 : -(2 ^ 62) ≤ (n : Int) := by omega
  have h2 : (n : Int) < 2 ^ 62 := by omega
  rw [decide_eq_true h1, decide_eq_true h2]; rfl
theorem range1D_i {i : Int} (h : cRg i = true) : range1D [.int i] = some (rangeL 0 i) := by
  show (if cRg i then some (rangeL 0 i) else none) = _
  rw [if_pos h]
theorem range2D_i {i j : Int} (h : cRg i = true) (h2 : cRg j = true) : range2D [.int i, .int j] = some (rangeL i j) := by
  show (if (cRg i && cRg j) = true then some (rangeL i j) else none) = _
  rw [h, h2]; rfl
theorem range1D_N {n : Nat} (hn : n ≤ 1073741824) : range1D [eN n] = some ((List.range n).map eN) := by
  rw [← rangeL_N]; exact range1D_i (cRg_nat hn)
theorem range2D_N {a n : Nat} (ha : a ≤ 1073741824) (hn : n ≤ 1073741824) : range2D [eN a, eN n] = some ((List.range' a (n - a)).map eN) := by
  rw [← rangeL_N2]; exact range2D_i (cRg_nat ha) (cRg_nat hn)
theorem ev_rangeI {f : List D → Option (List D)} {ds its : List D} (h : ms env tp = .ok ds t1') (hf : f ds = some its) : rangeI f ms env tp = .ok its t1' := by
  unfold rangeI; rw [h]; simp only [RE.bind_ok]; rw [hf]; rfl
theorem it_range {n : Nat} (hn : n ≤ 1073741824) (h : m env tp = .ok (eN n) t1') : rangeI range1D (consA m nilA) env tp = .ok ((List.range n).map eN) t1' :=
  ev_rangeI (ev_cons h ev_nil) (range1D_N hn)
theorem it_range2 {a n : Nat} (hn : a ≤ 1073741824 ∧ n ≤ 1073741824) (ha : ma env tp = .ok (eN a) t1') (h : m env t1' = .ok (eN n) t2') : rangeI range2D (consA ma (consA m nilA)) env tp = .ok ((List.range' a (n - a)).map eN) t2' :=
  ev_rangeI (ev_cons ha (ev_cons h ev_nil)) (range2D_N hn.1 hn.2)
theorem compL_mapP {f : D → List D → RE (Option D)} {g : α → β} {P : α → Prop} [DecidablePred P] : ∀ {xs : List α}, (∀ x ∈ xs, f (e x) tp = .ok (if P x then some (e1 (g x)) else none) tp) → compL f (xs.map e) tp = .ok (((xs.filter fun x => decide (P x)).map g).map e1) tp
  | [], _ => rfl
  | x :: xs, h => by
    rw [List.map_cons]
    unfold compL
    rw [h x List.mem_cons_self]
    simp only
    rw [compL_mapP fun y hy => h y (List.mem_cons_of_mem _ hy)]
    by_cases q : P x <;> simp [q]
theorem ev_comp {vs is : List Nat} {tgt : D → Option (List D)} {xs : List α} {ds : α → List D} {g : α → β} {P : α → Prop} [DecidablePred P] (hi : mi env tp = .ok (xs.map e) t1') (hl : xs.length ≤ 1000000) (ht : ∀ x, tgt (e x) = some (ds x))
    (hc : ∀ x ∈ xs, c (setAll (wipeE env vs) is (ds x)) t1' = .ok (decide (P x)) t1') (hm : ∀ x ∈ xs, P x → m (setAll (wipeE env vs) is (ds x)) t1' = .ok (e1 (g x)) t1') :
    compE mi vs tgt is c m env tp = .ok (eL e1 ((xs.filter fun x => decide (P x)).map g)) t1' := by
  unfold compE
  rw [hi]
  simp only [RE.bind_ok]
  rw [if_pos (small_line (by rw [List.length_map]; exact hl)), compL_mapP (e := e) (e1 := e1) (g := g) (P := P)]
  intro x hx
  unfold compTurn1
  rw [ht]
  simp only
  rw [hc x hx]
  simp only [RE.bind_ok]
  by_cases q : P x
  · rw [if_pos (decide_eq_true q), hm x hx q, if_pos q]; rfl
  · rw [if_neg (by simp [q]), if_neg q]
theorem filter_tt {α : Type} (xs : List α) : (xs.filter fun _ => decide True) = xs := List.filter_eq_self.mpr fun _ _ => rfl
theorem ev_compY {vs is : List Nat} {tgt : D → Option (List D)} {xs : List α} {ds : α → List D} {g : α → β} (hi : mi env tp = .ok (xs.map e) t1') (hl : xs.length ≤ 1000000) (ht : ∀ x, tgt (e x) = some (ds x))
    (hm : ∀ x ∈ xs, m (setAll (wipeE env vs) is (ds x)) t1' = .ok (e1 (g x)) t1') :
    compE mi vs tgt is yesT m env tp = .ok (eL e1 (xs.map g)) t1' := by
  have := ev_comp (c := yesT) (P := fun _ => True) (g := g) (e1 := e1) (vs := vs) hi hl ht (fun x hx => rfl) (fun x hx _ => hm x hx)
  rw [this, filter_tt]
theorem unI_mapN (ns : List Nat) : unI (ns.map eN) = some (ns.map fun n : Nat => (n : Int)) := by
  induction ns with
  | nil => rfl
  | cons b bs ih => show (unI (bs.map eN)).map ((b : Int) :: ·) = _; rw [ih]; rfl
theorem cast_sum (ns : List Nat) : (ns.map fun n : Nat => (n : Int)).sum = (ns.sum : Int) := by
  induction ns with
  | nil => rfl
  | cons n ns ih => rw [List.map_cons, List.sum_cons, ih, List.sum_cons]; simp
theorem ev_sumL {xs : List Nat} (h : m env tp = .ok (eL eN xs) t1') : callB sum2D (consA m nilA) env tp = .ok (eN xs.sum) t1' :=
  ev_callB (ev_cons h ev_nil) (by
    show (unI (xs.map eN)).map (fun bs => D.int bs.sum) = _
    rw [unI_mapN]
    show some (D.int (xs.map fun n : Nat => (n : Int)).sum) = _
    rw [cast_sum])
end
end T
set_option maxHeartbeats 1000000
namespace T
open PySem L2 G
local instance : _root_.G.Wo := ⟨fun _ => 0⟩
abbrev Wn := DEnv → List D → Prop
abbrev Wr := D → List D → Prop
/-- N behind it, R where it returns, B where it breaks, C where it goes on with the next turn -/
inductive WP (N : Wn) (R : Wr) (B C : Wn) : RS → Prop
  | nx {e : DEnv} {t : List D} : N e t → WP N R B C (.nx e t)
  | rt {d : D} {t : List D} : R d t → WP N R B C (.rt d t)
  | bk {e : DEnv} {t : List D} : B e t → WP N R B C (.bk e t)
  | ct {e : DEnv} {t : List D} : C e t → WP N R B C (.ct e t)
abbrev At (s : SS) (env : DEnv) (tp : List D) : RS := s env tp
def no : Wn := fun _ _ => False
section
variable {α β γ δ : Type} {e : α → D} {e1 : β → D} {env : DEnv} {tp t1' t2' : List D} {m ma mb mc : SE D} {mi : SE (List D)} {ms : SE (List D)} {c : SE Bool} {N : Wn} {R : Wr} {B C : Wn} {s s1 s2 : SS} {P : Prop} [Decidable P]
theorem wp_seq (h : WP (fun e t => WP N R B C (s2 e t)) R B C (s1 env tp)) : WP N R B C (seqS s1 s2 env tp) := by
  unfold seqS
  cases q : s1 env tp with
  | nx e t => rw [q] at h; cases h with | nx h => exact h
  | rt d t => rw [q] at h; cases h with | rt h => exact .rt h
  | bk e t => rw [q] at h; cases h with | bk h => exact .bk h
  | ct e t => rw [q] at h; cases h with | ct h => exact .ct h
  | exn a b t => rw [q] at h; cases h
  | stuck => rw [q] at h; cases h
theorem wp_skip (h : N env tp) : WP N R B C (skipS env tp) := .nx h
theorem wp_set {i : Nat} {d : D} (h : m env tp = .ok d t1') (hn : N (env.set i (some d)) t1') : WP N R B C (setS i m env tp) := by
  unfold setS; rw [h]; exact .nx hn
theorem wp_setF {i : Nat} {d : D} (h : m env tp = .ok d t1') (hi : decide (i < env.length) = true) (hn : N (env.set i (some d)) t1') : WP N R B C (setFS i m env tp) := by
  unfold setFS; rw [h]
  show WP N R B C (if i < env.length then .nx (env.set i (some d)) t1' else .stuck)
  rw [if_pos (of_decide_eq_true hi)]; exact .nx hn
theorem wp_ret {d : D} (h : m env tp = .ok d t1') (hr : R d t1') : WP N R B C (retS m env tp) := by
  unfold retS; rw [h]; exact .rt hr
theorem wp_drop {d : D} (h : m env tp = .ok d t1') (hn : N env t1') : WP N R B C (dropS m env tp) := by
  unfold dropS; rw [h]; exact .nx hn
theorem wp_if (h : c env tp = .ok (decide P) t1') (hp : P → WP N R B C (s1 env t1')) (hn : ¬P → WP N R B C (s2 env t1')) : WP N R B C (ifS c s1 s2 env tp) := by
  unfold ifS; rw [h]
  show WP N R B C (if decide P = true then s1 env t1' else s2 env t1')
  by_cases q : P
  · rw [if_pos (decide_eq_true q)]; exact hp q
  · rw [if_neg (by simp [q])]; exact hn q
theorem wp_ifJ (J : DEnv → List D → Prop) (h : c env tp = .ok (decide P) t1') (hp : P → WP J R B C (s1 env t1')) (hn : ¬P → WP J R B C (s2 env t1')) (hJ : ∀ e t, J e t → N e t) : WP N R B C (ifS c s1 s2 env tp) := by
  have key : ∀ r : RS, WP J R B C r → WP N R B C r := fun r h => by
    cases h with
    | nx h => exact .nx (hJ _ _ h)
    | rt h => exact .rt h
    | bk h => exact .bk h
    | ct h => exact .ct h
  exact key _ (wp_if h hp hn)
theorem ev_as {x y : α} (h : x = y) {e : α → D} {r : RE D} {t : List D} (p : r = .ok (e y) t) : r = .ok (e x) t := by rw [h]; exact p
theorem ev_tt (h : P) {t : List D} : (RE.ok (eB (decide P)) t : RE D) = .ok (.bl true) t := by rw [decide_eq_true h]
theorem wp_par {is : List Nat} {ds : List D} (h : ms env tp = .ok ds t1') (hi : is.all (fun i => decide (i < env.length)) = true) (hn : N (setAll env is ds) t1') : WP N R B C (parS is ms env tp) := by
  unfold parS; rw [h]
  show WP N R B C (if is.all (fun i => decide (i < env.length)) = true then .nx (setAll env is ds) t1' else .stuck)
  rw [if_pos hi]; exact .nx hn
theorem wp_augN {i : Nat} {x y : Nat} (he : env[i]? = some (some (eN x))) (h : m env tp = .ok (eN y) t1') (hn : N (env.set i (some (eN (x + y)))) t1') : WP N R B C (augS i addD m env tp) := by
  unfold augS
  rw [he]
  simp only
  rw [h]
  show WP N R B C (.nx (env.set i (some (.int ((x : Int) + (y : Int))))) t1')
  rw [← Int.natCast_add]; exact .nx hn
theorem WP.imp {N' : Wn} {R' : Wr} {B' C' : Wn} {r : RS} (h : WP N R B C r) (hn : ∀ e t, N e t → N' e t) (hr : ∀ d t, R d t → R' d t) (hb : ∀ e t, B e t → B' e t) (hc : ∀ e t, C e t → C' e t) : WP N' R' B' C' r := by
  cases h with
  | nx h => exact .nx (hn _ _ h)
  | rt h => exact .rt (hr _ _ h)
  | bk h => exact .bk (hb _ _ h)
  | ct h => exact .ct (hc _ _ h)
theorem wp_forL {tgt : D → Option (List D)} {is : List Nat} {ds : α → List D} (I : Nat → Wn) (ht : ∀ x, tgt (e x) = some (ds x)) : ∀ (xs : List α) (k : Nat) (env : DEnv) (tp : List D), I k env tp →
    (∀ j x env t, xs[j]? = some x → I (k + j) env t → WP (I (k + j + 1)) R N (I (k + j + 1)) (s (setAll env is (ds x)) t)) → (∀ env t, I (k + xs.length) env t → N env t) → WP N R B C (forL tgt is s (xs.map e) env tp)
  | [], k, env, tp, h0, _, he => .nx (he env tp h0)
  | x :: xs, k, env, tp, h0, hs, he => by
    rw [List.map_cons]
    unfold forL
    rw [ht]
    simp only
    have h1 := hs 0 x env tp rfl h0
    have ih : ∀ env tp, I (k + 1) env tp → WP N R B C (forL tgt is s (xs.map e) env tp) := fun env tp hi => wp_forL I ht xs (k + 1) env tp hi (fun j y env t hj hi => by
      have q : k + 1 + j = k + (j + 1) := by omega
      rw [q] at hi ⊢
      exact hs (j + 1) y env t (by simpa using hj) hi) (fun env t hi => he env t (by rw [List.length_cons, show k + (xs.length + 1) = k + 1 + xs.length from by omega]; exact hi))
    cases q : s (setAll env is (ds x)) tp with
    | nx e t => rw [q] at h1; cases h1 with | nx h1 => exact ih e t h1
    | rt d t => rw [q] at h1; cases h1 with | rt h1 => exact .rt h1
    | bk e t => rw [q] at h1; cases h1 with | bk h1 => exact .nx h1
    | ct e t => rw [q] at h1; cases h1 with | ct h1 => exact ih e t h1
    | exn a b t => rw [q] at h1; cases h1
    | stuck => rw [q] at h1; cases h1
theorem wp_for {tgt : D → Option (List D)} {is : List Nat} {xs : List α} {ds : α → List D} (I : Nat → Wn) (hi : mi env tp = .ok (xs.map e) t1') (ht : ∀ x, tgt (e x) = some (ds x)) (h0 : I 0 env t1')
    (hs : ∀ k x env t, xs[k]? = some x → I k env t → WP (I (k + 1)) R N (I (k + 1)) (s (setAll env is (ds x)) t)) (he : ∀ env t, I xs.length env t → N env t) : WP N R B C (forS mi tgt is s env tp) := by
  unfold forS; rw [hi]
  exact wp_forL I ht xs 0 env t1' h0 (fun j x env t hj q => by rw [Nat.zero_add] at q ⊢; exact hs j x env t hj q) (fun env t q => he env t (by rw [Nat.zero_add] at q; exact q))
theorem wp_whileF (I : Nat → Wn) (hs : ∀ n env t, I n env t → ∃ (P : Prop) (dp : Decidable P), c env t = .ok (@decide P dp) t ∧ (P → WP (fun e t => ∃ n', n' < n ∧ I n' e t) R N (fun e t => ∃ n', n' < n ∧ I n' e t) (s env t)) ∧ (¬P → N env t)) : ∀ (f n : Nat) (env : DEnv) (tp : List D), n < f → I n env tp → WP N R B C (whileF c s f env tp)
  | 0, n, env, tp, hf, h0 => by omega
  | f + 1, n, env, tp, hf, h0 => by
    unfold whileF
    obtain ⟨P, dp, e1, e2, e3⟩ := hs n env tp h0
    rw [e1]
    show WP N R B C (if @decide P dp = true then _ else RS.nx env tp)
    by_cases q : P
    · rw [if_pos (decide_eq_true q)]
      have h1 := e2 q
      have ih : ∀ e t, (∃ n', n' < n ∧ I n' e t) → WP N R B C (whileF c s f e t) := fun e t ⟨n', l, i⟩ => wp_whileF I hs f n' e t (by omega) i
      cases q : s env tp with
      | nx e t => rw [q] at h1; cases h1 with | nx h1 => exact ih e t h1
      | rt d t => rw [q] at h1; cases h1 with | rt h1 => exact .rt h1
      | bk e t => rw [q] at h1; cases h1 with | bk h1 => exact .nx h1
      | ct e t => rw [q] at h1; cases h1 with | ct h1 => exact ih e t h1
      | exn a b t => rw [q] at h1; cases h1
      | stuck => rw [q] at h1; cases h1
    · rw [if_neg (by simp [q])]; exact .nx (e3 q)
theorem wp_while {f : Nat} (I : Nat → Wn) (h0 : ∃ n, n < f ∧ I n env tp) (hs : ∀ n env t, I n env t → ∃ (P : Prop) (dp : Decidable P), c env t = .ok (@decide P dp) t ∧ (P → WP (fun e t => ∃ n', n' < n ∧ I n' e t) R N (fun e t => ∃ n', n' < n ∧ I n' e t) (s env t)) ∧ (¬P → N env t)) : WP N R B C (whileS f c s env tp) := by
  obtain ⟨n, l, i⟩ := h0
  exact wp_whileF I hs f n env tp l i
/-- a def of data -/
theorem wp_def {n : Nat} {ds : List D} {Q : D → List D → Prop} (h : WP (fun _ t => Q .non t) Q no no (s (ds.map some ++ List.replicate (n - ds.length) none) tp)) : ∃ d t, defD n s ds tp = .ok d t ∧ Q d t := by
  unfold defD
  cases q : s (ds.map some ++ List.replicate (n - ds.length) none) tp with
  | nx e t => rw [q] at h; cases h with | nx h => exact ⟨.non, t, rfl, h⟩
  | rt d t => rw [q] at h; cases h with | rt h => exact ⟨d, t, rfl, h⟩
  | bk e t => rw [q] at h; cases h with | bk h => exact h.elim
  | ct e t => rw [q] at h; cases h with | ct h => exact h.elim
  | exn a b t => rw [q] at h; cases h
  | stuck => rw [q] at h; cases h
theorem wp_law {ns : List Int} {n : Nat} (h : WP no (fun d t => d = .bl true) no no (s (some (.scr ns) :: some .tape :: List.replicate n none) tp)) : ∃ t, retR (s (some (.scr ns) :: some .tape :: List.replicate n none) tp) = .ok (.bl true) t := by
  cases q : s (some (.scr ns) :: some .tape :: List.replicate n none) tp with
  | nx e t => rw [q] at h; cases h with | nx h => exact h.elim
  | rt d t => rw [q] at h; cases h with | rt h => exact ⟨t, by rw [show d = .bl true from h]; rfl⟩
  | bk e t => rw [q] at h; cases h with | bk h => exact h.elim
  | ct e t => rw [q] at h; cases h with | ct h => exact h.elim
  | exn a b t => rw [q] at h; cases h
  | stuck => rw [q] at h; cases h
end
end T
set_option maxHeartbeats 1000000
namespace T
open PySem L2 G
local instance : _root_.G.Wo := ⟨fun _ => 0⟩
abbrev eD {β : Type} (e : β → D) (d : List (Nat × β)) : D := .dic (d.map fun p => (eN p.1, e p.2))
abbrev dkeys {β : Type} (d : List (Nat × β)) : List Nat := d.map (·.1)
def dget {β : Type} : List (Nat × β) → Nat → Option β
  | [], _ => none
  | (a, b) :: r, k => if a = k then some b else dget r k
def dput {β : Type} (d : List (Nat × β)) (k : Nat) (v : β) : List (Nat × β) := if (dget d k).isSome = true then d.map (fun p => if p.1 = k then (p.1, v) else p) else d ++ [(k, v)]
def dictOf {β : Type} (ps : List (Nat × β)) : List (Nat × β) := ps.foldl (fun d p => dput d p.1 p.2) []
section
variable {α β γ δ : Type} {e : β → D} {e1 : α → D} {e2 : γ → D} {env : DEnv} {tp t1' t2' t3' : List D} {m ma mb mc mk mv : SE D} {mi mi1 : SE (List D)} {c : SE Bool}
theorem key_eqN {a k : Nat} : (keyOf (eN a) = some (.inl (k : Int))) ↔ a = k := by
  show (some (Sum.inl (a : Int)) = some (Sum.inl (k : Int)) : Prop) ↔ _
  constructor
  · intro h; have := Sum.inl.inj (Option.some.inj h); omega
  · rintro rfl; rfl
theorem find_T (k : Nat) : ∀ d : List (Nat × β), findP keyOf (d.map fun p => (eN p.1, e p.2)) (.inl (k : Int)) = (dget d k).map e
  | [] => rfl
  | (a, b) :: r => by
    rw [List.map_cons]
    unfold findP dget
    by_cases q : a = k
    · rw [if_pos (key_eqN.mpr q), if_pos q]; rfl
    · rw [if_neg (fun z => q (key_eqN.mp z)), if_neg q]; exact find_T k r
theorem dget_isSome {d : List (Nat × β)} {k : Nat} : (dget d k).isSome = true ↔ k ∈ dkeys d := by
  induction d with
  | nil => simp [dget]
  | cons p r ih =>
    unfold dget
    by_cases q : p.1 = k
    · simp [q]
    · rw [if_neg q, ih]; simp [Ne.symm q]
theorem put_T (d : List (Nat × β)) (k : Nat) (v : β) : putP keyOf keyD (d.map fun p => (eN p.1, e p.2)) (.inl (k : Int)) (e v) = (dput d k v).map fun p => (eN p.1, e p.2) := by
  unfold putP dput
  rw [find_T, Option.isSome_map]
  by_cases q : (dget d k).isSome = true
  · rw [if_pos q, if_pos q, List.map_map, List.map_map]
    refine List.map_congr_left fun p _ => ?_
    show (if keyOf (eN p.1) = some (.inl (k : Int)) then (eN p.1, e v) else (eN p.1, e p.2)) = _
    by_cases z : p.1 = k
    · rw [if_pos (key_eqN.mpr z)]; simp [z]
    · rw [if_neg fun y => z (key_eqN.mp y)]; simp [z]
  · rw [if_neg q, if_neg q, List.map_append]; rfl
theorem dget_N (d : List (Nat × β)) (k : Nat) : dgetD (eD e d) (eN k) = some ((dget d k).map e) := by
  show some (findP keyOf (d.map fun p => (eN p.1, e p.2)) (.inl (k : Int))) = _
  rw [find_T]
theorem ev_get2 {x : Nat} {y : β} {d : List (Nat × β)} (ha : ma env tp = .ok (eD e d) t1') (hb : mb env t1' = .ok (eN x) t2') (hc : mc env t2' = .ok (e y) t3') : get2E ma mb mc env tp = .ok (e ((dget d x).getD y)) t3' := by
  unfold get2E
  rw [ha]; simp only [RE.bind_ok]
  rw [if_pos (show isDicD (eD e d) = true from rfl), hb]; simp only [RE.bind_ok]
  rw [hc]; simp only [RE.bind_ok]
  rw [dget_N]
  cases dget d x <;> rfl
theorem len_dput (d : List (Nat × β)) (k : Nat) (v : β) : (dput d k v).length ≤ d.length + 1 := by
  unfold dput
  split
  · rw [List.length_map]; omega
  · rw [List.length_append, List.length_singleton]; omega
theorem wp_dset {N : Wn} {R : Wr} {B C : Wn} {i k : Nat} {v : β} {d : List (Nat × β)} (he : env[i]? = some (some (eD e d))) (hv : mv env tp = .ok (e v) t1') (hk : mk env t1' = .ok (eN k) t2') (hl : d.length < 1000000) (hn : N (env.set i (some (eD e (dput d k v)))) t2') : WP N R B C (dsetS i mk mv env tp) := by
  unfold dsetS
  rw [he]
  simp only
  rw [hv]
  show WP N R B C ((mk env t1').bindS fun k tp2 => (match putD (eD e d) k (e v) with
    | some d' => RS.nx (env.set i (some d')) tp2
    | none => RS.stuck))
  rw [hk]
  have : putD (eD e d) (eN k) (e v) = some (eD e (dput d k v)) := by
    show (if (d.map fun p => (eN p.1, e p.2)).length < sizeLine then some (D.dic (putP keyOf keyD (d.map fun p => (eN p.1, e p.2)) (.inl (k : Int)) (e v))) else none) = _
    rw [List.length_map, if_pos (by have := small_line (Nat.le_refl 1000000); omega), put_T]
  show WP N R B C (match putD (eD e d) (eN k) (e v) with
    | some d' => RS.nx (env.set i (some d')) t2'
    | none => RS.stuck)
  rw [this]
  exact .nx hn
theorem dkeys_dput {d : List (Nat × β)} {k x : Nat} {v : β} : x ∈ dkeys (dput d k v) ↔ x ∈ dkeys d ∨ x = k := by
  unfold dput
  by_cases q : (dget d k).isSome = true
  · rw [if_pos q]
    have hk := dget_isSome.mp q
    have e : dkeys (d.map fun p => if p.1 = k then (p.1, v) else p) = dkeys d := by
      unfold dkeys
      rw [List.map_map]
      refine List.map_congr_left fun p _ => ?_
      show (if p.1 = k then (p.1, v) else p).1 = p.1
      split <;> rfl
    rw [e]
    exact ⟨.inl, fun h => h.elim id fun h => h ▸ hk⟩
  · rw [if_neg q]
    unfold dkeys
    rw [List.map_append, List.mem_append]
    simp
theorem nodup_dput {d : List (Nat × β)} {k : Nat} {v : β} (h : (dkeys d).Nodup) : (dkeys (dput d k v)).Nodup := by
  unfold dput
  by_cases q : (dget d k).isSome = true
  · rw [if_pos q]
    have e : dkeys (d.map fun p => if p.1 = k then (p.1, v) else p) = dkeys d := by
      unfold dkeys
      rw [List.map_map]
      refine List.map_congr_left fun p _ => ?_
      show (if p.1 = k then (p.1, v) else p).1 = p.1
      split <;> rfl
    rw [e]; exact h
  · rw [if_neg q]
    unfold dkeys
    rw [List.map_append]
    refine List.nodup_append.mpr ⟨h, by simp, fun a ha b hb e => ?_⟩
    have : b = k := by simpa using hb
    subst this
    subst e
    exact q (dget_isSome.mpr ha)
end
end T
set_option maxHeartbeats 1000000
namespace T
open PySem L2 G
local instance : _root_.G.Wo := ⟨fun _ => 0⟩
section
variable {env : DEnv} {tp t1' t2' : List D} {m ma mb : SE D}
theorem ev_fdivZ {x y : Int} (h : cDiv y = true) (ha : ma env tp = .ok (eZ x) t1') (hb : mb env t1' = .ok (eZ y) t2') : binE fdivD ma mb env tp = .ok (eZ (x / y)) t2' :=
  ev_bin ha hb (by show (if cDiv y then some (D.int (x / y)) else none) = _; rw [if_pos h])
theorem ev_modZ {x y : Int} (h : 0 < y) (ha : ma env tp = .ok (eZ x) t1') (hb : mb env t1' = .ok (eZ y) t2') : binE modD ma mb env tp = .ok (eZ (x % y)) t2' :=
  ev_bin ha hb (by show (if 0 < y then some (D.int (x % y)) else none) = _; rw [if_pos h])
theorem ev_absZ {x : Int} (ha : m env tp = .ok (eZ x) t1') : callB absD (consA m nilA) env tp = .ok (eN x.natAbs) t1' :=
  ev_callB (ev_cons ha ev_nil) (by
    show some (D.int (if x < 0 then -x else x)) = some (eN x.natAbs)
    have : (if x < 0 then -x else x) = ((x.natAbs : Nat) : Int) := by split <;> omega
    rw [this])
theorem ev_sumV {d : List (Nat × Nat)} (ha : m env tp = .ok (eD eN d) t1') : sumVE m env tp = .ok (eN (d.map (·.2)).sum) t1' := by
  unfold sumVE; rw [ha]; simp only [RE.bind_ok]
  have e : sumVD (eD eN d) = some (eN (d.map (·.2)).sum) := by
    show (unI ((d.map fun p => (eN p.1, eN p.2)).map (·.2))).map (fun ns => D.int ns.sum) = _
    rw [List.map_map]
    have h : ((d.map ((·.2) ∘ fun p : Nat × Nat => (eN p.1, eN p.2)))) = (d.map (·.2)).map eN := by rw [List.map_map]; rfl
    rw [h, unI_mapN]
    show some (D.int _) = some (D.int _)
    rw [cast_sum]
  rw [e]; rfl
theorem ev_revT {α : Type} {e : α → D} {xs : List α} (ha : m env tp = .ok (eT e xs) t1') : revTE m env tp = .ok (eT e xs.reverse) t1' := by
  unfold revTE; rw [ha]; simp only [RE.bind_ok]
  show RE.ok (D.tup (xs.map e).reverse) t1' = RE.ok (D.tup (xs.reverse.map e)) t1'
  rw [List.map_reverse]
end
end T
namespace T
open PySem L2 G
local instance : _root_.G.Wo := ⟨fun _ => 0⟩
structure KeyE {κ : Type} (e1 : κ → D) where
  q : κ → List Key
  of : ∀ k, keysOf (e1 k) = some (q k)
  kd : ∀ k, keyT (q k) = e1 k
  inj : ∀ a b, q a = q b → a = b
section
variable {κ β α : Type} [DecidableEq κ] {e1 : κ → D} {e : β → D} {env : DEnv} {tp t1' t2' t3' : List D} {m ma mb mc mk mv : SE D}
theorem KeyE.eq (h : KeyE e1) {a k : κ} : keysOf (e1 a) = some (h.q k) ↔ a = k := by
  rw [h.of]
  exact ⟨fun z => h.inj _ _ (Option.some.inj z), fun z => by rw [z]⟩
end
end T
namespace T
open PySem L2 G
local instance : _root_.G.Wo := ⟨fun _ => 0⟩
def insNN (x : Nat × Nat) : List (Nat × Nat) → List (Nat × Nat)
  | [] => [x]
  | y :: ys => if y.1 < x.1 ∨ (y.1 = x.1 ∧ y.2 < x.2) then y :: insNN x ys else x :: y :: ys
def sortNN : List (Nat × Nat) → List (Nat × Nat)
  | [] => []
  | x :: xs => insNN x (sortNN xs)
def cNN (p : Nat × Nat) : Int × Int := (p.1, p.2)
theorem lII_N (a b : Nat × Nat) : lII (cNN a) (cNN b) = decide (a.1 < b.1 ∨ (a.1 = b.1 ∧ a.2 < b.2)) := by
  unfold lII cNN
  refine decide_eq_decide.mpr ?_
  show (((a.1 : Nat) : Int) < (b.1 : Nat) ∨ ((a.1 : Nat) : Int) = (b.1 : Nat) ∧ ((a.2 : Nat) : Int) < (b.2 : Nat)) ↔ _
  omega
theorem ins_N (x : Nat × Nat) : ∀ ys : List (Nat × Nat), insL (cNN x) (ys.map cNN) = (insNN x ys).map cNN
  | [] => rfl
  | y :: ys => by
    rw [List.map_cons]
    unfold insL insNN
    rw [lII_N, ins_N x ys]
    by_cases h : y.1 < x.1 ∨ (y.1 = x.1 ∧ y.2 < x.2)
    · rw [if_pos (decide_eq_true h), if_pos h]; rfl
    · rw [if_neg (by simpa using h), if_neg h]; rfl
theorem sort_N : ∀ ys : List (Nat × Nat), sortL (ys.map cNN) = (sortNN ys).map cNN
  | [] => rfl
  | y :: ys => by
    show insL (cNN y) (sortL (ys.map cNN)) = _
    rw [sort_N ys, ins_N]; rfl
theorem pairs_N : ∀ d : List (Nat × Nat), pairsI (d.map fun p => (eN p.1, eN p.2)) = some (d.map cNN)
  | [] => rfl
  | p :: d => by
    show (pairsI (d.map fun p => (eN p.1, eN p.2))).map _ = _
    rw [pairs_N d]; rfl
section
variable {env : DEnv} {tp t1' : List D} {m : SE D}
theorem it_items {β : Type} {e : β → D} {d : List (Nat × β)} (h : m env tp = .ok (eD e d) t1') : itemsI m env tp = .ok (d.map (eP eN e)) t1' := by
  unfold itemsI; rw [h]; simp only [RE.bind_ok]
  show RE.ok ((d.map fun p => (eN p.1, e p.2)).map fun p => D.tup [p.1, p.2]) t1' = _
  rw [List.map_map]; rfl
theorem ev_sortIt {d : List (Nat × Nat)} (h : m env tp = .ok (eD eN d) t1') : sortItE m env tp = .ok (eL (eP eN eN) (sortNN d)) t1' := by
  unfold sortItE; rw [h]; simp only [RE.bind_ok]
  have e : sortItD (eD eN d) = some (eL (eP eN eN) (sortNN d)) := by
    show (pairsI (d.map fun p => (eN p.1, eN p.2))).map (fun ps => D.lst ((sortL ps).map fun p => D.tup [.int p.1, .int p.2])) = _
    rw [pairs_N]
    show some (D.lst ((sortL (d.map cNN)).map fun p => D.tup [.int p.1, .int p.2])) = _
    rw [sort_N, List.map_map]; rfl
  rw [e]; rfl
end
theorem insNN_perm (x : Nat × Nat) : ∀ ys, (insNN x ys).Perm (x :: ys)
  | [] => .refl _
  | y :: ys => by
    unfold insNN
    split
    · exact ((insNN_perm x ys).cons y).trans (.swap _ _ _)
    · exact .refl _
theorem sortNN_perm : ∀ xs, (sortNN xs).Perm xs
  | [] => .refl _
  | x :: xs => (insNN_perm x _).trans ((sortNN_perm xs).cons x)
end T
set_option maxHeartbeats 1000000
namespace T
open PySem L2 G
local instance : _root_.G.Wo := ⟨fun _ => 0⟩
structure SrtE {α : Type} (e : α → D) : Prop where
  ok : ∀ x, (e x).okq = true
  al : ∀ x y, PySem.W.alike (e x).pd (e y).pd = true
  kd : (∀ x, tupPd (e x).pd = true) ∨ ∀ x, othPd (e x).pd = true
@[irreducible] def srtBy {α : Type} (e : α → D) (xs : List α) : List α := xs.mergeSort fun a b => PySem.W.dataLe false D.pd (e a) (e b)
theorem srtBy_perm {α : Type} (e : α → D) (xs : List α) : (srtBy e xs).Perm xs := by unfold srtBy; exact List.mergeSort_perm _ _
section
variable {α : Type} {e : α → D} {env : DEnv} {tp t1' : List D} {m : SE D}
theorem sortOk_of (h : SrtE e) (xs : List α) : sortOk (xs.map e) = true := by
  unfold sortOk
  have h1 : (xs.map e).all D.okq = true := List.all_eq_true.mpr fun d hd => by
    obtain ⟨x, _, rfl⟩ := List.mem_map.mp hd
    exact h.ok x
  have h2 : ((xs.map e).all fun d => (xs.map e).all fun f => PySem.W.alike d.pd f.pd) = true := List.all_eq_true.mpr fun d hd => List.all_eq_true.mpr fun f hf => by
    obtain ⟨x, _, rfl⟩ := List.mem_map.mp hd
    obtain ⟨y, _, rfl⟩ := List.mem_map.mp hf
    exact h.al x y
  rw [h1, h2]
  rcases h.kd with k | k
  · have h3 : ((xs.map e).all fun d => tupPd d.pd) = true := List.all_eq_true.mpr fun d hd => by
      obtain ⟨x, _, rfl⟩ := List.mem_map.mp hd
      exact k x
    rw [h3]; rfl
  · have h3 : ((xs.map e).all fun d => othPd d.pd) = true := List.all_eq_true.mpr fun d hd => by
      obtain ⟨x, _, rfl⟩ := List.mem_map.mp hd
      exact k x
    rw [h3]; simp
theorem srt_map (xs : List α) : sortDat (xs.map e) = (srtBy e xs).map e := by
  unfold srtBy
  exact (List.map_mergeSort (r := fun a b => PySem.W.dataLe false D.pd (e a) (e b)) (s := PySem.W.dataLe false D.pd) (f := e) fun a _ b _ => rfl).symm
theorem ev_sortDat {xs : List α} (h : SrtE e) (ha : m env tp = .ok (eL e xs) t1') : callB sortDD (consA m nilA) env tp = .ok (eL e (srtBy e xs)) t1' :=
  ev_callB (ev_cons ha ev_nil) (by
    show (if sortOk (xs.map e) = true then some (D.lst (sortDat (xs.map e))) else none) = _
    rw [if_pos (sortOk_of h xs), srt_map])
end
theorem srt_NZZ : SrtE (eP eN (eP eZ eZ)) := ⟨fun x => by simp [D.okq, eP, D.pd, pdAll, PyData.plain, PyData.plainAll, PyData.depth, PyData.depthAll], fun x y => by simp [eP, D.pd, pdAll, PySem.W.alike, PySem.W.alikeAll], .inl fun x => by simp [eP, D.pd, pdAll, tupPd]⟩
end T
set_option maxHeartbeats 1000000
namespace T
open PySem L2 G
abbrev eM (x : Int × List Str) : D := .memo x.1 x.2
/-- data that makes keys -/
structure KD {α : Type} (e : α → D) (q : α → NestedKey) (c : Nat) : Prop where
  h : ∀ x, dKey (e x) = some (q x)
  d : ∀ x, (q x).depth ≤ c
abbrev nkN (n : Nat) : NestedKey := .num (n : Int)
abbrev nkB (b : Bool) : NestedKey := .num (if b = true then 1 else 0)
abbrev nkP3 {α β γ : Type} (a : α → NestedKey) (b : β → NestedKey) (c : γ → NestedKey) (x : α × β × γ) : NestedKey := .tup [a x.1, b x.2.1, c x.2.2]
section
variable {α β γ : Type} {e : α → D} {e1 : β → D} {e2 : γ → D} {q : α → NestedKey} {q1 : β → NestedKey} {q2 : γ → NestedKey} {c c1 c2 : Nat}
theorem kdN : KD eN nkN 0 := ⟨fun _ => rfl, fun _ => Nat.le_refl _⟩
theorem kdB : KD eB nkB 0 := ⟨fun _ => rfl, fun _ => Nat.le_refl _⟩
theorem kdP3 (h : KD e q c) (h1 : KD e1 q1 c1) (h2 : KD e2 q2 c2) : KD (eP3 e e1 e2) (nkP3 q q1 q2) (max c (max c1 c2) + 1) := ⟨fun x => by
  show (dKeys [e x.1, e1 x.2.1, e2 x.2.2]).map NestedKey.tup = _
  have : dKeys [e x.1, e1 x.2.1, e2 x.2.2] = some [q x.1, q1 x.2.1, q2 x.2.2] := by
    show (dKey (e x.1)).bind (fun k => ((dKey (e1 x.2.1)).bind fun k => ((dKey (e2 x.2.2)).bind fun k => (some []).map (k :: ·)).map (k :: ·)).map (k :: ·)) = _
    rw [h.h, h1.h, h2.h]; rfl
  rw [this]; rfl, fun x => by
  show NestedKey.depth (.tup [q x.1, q1 x.2.1, q2 x.2.2]) ≤ _
  rw [NestedKey.depth, NestedKey.depthAll, NestedKey.depthAll, NestedKey.depthAll, NestedKey.depthAll]
  have := h.d x.1; have := h1.d x.2.1; have := h2.d x.2.2
  omega⟩
end
section
variable {N : Wn} {R : Wr} {B C : Wn} {env : DEnv} {tp t : List D}
theorem ev_memoE {n : Int} {f : DEnv → Option (List Str)} {ps : List Str} (h : f env = some ps) : memoE n f env tp = .ok (eM (n, ps)) tp := by
  unfold memoE; rw [h]
theorem wp_mput {kn ky : Nat} {n : Int} {ps : List Str} {ds : List D} {k : NestedKey} {d : D} {m : SE D} (h1 : env[kn]? = some (some (.memo n ps))) (h2 : env[ky]? = some (some (.tup ds))) (h3 : dKey (.tup ds) = some k) (h4 : k.depth ≤ 8) (h : m env tp = .ok d t) (ht : tellsF n ps k = some d) (hv : okVD d = true) (hr : R d t) : WP N R B C (mputS kn ky m env tp) := by
  unfold mputS
  rw [h1, h2]
  simp only
  rw [h]
  simp only
  rw [if_pos ⟨hv, k, h3, h4, ht⟩]
  exact .rt hr
theorem okkv_D : ∀ x : List (Nat × Nat), okKVs (x.map fun p => (eN p.1, eN p.2)) = true
  | [] => rfl
  | p :: x => okkv_D x
theorem okvX_D (x : List (Nat × Nat)) : okVX (eD eN x) = true := by
  show (okVD _ || okDD (.dic (x.map fun p => (eN p.1, eN p.2)))) = true
  have e : okDD (.dic (x.map fun p => (eN p.1, eN p.2))) = true := okkv_D x
  rw [e]; exact Bool.or_true _
theorem wp_mputL {kn ky fn : Nat} {n : Int} {ps : List Str} {ds : List D} {k : NestedKey} {es : List (D × D)} (h1 : env[kn]? = some (some (.memo n ps))) (h2 : env[ky]? = some (some (.tup ds))) (h3 : dKey (.tup ds) = some k) (h4 : k.depth ≤ 8) (hf : env[fn]? = some (some (.dic es))) (ht : tellsF n ps k = some (.dic es)) (hv : okKVs es = true) (hr : R (.dic es) tp) : WP N R B C (mputLS kn ky fn env tp) := by
  unfold mputLS
  rw [h1, h2, hf]
  simp only
  rw [if_pos ⟨hv, k, h3, h4, ht⟩]
  exact .rt hr
theorem wp_memo {kn ky : Nat} {n : Int} {ps : List Str} {ds : List D} {k : NestedKey} {mB : SS} (h1 : env[kn]? = some (some (.memo n ps))) (h2 : env[ky]? = some (some (.tup ds))) (h3 : dKey (.tup ds) = some k) (h4 : k.depth ≤ 8)
    (h : WP no (fun d t => t = tp ∧ tellsF n ps k = some d ∧ okVX d = true ∧ R d tp) no no (mB env tp)) : WP N R B C (memoS kn ky mB env tp) := by
  unfold memoS
  rw [h1, h2]
  simp only
  cases e : mB env tp with
  | rt d t' =>
    rw [e] at h
    cases h with
    | rt h =>
      obtain ⟨a, b, c, r⟩ := h
      simp only
      rw [if_pos ⟨a, c, k, h3, h4, b⟩]
      exact .rt r
  | nx _ _ => rw [e] at h; cases h with | nx h => exact h.elim
  | bk d t => rw [e] at h; cases h with | bk h => exact h.elim
  | ct d t => rw [e] at h; cases h with | ct h => exact h.elim
  | exn c f t => rw [e] at h; cases h
  | stuck => rw [e] at h; cases h
end
end T
set_option maxHeartbeats 1000000
namespace T
open PySem L2 G
local instance : _root_.G.Wo := ⟨fun _ => 0⟩
end T
set_option maxHeartbeats 1000000
namespace T
open PySem L2 G
local instance : _root_.G.Wo := ⟨fun _ => 0⟩
end T
set_option maxHeartbeats 4000000
namespace W
open PySem L2 G
/-- what the top leaves -/
structure Tx [Wo] (w : World) (K : PySem.W.Frag) (mg : Str → Option Value) : Prop where
  hw : ∀ k, Wo.hash k = NestedKey.hash w k
  abs : mg "abs" = none
  bool : mg "bool" = none
  int : mg "int" = none
  isinstance : mg "isinstance" = none
  len : mg "len" = none
  range : mg "range" = none
  sorted : mg "sorted" = none
  sum : mg "sum" = none
  tuple : mg "tuple" = none
  MOST_SIDE_boards : ∃ t, mg "MOST_SIDE_boards" = some (.int 30 t)
  MOST_SIDE_tallies : ∃ t, mg "MOST_SIDE_tallies" = some (.int 8 t)
  f_is_int : ∃ f fd, FunD K "is_int" "is_int" (defArgs (top 5)) (defBody (top 5)) (defScope (top 5)) [] [] f fd ∧ mg "is_int" = some (.ref f)
  f_is_in : ∃ f fd, FunD K "is_in" "is_in" (defArgs (top 6)) (defBody (top 6)) (defScope (top 6)) [] [] f fd ∧ mg "is_in" = some (.ref f)
  f_need_number : ∃ f fd, FunD K "need_number" "need_number" (defArgs (top 7)) (defBody (top 7)) (defScope (top 7)) [] [] f fd ∧ mg "need_number" = some (.ref f)
  f_product_to : ∃ f fd, FunD K "product_to" "product_to" (defArgs (top 9)) (defBody (top 9)) (defScope (top 9)) [] [] f fd ∧ mg "product_to" = some (.ref f)
  f_common : ∃ f fd, FunD K "common" "common" (defArgs (top 11)) (defBody (top 11)) (defScope (top 11)) [] [] f fd ∧ mg "common" = some (.ref f)
  f_lowered : ∃ f fd, FunD K "lowered" "lowered" (defArgs (top 12)) (defBody (top 12)) (defScope (top 12)) [] [] f fd ∧ mg "lowered" = some (.ref f)
  f_need_board : ∃ f fd, FunD K "need_board" "need_board" (defArgs (top 13)) (defBody (top 13)) (defScope (top 13)) [] [] f fd ∧ mg "need_board" = some (.ref f)
  f_long_run_tally : ∃ f fd, FunD K "long_run_tally" "long_run_tally" (defArgs (top 14)) (defBody (top 14)) (defScope (top 14)) [] [] f fd ∧ mg "long_run_tally" = some (.ref f)
  f_splits : ∃ f fd, FunD K "splits" "splits" (defArgs (top 15)) (defBody (top 15)) (defScope (top 15)) [] [] f fd ∧ mg "splits" = some (.ref f)
  f_chosen : ∃ f fd, FunD K "chosen" "chosen" (defArgs (top 17)) (defBody (top 17)) (defScope (top 17)) [] [] f fd ∧ mg "chosen" = some (.ref f)
  f_need_small : ∃ f fd, FunD K "need_small" "need_small" (defArgs (top 20)) (defBody (top 20)) (defScope (top 20)) [] [] f fd ∧ mg "need_small" = some (.ref f)
  f_black_left : ∃ f fd, FunD K "black_left" "black_left" (defArgs (top 21)) (defBody (top 21)) (defScope (top 21)) [] [] f fd ∧ mg "black_left" = some (.ref f)
  f_tally_of : ∃ f fd, FunD K "tally_of" "tally_of" (defArgs (top 22)) (defBody (top 22)) (defScope (top 22)) [] [] f fd ∧ mg "tally_of" = some (.ref f)
  f_black_tally : ∃ f fd, FunD K "black_tally" "black_tally" (defArgs (top 23)) (defBody (top 23)) (defScope (top 23)) [] [] f fd ∧ mg "black_tally" = some (.ref f)
  f_count_free_black : ∃ f fd, FunD K "count_free_black" "count_free_black" (defArgs (top 24)) (defBody (top 24)) (defScope (top 24)) [] [] f fd ∧ mg "count_free_black" = some (.ref f)
  f_mean_free_black : ∃ f fd, FunD K "mean_free_black" "mean_free_black" (defArgs (top 25)) (defBody (top 25)) (defScope (top 25)) [] [] f fd ∧ mg "mean_free_black" = some (.ref f)
  f_run_left : ∃ f fd, FunD K "run_left" "run_left" (defArgs (top 26)) (defBody (top 26)) (defScope (top 26)) [] [] f fd ∧ mg "run_left" = some (.ref f)
  f_orders_number : ∃ f fd, FunD K "orders_number" "orders_number" (defArgs (top 27)) (defBody (top 27)) (defScope (top 27)) [] [] f fd ∧ mg "orders_number" = some (.ref f)
  f_long_run_black : ∃ f fd, FunD K "long_run_black" "long_run_black" (defArgs (top 28)) (defBody (top 28)) (defScope (top 28)) [] [] f fd ∧ mg "long_run_black" = some (.ref f)
  f_likeliest_black : ∃ f fd, FunD K "likeliest_black" "likeliest_black" (defArgs (top 29)) (defBody (top 29)) (defScope (top 29)) [] [] f fd ∧ mg "likeliest_black" = some (.ref f)
  f_ways_left : ∃ f fd, FunD K "ways_left" "ways_left" (defArgs (top 31)) (defBody (top 31)) (defScope (top 31)) [] [] f fd ∧ mg "ways_left" = some (.ref f)
  f_free_number_of : ∃ f fd, FunD K "free_number_of" "free_number_of" (defArgs (top 32)) (defBody (top 32)) (defScope (top 32)) [] [] f fd ∧ mg "free_number_of" = some (.ref f)
  f_need_sides : ∃ f fd, FunD K "need_sides" "need_sides" (defArgs (top 33)) (defBody (top 33)) (defScope (top 33)) [] [] f fd ∧ mg "need_sides" = some (.ref f)
  f_count_free : ∃ f fd, FunD K "count_free" "count_free" (defArgs (top 34)) (defBody (top 34)) (defScope (top 34)) [] [] f fd ∧ mg "count_free" = some (.ref f)
  f_law_taken : ∃ f fd, FunD K "_law_taken" "_law_taken" (defArgs (top 36)) (defBody (top 36)) (defScope (top 36)) [] [] f fd ∧ mg "_law_taken" = some (.ref f)
  f_law_product : ∃ f fd, FunD K "_law_product" "_law_product" (defArgs (top 37)) (defBody (top 37)) (defScope (top 37)) [] [] f fd ∧ mg "_law_product" = some (.ref f)
  f_law_common : ∃ f fd, FunD K "_law_common" "_law_common" (defArgs (top 38)) (defBody (top 38)) (defScope (top 38)) [] [] f fd ∧ mg "_law_common" = some (.ref f)
  f_law_lowered : ∃ f fd, FunD K "_law_lowered" "_law_lowered" (defArgs (top 39)) (defBody (top 39)) (defScope (top 39)) [] [] f fd ∧ mg "_law_lowered" = some (.ref f)
  f_law_plus : ∃ f fd, FunD K "_law_plus" "_law_plus" (defArgs (top 40)) (defBody (top 40)) (defScope (top 40)) [] [] f fd ∧ mg "_law_plus" = some (.ref f)
noncomputable section
variable [Wo] {P : Program} {w : World} {K : PySem.W.Frag} {mg : Str → Option Value} {base : Heap} {r : Addr}
abbrev s_is_int : Stmt := top 5
theorem sc_is_int : FnScope ["value"] ["value"] (defScope s_is_int) := ⟨rfl, rfl, rfl, by decide +kernel, rfl, by decide +kernel, by decide +kernel⟩
def b_is_int : SS := retS (andE (callB isiD (consA (vE 0) (consA (cE (.ty "int")) (nilA)))) (notE (callB isiD (consA (vE 0) (consA (cE (.ty "bool")) (nilA))))))
def m_is_int : List D → List D → RE D := defD 1 b_is_int
theorem d_is_int (T : Tx w K mg) : DefOk P w K mg base CX0 r "is_int" 1 1 m_is_int := by
  obtain ⟨f, fd, F, hm⟩ := T.f_is_int
  refine fn_def (k := 0) F sc_is_int hm (fun _ _ _ _ _ _ us hl => match us, hl with | [_], _ => rfl) (fun cdv A outer s H E hr => ?_) (m := b_is_int)
  exact ⟨_, _, (gss_one (gs_ret (On := []) (ge_and (ge_isi T.isinstance (gao_cons ((ge_var 0)).go (gao_cons ((ge_ty T.int)).go gao_nil))) (ge_one (ge_not (ge_isi T.isinstance (gao_cons ((ge_var 0)).go (gao_cons ((ge_ty T.bool)).go gao_nil))))))))⟩
abbrev s_product_to : Stmt := top 9
theorem sc_product_to : FnScope ["number", "found", "more"] ["number"] (defScope s_product_to) := ⟨rfl, rfl, rfl, by decide +kernel, rfl, by decide +kernel, by decide +kernel⟩
def b_product_to : SS := seqS (setS 1 (cE (.int 1))) (seqS (forS (rangeI range2D (consA (cE (.int 2)) (consA (binE addD (vE 0) (cE (.int 1))) (nilA)))) t1 [2] (setS 1 (binE mulD (vE 1) (vE 2)))) (retS (vE 1)))
def m_product_to : List D → List D → RE D := defD 3 b_product_to
theorem d_product_to (T : Tx w K mg) : DefOk P w K mg base CX0 r "product_to" 1 1 m_product_to := by
  obtain ⟨f, fd, F, hm⟩ := T.f_product_to
  refine fn_def (k := 0) F sc_product_to hm (fun _ _ _ _ _ _ us hl => match us, hl with | [_], _ => rfl) (fun cdv A outer s H E hr => ?_) (m := b_product_to)
  exact ⟨_, _, (gss_cons (GS.post (On' := []) (by decide) (gs_set 1 sc_product_to.nd ge_int)) (gss_cons (gs_for .never rfl (gi_range2 T.range (gao_cons (ge_int).go (gao_cons ((ge_add ((ge_var 0)).go (ge_int).go)).go gao_nil))) (gg_name 2 sc_product_to.nd) (GSs.post (On' := []) (by decide) (gss_one (GS.post (On' := []) (by decide) (gs_set 1 sc_product_to.nd (ge_mul ((ge_var 1)).go ((ge_var 2)).go))))) (by decide) (fun d ds h => by cases h; rfl)) (gss_one (gs_ret (On := []) (ge_var 1)))))⟩
abbrev s_common : Stmt := top 11
theorem sc_common : FnScope ["one", "other"] ["one", "other"] (defScope s_common) := ⟨rfl, rfl, rfl, by decide +kernel, rfl, by decide +kernel, by decide +kernel⟩
def b_common : SS := seqS (whileS 1000000 (boolE (binE neD (vE 1) (cE (.int 0)))) (parS [0, 1] (consA (vE 1) (consA (binE modD (vE 0) (vE 1)) (nilA))))) (retS (callB absD (consA (vE 0) (nilA))))
def m_common : List D → List D → RE D := defD 2 b_common
theorem d_common (T : Tx w K mg) : DefOk P w K mg base CX0 r "common" 1 2 m_common := by
  obtain ⟨f, fd, F, hm⟩ := T.f_common
  refine fn_def (k := 0) F sc_common hm (fun _ _ _ _ _ _ us hl => match us, hl with | [_, _], _ => rfl) (fun cdv A outer s H E hr => ?_) (m := b_common)
  exact ⟨_, _, (gss_cons (gs_while 1000000 .never (gt_ne hr.units ((ge_var 1)).go (ge_int).go) (GSs.post (On' := []) (by decide) (gss_one (GS.post (On' := []) (by decide) (gs_par2 0 1 sc_common.nd (gak_st (ge_var 1) (gak_st (ge_mod ((ge_var 0)).go ((ge_var 1)).go) gak_nil))))))) (gss_one (gs_ret (On := []) (ge_abs T.abs (gao_cons ((ge_var 0)).go gao_nil)))))⟩
abbrev s_splits : Stmt := top 15
theorem sc_splits : FnScope ["many", "parts", "found", "turn"] ["many", "parts"] (defScope s_splits) := ⟨rfl, rfl, rfl, by decide +kernel, rfl, by decide +kernel, by decide +kernel⟩
def b_splits : SS := seqS (setS 2 (cE (.int 1))) (seqS (forS (rangeI range1D (consA (binE subD (vE 1) (cE (.int 1))) (nilA))) t1 [3] (setS 2 (binE fdivD (binE mulD (vE 2) (binE subD (binE subD (vE 0) (cE (.int 1))) (vE 3))) (binE addD (vE 3) (cE (.int 1)))))) (retS (vE 2)))
def m_splits : List D → List D → RE D := defD 4 b_splits
theorem d_splits (T : Tx w K mg) : DefOk P w K mg base CX0 r "splits" 1 2 m_splits := by
  obtain ⟨f, fd, F, hm⟩ := T.f_splits
  refine fn_def (k := 0) F sc_splits hm (fun _ _ _ _ _ _ us hl => match us, hl with | [_, _], _ => rfl) (fun cdv A outer s H E hr => ?_) (m := b_splits)
  exact ⟨_, _, (gss_cons (GS.post (On' := []) (by decide) (gs_set 2 sc_splits.nd ge_int)) (gss_cons (gs_for .never rfl (gi_range1 T.range (gao_cons ((ge_sub ((ge_var 1)).go (ge_int).go)).go gao_nil)) (gg_name 3 sc_splits.nd) (GSs.post (On' := []) (by decide) (gss_one (GS.post (On' := []) (by decide) (gs_set 2 sc_splits.nd (ge_fdiv ((ge_mul ((ge_var 2)).go ((ge_sub ((ge_sub ((ge_var 0)).go (ge_int).go)).go ((ge_var 3)).go)).go)).go ((ge_add ((ge_var 3)).go (ge_int).go)).go))))) (by decide) (fun d ds h => by cases h; rfl)) (gss_one (gs_ret (On := []) (ge_var 2)))))⟩
abbrev s_chosen : Stmt := top 17
theorem sc_chosen : FnScope ["many", "some", "found", "turn"] ["many", "some"] (defScope s_chosen) := ⟨rfl, rfl, rfl, by decide +kernel, rfl, by decide +kernel, by decide +kernel⟩
def b_chosen : SS := seqS (setS 2 (cE (.int 1))) (seqS (forS (rangeI range1D (consA (vE 1) (nilA))) t1 [3] (setS 2 (binE fdivD (binE mulD (vE 2) (binE subD (vE 0) (vE 3))) (binE addD (vE 3) (cE (.int 1)))))) (retS (vE 2)))
def m_chosen : List D → List D → RE D := defD 4 b_chosen
theorem d_chosen (T : Tx w K mg) : DefOk P w K mg base CX0 r "chosen" 1 2 m_chosen := by
  obtain ⟨f, fd, F, hm⟩ := T.f_chosen
  refine fn_def (k := 0) F sc_chosen hm (fun _ _ _ _ _ _ us hl => match us, hl with | [_, _], _ => rfl) (fun cdv A outer s H E hr => ?_) (m := b_chosen)
  exact ⟨_, _, (gss_cons (GS.post (On' := []) (by decide) (gs_set 2 sc_chosen.nd ge_int)) (gss_cons (gs_for .never rfl (gi_range1 T.range (gao_cons ((ge_var 1)).go gao_nil)) (gg_name 3 sc_chosen.nd) (GSs.post (On' := []) (by decide) (gss_one (GS.post (On' := []) (by decide) (gs_set 2 sc_chosen.nd (ge_fdiv ((ge_mul ((ge_var 2)).go ((ge_sub ((ge_var 0)).go ((ge_var 3)).go)).go)).go ((ge_add ((ge_var 3)).go (ge_int).go)).go))))) (by decide) (fun d ds h => by cases h; rfl)) (gss_one (gs_ret (On := []) (ge_var 2)))))⟩
abbrev s_orders_number : Stmt := top 27
theorem sc_orders_number : FnScope ["many", "some", "found", "turn"] ["many", "some"] (defScope s_orders_number) := ⟨rfl, rfl, rfl, by decide +kernel, rfl, by decide +kernel, by decide +kernel⟩
def b_orders_number : SS := seqS (setS 2 (cE (.int 1))) (seqS (forS (rangeI range1D (consA (vE 1) (nilA))) t1 [3] (setS 2 (binE mulD (vE 2) (binE subD (vE 0) (vE 3))))) (retS (vE 2)))
def m_orders_number : List D → List D → RE D := defD 4 b_orders_number
theorem d_orders_number (T : Tx w K mg) : DefOk P w K mg base CX0 r "orders_number" 1 2 m_orders_number := by
  obtain ⟨f, fd, F, hm⟩ := T.f_orders_number
  refine fn_def (k := 0) F sc_orders_number hm (fun _ _ _ _ _ _ us hl => match us, hl with | [_, _], _ => rfl) (fun cdv A outer s H E hr => ?_) (m := b_orders_number)
  exact ⟨_, _, (gss_cons (GS.post (On' := []) (by decide) (gs_set 2 sc_orders_number.nd ge_int)) (gss_cons (gs_for .never rfl (gi_range1 T.range (gao_cons ((ge_var 1)).go gao_nil)) (gg_name 3 sc_orders_number.nd) (GSs.post (On' := []) (by decide) (gss_one (GS.post (On' := []) (by decide) (gs_set 2 sc_orders_number.nd (ge_mul ((ge_var 2)).go ((ge_sub ((ge_var 0)).go ((ge_var 3)).go)).go))))) (by decide) (fun d ds h => by cases h; rfl)) (gss_one (gs_ret (On := []) (ge_var 2)))))⟩
abbrev s_law_taken : Stmt := top 36
theorem sc_law_taken : FnScope ["_law_row", "_law_many", "_law_found", "_law_cell"] ["_law_row", "_law_many"] (defScope s_law_taken) := ⟨rfl, rfl, rfl, by decide +kernel, rfl, by decide +kernel, by decide +kernel⟩
def b_law_taken : SS := seqS (ifS (boolE (binE gtD (tixE (vE 0) (cE (.int 3))) (cE (.int 0)))) (seqS (setS 2 (binE modD (callB intD (consA (tixE (vE 0) (cE (.int 3))) (nilA))) (vE 1))) (seqS (tsetS 3 (vE 0) (cE (.int 3)) (binE fdivD (tixE (vE 0) (cE (.int 3))) (vE 1))) (retS (vE 2)))) (skipS)) (seqS (tsetS 1 (vE 0) (cE (.int 1)) (binE addD (tixE (vE 0) (cE (.int 1))) (cE (.int 1)))) (seqS (ifS (boolE (binE gtD (tixE (vE 0) (cE (.int 1))) (callB lenD (consA (tixE (vE 0) (cE (.int 0))) (nilA))))) (seqS (tsetS 2 (vE 0) (cE (.int 2)) (binE modD (callB intD (consA (binE addD (binE mulD (tixE (vE 0) (cE (.int 2))) (cE (.int 48271))) (cE (.int 11))) (nilA))) (cE (.int 2147483647)))) (retS (binE modD (callB intD (consA (binE fdivD (tixE (vE 0) (cE (.int 2))) (cE (.int 7))) (nilA))) (vE 1)))) (skipS)) (seqS (setS 3 (binE ixD (tixE (vE 0) (cE (.int 0))) (binE subD (tixE (vE 0) (cE (.int 1))) (cE (.int 1))))) (seqS (tsetS 2 (vE 0) (cE (.int 2)) (binE modD (callB intD (consA (binE addD (binE addD (binE mulD (tixE (vE 0) (cE (.int 2))) (cE (.int 48271))) (vE 3)) (cE (.int 11))) (nilA))) (cE (.int 2147483647)))) (seqS (ifS (boolE (binE geD (vE 3) (binE powD (cE (.int 10)) (cE (.int 18))))) (tsetS 3 (vE 0) (cE (.int 3)) (binE fdivD (vE 3) (vE 1))) (skipS)) (retS (binE modD (callB intD (consA (vE 3) (nilA))) (vE 1))))))))
def m_law_taken : List D → List D → RE D := defD 4 b_law_taken
theorem d_law_taken (T : Tx w K mg) : DefOk P w K mg base CX0 r "_law_taken" 1 2 m_law_taken := by
  obtain ⟨f, fd, F, hm⟩ := T.f_law_taken
  refine fn_def (k := 0) F sc_law_taken hm (fun _ _ _ _ _ _ us hl => match us, hl with | [_, _], _ => rfl) (fun cdv A outer s H E hr => ?_) (m := b_law_taken)
  exact ⟨_, _, (gss_cons (gs_if (gt_gt ((ge_tix ((ge_var 0)).go (ge_int).go)).go (ge_int).go) (gss_cons (GS.post (On' := []) (by decide) (gs_set 2 sc_law_taken.nd (ge_mod ((ge_int1 T.int (gao_cons ((ge_tix ((ge_var 0)).go (ge_int).go)).go gao_nil))).go ((ge_var 1)).go))) (gss_cons (gs_tset 3 (ge_fdiv ((ge_tix ((ge_var 0)).go (ge_int).go)).go ((ge_var 1)).go) ((ge_var 0)).go (ge_int).go) (gss_one (gs_ret (On := []) (ge_var 2))))) (GSs.post (On' := []) (by decide) gss_nil)) (gss_cons (gs_tset 1 (ge_add ((ge_tix ((ge_var 0)).go (ge_int).go)).go (ge_int).go) ((ge_var 0)).go (ge_int).go) (gss_cons (gs_if (gt_gt ((ge_tix ((ge_var 0)).go (ge_int).go)).go ((ge_len T.len (gao_cons ((ge_tix ((ge_var 0)).go (ge_int).go)).go gao_nil))).go) (gss_cons (gs_tset 2 (ge_mod ((ge_int1 T.int (gao_cons ((ge_add ((ge_mul ((ge_tix ((ge_var 0)).go (ge_int).go)).go (ge_int).go)).go (ge_int).go)).go gao_nil))).go (ge_int).go) ((ge_var 0)).go (ge_int).go) (gss_one (gs_ret (On := []) (ge_mod ((ge_int1 T.int (gao_cons ((ge_fdiv ((ge_tix ((ge_var 0)).go (ge_int).go)).go (ge_int).go)).go gao_nil))).go ((ge_var 1)).go)))) (GSs.post (On' := []) (by decide) gss_nil)) (gss_cons (GS.post (On' := []) (by decide) (gs_set 3 sc_law_taken.nd (ge_sub1 ((ge_tix ((ge_var 0)).go (ge_int).go)).go ((ge_sub ((ge_tix ((ge_var 0)).go (ge_int).go)).go (ge_int).go)).go))) (gss_cons (gs_tset 2 (ge_mod ((ge_int1 T.int (gao_cons ((ge_add ((ge_add ((ge_mul ((ge_tix ((ge_var 0)).go (ge_int).go)).go (ge_int).go)).go ((ge_var 3)).go)).go (ge_int).go)).go gao_nil))).go (ge_int).go) ((ge_var 0)).go (ge_int).go) (gss_cons (gs_if (gt_ge ((ge_var 3)).go ((ge_pow (ge_int).go (ge_int).go)).go) (GSs.post (On' := []) (by decide) (gss_one (gs_tset 3 (ge_fdiv ((ge_var 3)).go ((ge_var 1)).go) ((ge_var 0)).go (ge_int).go))) (GSs.post (On' := []) (by decide) gss_nil)) (gss_one (gs_ret (On := []) (ge_mod ((ge_int1 T.int (gao_cons ((ge_var 3)).go gao_nil))).go ((ge_var 1)).go)))))))))⟩
abbrev s_law_product : Stmt := top 37
theorem sc_law_product : FnScope ["_law_number", "_law_found", "_law_more"] ["_law_number"] (defScope s_law_product) := ⟨rfl, rfl, rfl, by decide +kernel, rfl, by decide +kernel, by decide +kernel⟩
def b_law_product : SS := seqS (setS 1 (cE (.int 1))) (seqS (forS (rangeI range2D (consA (cE (.int 2)) (consA (binE addD (vE 0) (cE (.int 1))) (nilA)))) t1 [2] (setS 1 (binE mulD (vE 1) (vE 2)))) (retS (vE 1)))
def m_law_product : List D → List D → RE D := defD 3 b_law_product
theorem d_law_product (T : Tx w K mg) : DefOk P w K mg base CX0 r "_law_product" 1 1 m_law_product := by
  obtain ⟨f, fd, F, hm⟩ := T.f_law_product
  refine fn_def (k := 0) F sc_law_product hm (fun _ _ _ _ _ _ us hl => match us, hl with | [_], _ => rfl) (fun cdv A outer s H E hr => ?_) (m := b_law_product)
  exact ⟨_, _, (gss_cons (GS.post (On' := []) (by decide) (gs_set 1 sc_law_product.nd ge_int)) (gss_cons (gs_for .never rfl (gi_range2 T.range (gao_cons (ge_int).go (gao_cons ((ge_add ((ge_var 0)).go (ge_int).go)).go gao_nil))) (gg_name 2 sc_law_product.nd) (GSs.post (On' := []) (by decide) (gss_one (GS.post (On' := []) (by decide) (gs_set 1 sc_law_product.nd (ge_mul ((ge_var 1)).go ((ge_var 2)).go))))) (by decide) (fun d ds h => by cases h; rfl)) (gss_one (gs_ret (On := []) (ge_var 1)))))⟩
abbrev s_law_common : Stmt := top 38
theorem sc_law_common : FnScope ["_law_one", "_law_other"] ["_law_one", "_law_other"] (defScope s_law_common) := ⟨rfl, rfl, rfl, by decide +kernel, rfl, by decide +kernel, by decide +kernel⟩
def b_law_common : SS := seqS (parS [0, 1] (consA (callB absD (consA (vE 0) (nilA))) (consA (callB absD (consA (vE 1) (nilA))) (nilA)))) (seqS (whileS 1000000 (boolE (binE neD (vE 1) (cE (.int 0)))) (parS [0, 1] (consA (vE 1) (consA (binE modD (vE 0) (vE 1)) (nilA))))) (retS (vE 0)))
def m_law_common : List D → List D → RE D := defD 2 b_law_common
theorem d_law_common (T : Tx w K mg) : DefOk P w K mg base CX0 r "_law_common" 1 2 m_law_common := by
  obtain ⟨f, fd, F, hm⟩ := T.f_law_common
  refine fn_def (k := 0) F sc_law_common hm (fun _ _ _ _ _ _ us hl => match us, hl with | [_, _], _ => rfl) (fun cdv A outer s H E hr => ?_) (m := b_law_common)
  exact ⟨_, _, (gss_cons (GS.post (On' := []) (by decide) (gs_par2 0 1 sc_law_common.nd (gak_st (ge_abs T.abs (gao_cons ((ge_var 0)).go gao_nil)) (gak_st (ge_abs T.abs (gao_cons ((ge_var 1)).go gao_nil)) gak_nil)))) (gss_cons (gs_while 1000000 .never (gt_ne hr.units ((ge_var 1)).go (ge_int).go) (GSs.post (On' := []) (by decide) (gss_one (GS.post (On' := []) (by decide) (gs_par2 0 1 sc_law_common.nd (gak_st (ge_var 1) (gak_st (ge_mod ((ge_var 0)).go ((ge_var 1)).go) gak_nil))))))) (gss_one (gs_ret (On := []) (ge_var 0)))))⟩
abbrev s_is_in : Stmt := top 6
theorem sc_is_in : FnScope ["value", "least", "most"] ["value", "least", "most"] (defScope s_is_in) := ⟨rfl, rfl, rfl, by decide +kernel, rfl, by decide +kernel, by decide +kernel⟩
def b_is_in : SS := retS (andE (callE 1 m_is_int (consA (vE 0) (nilA))) (chainE leD leD (vE 1) (vE 0) (vE 2)))
def m_is_in : List D → List D → RE D := defD 3 b_is_in
theorem d_is_in (T : Tx w K mg) : DefOk P w K mg base CX0 r "is_in" 2 3 m_is_in := by
  obtain ⟨f, fd, F, hm⟩ := T.f_is_in
  refine fn_def (k := 1) F sc_is_in hm (fun _ _ _ _ _ _ us hl => match us, hl with | [_, _, _], _ => rfl) (fun cdv A outer s H E hr => ?_) (m := b_is_in)
  exact ⟨_, _, (gss_one (gs_ret (On := []) (ge_and (ge_call (d_is_int T) (hr.mono (by decide)) pass0 (ga_cons (ge_var 0) ga_nil)) (ge_one (ge_leLe ((ge_var 1)).go ((ge_var 0)).go ((ge_var 2)).go)))))⟩
abbrev s_lowered : Stmt := top 12
theorem sc_lowered : FnScope ["above", "low", "shared"] ["above", "low"] (defScope s_lowered) := ⟨rfl, rfl, rfl, by decide +kernel, rfl, by decide +kernel, by decide +kernel⟩
def b_lowered : SS := seqS (setS 2 (callE 2 m_common (consA (vE 0) (consA (vE 1) (nilA))))) (retS (tupE (consA (binE fdivD (vE 0) (vE 2)) (consA (binE fdivD (vE 1) (vE 2)) (nilA)))))
def m_lowered : List D → List D → RE D := defD 3 b_lowered
theorem d_lowered (T : Tx w K mg) : DefOk P w K mg base CX0 r "lowered" 2 2 m_lowered := by
  obtain ⟨f, fd, F, hm⟩ := T.f_lowered
  refine fn_def (k := 1) F sc_lowered hm (fun _ _ _ _ _ _ us hl => match us, hl with | [_, _], _ => rfl) (fun cdv A outer s H E hr => ?_) (m := b_lowered)
  exact ⟨_, _, (gss_cons (GS.post (On' := []) (by decide) (gs_set 2 sc_lowered.nd (ge_call (d_common T) (hr.mono (by decide)) pass0 (ga_cons (ge_var 0) (ga_cons (ge_var 1) ga_nil))))) (gss_one (gs_ret (On := []) (ge_tup (ga_cons (ge_fdiv ((ge_var 0)).go ((ge_var 2)).go) (ga_cons (ge_fdiv ((ge_var 1)).go ((ge_var 2)).go) ga_nil))))))⟩
abbrev s_black_left : Stmt := top 21
theorem sc_black_left : FnScope ["known", "rows", "columns", "is_rows", "key", "found", "many", "ways", "left", "gain", "black", "times"] ["known", "rows", "columns", "is_rows"] (defScope s_black_left) := ⟨rfl, rfl, rfl, by decide +kernel, rfl, by decide +kernel, by decide +kernel⟩
def b_black_left (rec : List D → List D → RE D) : SS := seqS (ifS (boolE (binE eqD (binE addD (vE 1) (vE 2)) (cE (.int 0)))) (retS (cE (.dic [(.int 0, .int 1)]))) (skipS)) (seqS (setS 4 (tupE (consA (vE 1) (consA (vE 2) (consA (vE 3) (nilA)))))) (memoS 0 4 (seqS (setFS 5 (cE (.dic []))) (seqS (forS (rangeI range2D (consA (cE (.int 1)) (consA (binE addD (ifE (boolE (vE 3)) (vE 1) (vE 2)) (cE (.int 1))) (nilA)))) t1 [6] (seqS (setS 7 (callE 2 m_chosen (consA (ifE (boolE (vE 3)) (vE 1) (vE 2)) (consA (vE 6) (nilA))))) (seqS (setS 8 (ifE (boolE (vE 3)) (tupE (consA (binE subD (vE 1) (vE 6)) (consA (vE 2) (nilA)))) (tupE (consA (vE 1) (consA (binE subD (vE 2) (vE 6)) (nilA)))))) (seqS (setS 9 (ifE (boolE (vE 3)) (binE mulD (vE 6) (vE 2)) (cE (.int 0)))) (forS (itemsI (callE 4 rec (consA (vE 0) (consA (binE ixD (vE 8) (cE (.int 0))) (consA (binE ixD (vE 8) (cE (.int 1))) (consA (notE (vE 3)) (nilA))))))) (tN 2) [10, 11] (dsetS 5 (binE addD (vE 10) (vE 9)) (binE addD (get2E (vE 5) (binE addD (vE 10) (vE 9)) (cE (.int 0))) (binE mulD (vE 7) (vE 11))))))))) (mputLS 0 4 5)))))
def m_black_left : Nat → List D → List D → RE D
  | 0 => fun _ _ => .stuck
  | n + 1 => defD 12 (b_black_left (m_black_left n))
theorem d_black_left (T : Tx w K mg) : ∀ n : Nat, DefOk P w K mg base CX0 r "black_left" (n + 2) 4 (m_black_left n)
  | 0 => by
    obtain ⟨f, fd, F, hm⟩ := T.f_black_left
    exact def_stuck (ps := ["known", "rows", "columns", "is_rows"]) F hm (fun _ _ _ _ _ _ us hl => match us, hl with | [_, _, _, _], _ => rfl)
  | n + 1 => by
    have ih := d_black_left T n
    obtain ⟨f, fd, F, hm⟩ := T.f_black_left
    refine fn_def (k := n + 2) F sc_black_left hm (fun _ _ _ _ _ _ us hl => match us, hl with | [_, _, _, _], _ => rfl) (fun cdv A outer s H E hr => ?_) (m := b_black_left (m_black_left n))
    exact ⟨_, _, (gss_cons (gs_if (gt_eq hr.units ((ge_add ((ge_var 1)).go ((ge_var 2)).go)).go (ge_int).go) (gss_one (gs_ret (On := []) (gf_d1).ge)) (GSs.post (On' := []) (by decide) gss_nil)) (gss_cons (GS.post (On' := []) (by decide) (gs_set 4 sc_black_left.nd (ge_tup (ga_cons (ge_var 1) (ga_cons (ge_var 2) (ga_cons (ge_var 3) ga_nil)))))) (gss_memo (On' := []) (pt_cmp (pc_mnotin T.hw hr.units (pe_var (i := 4) rfl (by first | exact Or.inl rfl | exact Or.inr (Or.inl rfl) | exact Or.inr (Or.inr rfl))) (pe_var (i := 0) rfl (by first | exact Or.inl rfl | exact Or.inr (Or.inl rfl) | exact Or.inr (Or.inr rfl))))) (gps_cons (O1 := [5]) (GS.post (On' := [5]) (by decide) (gs_setF 5 sc_black_left.nd gf_dnew)) (gps_cons (O1 := [5]) (gs_for .never rfl (gi_range2 T.range (gao_cons (ge_int).go (gao_cons ((ge_add ((ge_ifExp (gt_val (ge_var 3)) (ge_var 1) (ge_var 2))).go (ge_int).go)).go gao_nil))) (gg_name 6 sc_black_left.nd) (GSs.post (On' := [5]) (by decide) (gss_cons (GS.post (On' := [5]) (by decide) (gs_set 7 sc_black_left.nd (ge_call (d_chosen T) (hr.mono (by omega)) pass0 (ga_cons (ge_ifExp (gt_val (ge_var 3)) (ge_var 1) (ge_var 2)) (ga_cons (ge_var 6) ga_nil))))) (gss_cons (GS.post (On' := [5]) (by decide) (gs_set 8 sc_black_left.nd (ge_ifExp (gt_val (ge_var 3)) (ge_tup (ga_cons (ge_sub ((ge_var 1)).go ((ge_var 6)).go) (ga_cons (ge_var 2) ga_nil))) (ge_tup (ga_cons (ge_var 1) (ga_cons (ge_sub ((ge_var 2)).go ((ge_var 6)).go) ga_nil)))))) (gss_cons (GS.post (On' := [5]) (by decide) (gs_set 9 sc_black_left.nd (ge_ifExp (gt_val (ge_var 3)) (ge_mul ((ge_var 6)).go ((ge_var 2)).go) ge_int))) (gss_one (gs_for .never rfl (gi_items (ge_call ih (hr.mono (by omega)) pass0 (ga_cons (ge_var 0) (ga_cons (ge_sub1 ((ge_var 8)).go (ge_int).go) (ga_cons (ge_sub1 ((ge_var 8)).go (ge_int).go) (ga_cons (ge_not (ge_var 3)) ga_nil)))))) (gg_tup rfl (ggs_cons 10 sc_black_left.nd (ggs_cons 11 sc_black_left.nd ggs_nil)) rfl) (GSs.post (On' := [5]) (by decide) (gss_one (gs_dset 5 hr.units (by decide) (ge_add ((ge_var 10)).go ((ge_var 9)).go) (ge_add ((ge_get2 hr.units (go_own 5) (ge_add ((ge_var 10)).go ((ge_var 9)).go) ge_int)).go ((ge_mul ((ge_var 7)).go ((ge_var 11)).go)).go)))) (by decide) (fun d ds h => tN_len h))))))) (by decide) (fun d ds h => by cases h; rfl)) (gps_putO (fn := 5) (ps_mputL T.hw hr.units (pe_var (i := 0) rfl (by first | exact Or.inl rfl | exact Or.inr (Or.inl rfl) | exact Or.inr (Or.inr rfl))) (pe_var (i := 4) rfl (by first | exact Or.inl rfl | exact Or.inr (Or.inl rfl) | exact Or.inr (Or.inr rfl))) (pe_var (i := 5) rfl (by first | exact Or.inl rfl | exact Or.inr (Or.inl rfl) | exact Or.inr (Or.inr rfl))))) (nr_for (nr_seq (by first | exact nr_set | exact nr_setF | exact nr_app | exact nr_par | exact nr_aug | exact nr_dset) (nr_seq (by first | exact nr_set | exact nr_setF | exact nr_app | exact nr_par | exact nr_aug | exact nr_dset) (nr_seq (by first | exact nr_set | exact nr_setF | exact nr_app | exact nr_par | exact nr_aug | exact nr_dset) (nr_for (by first | exact nr_set | exact nr_setF | exact nr_app | exact nr_par | exact nr_aug | exact nr_dset))))))) (by first | exact nr_set | exact nr_setF | exact nr_app | exact nr_par | exact nr_aug | exact nr_dset)) (pe_mget T.hw hr.units (pe_var (i := 0) rfl (by first | exact Or.inl rfl | exact Or.inr (Or.inl rfl) | exact Or.inr (Or.inr rfl))) (pe_var (i := 4) rfl (by first | exact Or.inl rfl | exact Or.inr (Or.inl rfl) | exact Or.inr (Or.inr rfl))) (fun _ _ => rfl)))))⟩
abbrev s_run_left : Stmt := top 26
theorem sc_run_left : FnScope ["known", "rows", "columns", "is_rows", "key", "found", "many", "ways", "left", "gain", "black", "times"] ["known", "rows", "columns", "is_rows"] (defScope s_run_left) := ⟨rfl, rfl, rfl, by decide +kernel, rfl, by decide +kernel, by decide +kernel⟩
def b_run_left (rec : List D → List D → RE D) : SS := seqS (ifS (boolE (binE eqD (binE addD (vE 1) (vE 2)) (cE (.int 0)))) (retS (cE (.dic [(.int 0, .int 1)]))) (skipS)) (seqS (setS 4 (tupE (consA (vE 1) (consA (vE 2) (consA (vE 3) (nilA)))))) (memoS 0 4 (seqS (setFS 5 (cE (.dic []))) (seqS (forS (rangeI range2D (consA (cE (.int 1)) (consA (binE addD (ifE (boolE (vE 3)) (vE 1) (vE 2)) (cE (.int 1))) (nilA)))) t1 [6] (seqS (setS 7 (callE 2 m_orders_number (consA (ifE (boolE (vE 3)) (vE 1) (vE 2)) (consA (vE 6) (nilA))))) (seqS (setS 8 (ifE (boolE (vE 3)) (tupE (consA (binE subD (vE 1) (vE 6)) (consA (vE 2) (nilA)))) (tupE (consA (vE 1) (consA (binE subD (vE 2) (vE 6)) (nilA)))))) (seqS (setS 9 (ifE (boolE (vE 3)) (binE mulD (vE 6) (vE 2)) (cE (.int 0)))) (forS (itemsI (callE 4 rec (consA (vE 0) (consA (binE ixD (vE 8) (cE (.int 0))) (consA (binE ixD (vE 8) (cE (.int 1))) (consA (notE (vE 3)) (nilA))))))) (tN 2) [10, 11] (dsetS 5 (binE addD (vE 10) (vE 9)) (binE addD (get2E (vE 5) (binE addD (vE 10) (vE 9)) (cE (.int 0))) (binE mulD (vE 7) (vE 11))))))))) (mputLS 0 4 5)))))
def m_run_left : Nat → List D → List D → RE D
  | 0 => fun _ _ => .stuck
  | n + 1 => defD 12 (b_run_left (m_run_left n))
theorem d_run_left (T : Tx w K mg) : ∀ n : Nat, DefOk P w K mg base CX0 r "run_left" (n + 2) 4 (m_run_left n)
  | 0 => by
    obtain ⟨f, fd, F, hm⟩ := T.f_run_left
    exact def_stuck (ps := ["known", "rows", "columns", "is_rows"]) F hm (fun _ _ _ _ _ _ us hl => match us, hl with | [_, _, _, _], _ => rfl)
  | n + 1 => by
    have ih := d_run_left T n
    obtain ⟨f, fd, F, hm⟩ := T.f_run_left
    refine fn_def (k := n + 2) F sc_run_left hm (fun _ _ _ _ _ _ us hl => match us, hl with | [_, _, _, _], _ => rfl) (fun cdv A outer s H E hr => ?_) (m := b_run_left (m_run_left n))
    exact ⟨_, _, (gss_cons (gs_if (gt_eq hr.units ((ge_add ((ge_var 1)).go ((ge_var 2)).go)).go (ge_int).go) (gss_one (gs_ret (On := []) (gf_d1).ge)) (GSs.post (On' := []) (by decide) gss_nil)) (gss_cons (GS.post (On' := []) (by decide) (gs_set 4 sc_run_left.nd (ge_tup (ga_cons (ge_var 1) (ga_cons (ge_var 2) (ga_cons (ge_var 3) ga_nil)))))) (gss_memo (On' := []) (pt_cmp (pc_mnotin T.hw hr.units (pe_var (i := 4) rfl (by first | exact Or.inl rfl | exact Or.inr (Or.inl rfl) | exact Or.inr (Or.inr rfl))) (pe_var (i := 0) rfl (by first | exact Or.inl rfl | exact Or.inr (Or.inl rfl) | exact Or.inr (Or.inr rfl))))) (gps_cons (O1 := [5]) (GS.post (On' := [5]) (by decide) (gs_setF 5 sc_run_left.nd gf_dnew)) (gps_cons (O1 := [5]) (gs_for .never rfl (gi_range2 T.range (gao_cons (ge_int).go (gao_cons ((ge_add ((ge_ifExp (gt_val (ge_var 3)) (ge_var 1) (ge_var 2))).go (ge_int).go)).go gao_nil))) (gg_name 6 sc_run_left.nd) (GSs.post (On' := [5]) (by decide) (gss_cons (GS.post (On' := [5]) (by decide) (gs_set 7 sc_run_left.nd (ge_call (d_orders_number T) (hr.mono (by omega)) pass0 (ga_cons (ge_ifExp (gt_val (ge_var 3)) (ge_var 1) (ge_var 2)) (ga_cons (ge_var 6) ga_nil))))) (gss_cons (GS.post (On' := [5]) (by decide) (gs_set 8 sc_run_left.nd (ge_ifExp (gt_val (ge_var 3)) (ge_tup (ga_cons (ge_sub ((ge_var 1)).go ((ge_var 6)).go) (ga_cons (ge_var 2) ga_nil))) (ge_tup (ga_cons (ge_var 1) (ga_cons (ge_sub ((ge_var 2)).go ((ge_var 6)).go) ga_nil)))))) (gss_cons (GS.post (On' := [5]) (by decide) (gs_set 9 sc_run_left.nd (ge_ifExp (gt_val (ge_var 3)) (ge_mul ((ge_var 6)).go ((ge_var 2)).go) ge_int))) (gss_one (gs_for .never rfl (gi_items (ge_call ih (hr.mono (by omega)) pass0 (ga_cons (ge_var 0) (ga_cons (ge_sub1 ((ge_var 8)).go (ge_int).go) (ga_cons (ge_sub1 ((ge_var 8)).go (ge_int).go) (ga_cons (ge_not (ge_var 3)) ga_nil)))))) (gg_tup rfl (ggs_cons 10 sc_run_left.nd (ggs_cons 11 sc_run_left.nd ggs_nil)) rfl) (GSs.post (On' := [5]) (by decide) (gss_one (gs_dset 5 hr.units (by decide) (ge_add ((ge_var 10)).go ((ge_var 9)).go) (ge_add ((ge_get2 hr.units (go_own 5) (ge_add ((ge_var 10)).go ((ge_var 9)).go) ge_int)).go ((ge_mul ((ge_var 7)).go ((ge_var 11)).go)).go)))) (by decide) (fun d ds h => tN_len h))))))) (by decide) (fun d ds h => by cases h; rfl)) (gps_putO (fn := 5) (ps_mputL T.hw hr.units (pe_var (i := 0) rfl (by first | exact Or.inl rfl | exact Or.inr (Or.inl rfl) | exact Or.inr (Or.inr rfl))) (pe_var (i := 4) rfl (by first | exact Or.inl rfl | exact Or.inr (Or.inl rfl) | exact Or.inr (Or.inr rfl))) (pe_var (i := 5) rfl (by first | exact Or.inl rfl | exact Or.inr (Or.inl rfl) | exact Or.inr (Or.inr rfl))))) (nr_for (nr_seq (by first | exact nr_set | exact nr_setF | exact nr_app | exact nr_par | exact nr_aug | exact nr_dset) (nr_seq (by first | exact nr_set | exact nr_setF | exact nr_app | exact nr_par | exact nr_aug | exact nr_dset) (nr_seq (by first | exact nr_set | exact nr_setF | exact nr_app | exact nr_par | exact nr_aug | exact nr_dset) (nr_for (by first | exact nr_set | exact nr_setF | exact nr_app | exact nr_par | exact nr_aug | exact nr_dset))))))) (by first | exact nr_set | exact nr_setF | exact nr_app | exact nr_par | exact nr_aug | exact nr_dset)) (pe_mget T.hw hr.units (pe_var (i := 0) rfl (by first | exact Or.inl rfl | exact Or.inr (Or.inl rfl) | exact Or.inr (Or.inr rfl))) (pe_var (i := 4) rfl (by first | exact Or.inl rfl | exact Or.inr (Or.inl rfl) | exact Or.inr (Or.inr rfl))) (fun _ _ => rfl)))))⟩
abbrev s_ways_left : Stmt := top 31
theorem sc_ways_left : FnScope ["known", "rows", "columns", "is_rows", "key", "found", "many"] ["known", "rows", "columns", "is_rows"] (defScope s_ways_left) := ⟨rfl, rfl, rfl, by decide +kernel, rfl, by decide +kernel, by decide +kernel⟩
def b_ways_left (rec : List D → List D → RE D) : SS := seqS (ifS (boolE (binE eqD (binE addD (vE 1) (vE 2)) (cE (.int 0)))) (retS (cE (.int 1))) (skipS)) (seqS (setS 4 (tupE (consA (vE 1) (consA (vE 2) (consA (vE 3) (nilA)))))) (memoS 0 4 (seqS (setS 5 (cE (.int 0))) (seqS (ifS (boolE (vE 3)) (forS (rangeI range2D (consA (cE (.int 1)) (consA (binE addD (vE 1) (cE (.int 1))) (nilA)))) t1 [6] (augS 5 addD (binE mulD (callE 2 m_chosen (consA (vE 1) (consA (vE 6) (nilA)))) (callE 4 rec (consA (vE 0) (consA (binE subD (vE 1) (vE 6)) (consA (vE 2) (consA (cE (.bl false)) (nilA))))))))) (forS (rangeI range2D (consA (cE (.int 1)) (consA (binE addD (vE 2) (cE (.int 1))) (nilA)))) t1 [6] (augS 5 addD (binE mulD (callE 2 m_chosen (consA (vE 2) (consA (vE 6) (nilA)))) (callE 4 rec (consA (vE 0) (consA (vE 1) (consA (binE subD (vE 2) (vE 6)) (consA (cE (.bl true)) (nilA)))))))))) (mputS 0 4 (vE 5))))))
def m_ways_left : Nat → List D → List D → RE D
  | 0 => fun _ _ => .stuck
  | n + 1 => defD 7 (b_ways_left (m_ways_left n))
theorem d_ways_left (T : Tx w K mg) : ∀ n : Nat, DefOk P w K mg base CX0 r "ways_left" (n + 2) 4 (m_ways_left n)
  | 0 => by
    obtain ⟨f, fd, F, hm⟩ := T.f_ways_left
    exact def_stuck (ps := ["known", "rows", "columns", "is_rows"]) F hm (fun _ _ _ _ _ _ us hl => match us, hl with | [_, _, _, _], _ => rfl)
  | n + 1 => by
    have ih := d_ways_left T n
    obtain ⟨f, fd, F, hm⟩ := T.f_ways_left
    refine fn_def (k := n + 2) F sc_ways_left hm (fun _ _ _ _ _ _ us hl => match us, hl with | [_, _, _, _], _ => rfl) (fun cdv A outer s H E hr => ?_) (m := b_ways_left (m_ways_left n))
    exact ⟨_, _, (gss_cons (gs_if (gt_eq hr.units ((ge_add ((ge_var 1)).go ((ge_var 2)).go)).go (ge_int).go) (gss_one (gs_ret (On := []) ge_int)) (GSs.post (On' := []) (by decide) gss_nil)) (gss_cons (GS.post (On' := []) (by decide) (gs_set 4 sc_ways_left.nd (ge_tup (ga_cons (ge_var 1) (ga_cons (ge_var 2) (ga_cons (ge_var 3) ga_nil)))))) (gss_memo (On' := []) (pt_cmp (pc_mnotin T.hw hr.units (pe_var (i := 4) rfl (by first | exact Or.inl rfl | exact Or.inr (Or.inl rfl) | exact Or.inr (Or.inr rfl))) (pe_var (i := 0) rfl (by first | exact Or.inl rfl | exact Or.inr (Or.inl rfl) | exact Or.inr (Or.inr rfl))))) (gps_cons (O1 := []) (GS.post (On' := []) (by decide) (gs_set 5 sc_ways_left.nd ge_int)) (gps_cons (O1 := []) (gs_if (gt_val (ge_var 3)) (GSs.post (On' := []) (by decide) (gss_one (gs_for .never rfl (gi_range2 T.range (gao_cons (ge_int).go (gao_cons ((ge_add ((ge_var 1)).go (ge_int).go)).go gao_nil))) (gg_name 6 sc_ways_left.nd) (GSs.post (On' := []) (by decide) (gss_one (gs_augAdd 5 sc_ways_left.nd (ge_mul ((ge_call (d_chosen T) (hr.mono (by omega)) pass0 (ga_cons (ge_var 1) (ga_cons (ge_var 6) ga_nil)))).go ((ge_call ih (hr.mono (by omega)) pass0 (ga_cons (ge_var 0) (ga_cons (ge_sub ((ge_var 1)).go ((ge_var 6)).go) (ga_cons (ge_var 2) (ga_cons ge_bl ga_nil)))))).go)))) (by decide) (fun d ds h => by cases h; rfl)))) (GSs.post (On' := []) (by decide) (gss_one (gs_for .never rfl (gi_range2 T.range (gao_cons (ge_int).go (gao_cons ((ge_add ((ge_var 2)).go (ge_int).go)).go gao_nil))) (gg_name 6 sc_ways_left.nd) (GSs.post (On' := []) (by decide) (gss_one (gs_augAdd 5 sc_ways_left.nd (ge_mul ((ge_call (d_chosen T) (hr.mono (by omega)) pass0 (ga_cons (ge_var 2) (ga_cons (ge_var 6) ga_nil)))).go ((ge_call ih (hr.mono (by omega)) pass0 (ga_cons (ge_var 0) (ga_cons (ge_var 1) (ga_cons (ge_sub ((ge_var 2)).go ((ge_var 6)).go) (ga_cons ge_bl ga_nil)))))).go)))) (by decide) (fun d ds h => by cases h; rfl))))) (gps_put (ge_var 5) (fun h => ps_mput T.hw hr.units (pe_var (i := 0) rfl (by first | exact Or.inl rfl | exact Or.inr (Or.inl rfl) | exact Or.inr (Or.inr rfl))) (pe_var (i := 4) rfl (by first | exact Or.inl rfl | exact Or.inr (Or.inl rfl) | exact Or.inr (Or.inr rfl))) h)) (nr_if (nr_for (by first | exact nr_set | exact nr_setF | exact nr_app | exact nr_par | exact nr_aug | exact nr_dset)) (nr_for (by first | exact nr_set | exact nr_setF | exact nr_app | exact nr_par | exact nr_aug | exact nr_dset)))) (by first | exact nr_set | exact nr_setF | exact nr_app | exact nr_par | exact nr_aug | exact nr_dset)) (pe_mget T.hw hr.units (pe_var (i := 0) rfl (by first | exact Or.inl rfl | exact Or.inr (Or.inl rfl) | exact Or.inr (Or.inr rfl))) (pe_var (i := 4) rfl (by first | exact Or.inl rfl | exact Or.inr (Or.inl rfl) | exact Or.inr (Or.inr rfl))) (fun _ _ => rfl)))))⟩
abbrev s_law_lowered : Stmt := top 39
theorem sc_law_lowered : FnScope ["_law_above", "_law_low", "_law_shared"] ["_law_above", "_law_low"] (defScope s_law_lowered) := ⟨rfl, rfl, rfl, by decide +kernel, rfl, by decide +kernel, by decide +kernel⟩
def b_law_lowered : SS := seqS (setS 2 (callE 2 m_law_common (consA (vE 0) (consA (vE 1) (nilA))))) (retS (tupE (consA (binE fdivD (vE 0) (vE 2)) (consA (binE fdivD (vE 1) (vE 2)) (nilA)))))
def m_law_lowered : List D → List D → RE D := defD 3 b_law_lowered
theorem d_law_lowered (T : Tx w K mg) : DefOk P w K mg base CX0 r "_law_lowered" 2 2 m_law_lowered := by
  obtain ⟨f, fd, F, hm⟩ := T.f_law_lowered
  refine fn_def (k := 1) F sc_law_lowered hm (fun _ _ _ _ _ _ us hl => match us, hl with | [_, _], _ => rfl) (fun cdv A outer s H E hr => ?_) (m := b_law_lowered)
  exact ⟨_, _, (gss_cons (GS.post (On' := []) (by decide) (gs_set 2 sc_law_lowered.nd (ge_call (d_law_common T) (hr.mono (by decide)) pass0 (ga_cons (ge_var 0) (ga_cons (ge_var 1) ga_nil))))) (gss_one (gs_ret (On := []) (ge_tup (ga_cons (ge_fdiv ((ge_var 0)).go ((ge_var 2)).go) (ga_cons (ge_fdiv ((ge_var 1)).go ((ge_var 2)).go) ga_nil))))))⟩
abbrev s_need_number : Stmt := top 7
theorem sc_need_number : FnScope ["value", "least", "most"] ["value", "least", "most"] (defScope s_need_number) := ⟨rfl, rfl, rfl, by decide +kernel, rfl, by decide +kernel, by decide +kernel⟩
def b_need_number : SS := ifS (notT (boolE (callE 3 m_is_in (consA (vE 0) (consA (vE 1) (consA (vE 2) (nilA))))))) ((fun _ _ => .stuck)) (skipS)
def m_need_number : List D → List D → RE D := defD 3 b_need_number
theorem d_need_number (T : Tx w K mg) : DefOk P w K mg base CX0 r "need_number" 3 3 m_need_number := by
  obtain ⟨f, fd, F, hm⟩ := T.f_need_number
  refine fn_def (k := 2) F sc_need_number hm (fun _ _ _ _ _ _ us hl => match us, hl with | [_, _, _], _ => rfl) (fun cdv A outer s H E hr => ?_) (m := b_need_number)
  exact ⟨_, _, (gss_one (gs_if (gt_not (gt_val (ge_call (d_is_in T) (hr.mono (by decide)) pass0 (ga_cons (ge_var 0) (ga_cons (ge_var 1) (ga_cons (ge_var 2) ga_nil)))))) (gss_one (gs_never (On := []))) (GSs.post (On' := []) (by decide) gss_nil)))⟩
abbrev s_law_plus : Stmt := top 40
theorem sc_law_plus : FnScope ["_law_one", "_law_other"] ["_law_one", "_law_other"] (defScope s_law_plus) := ⟨rfl, rfl, rfl, by decide +kernel, rfl, by decide +kernel, by decide +kernel⟩
def b_law_plus : SS := retS (callE 2 m_law_lowered (consA (binE addD (binE mulD (binE ixD (vE 0) (cE (.int 0))) (binE ixD (vE 1) (cE (.int 1)))) (binE mulD (binE ixD (vE 1) (cE (.int 0))) (binE ixD (vE 0) (cE (.int 1))))) (consA (binE mulD (binE ixD (vE 0) (cE (.int 1))) (binE ixD (vE 1) (cE (.int 1)))) (nilA))))
def m_law_plus : List D → List D → RE D := defD 2 b_law_plus
theorem d_law_plus (T : Tx w K mg) : DefOk P w K mg base CX0 r "_law_plus" 3 2 m_law_plus := by
  obtain ⟨f, fd, F, hm⟩ := T.f_law_plus
  refine fn_def (k := 2) F sc_law_plus hm (fun _ _ _ _ _ _ us hl => match us, hl with | [_, _], _ => rfl) (fun cdv A outer s H E hr => ?_) (m := b_law_plus)
  exact ⟨_, _, (gss_one (gs_ret (On := []) (ge_call (d_law_lowered T) (hr.mono (by decide)) pass0 (ga_cons (ge_add ((ge_mul ((ge_sub1 ((ge_var 0)).go (ge_int).go)).go ((ge_sub1 ((ge_var 1)).go (ge_int).go)).go)).go ((ge_mul ((ge_sub1 ((ge_var 1)).go (ge_int).go)).go ((ge_sub1 ((ge_var 0)).go (ge_int).go)).go)).go) (ga_cons (ge_mul ((ge_sub1 ((ge_var 0)).go (ge_int).go)).go ((ge_sub1 ((ge_var 1)).go (ge_int).go)).go) ga_nil)))))⟩
abbrev s_need_board : Stmt := top 13
theorem sc_need_board : FnScope ["rows", "columns"] ["rows", "columns"] (defScope s_need_board) := ⟨rfl, rfl, rfl, by decide +kernel, rfl, by decide +kernel, by decide +kernel⟩
def b_need_board : SS := seqS (dropS (callE 3 m_need_number (consA (vE 0) (consA (cE (.int 1)) (consA (cE (.int 30)) (nilA)))))) (dropS (callE 3 m_need_number (consA (vE 1) (consA (cE (.int 1)) (consA (cE (.int 30)) (nilA))))))
def m_need_board : List D → List D → RE D := defD 2 b_need_board
theorem d_need_board (T : Tx w K mg) : DefOk P w K mg base CX0 r "need_board" 4 2 m_need_board := by
  obtain ⟨f, fd, F, hm⟩ := T.f_need_board
  refine fn_def (k := 3) F sc_need_board hm (fun _ _ _ _ _ _ us hl => match us, hl with | [_, _], _ => rfl) (fun cdv A outer s H E hr => ?_) (m := b_need_board)
  exact ⟨_, _, (gss_cons (gs_drop (ge_call (d_need_number T) (hr.mono (by decide)) pass0 (ga_cons (ge_var 0) (ga_cons ge_int (ga_cons (ge_gint T.MOST_SIDE_boards) ga_nil))))) (gss_one (gs_drop (ge_call (d_need_number T) (hr.mono (by decide)) pass0 (ga_cons (ge_var 1) (ga_cons ge_int (ga_cons (ge_gint T.MOST_SIDE_boards) ga_nil)))))))⟩
abbrev s_need_small : Stmt := top 20
theorem sc_need_small : FnScope ["rows", "columns"] ["rows", "columns"] (defScope s_need_small) := ⟨rfl, rfl, rfl, by decide +kernel, rfl, by decide +kernel, by decide +kernel⟩
def b_need_small : SS := seqS (dropS (callE 3 m_need_number (consA (vE 0) (consA (cE (.int 1)) (consA (cE (.int 8)) (nilA)))))) (dropS (callE 3 m_need_number (consA (vE 1) (consA (cE (.int 1)) (consA (cE (.int 8)) (nilA))))))
def m_need_small : List D → List D → RE D := defD 2 b_need_small
theorem d_need_small (T : Tx w K mg) : DefOk P w K mg base CX0 r "need_small" 4 2 m_need_small := by
  obtain ⟨f, fd, F, hm⟩ := T.f_need_small
  refine fn_def (k := 3) F sc_need_small hm (fun _ _ _ _ _ _ us hl => match us, hl with | [_, _], _ => rfl) (fun cdv A outer s H E hr => ?_) (m := b_need_small)
  exact ⟨_, _, (gss_cons (gs_drop (ge_call (d_need_number T) (hr.mono (by decide)) pass0 (ga_cons (ge_var 0) (ga_cons ge_int (ga_cons (ge_gint T.MOST_SIDE_tallies) ga_nil))))) (gss_one (gs_drop (ge_call (d_need_number T) (hr.mono (by decide)) pass0 (ga_cons (ge_var 1) (ga_cons ge_int (ga_cons (ge_gint T.MOST_SIDE_tallies) ga_nil)))))))⟩
abbrev s_need_sides : Stmt := top 33
theorem sc_need_sides : FnScope ["rows", "columns"] ["rows", "columns"] (defScope s_need_sides) := ⟨rfl, rfl, rfl, by decide +kernel, rfl, by decide +kernel, by decide +kernel⟩
def b_need_sides : SS := seqS (dropS (callE 3 m_need_number (consA (vE 0) (consA (cE (.int 1)) (consA (cE (.int 30)) (nilA)))))) (dropS (callE 3 m_need_number (consA (vE 1) (consA (cE (.int 1)) (consA (cE (.int 30)) (nilA))))))
def m_need_sides : List D → List D → RE D := defD 2 b_need_sides
theorem d_need_sides (T : Tx w K mg) : DefOk P w K mg base CX0 r "need_sides" 4 2 m_need_sides := by
  obtain ⟨f, fd, F, hm⟩ := T.f_need_sides
  refine fn_def (k := 3) F sc_need_sides hm (fun _ _ _ _ _ _ us hl => match us, hl with | [_, _], _ => rfl) (fun cdv A outer s H E hr => ?_) (m := b_need_sides)
  exact ⟨_, _, (gss_cons (gs_drop (ge_call (d_need_number T) (hr.mono (by decide)) pass0 (ga_cons (ge_var 0) (ga_cons ge_int (ga_cons (ge_gint T.MOST_SIDE_boards) ga_nil))))) (gss_one (gs_drop (ge_call (d_need_number T) (hr.mono (by decide)) pass0 (ga_cons (ge_var 1) (ga_cons ge_int (ga_cons (ge_gint T.MOST_SIDE_boards) ga_nil)))))))⟩
abbrev s_long_run_tally : Stmt := top 14
theorem sc_long_run_tally : FnScope ["rows", "columns", "found", "whole", "first", "second", "ways", "many", "times"] ["rows", "columns"] (defScope s_long_run_tally) := ⟨rfl, rfl, rfl, by decide +kernel, rfl, by decide +kernel, by decide +kernel⟩
def b_long_run_tally : SS := seqS (dropS (callE 2 m_need_board (consA (vE 0) (consA (vE 1) (nilA))))) (seqS (parS [2, 3] (consA (cE (.dic [])) (consA (callE 1 m_product_to (consA (binE addD (vE 0) (vE 1)) (nilA))) (nilA)))) (seqS (forS (rangeI range2D (consA (cE (.int 1)) (consA (binE addD (vE 0) (cE (.int 1))) (nilA)))) t1 [4] (forS (rangeI range2D (consA (cE (.int 1)) (consA (binE addD (vE 1) (cE (.int 1))) (nilA)))) t1 [5] (ifS (boolE (binE ltD (callB absD (consA (binE subD (vE 4) (vE 5)) (nilA))) (cE (.int 2)))) (seqS (setS 6 (ifE (boolE (binE eqD (vE 4) (vE 5))) (cE (.int 2)) (cE (.int 1)))) (seqS (setS 7 (binE mulD (binE mulD (binE mulD (binE mulD (vE 6) (callE 2 m_splits (consA (vE 0) (consA (vE 4) (nilA))))) (callE 2 m_splits (consA (vE 1) (consA (vE 5) (nilA))))) (callE 1 m_product_to (consA (vE 0) (nilA)))) (callE 1 m_product_to (consA (vE 1) (nilA))))) (dsetS 2 (binE addD (vE 4) (vE 5)) (binE addD (get2E (vE 2) (binE addD (vE 4) (vE 5)) (cE (.int 0))) (vE 7))))) (skipS)))) (retS (callB tupleD (consA (callB sortDD (consA (compE (itemsI (vE 2)) [7, 8] (tN 2) [7, 8] (yesT) (tupE (consA (vE 7) (consA (callE 2 m_lowered (consA (vE 8) (consA (vE 3) (nilA)))) (nilA))))) (nilA))) (nilA))))))
def m_long_run_tally : List D → List D → RE D := defD 9 b_long_run_tally
theorem d_long_run_tally (T : Tx w K mg) : DefOk P w K mg base CX0 r "long_run_tally" 5 2 m_long_run_tally := by
  obtain ⟨f, fd, F, hm⟩ := T.f_long_run_tally
  refine fn_def (k := 4) F sc_long_run_tally hm (fun _ _ _ _ _ _ us hl => match us, hl with | [_, _], _ => rfl) (fun cdv A outer s H E hr => ?_) (m := b_long_run_tally)
  exact ⟨_, _, (gss_cons (gs_drop (ge_call (d_need_board T) (hr.mono (by decide)) pass0 (ga_cons (ge_var 0) (ga_cons (ge_var 1) ga_nil)))) (gss_cons (GS.post (On' := [2]) (by decide) (gs_tup (gak_fr gf_dnew (gak_st (ge_call (d_product_to T) (hr.mono (by decide)) pass0 (ga_cons (ge_add ((ge_var 0)).go ((ge_var 1)).go) ga_nil)) gak_nil)) (ggs_cons 2 sc_long_run_tally.nd (ggs_cons 3 sc_long_run_tally.nd ggs_nil)))) (gss_cons (gs_for .never rfl (gi_range2 T.range (gao_cons (ge_int).go (gao_cons ((ge_add ((ge_var 0)).go (ge_int).go)).go gao_nil))) (gg_name 4 sc_long_run_tally.nd) (GSs.post (On' := [2]) (by decide) (gss_one (gs_for .never rfl (gi_range2 T.range (gao_cons (ge_int).go (gao_cons ((ge_add ((ge_var 1)).go (ge_int).go)).go gao_nil))) (gg_name 5 sc_long_run_tally.nd) (GSs.post (On' := [2]) (by decide) (gss_one (gs_if (gt_lt ((ge_abs T.abs (gao_cons ((ge_sub ((ge_var 4)).go ((ge_var 5)).go)).go gao_nil))).go (ge_int).go) (GSs.post (On' := [2]) (by decide) (gss_cons (GS.post (On' := [2]) (by decide) (gs_set 6 sc_long_run_tally.nd (ge_ifExp (gt_eq hr.units ((ge_var 4)).go ((ge_var 5)).go) ge_int ge_int))) (gss_cons (GS.post (On' := [2]) (by decide) (gs_set 7 sc_long_run_tally.nd (ge_mul ((ge_mul ((ge_mul ((ge_mul ((ge_var 6)).go ((ge_call (d_splits T) (hr.mono (by decide)) pass0 (ga_cons (ge_var 0) (ga_cons (ge_var 4) ga_nil)))).go)).go ((ge_call (d_splits T) (hr.mono (by decide)) pass0 (ga_cons (ge_var 1) (ga_cons (ge_var 5) ga_nil)))).go)).go ((ge_call (d_product_to T) (hr.mono (by decide)) pass0 (ga_cons (ge_var 0) ga_nil))).go)).go ((ge_call (d_product_to T) (hr.mono (by decide)) pass0 (ga_cons (ge_var 1) ga_nil))).go))) (gss_one (gs_dset 2 hr.units (by decide) (ge_add ((ge_var 4)).go ((ge_var 5)).go) (ge_add ((ge_get2 hr.units (go_own 2) (ge_add ((ge_var 4)).go ((ge_var 5)).go) ge_int)).go ((ge_var 7)).go)))))) (GSs.post (On' := [2]) (by decide) gss_nil)))) (by decide) (fun d ds h => by cases h; rfl)))) (by decide) (fun d ds h => by cases h; rfl)) (gss_one (GS.pre (O' := []) (by decide) (gs_ret (On := []) (ge_tuple T.tuple (gao_cons (((gf_sortDat hr.units T.sorted (gao_cons (((gf_lc (own := [("many", 7), ("times", 8)]) rfl sc_long_run_tally.nd (gi_items (ge_var 2)) (blkOk_by (by kernel_rfl)) (fun _ _ _ _ _ => (gg_tup rfl (ggs_cons 7 sc_long_run_tally.nd (ggs_cons 8 sc_long_run_tally.nd ggs_nil)) rfl)) (fun _ _ _ _ _ => gts_nil) (fun _ _ _ _ _ => (ge_tup (ga_cons (ge_var 7) (ga_cons (ge_call (d_lowered T) (hr.mono (by decide)) pass0 (ga_cons (ge_var 8) (ga_cons (ge_var 3) ga_nil))) ga_nil)))) (by decide) (by decide))).ge).go gao_nil))).ge).go gao_nil))))))))⟩
abbrev s_tally_of : Stmt := top 22
theorem sc_tally_of : FnScope ["rows", "columns", "known", "found", "is_rows", "black", "times"] ["rows", "columns"] (defScope s_tally_of) := ⟨rfl, rfl, rfl, by decide +kernel, rfl, by decide +kernel, by decide +kernel⟩
def b_tally_of : SS := seqS (parS [2, 3] (consA (memoE 6 (fun _ => some [])) (consA (cE (.dic [])) (nilA)))) (seqS (forS (seqI (tupE (consA (cE (.bl true)) (consA (cE (.bl false)) (nilA))))) t1 [4] (forS (itemsI (callE 4 (m_black_left 18) (consA (vE 2) (consA (vE 0) (consA (vE 1) (consA (vE 4) (nilA))))))) (tN 2) [5, 6] (dsetS 3 (vE 5) (binE addD (get2E (vE 3) (vE 5) (cE (.int 0))) (vE 6))))) (retS (vE 3)))
def m_tally_of : List D → List D → RE D := defD 7 b_tally_of
theorem d_tally_of (T : Tx w K mg) : DefOk P w K mg base CX0 r "tally_of" 21 2 m_tally_of := by
  obtain ⟨f, fd, F, hm⟩ := T.f_tally_of
  refine fn_def (k := 20) F sc_tally_of hm (fun _ _ _ _ _ _ us hl => match us, hl with | [_, _], _ => rfl) (fun cdv A outer s H E hr => ?_) (m := b_tally_of)
  exact ⟨_, _, (gss_cons (GS.post (On' := [3]) (by decide) (gs_par2 2 3 sc_tally_of.nd (gak_st (ge_memoE 6 (fun _ => some [])) (gak_fr gf_dnew gak_nil)))) (gss_cons (gs_for .never rfl (gi_seq (ge_tup (ga_cons ge_bl (ga_cons ge_bl ga_nil)))) (gg_name 4 sc_tally_of.nd) (GSs.post (On' := [3]) (by decide) (gss_one (gs_for .never rfl (gi_items (ge_call (d_black_left T 18) (hr.mono (by decide)) pass0 (ga_cons (ge_var 2) (ga_cons (ge_var 0) (ga_cons (ge_var 1) (ga_cons (ge_var 4) ga_nil)))))) (gg_tup rfl (ggs_cons 5 sc_tally_of.nd (ggs_cons 6 sc_tally_of.nd ggs_nil)) rfl) (GSs.post (On' := [3]) (by decide) (gss_one (gs_dset 3 hr.units (by decide) (ge_var 5) (ge_add ((ge_get2 hr.units (go_own 3) (ge_var 5) ge_int)).go ((ge_var 6)).go)))) (by decide) (fun d ds h => tN_len h)))) (by decide) (fun d ds h => by cases h; rfl)) (gss_one (gs_retO (On := []) 3 (by decide)))))⟩
abbrev s_long_run_black : Stmt := top 28
theorem sc_long_run_black : FnScope ["rows", "columns", "known", "found", "whole", "is_rows", "black", "times"] ["rows", "columns"] (defScope s_long_run_black) := ⟨rfl, rfl, rfl, by decide +kernel, rfl, by decide +kernel, by decide +kernel⟩
def b_long_run_black : SS := seqS (dropS (callE 2 m_need_small (consA (vE 0) (consA (vE 1) (nilA))))) (seqS (parS [2, 3, 4] (consA (memoE 7 (fun _ => some [])) (consA (cE (.dic [])) (consA (callE 2 m_orders_number (consA (binE addD (vE 0) (vE 1)) (consA (binE addD (vE 0) (vE 1)) (nilA)))) (nilA))))) (seqS (forS (seqI (tupE (consA (cE (.bl true)) (consA (cE (.bl false)) (nilA))))) t1 [5] (forS (itemsI (callE 4 (m_run_left 18) (consA (vE 2) (consA (vE 0) (consA (vE 1) (consA (vE 5) (nilA))))))) (tN 2) [6, 7] (dsetS 3 (vE 6) (binE addD (get2E (vE 3) (vE 6) (cE (.int 0))) (vE 7))))) (retS (callB tupleD (consA (compE (seqI (sortItE (vE 3))) [6, 7] (tN 2) [6, 7] (yesT) (tupE (consA (vE 6) (consA (callE 2 m_lowered (consA (vE 7) (consA (vE 4) (nilA)))) (nilA))))) (nilA))))))
def m_long_run_black : List D → List D → RE D := defD 8 b_long_run_black
theorem d_long_run_black (T : Tx w K mg) : DefOk P w K mg base CX0 r "long_run_black" 21 2 m_long_run_black := by
  obtain ⟨f, fd, F, hm⟩ := T.f_long_run_black
  refine fn_def (k := 20) F sc_long_run_black hm (fun _ _ _ _ _ _ us hl => match us, hl with | [_, _], _ => rfl) (fun cdv A outer s H E hr => ?_) (m := b_long_run_black)
  exact ⟨_, _, (gss_cons (gs_drop (ge_call (d_need_small T) (hr.mono (by decide)) pass0 (ga_cons (ge_var 0) (ga_cons (ge_var 1) ga_nil)))) (gss_cons (GS.post (On' := [3]) (by decide) (gs_tup (gak_st (ge_memoE 7 (fun _ => some [])) (gak_fr gf_dnew (gak_st (ge_call (d_orders_number T) (hr.mono (by decide)) pass0 (ga_cons (ge_add ((ge_var 0)).go ((ge_var 1)).go) (ga_cons (ge_add ((ge_var 0)).go ((ge_var 1)).go) ga_nil))) gak_nil))) (ggs_cons 2 sc_long_run_black.nd (ggs_cons 3 sc_long_run_black.nd (ggs_cons 4 sc_long_run_black.nd ggs_nil))))) (gss_cons (gs_for .never rfl (gi_seq (ge_tup (ga_cons ge_bl (ga_cons ge_bl ga_nil)))) (gg_name 5 sc_long_run_black.nd) (GSs.post (On' := [3]) (by decide) (gss_one (gs_for .never rfl (gi_items (ge_call (d_run_left T 18) (hr.mono (by decide)) pass0 (ga_cons (ge_var 2) (ga_cons (ge_var 0) (ga_cons (ge_var 1) (ga_cons (ge_var 5) ga_nil)))))) (gg_tup rfl (ggs_cons 6 sc_long_run_black.nd (ggs_cons 7 sc_long_run_black.nd ggs_nil)) rfl) (GSs.post (On' := [3]) (by decide) (gss_one (gs_dset 3 hr.units (by decide) (ge_var 6) (ge_add ((ge_get2 hr.units (go_own 3) (ge_var 6) ge_int)).go ((ge_var 7)).go)))) (by decide) (fun d ds h => tN_len h)))) (by decide) (fun d ds h => by cases h; rfl)) (gss_one (gs_ret (On := []) (ge_tuple T.tuple (gao_cons (((gf_lc (own := [("black", 6), ("times", 7)]) rfl sc_long_run_black.nd (gi_seq ((gf_sortIt rfl T.sorted (go_own 3))).ge) (blkOk_by (by kernel_rfl)) (fun _ _ _ _ _ => (gg_tup rfl (ggs_cons 6 sc_long_run_black.nd (ggs_cons 7 sc_long_run_black.nd ggs_nil)) rfl)) (fun _ _ _ _ _ => gts_nil) (fun _ _ _ _ _ => (ge_tup (ga_cons (ge_var 6) (ga_cons (ge_call (d_lowered T) (hr.mono (by decide)) pass0 (ga_cons (ge_var 7) (ga_cons (ge_var 4) ga_nil))) ga_nil)))) (by decide) (by decide))).ge).go gao_nil)))))))⟩
abbrev s_black_tally : Stmt := top 23
theorem sc_black_tally : FnScope ["rows", "columns"] ["rows", "columns"] (defScope s_black_tally) := ⟨rfl, rfl, rfl, by decide +kernel, rfl, by decide +kernel, by decide +kernel⟩
def b_black_tally : SS := seqS (dropS (callE 2 m_need_small (consA (vE 0) (consA (vE 1) (nilA))))) (retS (callB tupleD (consA (sortItE (callE 2 m_tally_of (consA (vE 0) (consA (vE 1) (nilA))))) (nilA))))
def m_black_tally : List D → List D → RE D := defD 2 b_black_tally
theorem d_black_tally (T : Tx w K mg) : DefOk P w K mg base CX0 r "black_tally" 22 2 m_black_tally := by
  obtain ⟨f, fd, F, hm⟩ := T.f_black_tally
  refine fn_def (k := 21) F sc_black_tally hm (fun _ _ _ _ _ _ us hl => match us, hl with | [_, _], _ => rfl) (fun cdv A outer s H E hr => ?_) (m := b_black_tally)
  exact ⟨_, _, (gss_cons (gs_drop (ge_call (d_need_small T) (hr.mono (by decide)) pass0 (ga_cons (ge_var 0) (ga_cons (ge_var 1) ga_nil)))) (gss_one (gs_ret (On := []) (ge_tuple T.tuple (gao_cons (((gf_sortIt rfl T.sorted ((ge_call (d_tally_of T) (hr.mono (by decide)) pass0 (ga_cons (ge_var 0) (ga_cons (ge_var 1) ga_nil)))).go)).ge).go gao_nil)))))⟩
abbrev s_count_free_black : Stmt := top 24
theorem sc_count_free_black : FnScope ["rows", "columns", "black"] ["rows", "columns", "black"] (defScope s_count_free_black) := ⟨rfl, rfl, rfl, by decide +kernel, rfl, by decide +kernel, by decide +kernel⟩
def b_count_free_black : SS := seqS (dropS (callE 2 m_need_small (consA (vE 0) (consA (vE 1) (nilA))))) (seqS (dropS (callE 3 m_need_number (consA (vE 2) (consA (cE (.int 0)) (consA (binE mulD (vE 0) (vE 1)) (nilA)))))) (retS (get2E (callE 2 m_tally_of (consA (vE 0) (consA (vE 1) (nilA)))) (vE 2) (cE (.int 0)))))
def m_count_free_black : List D → List D → RE D := defD 3 b_count_free_black
theorem d_count_free_black (T : Tx w K mg) : DefOk P w K mg base CX0 r "count_free_black" 22 3 m_count_free_black := by
  obtain ⟨f, fd, F, hm⟩ := T.f_count_free_black
  refine fn_def (k := 21) F sc_count_free_black hm (fun _ _ _ _ _ _ us hl => match us, hl with | [_, _, _], _ => rfl) (fun cdv A outer s H E hr => ?_) (m := b_count_free_black)
  exact ⟨_, _, (gss_cons (gs_drop (ge_call (d_need_small T) (hr.mono (by decide)) pass0 (ga_cons (ge_var 0) (ga_cons (ge_var 1) ga_nil)))) (gss_cons (gs_drop (ge_call (d_need_number T) (hr.mono (by decide)) pass0 (ga_cons (ge_var 2) (ga_cons ge_int (ga_cons (ge_mul ((ge_var 0)).go ((ge_var 1)).go) ga_nil))))) (gss_one (gs_ret (On := []) (ge_get2 hr.units ((ge_call (d_tally_of T) (hr.mono (by decide)) pass0 (ga_cons (ge_var 0) (ga_cons (ge_var 1) ga_nil)))).go (ge_var 2) ge_int)))))⟩
abbrev s_mean_free_black : Stmt := top 25
theorem sc_mean_free_black : FnScope ["rows", "columns", "told", "black", "times"] ["rows", "columns"] (defScope s_mean_free_black) := ⟨rfl, rfl, rfl, by decide +kernel, rfl, by decide +kernel, by decide +kernel⟩
def b_mean_free_black : SS := seqS (dropS (callE 2 m_need_small (consA (vE 0) (consA (vE 1) (nilA))))) (seqS (setS 2 (callE 2 m_tally_of (consA (vE 0) (consA (vE 1) (nilA))))) (retS (callE 2 m_lowered (consA (callB sum2D (consA (compE (itemsI (vE 2)) [3, 4] (tN 2) [3, 4] (yesT) (binE mulD (vE 3) (vE 4))) (nilA))) (consA (sumVE (vE 2)) (nilA))))))
def m_mean_free_black : List D → List D → RE D := defD 5 b_mean_free_black
theorem d_mean_free_black (T : Tx w K mg) : DefOk P w K mg base CX0 r "mean_free_black" 22 2 m_mean_free_black := by
  obtain ⟨f, fd, F, hm⟩ := T.f_mean_free_black
  refine fn_def (k := 21) F sc_mean_free_black hm (fun _ _ _ _ _ _ us hl => match us, hl with | [_, _], _ => rfl) (fun cdv A outer s H E hr => ?_) (m := b_mean_free_black)
  exact ⟨_, _, (gss_cons (gs_drop (ge_call (d_need_small T) (hr.mono (by decide)) pass0 (ga_cons (ge_var 0) (ga_cons (ge_var 1) ga_nil)))) (gss_cons (GS.post (On' := []) (by decide) (gs_set 2 sc_mean_free_black.nd (ge_call (d_tally_of T) (hr.mono (by decide)) pass0 (ga_cons (ge_var 0) (ga_cons (ge_var 1) ga_nil))))) (gss_one (gs_ret (On := []) (ge_call (d_lowered T) (hr.mono (by decide)) pass0 (ga_cons (ge_sum2 rfl T.sum (gao_cons (((gf_lc (own := [("black", 3), ("times", 4)]) rfl sc_mean_free_black.nd (gi_items (ge_var 2)) (blkOk_by (by kernel_rfl)) (fun _ _ _ _ _ => (gg_tup rfl (ggs_cons 3 sc_mean_free_black.nd (ggs_cons 4 sc_mean_free_black.nd ggs_nil)) rfl)) (fun _ _ _ _ _ => gts_nil) (fun _ _ _ _ _ => (ge_mul ((ge_var 3)).go ((ge_var 4)).go)) (by decide) (by decide))).ge).go gao_nil)) (ga_cons (ge_sumVals rfl T.sum ((ge_var 2)).go) ga_nil)))))))⟩
abbrev s_likeliest_black : Stmt := top 29
theorem sc_likeliest_black : FnScope ["rows", "columns", "told", "best", "black", "share"] ["rows", "columns"] (defScope s_likeliest_black) := ⟨rfl, rfl, rfl, by decide +kernel, rfl, by decide +kernel, by decide +kernel⟩
def b_likeliest_black : SS := seqS (setS 2 (callE 2 m_long_run_black (consA (vE 0) (consA (vE 1) (nilA))))) (seqS (setS 3 (cE .non)) (seqS (forS (seqI (vE 2)) (tN 2) [4, 5] (ifS (orT (boolE (binE isNoneD (vE 3) (cE .non))) (boolE (binE gtD (binE mulD (binE ixD (vE 5) (cE (.int 0))) (binE ixD (binE ixD (vE 3) (cE (.int 1))) (cE (.int 1)))) (binE mulD (binE ixD (binE ixD (vE 3) (cE (.int 1))) (cE (.int 0))) (binE ixD (vE 5) (cE (.int 1))))))) (setS 3 (tupE (consA (vE 4) (consA (vE 5) (nilA))))) (skipS))) (retS (binE ixD (vE 3) (cE (.int 0))))))
def m_likeliest_black : List D → List D → RE D := defD 6 b_likeliest_black
theorem d_likeliest_black (T : Tx w K mg) : DefOk P w K mg base CX0 r "likeliest_black" 22 2 m_likeliest_black := by
  obtain ⟨f, fd, F, hm⟩ := T.f_likeliest_black
  refine fn_def (k := 21) F sc_likeliest_black hm (fun _ _ _ _ _ _ us hl => match us, hl with | [_, _], _ => rfl) (fun cdv A outer s H E hr => ?_) (m := b_likeliest_black)
  exact ⟨_, _, (gss_cons (GS.post (On' := []) (by decide) (gs_set 2 sc_likeliest_black.nd (ge_call (d_long_run_black T) (hr.mono (by decide)) pass0 (ga_cons (ge_var 0) (ga_cons (ge_var 1) ga_nil))))) (gss_cons (GS.post (On' := []) (by decide) (gs_set 3 sc_likeliest_black.nd ge_non)) (gss_cons (gs_for .never rfl (gi_seq (ge_var 2)) (gg_tup rfl (ggs_cons 4 sc_likeliest_black.nd (ggs_cons 5 sc_likeliest_black.nd ggs_nil)) rfl) (GSs.post (On' := []) (by decide) (gss_one (gs_if ((gw_or (gt_is ((ge_var 3)).go (ge_non).go) (gw_or1 (gt_gt ((ge_mul ((ge_sub1 ((ge_var 5)).go (ge_int).go)).go ((ge_sub1 ((ge_sub1 ((ge_var 3)).go (ge_int).go)).go (ge_int).go)).go)).go ((ge_mul ((ge_sub1 ((ge_sub1 ((ge_var 3)).go (ge_int).go)).go (ge_int).go)).go ((ge_sub1 ((ge_var 5)).go (ge_int).go)).go)).go)))).gt (GSs.post (On' := []) (by decide) (gss_one (GS.post (On' := []) (by decide) (gs_set 3 sc_likeliest_black.nd (ge_tup (ga_cons (ge_var 4) (ga_cons (ge_var 5) ga_nil))))))) (GSs.post (On' := []) (by decide) gss_nil)))) (by decide) (fun d ds h => tN_len h)) (gss_one (gs_ret (On := []) (ge_sub1 ((ge_var 3)).go (ge_int).go))))))⟩
abbrev s_free_number_of : Stmt := top 32
theorem sc_free_number_of : FnScope ["rows", "columns", "known"] ["rows", "columns"] (defScope s_free_number_of) := ⟨rfl, rfl, rfl, by decide +kernel, rfl, by decide +kernel, by decide +kernel⟩
def b_free_number_of : SS := seqS (ifS (boolE (binE eqD (binE addD (vE 0) (vE 1)) (cE (.int 0)))) (retS (cE (.int 1))) (skipS)) (seqS (setS 2 (memoE 0 (fun _ => some []))) (retS (binE addD (callE 4 (m_ways_left 62) (consA (vE 2) (consA (vE 0) (consA (vE 1) (consA (cE (.bl true)) (nilA)))))) (callE 4 (m_ways_left 62) (consA (vE 2) (consA (vE 0) (consA (vE 1) (consA (cE (.bl false)) (nilA)))))))))
def m_free_number_of : List D → List D → RE D := defD 3 b_free_number_of
theorem d_free_number_of (T : Tx w K mg) : DefOk P w K mg base CX0 r "free_number_of" 65 2 m_free_number_of := by
  obtain ⟨f, fd, F, hm⟩ := T.f_free_number_of
  refine fn_def (k := 64) F sc_free_number_of hm (fun _ _ _ _ _ _ us hl => match us, hl with | [_, _], _ => rfl) (fun cdv A outer s H E hr => ?_) (m := b_free_number_of)
  exact ⟨_, _, (gss_cons (gs_if (gt_eq hr.units ((ge_add ((ge_var 0)).go ((ge_var 1)).go)).go (ge_int).go) (gss_one (gs_ret (On := []) ge_int)) (GSs.post (On' := []) (by decide) gss_nil)) (gss_cons (GS.post (On' := []) (by decide) (gs_set 2 sc_free_number_of.nd (ge_memoE 0 (fun _ => some [])))) (gss_one (gs_ret (On := []) (ge_add ((ge_call (d_ways_left T 62) (hr.mono (by decide)) pass0 (ga_cons (ge_var 2) (ga_cons (ge_var 0) (ga_cons (ge_var 1) (ga_cons ge_bl ga_nil)))))).go ((ge_call (d_ways_left T 62) (hr.mono (by decide)) pass0 (ga_cons (ge_var 2) (ga_cons (ge_var 0) (ga_cons (ge_var 1) (ga_cons ge_bl ga_nil)))))).go)))))⟩
abbrev s_count_free : Stmt := top 34
theorem sc_count_free : FnScope ["rows", "columns"] ["rows", "columns"] (defScope s_count_free) := ⟨rfl, rfl, rfl, by decide +kernel, rfl, by decide +kernel, by decide +kernel⟩
def b_count_free : SS := seqS (dropS (callE 2 m_need_sides (consA (vE 0) (consA (vE 1) (nilA))))) (retS (callE 2 m_free_number_of (consA (vE 0) (consA (vE 1) (nilA)))))
def m_count_free : List D → List D → RE D := defD 2 b_count_free
theorem d_count_free (T : Tx w K mg) : DefOk P w K mg base CX0 r "count_free" 66 2 m_count_free := by
  obtain ⟨f, fd, F, hm⟩ := T.f_count_free
  refine fn_def (k := 65) F sc_count_free hm (fun _ _ _ _ _ _ us hl => match us, hl with | [_, _], _ => rfl) (fun cdv A outer s H E hr => ?_) (m := b_count_free)
  exact ⟨_, _, (gss_cons (gs_drop (ge_call (d_need_sides T) (hr.mono (by decide)) pass0 (ga_cons (ge_var 0) (ga_cons (ge_var 1) ga_nil)))) (gss_one (gs_ret (On := []) (ge_call (d_free_number_of T) (hr.mono (by decide)) pass0 (ga_cons (ge_var 0) (ga_cons (ge_var 1) ga_nil))))))⟩
abbrev s_law : Stmt := top 41
theorem sc_law : FnScope ["_law_script", "_law_row", "_law_high", "_law_wide", "_law_told", "_law_turned", "_law_black", "_law_many", "_law_whole", "_law_mean", "_law_shares", "_law_share", "_law_best", "_law_top", "_law_size"] ["_law_script"] (defScope s_law) := ⟨rfl, rfl, rfl, by decide +kernel, rfl, by decide +kernel, by decide +kernel⟩
def b_law : SS := seqS (parS [2, 3] (consA (binE addD (cE (.int 1)) (callE 2 m_law_taken (consA (vE 1) (consA (cE (.int 6)) (nilA))))) (consA (binE addD (cE (.int 1)) (callE 2 m_law_taken (consA (vE 1) (consA (cE (.int 6)) (nilA))))) (nilA)))) (seqS (parS [4, 5] (consA (callE 2 m_black_tally (consA (vE 2) (consA (vE 3) (nilA)))) (consA (callE 2 m_black_tally (consA (vE 3) (consA (vE 2) (nilA)))) (nilA)))) (seqS (ifS (boolE (binE neD (callB sum2D (consA (compE (seqI (vE 4)) [6, 7] (tN 2) [6, 7] (yesT) (vE 7)) (nilA))) (callE 2 m_count_free (consA (vE 2) (consA (vE 3) (nilA)))))) (retS (cE (.bl false))) (skipS)) (seqS (ifS (boolE (binE neD (vE 5) (callB tupleD (consA (compE (seqI (revTE (vE 4))) [6, 7] (tN 2) [6, 7] (yesT) (tupE (consA (binE subD (binE mulD (vE 2) (vE 3)) (vE 6)) (consA (vE 7) (nilA))))) (nilA))))) (retS (cE (.bl false))) (skipS)) (seqS (ifS (boolE (binE neD (compE (seqI (vE 4)) [6, 7] (tN 2) [6, 7] (boolE (binE neD (callE 3 m_count_free_black (consA (vE 2) (consA (vE 3) (consA (binE subD (binE mulD (vE 2) (vE 3)) (vE 6)) (nilA))))) (vE 7))) (vE 6)) (lstE (nilA)))) (retS (cE (.bl false))) (skipS)) (seqS (ifS (orT (boolE (binE neD (binE ixD (binE ixD (vE 4) (cE (.int 0))) (cE (.int 0))) (cE (.int 0)))) (boolE (binE neD (binE ixD (binE ixD (vE 4) (unE negD (cE (.int 1)))) (cE (.int 0))) (binE mulD (vE 2) (vE 3))))) (retS (cE (.bl false))) (skipS)) (seqS (ifS (boolE (binE neD (callE 2 m_mean_free_black (consA (vE 2) (consA (vE 3) (nilA)))) (callE 2 m_law_lowered (consA (binE mulD (vE 2) (vE 3)) (consA (cE (.int 2)) (nilA)))))) (retS (cE (.bl false))) (skipS)) (seqS (parS [8, 9, 10] (consA (tupE (consA (cE (.int 0)) (consA (cE (.int 1)) (nilA)))) (consA (tupE (consA (cE (.int 0)) (consA (cE (.int 1)) (nilA)))) (consA (callE 2 m_long_run_black (consA (vE 2) (consA (vE 3) (nilA)))) (nilA))))) (seqS (forS (seqI (vE 10)) (tN 2) [6, 11] (parS [8, 9] (consA (callE 2 m_law_plus (consA (vE 8) (consA (vE 11) (nilA)))) (consA (callE 2 m_law_plus (consA (vE 9) (consA (callE 2 m_law_lowered (consA (binE mulD (binE ixD (vE 11) (cE (.int 0))) (vE 6)) (consA (binE ixD (vE 11) (cE (.int 1))) (nilA)))) (nilA)))) (nilA))))) (seqS (ifS (orT (boolE (binE neD (vE 8) (tupE (consA (cE (.int 1)) (consA (cE (.int 1)) (nilA)))))) (boolE (binE neD (vE 9) (callE 2 m_law_lowered (consA (binE mulD (vE 2) (vE 3)) (consA (cE (.int 2)) (nilA))))))) (retS (cE (.bl false))) (skipS)) (seqS (ifS (boolE (binE neD (compE (seqI (vE 10)) [6, 11] (tN 2) [6, 11] (yesT) (vE 6)) (compE (seqI (vE 4)) [6, 7] (tN 2) [6, 7] (yesT) (vE 6)))) (retS (cE (.bl false))) (skipS)) (seqS (setS 12 (callE 2 m_likeliest_black (consA (vE 2) (consA (vE 3) (nilA))))) (seqS (setS 13 (binE ixD (compE (seqI (vE 10)) [6, 11] (tN 2) [6, 11] (boolE (binE eqD (vE 6) (vE 12))) (vE 11)) (cE (.int 0)))) (seqS (ifS (boolE (binE neD (compE (seqI (vE 10)) [6, 11] (tN 2) [6, 11] (orT (boolE (binE gtD (binE mulD (binE ixD (vE 11) (cE (.int 0))) (binE ixD (vE 13) (cE (.int 1)))) (binE mulD (binE ixD (vE 13) (cE (.int 0))) (binE ixD (vE 11) (cE (.int 1)))))) (andT (boolE (binE ltD (vE 6) (vE 12))) (boolE (binE eqD (vE 11) (vE 13))))) (vE 6)) (lstE (nilA)))) (retS (cE (.bl false))) (skipS)) (seqS (ifS (boolE (binE neD (binE ixD (binE ixD (vE 10) (cE (.int 0))) (cE (.int 1))) (binE ixD (binE ixD (vE 10) (unE negD (cE (.int 1)))) (cE (.int 1))))) (retS (cE (.bl false))) (skipS)) (seqS (ifS (boolE (binE neD (binE ixD (binE ixD (vE 10) (cE (.int 0))) (cE (.int 1))) (callE 2 m_law_lowered (consA (binE mulD (callE 1 m_law_product (consA (vE 2) (nilA))) (callE 1 m_law_product (consA (vE 3) (nilA)))) (consA (callE 1 m_law_product (consA (binE addD (vE 2) (vE 3)) (nilA))) (nilA)))))) (retS (cE (.bl false))) (skipS)) (seqS (setS 8 (tupE (consA (cE (.int 0)) (consA (cE (.int 1)) (nilA))))) (seqS (forS (seqI (callE 2 m_long_run_tally (consA (vE 2) (consA (vE 3) (nilA))))) (tN 2) [14, 11] (setS 8 (callE 2 m_law_plus (consA (vE 8) (consA (vE 11) (nilA)))))) (retS (andE (binE eqD (vE 8) (tupE (consA (cE (.int 1)) (consA (cE (.int 1)) (nilA))))) (binE eqD (callE 2 m_long_run_tally (consA (vE 2) (consA (vE 3) (nilA)))) (callE 2 m_long_run_tally (consA (vE 3) (consA (vE 2) (nilA))))))))))))))))))))))))
theorem law_body (T : Tx w K mg) {f : Addr} {qual : Str} (r : Addr) (cdv : Value) (A : Around) (outer : List Env) (s : Shared) (H : Hp) (E : XK) (hr : Room 66 (A.deeper (PyProof.Rows.envOfC qual (defScope s_law) s.heap.objs.size f cdv))) : ∃ On u, GSs K mg r (cxOf CX0 P w K mg base ["_law_script", "_law_row", "_law_high", "_law_wide", "_law_told", "_law_turned", "_law_black", "_law_many", "_law_whole", "_law_mean", "_law_shares", "_law_share", "_law_best", "_law_top", "_law_size"] qual (defScope s_law) f cdv A outer s H E).nox E0 [] On [] (defBody s_law).tail u b_law := by
  exact ⟨_, _, (gss_cons (GS.post (On' := []) (by decide) (gs_tup (gak_st (ge_add (ge_int).go ((ge_call (d_law_taken T) (hr.mono (by decide)) pass0 (ga_cons (ge_var 1) (ga_cons ge_int ga_nil)))).go) (gak_st (ge_add (ge_int).go ((ge_call (d_law_taken T) (hr.mono (by decide)) pass0 (ga_cons (ge_var 1) (ga_cons ge_int ga_nil)))).go) gak_nil)) (ggs_cons 2 sc_law.nd (ggs_cons 3 sc_law.nd ggs_nil)))) (gss_cons (GS.post (On' := []) (by decide) (gs_par2 4 5 sc_law.nd (gak_st (ge_call (d_black_tally T) (hr.mono (by decide)) pass0 (ga_cons (ge_var 2) (ga_cons (ge_var 3) ga_nil))) (gak_st (ge_call (d_black_tally T) (hr.mono (by decide)) pass0 (ga_cons (ge_var 3) (ga_cons (ge_var 2) ga_nil))) gak_nil)))) (gss_cons (gs_if (gt_ne hr.units ((ge_sum2 rfl T.sum (gao_cons (((gf_lc (own := [("_law_black", 6), ("_law_many", 7)]) rfl sc_law.nd (gi_seq (ge_var 4)) (blkOk_by (by kernel_rfl)) (fun _ _ _ _ _ => (gg_tup rfl (ggs_cons 6 sc_law.nd (ggs_cons 7 sc_law.nd ggs_nil)) rfl)) (fun _ _ _ _ _ => gts_nil) (fun _ _ _ _ _ => (ge_var 7)) (by decide) (by decide))).ge).go gao_nil))).go ((ge_call (d_count_free T) (hr.mono (by decide)) pass0 (ga_cons (ge_var 2) (ga_cons (ge_var 3) ga_nil)))).go) (gss_one (gs_ret (On := []) ge_bl)) (GSs.post (On' := []) (by decide) gss_nil)) (gss_cons (gs_if (gt_ne hr.units ((ge_var 5)).go ((ge_tuple T.tuple (gao_cons (((gf_lc (own := [("_law_black", 6), ("_law_many", 7)]) rfl sc_law.nd (gi_seq (ge_revT ((ge_var 4)).go)) (blkOk_by (by kernel_rfl)) (fun _ _ _ _ _ => (gg_tup rfl (ggs_cons 6 sc_law.nd (ggs_cons 7 sc_law.nd ggs_nil)) rfl)) (fun _ _ _ _ _ => gts_nil) (fun _ _ _ _ _ => (ge_tup (ga_cons (ge_sub ((ge_mul ((ge_var 2)).go ((ge_var 3)).go)).go ((ge_var 6)).go) (ga_cons (ge_var 7) ga_nil)))) (by decide) (by decide))).ge).go gao_nil))).go) (gss_one (gs_ret (On := []) ge_bl)) (GSs.post (On' := []) (by decide) gss_nil)) (gss_cons (gs_if (gt_ne hr.units (((gf_lc (own := [("_law_black", 6), ("_law_many", 7)]) rfl sc_law.nd (gi_seq (ge_var 4)) (blkOk_by (by kernel_rfl)) (fun _ _ _ _ _ => (gg_tup rfl (ggs_cons 6 sc_law.nd (ggs_cons 7 sc_law.nd ggs_nil)) rfl)) (fun _ _ _ _ _ => (gts_one (gt_ne hr.units ((ge_call (d_count_free_black T) (hr.mono (by decide)) pass0 (ga_cons (ge_var 2) (ga_cons (ge_var 3) (ga_cons (ge_sub ((ge_mul ((ge_var 2)).go ((ge_var 3)).go)).go ((ge_var 6)).go) ga_nil))))).go ((ge_var 7)).go))) (fun _ _ _ _ _ => (ge_var 6)) (by decide) (by decide))).ge).go (((gf_lst ga_nil)).ge).go) (gss_one (gs_ret (On := []) ge_bl)) (GSs.post (On' := []) (by decide) gss_nil)) (gss_cons (gs_if ((gw_or (gt_ne hr.units ((ge_sub1 ((ge_sub1 ((ge_var 4)).go (ge_int).go)).go (ge_int).go)).go (ge_int).go) (gw_or1 (gt_ne hr.units ((ge_sub1 ((ge_sub1 ((ge_var 4)).go ((ge_neg (ge_int).go)).go)).go (ge_int).go)).go ((ge_mul ((ge_var 2)).go ((ge_var 3)).go)).go)))).gt (gss_one (gs_ret (On := []) ge_bl)) (GSs.post (On' := []) (by decide) gss_nil)) (gss_cons (gs_if (gt_ne hr.units ((ge_call (d_mean_free_black T) (hr.mono (by decide)) pass0 (ga_cons (ge_var 2) (ga_cons (ge_var 3) ga_nil)))).go ((ge_call (d_law_lowered T) (hr.mono (by decide)) pass0 (ga_cons (ge_mul ((ge_var 2)).go ((ge_var 3)).go) (ga_cons ge_int ga_nil)))).go) (gss_one (gs_ret (On := []) ge_bl)) (GSs.post (On' := []) (by decide) gss_nil)) (gss_cons (GS.post (On' := []) (by decide) (gs_par3 8 9 10 sc_law.nd (gak_st (ge_tup (ga_cons ge_int (ga_cons ge_int ga_nil))) (gak_st (ge_tup (ga_cons ge_int (ga_cons ge_int ga_nil))) (gak_st (ge_call (d_long_run_black T) (hr.mono (by decide)) pass0 (ga_cons (ge_var 2) (ga_cons (ge_var 3) ga_nil))) gak_nil))))) (gss_cons (gs_for .never rfl (gi_seq (ge_var 10)) (gg_tup rfl (ggs_cons 6 sc_law.nd (ggs_cons 11 sc_law.nd ggs_nil)) rfl) (GSs.post (On' := []) (by decide) (gss_one (GS.post (On' := []) (by decide) (gs_par2 8 9 sc_law.nd (gak_st (ge_call (d_law_plus T) (hr.mono (by decide)) pass0 (ga_cons (ge_var 8) (ga_cons (ge_var 11) ga_nil))) (gak_st (ge_call (d_law_plus T) (hr.mono (by decide)) pass0 (ga_cons (ge_var 9) (ga_cons (ge_call (d_law_lowered T) (hr.mono (by decide)) pass0 (ga_cons (ge_mul ((ge_sub1 ((ge_var 11)).go (ge_int).go)).go ((ge_var 6)).go) (ga_cons (ge_sub1 ((ge_var 11)).go (ge_int).go) ga_nil))) ga_nil))) gak_nil)))))) (by decide) (fun d ds h => tN_len h)) (gss_cons (gs_if ((gw_or (gt_ne hr.units ((ge_var 8)).go ((ge_tup (ga_cons ge_int (ga_cons ge_int ga_nil)))).go) (gw_or1 (gt_ne hr.units ((ge_var 9)).go ((ge_call (d_law_lowered T) (hr.mono (by decide)) pass0 (ga_cons (ge_mul ((ge_var 2)).go ((ge_var 3)).go) (ga_cons ge_int ga_nil)))).go)))).gt (gss_one (gs_ret (On := []) ge_bl)) (GSs.post (On' := []) (by decide) gss_nil)) (gss_cons (gs_if (gt_ne hr.units (((gf_lc (own := [("_law_black", 6), ("_law_share", 11)]) rfl sc_law.nd (gi_seq (ge_var 10)) (blkOk_by (by kernel_rfl)) (fun _ _ _ _ _ => (gg_tup rfl (ggs_cons 6 sc_law.nd (ggs_cons 11 sc_law.nd ggs_nil)) rfl)) (fun _ _ _ _ _ => gts_nil) (fun _ _ _ _ _ => (ge_var 6)) (by decide) (by decide))).ge).go (((gf_lc (own := [("_law_black", 6), ("_law_many", 7)]) rfl sc_law.nd (gi_seq (ge_var 4)) (blkOk_by (by kernel_rfl)) (fun _ _ _ _ _ => (gg_tup rfl (ggs_cons 6 sc_law.nd (ggs_cons 7 sc_law.nd ggs_nil)) rfl)) (fun _ _ _ _ _ => gts_nil) (fun _ _ _ _ _ => (ge_var 6)) (by decide) (by decide))).ge).go) (gss_one (gs_ret (On := []) ge_bl)) (GSs.post (On' := []) (by decide) gss_nil)) (gss_cons (GS.post (On' := []) (by decide) (gs_set 12 sc_law.nd (ge_call (d_likeliest_black T) (hr.mono (by decide)) pass0 (ga_cons (ge_var 2) (ga_cons (ge_var 3) ga_nil))))) (gss_cons (GS.post (On' := []) (by decide) (gs_set 13 sc_law.nd (ge_sub1 (((gf_lc (own := [("_law_black", 6), ("_law_share", 11)]) rfl sc_law.nd (gi_seq (ge_var 10)) (blkOk_by (by kernel_rfl)) (fun _ _ _ _ _ => (gg_tup rfl (ggs_cons 6 sc_law.nd (ggs_cons 11 sc_law.nd ggs_nil)) rfl)) (fun _ _ _ _ _ => (gts_one (gt_eq hr.units ((ge_var 6)).go ((ge_var 12)).go))) (fun _ _ _ _ _ => (ge_var 11)) (by decide) (by decide))).ge).go (ge_int).go))) (gss_cons (gs_if (gt_ne hr.units (((gf_lc (own := [("_law_black", 6), ("_law_share", 11)]) rfl sc_law.nd (gi_seq (ge_var 10)) (blkOk_by (by kernel_rfl)) (fun _ _ _ _ _ => (gg_tup rfl (ggs_cons 6 sc_law.nd (ggs_cons 11 sc_law.nd ggs_nil)) rfl)) (fun _ _ _ _ _ => (gts_one ((gw_or (gt_gt ((ge_mul ((ge_sub1 ((ge_var 11)).go (ge_int).go)).go ((ge_sub1 ((ge_var 13)).go (ge_int).go)).go)).go ((ge_mul ((ge_sub1 ((ge_var 13)).go (ge_int).go)).go ((ge_sub1 ((ge_var 11)).go (ge_int).go)).go)).go) (gw_or1 ((gw_and (gt_lt ((ge_var 6)).go ((ge_var 12)).go) (gw_and1 (gt_eq hr.units ((ge_var 11)).go ((ge_var 13)).go)))).gt))).gt)) (fun _ _ _ _ _ => (ge_var 6)) (by decide) (by decide))).ge).go (((gf_lst ga_nil)).ge).go) (gss_one (gs_ret (On := []) ge_bl)) (GSs.post (On' := []) (by decide) gss_nil)) (gss_cons (gs_if (gt_ne hr.units ((ge_sub1 ((ge_sub1 ((ge_var 10)).go (ge_int).go)).go (ge_int).go)).go ((ge_sub1 ((ge_sub1 ((ge_var 10)).go ((ge_neg (ge_int).go)).go)).go (ge_int).go)).go) (gss_one (gs_ret (On := []) ge_bl)) (GSs.post (On' := []) (by decide) gss_nil)) (gss_cons (gs_if (gt_ne hr.units ((ge_sub1 ((ge_sub1 ((ge_var 10)).go (ge_int).go)).go (ge_int).go)).go ((ge_call (d_law_lowered T) (hr.mono (by decide)) pass0 (ga_cons (ge_mul ((ge_call (d_law_product T) (hr.mono (by decide)) pass0 (ga_cons (ge_var 2) ga_nil))).go ((ge_call (d_law_product T) (hr.mono (by decide)) pass0 (ga_cons (ge_var 3) ga_nil))).go) (ga_cons (ge_call (d_law_product T) (hr.mono (by decide)) pass0 (ga_cons (ge_add ((ge_var 2)).go ((ge_var 3)).go) ga_nil)) ga_nil)))).go) (gss_one (gs_ret (On := []) ge_bl)) (GSs.post (On' := []) (by decide) gss_nil)) (gss_cons (GS.post (On' := []) (by decide) (gs_set 8 sc_law.nd (ge_tup (ga_cons ge_int (ga_cons ge_int ga_nil))))) (gss_cons (gs_for .never rfl (gi_seq (ge_call (d_long_run_tally T) (hr.mono (by decide)) pass0 (ga_cons (ge_var 2) (ga_cons (ge_var 3) ga_nil)))) (gg_tup rfl (ggs_cons 14 sc_law.nd (ggs_cons 11 sc_law.nd ggs_nil)) rfl) (GSs.post (On' := []) (by decide) (gss_one (GS.post (On' := []) (by decide) (gs_set 8 sc_law.nd (ge_call (d_law_plus T) (hr.mono (by decide)) pass0 (ga_cons (ge_var 8) (ga_cons (ge_var 11) ga_nil))))))) (by decide) (fun d ds h => tN_len h)) (gss_one (gs_ret (On := []) (ge_and (ge_eq hr.units ((ge_var 8)).go ((ge_tup (ga_cons ge_int (ga_cons ge_int ga_nil)))).go) (ge_one (ge_eq hr.units ((ge_call (d_long_run_tally T) (hr.mono (by decide)) pass0 (ga_cons (ge_var 2) (ga_cons (ge_var 3) ga_nil)))).go ((ge_call (d_long_run_tally T) (hr.mono (by decide)) pass0 (ga_cons (ge_var 3) (ga_cons (ge_var 2) ga_nil)))).go)))))))))))))))))))))))⟩
end
end W
set_option maxHeartbeats 1000000
namespace W
open PySem L2 G
local instance : _root_.G.Wo := ⟨fun _ => 0⟩
theorem log_small {m : Int} (h : m ≤ 2 ^ 30) (h1 : 1 ≤ m) : cDiv m = true := by
  unfold cDiv
  have : m.natAbs.log2 < 9000 := by
    have : m.natAbs.log2 < 31 := (Nat.log2_lt (by omega)).mpr (by omega)
    omega
  simp [this]; omega
theorem mul_small {i j : Int} (hi : 0 ≤ i) (hi2 : i < 2147483648) (hj : 0 ≤ j) (hj2 : j < 2147483648) : cMul i j = true := by
  unfold cMul
  have k : ∀ x : Int, 0 ≤ x → x < 2147483648 → x.natAbs.log2 ≤ 32 := fun x h1 h2 => by
    rcases Nat.eq_zero_or_pos x.natAbs with e | e
    · rw [e]; decide
    · have : x.natAbs.log2 < 32 := (Nat.log2_lt (by omega)).mpr (by omega)
      omega
  have := k i hi hi2
  have := k j hj hj2
  exact decide_eq_true (by omega)
theorem taken_ok {tp : List D} {m : Int} (h : Tape tp) (hm : 1 ≤ m) (hM : m ≤ 2 ^ 30) : ∃ v tp', m_law_taken [.tape, .int m] tp = .ok (.int v) tp' ∧ Tape tp' ∧ 0 ≤ v ∧ v < m := by
  obtain ⟨⟨ns, pos, seed, rest, rfl, p0, s0, s1, nl⟩⟩ := h
  have cd := log_small hM hm
  have cm : cMul seed 48271 = true := mul_small s0 (by omega) (by decide) (by decide)
  have m0 : (0 : Int) < m := by omega
  have c7 : cDiv 7 = true := by decide +kernel
  have a0 : ∀ a b c d : D, atI [a, b, c, d] 0 = some a := fun _ _ _ _ => rfl
  have a1 : ∀ a b c d : D, atI [a, b, c, d] 1 = some b := fun _ _ _ _ => rfl
  have a2 : ∀ a b c d : D, atI [a, b, c, d] 2 = some c := fun _ _ _ _ => rfl
  have a3 : ∀ a b c d : D, atI [a, b, c, d] 3 = some d := fun _ _ _ _ => rfl
  have i1 : ixN 4 1 = some 1 := rfl
  have i2 : ixN 4 2 = some 2 := rfl
  have i3 : ixN 4 3 = some 3 := rfl
  have b7 : (0 : Int) < 2147483647 := by decide
  by_cases c1 : 0 < rest
  · refine ⟨rest % m, [.scr ns, .int pos, .int seed, .int (rest / m)], ?_, ⟨⟨ns, pos, seed, _, rfl, p0, s0, s1, nl⟩⟩, Int.emod_nonneg _ (by omega), Int.emod_lt_of_pos _ m0⟩
    simp -implicitDefEqProofs only [m_law_taken, b_law_taken, defD, retR, seqS, ifS, setS, retS, skipS, dropS, parS, setAll, vE, cE, binE, chainE, callB, consA, nilA, tupE, lstE, boolE, isB, notT, orT, andT, andE, orE, notE, callE, tixE, tsetS, sliceE, optI, methE, seqI, rangeI, RE.bind_ok, RE.bindS, RE.of_some, RE.of_none, List.map_cons, List.map_nil, List.length_cons, List.length_nil, List.replicate, List.cons_append, List.nil_append, List.getElem?_cons_zero, List.getElem?_cons_succ, List.set_cons_zero, List.set_cons_succ, if_true, if_false, Nat.zero_add, Nat.reduceAdd, Nat.reduceSub, decide_true, decide_false, Bool.false_eq_true, Option.map_some, Option.bind_some, a0, a1, a2, a3, i1, i2, i3, gtD, modD, fdivD, intD, c1, cd, m0]
  · by_cases c2 : (ns.length : Int) < pos + 1
    · refine ⟨((seed * 48271 + 11) % 2147483647 / 7) % m, [.scr ns, .int (pos + 1), .int ((seed * 48271 + 11) % 2147483647), .int rest], ?_, ⟨⟨ns, _, _, _, rfl, by omega, by omega, by omega, nl⟩⟩, Int.emod_nonneg _ (by omega), Int.emod_lt_of_pos _ m0⟩
      simp -implicitDefEqProofs only [m_law_taken, b_law_taken, defD, retR, seqS, ifS, setS, retS, skipS, dropS, parS, setAll, vE, cE, binE, chainE, callB, consA, nilA, tupE, lstE, boolE, isB, notT, orT, andT, andE, orE, notE, callE, tixE, tsetS, sliceE, optI, methE, seqI, rangeI, RE.bind_ok, RE.bindS, RE.of_some, RE.of_none, List.map_cons, List.map_nil, List.length_cons, List.length_nil, List.replicate, List.cons_append, List.nil_append, List.getElem?_cons_zero, List.getElem?_cons_succ, List.set_cons_zero, List.set_cons_succ, if_true, if_false, Nat.zero_add, Nat.reduceAdd, Nat.reduceSub, decide_true, decide_false, Bool.false_eq_true, Option.map_some, Option.bind_some, a0, a1, a2, a3, i1, i2, i3, gtD, modD, fdivD, intD, c1, cd, m0, addD, mulD, lenD, c2, cm, b7, c7]
    · have hp : pos.toNat < ns.length := by omega
      have e : atI ns (pos + 1 - 1) = some (ns[pos.toNat]) := by
        have : pos + 1 - 1 = pos := by omega
        rw [this, atI_int ns p0, List.getElem?_eq_getElem hp]
      have cp : cPow 10 18 = true := by decide +kernel
      generalize hc : ns[pos.toNat] = c at e
      have ev : ∀ q : Prop, ∀ [Decidable q], q = ((10 : Int) ^ (Int.toNat 18) ≤ c) → True := fun _ _ _ => trivial
      by_cases c3 : (10 : Int) ^ (Int.toNat 18) ≤ c
      · refine ⟨c % m, [.scr ns, .int (pos + 1), .int ((seed * 48271 + c + 11) % 2147483647), .int (c / m)], ?_, ⟨⟨ns, _, _, _, rfl, by omega, by omega, by omega, nl⟩⟩, Int.emod_nonneg _ (by omega), Int.emod_lt_of_pos _ m0⟩
        simp -implicitDefEqProofs only [m_law_taken, b_law_taken, defD, retR, seqS, ifS, setS, retS, skipS, dropS, parS, setAll, vE, cE, binE, chainE, callB, consA, nilA, tupE, lstE, boolE, isB, notT, orT, andT, andE, orE, notE, callE, tixE, tsetS, sliceE, optI, methE, seqI, rangeI, RE.bind_ok, RE.bindS, RE.of_some, RE.of_none, List.map_cons, List.map_nil, List.length_cons, List.length_nil, List.replicate, List.cons_append, List.nil_append, List.getElem?_cons_zero, List.getElem?_cons_succ, List.set_cons_zero, List.set_cons_succ, if_true, if_false, Nat.zero_add, Nat.reduceAdd, Nat.reduceSub, decide_true, decide_false, Bool.false_eq_true, Option.map_some, Option.bind_some, a0, a1, a2, a3, i1, i2, i3, gtD, geD, modD, fdivD, intD, c1, cd, m0, addD, subD, mulD, powD, lenD, ixD, c2, cm, b7, c7, e, cp, c3]
      · refine ⟨c % m, [.scr ns, .int (pos + 1), .int ((seed * 48271 + c + 11) % 2147483647), .int rest], ?_, ⟨⟨ns, _, _, _, rfl, by omega, by omega, by omega, nl⟩⟩, Int.emod_nonneg _ (by omega), Int.emod_lt_of_pos _ m0⟩
        simp -implicitDefEqProofs only [m_law_taken, b_law_taken, defD, retR, seqS, ifS, setS, retS, skipS, dropS, parS, setAll, vE, cE, binE, chainE, callB, consA, nilA, tupE, lstE, boolE, isB, notT, orT, andT, andE, orE, notE, callE, tixE, tsetS, sliceE, optI, methE, seqI, rangeI, RE.bind_ok, RE.bindS, RE.of_some, RE.of_none, List.map_cons, List.map_nil, List.length_cons, List.length_nil, List.replicate, List.cons_append, List.nil_append, List.getElem?_cons_zero, List.getElem?_cons_succ, List.set_cons_zero, List.set_cons_succ, if_true, if_false, Nat.zero_add, Nat.reduceAdd, Nat.reduceSub, decide_true, decide_false, Bool.false_eq_true, Option.map_some, Option.bind_some, a0, a1, a2, a3, i1, i2, i3, gtD, geD, modD, fdivD, intD, c1, cd, m0, addD, subD, mulD, powD, lenD, ixD, c2, cm, b7, c7, e, cp, c3]
end W
set_option maxHeartbeats 1000000
namespace W
open PySem L2 G
local instance : _root_.G.Wo := ⟨fun _ => 0⟩
end W
set_option maxHeartbeats 1000000
namespace W
open PySem L2 G
local instance : _root_.G.Wo := ⟨fun _ => 0⟩
end W
set_option maxHeartbeats 1000000
namespace W
open PySem L2 G
local instance : _root_.G.Wo := ⟨fun _ => 0⟩
theorem _root_.G.PicOk.get {h w : Nat} {p : Pic} (k : PicOk h w p) {i : Nat} (hi : i < h) : ∃ r, p[i]? = some r ∧ r.length = w ∧ p.getD i [] = r := by
  have : i < p.length := by rw [k.len]; exact hi
  exact ⟨p[i], List.getElem?_eq_getElem this, k.row _ (List.getElem_mem this), by rw [List.getD_eq_getElem?_getD, List.getElem?_eq_getElem this]; rfl⟩
end W
set_option maxHeartbeats 1000000
namespace W
open PySem L2 G
local instance : _root_.G.Wo := ⟨fun _ => 0⟩
theorem taken_nat {tp : List D} {m : Nat} (h : Tape tp) (hm : 1 ≤ m) (hM : m ≤ 2 ^ 30) : ∃ (n : Nat) (tp' : List D), m_law_taken [.tape, .int (m : Int)] tp = .ok (.int (n : Int)) tp' ∧ Tape tp' ∧ n < m := by
  obtain ⟨v, tp', e, t, v0, v1⟩ := taken_ok (m := (m : Int)) h (by omega) (by omega)
  exact ⟨v.toNat, tp', by rw [e]; congr 2; omega, t, by omega⟩
end W
set_option maxHeartbeats 1000000
namespace W
open PySem L2 G
local instance : _root_.G.Wo := ⟨fun _ => 0⟩
end W
set_option maxHeartbeats 1000000
namespace W
open PySem L2 G
local instance : _root_.G.Wo := ⟨fun _ => 0⟩
end W
set_option maxHeartbeats 1000000
namespace W
open PySem L2 G
local instance : _root_.G.Wo := ⟨fun _ => 0⟩
end W
set_option maxHeartbeats 1000000
namespace W
open PySem L2 G
local instance : _root_.G.Wo := ⟨fun _ => 0⟩
end W
set_option maxHeartbeats 1000000
namespace W
open PySem L2 G
local instance : _root_.G.Wo := ⟨fun _ => 0⟩
end W
set_option maxHeartbeats 1000000
namespace W
open PySem L2 G T
local instance : _root_.G.Wo := ⟨fun _ => 0⟩
/-- a picture by itself -/
structure PicP (p : Pic) : Prop where
  row : ∀ r ∈ p, r.length = p[0]!.length
  h1 : 1 ≤ p.length
  h30 : p.length ≤ 30
  w1 : 1 ≤ p[0]!.length
  w30 : p[0]!.length ≤ 30
theorem PicP.ok {p : Pic} (k : PicP p) : PicOk p.length p[0]!.length p := ⟨rfl, k.row, k.h1, k.h30, k.w1, k.w30⟩
abbrev P_law_taken (many : Nat) : Prop := 1 ≤ many ∧ many ≤ 1073741824
abbrev D_law_taken (many r : Nat) : Prop := r < many
theorem t_law_taken {many : Nat} {tp : List D} (ht : Tape tp) (hP : P_law_taken many) : ∃ (r : Nat) (tp' : List D), m_law_taken [.tape, eN many] tp = .ok (eN r) tp' ∧ Tape tp' ∧ D_law_taken many r :=
  taken_nat ht hP.1 hP.2
end W
set_option maxHeartbeats 1000000
namespace W
open PySem L2 G T
local instance : _root_.G.Wo := ⟨fun _ => 0⟩
theorem take_snoc {α : Type} {xs : List α} {k : Nat} {x : α} (h : xs[k]? = some x) : xs.take (k + 1) = xs.take k ++ [x] := by
  rw [List.take_succ, h]; rfl
theorem range_get {n k x : Nat} (h : (List.range n)[k]? = some x) : x = k ∧ k < n := by
  obtain ⟨h1, h2⟩ := List.getElem?_eq_some_iff.mp h
  rw [List.getElem_range] at h2
  rw [List.length_range] at h1
  exact ⟨h2.symm, h1⟩
theorem mem_get! {α : Type} [Inhabited α] {xs : List α} {i : Nat} (h : i < xs.length) : xs[i]! ∈ xs := by
  rw [getElem!_pos xs i h]; exact List.getElem_mem h
theorem get!_cons_succ {α : Type} [Inhabited α] (x : α) (xs : List α) (i : Nat) : (x :: xs)[i + 1]! = xs[i]! := rfl
section
variable {p q : Pic}
theorem PicP.get (k : PicP p) {i : Nat} (h : i < p.length) : (p[i]!).length = p[0]!.length := k.row _ (mem_get! h)
theorem PicP.pos (k : PicP p) : 0 < p.length := k.h1
end
end W
set_option maxHeartbeats 1000000
namespace W
open PySem L2 G T
local instance : _root_.G.Wo := ⟨fun _ => 0⟩
/-- the lines left -/
def lv (p : Pic) (s : List (List Nat) × List Nat × List Nat) : List Nat := s.2.1 ++ s.2.2.map fun j => p.length + j
end W
set_option maxHeartbeats 1000000
namespace W
open PySem L2 G T
local instance : _root_.G.Wo := ⟨fun _ => 0⟩
end W
set_option maxHeartbeats 1000000
namespace W
open PySem L2 G T
local instance : _root_.G.Wo := ⟨fun _ => 0⟩
section
variable {p q : Pic}
/-- the least set's lists are parts of the layers, in their order -/
inductive Parts : List (List Nat) → List (List Nat) → Prop
  | nil {L : List (List Nat)} : Parts [] L
  | last {s t : List Nat} {L : List (List Nat)} : t.Sublist s → Parts [t] (s :: L)
  | cons {s : List Nat} {T L : List (List Nat)} : Parts T L → Parts (s :: T) (s :: L)
theorem Parts.sub {T L : List (List Nat)} (h : Parts T L) : T.flatten.Sublist L.flatten := by
  induction h with
  | nil => exact List.nil_sublist _
  | last h =>
    simp only [List.flatten_cons, List.flatten_nil, List.append_nil]
    exact h.trans (List.sublist_append_left _ _)
  | cons _ ih =>
    rw [List.flatten_cons, List.flatten_cons]
    exact (List.Sublist.refl _).append ih
end
end W
set_option maxHeartbeats 1000000
namespace W
open PySem L2 G T
local instance : _root_.G.Wo := ⟨fun _ => 0⟩
theorem len_sub {a b : List Nat} (nd : a.Nodup) (h : ∀ x ∈ a, x ∈ b) : a.length ≤ b.length := by
  induction a generalizing b with
  | nil => exact Nat.zero_le _
  | cons x a ih =>
    obtain ⟨n1, n2⟩ := List.nodup_cons.mp nd
    have hx := h x List.mem_cons_self
    have := ih (b := b.erase x) n2 fun y hy => (List.mem_erase_of_ne (fun e => n1 (by rw [← e]; exact hy))).mpr (h y (List.mem_cons_of_mem _ hy))
    rw [List.length_erase_of_mem hx] at this
    have : 0 < b.length := List.length_pos_of_mem hx
    rw [List.length_cons]; omega
end W
set_option maxHeartbeats 1000000
namespace T
open PySem L2 G
local instance : _root_.G.Wo := ⟨fun _ => 0⟩
end T
namespace W
open PySem L2 G T
local instance : _root_.G.Wo := ⟨fun _ => 0⟩
section
variable {p q : Pic}
theorem Parts.len {T L : List (List Nat)} (h : Parts T L) : T.length ≤ L.length := by
  induction h with
  | nil => exact Nat.zero_le _
  | last _ => simp
  | cons _ ih => rw [List.length_cons, List.length_cons]; omega
end
end W
set_option maxHeartbeats 1000000
namespace T
open PySem L2 G
local instance : _root_.G.Wo := ⟨fun _ => 0⟩
theorem cRg_int {i : Int} (h1 : -1000000 ≤ i) (h2 : i ≤ 1073741824) : cRg i = true := by
  unfold cRg
  have h1 : -(2 ^ 62) ≤ i := by omega
  have h2 : i < 2 ^ 62 := by omega
  rw [decide_eq_true h1, decide_eq_true h2]; rfl
theorem rangeL_S (a b : Nat) : rangeL 0 ((a : Int) - (b : Int)) = (List.range (a - b)).map eN := by
  unfold rangeL
  have e : ((a : Int) - (b : Int) - 0).toNat = a - b := by omega
  rw [e]
  exact List.map_congr_left fun a _ => by rw [Int.zero_add]
/-- range(x - y), nothing where y is the greater one -/
theorem it_rangeS {x y : Nat} {env : DEnv} {tp t1' t2' : List D} {ma mb : SE D} (hx : x ≤ 1073741824) (hy : y ≤ 1000000) (ha : ma env tp = .ok (eN x) t1') (hb : mb env t1' = .ok (eN y) t2') : rangeI range1D (consA (binE subD ma mb) nilA) env tp = .ok ((List.range (x - y)).map eN) t2' :=
  ev_rangeI (ev_cons ((ev_bin ha hb rfl).trans (show RE.ok (D.int ((x : Int) - (y : Int))) t2' = _ from rfl)) ev_nil) (by rw [range1D_i (cRg_int (by omega) (by omega)), rangeL_S])
end T
set_option maxHeartbeats 1000000
namespace T
open PySem L2 G
local instance : _root_.G.Wo := ⟨fun _ => 0⟩
end T
set_option maxHeartbeats 1000000
namespace T
open PySem L2 G
local instance : _root_.G.Wo := ⟨fun _ => 0⟩
end T
set_option maxHeartbeats 1000000
namespace T
open PySem L2 G
local instance : _root_.G.Wo := ⟨fun _ => 0⟩
end T
set_option maxHeartbeats 1000000
namespace T
open PySem L2 G
local instance : _root_.G.Wo := ⟨fun _ => 0⟩
end T
set_option maxHeartbeats 1000000
namespace W
open PySem L2 G T
local instance : _root_.G.Wo := ⟨fun _ => 0⟩
abbrev one (b : Bool) : Nat := if b then 1 else 0
end W
set_option maxHeartbeats 1000000
namespace W
local instance : _root_.G.Wo := ⟨fun _ => 0⟩
def Lg (x : Int) (n : Nat) : Prop := x.natAbs < 2 ^ n
theorem log_lt {x k : Nat} (h : x < 2 ^ k) (hk : 0 < k) : x.log2 < k := by
  by_cases q : x = 0
  · subst q; simpa using hk
  · exact (Nat.log2_lt q).mpr h
theorem Lg.mono {x : Int} {n m : Nat} (a : Lg x n) (h : n ≤ m) : Lg x m := Nat.lt_of_lt_of_le a (Nat.pow_le_pow_right (by decide) h)
theorem Lg.mul {x y : Int} {n m : Nat} (a : Lg x n) (b : Lg y m) : Lg (x * y) (n + m) := by
  unfold Lg at *; rw [Int.natAbs_mul, Nat.pow_add]; exact Nat.mul_lt_mul'' a b
theorem Lg.add {x y : Int} {n : Nat} (a : Lg x n) (b : Lg y n) : Lg (x + y) (n + 1) := by
  unfold Lg at *
  have := Int.natAbs_add_le x y
  rw [Nat.pow_succ]; omega
theorem Lg.le {x y : Int} {n : Nat} (a : Lg y n) (h : x.natAbs ≤ y.natAbs) : Lg x n := Nat.lt_of_le_of_lt h a
theorem Lg.nat {x n : Nat} (h : x < 2 ^ n) : Lg (x : Int) n := by unfold Lg; rw [Int.natAbs_natCast]; exact h
/-- the lowest terms -/
def low (a b : Int) : Int × Int := (a / (Int.gcd a b : Int), b / (Int.gcd a b : Int))
theorem gcd_pos {a b : Int} (h : 0 < b) : 0 < (Int.gcd a b : Int) := by
  have : 0 < Int.gcd a b := Int.gcd_pos_of_ne_zero_right a (by omega)
  omega
theorem low_spec {a b : Int} (h : 0 < b) : ∃ g : Int, 0 < g ∧ a = g * (low a b).1 ∧ b = g * (low a b).2 := by
  refine ⟨Int.gcd a b, gcd_pos h, ?_, ?_⟩
  · exact (Int.mul_ediv_cancel' (Int.gcd_dvd_left a b)).symm
  · exact (Int.mul_ediv_cancel' (Int.gcd_dvd_right a b)).symm
theorem low_pos {a b : Int} (h : 0 < b) : 0 < (low a b).2 := by
  obtain ⟨g, h1, _, h3⟩ := low_spec (a := a) h
  have : 0 < g * (low a b).2 := by rw [← h3]; exact h
  rcases Int.lt_or_le 0 (low a b).2 with q | q
  · exact q
  · have := Int.mul_le_mul_of_nonneg_left q (Int.le_of_lt h1)
    omega
theorem low_le {a b : Int} (h : 0 < b) : (low a b).1.natAbs ≤ a.natAbs ∧ (low a b).2.natAbs ≤ b.natAbs := by
  have hp := gcd_pos (a := a) h
  refine ⟨?_, ?_⟩
  · show (a / (Int.gcd a b : Int)).natAbs ≤ _
    rw [Int.natAbs_ediv_of_dvd (Int.gcd_dvd_left a b)]; exact Nat.div_le_self _ _
  · show (b / (Int.gcd a b : Int)).natAbs ≤ _
    rw [Int.natAbs_ediv_of_dvd (Int.gcd_dvd_right a b)]; exact Nat.div_le_self _ _
/-- a ratio that stands for a / b, its size -/
structure Rat' (x : Int × Int) (a b : Int) (n : Nat) : Prop where
  e : x = low a b
  p : 0 < b
  l1 : Lg a n
  l2 : Lg b n
theorem Rat'.pos {x : Int × Int} {a b : Int} {n : Nat} (h : Rat' x a b n) : 0 < x.2 := by rw [h.e]; exact low_pos h.p
theorem Rat'.lg {x : Int × Int} {a b : Int} {n : Nat} (h : Rat' x a b n) : Lg x.1 n ∧ Lg x.2 n := by
  rw [h.e]; exact ⟨h.l1.le (low_le h.p).1, h.l2.le (low_le h.p).2⟩
/-- the steps of the greatest common divisor -/
def gcdM (a b : Nat) : Nat := if b = 0 then 0 else (if a < b then 2 else 1) + (a * b).log2
theorem gcdM_lt {a b : Nat} (hb : b ≠ 0) : gcdM b (a % b) < gcdM a b := by
  unfold gcdM
  rw [if_neg hb]
  by_cases hr : a % b = 0
  · rw [if_pos hr]; split <;> omega
  · rw [if_neg hr]
    have hlt := Nat.mod_lt a (Nat.pos_of_ne_zero hb)
    rw [if_neg (by omega)]
    by_cases q : a < b
    · rw [if_pos q, Nat.mod_eq_of_lt q, Nat.mul_comm b a]; omega
    · rw [if_neg q]
      have h1 : b + a % b ≤ a := by
        have := Nat.div_add_mod a b
        have h2 : 1 ≤ a / b := (Nat.one_le_div_iff (Nat.pos_of_ne_zero hb)).mpr (by omega)
        have h3 : b * 1 ≤ b * (a / b) := Nat.mul_le_mul_left _ h2
        omega
      have h2 : 2 * (b * (a % b)) < a * b := by
        have h3 : 2 * (a % b) < a := by omega
        have h4 := Nat.mul_lt_mul_of_pos_right h3 (Nat.pos_of_ne_zero hb)
        calc 2 * (b * (a % b)) = 2 * (a % b) * b := by ac_rfl
          _ < a * b := h4
      have h0 : b * (a % b) ≠ 0 := Nat.mul_ne_zero hb hr
      have h5 : (2 * (b * (a % b))).log2 = (b * (a % b)).log2 + 1 := Nat.log2_two_mul h0
      have h6 : (2 * (b * (a % b))).log2 ≤ (a * b).log2 := by
        rcases Nat.lt_or_ge (a * b).log2 (2 * (b * (a % b))).log2 with q | q
        · have h7 := (Nat.log2_lt (n := a * b) (by omega)).mp q
          have h8 := Nat.log2_self_le (n := 2 * (b * (a % b))) (by omega)
          omega
        · exact q
      omega
theorem gcdM_le {a b n m : Nat} (ha : a < 2 ^ n) (hb : b < 2 ^ m) (h0 : 0 < n + m) : gcdM a b < n + m + 2 := by
  unfold gcdM
  split
  · omega
  · have : a * b < 2 ^ (n + m) := by rw [Nat.pow_add]; exact Nat.mul_lt_mul'' ha hb
    have := log_lt this h0
    split <;> omega
theorem gcd_mod {a b : Int} : Int.gcd b (a % b) = Int.gcd a b := by
  have h := Int.gcd_add_mul_right_right b (a % b) (a / b)
  have e : a % b + a / b * b = a := by have := Int.mul_ediv_add_emod a b; rw [Int.mul_comm] at this; omega
  rw [e] at h
  rw [← h, Int.gcd_comm]
end W
namespace W
local instance : _root_.G.Wo := ⟨fun _ => 0⟩
def ch : Nat → Nat → Nat
  | _, 0 => 1
  | 0, _ + 1 => 0
  | n + 1, k + 1 => ch n k + ch n (k + 1)
theorem ch_zero (n : Nat) : ch n 0 = 1 := by cases n <;> rfl
theorem ch_gt : ∀ {n k : Nat}, n < k → ch n k = 0
  | 0, 0, h => by omega
  | 0, k + 1, _ => rfl
  | n + 1, 0, h => by omega
  | n + 1, k + 1, h => by show ch n k + ch n (k + 1) = 0; rw [ch_gt (by omega), ch_gt (by omega)]
theorem ch_mul : ∀ n k : Nat, (k + 1) * ch (n + 1) (k + 1) = (n + 1) * ch n k
  | 0, 0 => rfl
  | 0, k + 1 => by show (k + 1 + 1) * (ch 0 (k + 1) + ch 0 (k + 2)) = _; rw [ch_gt (n := 0) (k := k + 1) (by omega), ch_gt (n := 0) (k := k + 2) (by omega)]; omega
  | n + 1, 0 => by
    have h := ch_mul n 0
    show (0 + 1) * (ch (n + 1) 0 + ch (n + 1) 1) = _
    rw [ch_zero] at h ⊢
    rw [Nat.mul_add, h]; omega
  | n + 1, k + 1 => by
    have h1 := ch_mul n k
    have h2 := ch_mul n (k + 1)
    show (k + 1 + 1) * (ch (n + 1) (k + 1) + ch (n + 1) (k + 2)) = (n + 1 + 1) * ch (n + 1) (k + 1)
    have e : ch (n + 1) (k + 1) = ch n k + ch n (k + 1) := rfl
    rw [Nat.mul_add, h2, Nat.add_mul (k + 1), h1, Nat.one_mul, Nat.add_mul (n + 1) 1, Nat.one_mul, e, Nat.mul_add]; omega
theorem ch_step (n k : Nat) : (k + 1) * ch n (k + 1) = ch n k * (n - k) := by
  cases n with
  | zero => cases k with
    | zero => rfl
    | succ k => rw [ch_gt (n := 0) (k := k + 1 + 1) (by omega)]; simp
  | succ n =>
    rw [ch_mul]
    -- (n+1) * ch n k = ch (n+1) k * (n + 1 - k)
    cases k with
    | zero => rw [ch_zero, ch_zero]; omega
    | succ k =>
      by_cases hk : k + 1 ≤ n + 1
      · have h1 := ch_mul n k
        have e : ch (n + 1) (k + 1) = ch n k + ch n (k + 1) := rfl
        have h2 : (k + 1) * ch (n + 1) (k + 1) = (n + 1) * ch n k := h1
        obtain ⟨m, hm⟩ : ∃ m, n + 1 = k + 1 + m := ⟨n + 1 - (k + 1), by omega⟩
        have e3 : n + 1 - (k + 1) = m := by omega
        rw [e3]
        have h3 : (n + 1) * ch (n + 1) (k + 1) = (n + 1) * ch n k + (n + 1) * ch n (k + 1) := by rw [e, Nat.mul_add]
        have h4 : (n + 1) * ch (n + 1) (k + 1) = (k + 1) * ch (n + 1) (k + 1) + m * ch (n + 1) (k + 1) := by rw [← Nat.add_mul, ← hm]
        rw [Nat.mul_comm (ch (n + 1) (k + 1)) m]
        omega
      · rw [ch_gt (n := n) (k := k + 1) (by omega), ch_gt (n := n + 1) (k := k + 1) (by omega)]; simp
theorem ch_div (n k : Nat) : ch n k * (n - k) / (k + 1) = ch n (k + 1) := by
  rw [← ch_step, Nat.mul_div_cancel_left _ (by omega)]
theorem ch_le : ∀ n k : Nat, ch n k ≤ 2 ^ n
  | n, 0 => by rw [ch_zero]; exact Nat.one_le_two_pow
  | 0, k + 1 => Nat.zero_le _
  | n + 1, k + 1 => by
    have h1 := ch_le n k
    have h2 := ch_le n (k + 1)
    show ch n k + ch n (k + 1) ≤ _
    rw [Nat.pow_succ]; omega
/-- a sum over 0 .. n - 1 -/
def sm (f : Nat → Int) : Nat → Int
  | 0 => 0
  | n + 1 => sm f n + f n
end W
namespace W
local instance : _root_.G.Wo := ⟨fun _ => 0⟩
/-- the sums of parts -/
def hs : Nat → Int × Int
  | 0 => (0, 1)
  | n + 1 => low ((hs n).1 * ((n + 1 : Nat) : Int) + 1 * (hs n).2) ((hs n).2 * ((n + 1 : Nat) : Int))
def hnum : Nat → Nat
  | 0 => 0
  | n + 1 => hnum n * (n + 1) + fac n
where fac : Nat → Nat
  | 0 => 1
  | n + 1 => fac n * (n + 1)
abbrev hfac := hnum.fac
theorem hfac_pos : ∀ n, 0 < hfac n
  | 0 => Nat.one_pos
  | n + 1 => Nat.mul_pos (hfac_pos n) (Nat.succ_pos n)
theorem hfac_le : ∀ n, n ≤ 63 → hfac n ≤ 64 ^ n
  | 0, _ => Nat.le_refl _
  | n + 1, h => by
    show hfac n * (n + 1) ≤ _
    rw [Nat.pow_succ]; exact Nat.mul_le_mul (hfac_le n (by omega)) (by omega)
theorem pow400 {n : Nat} (h : n ≤ 61) : n * 64 ^ n < 2 ^ 400 ∧ 64 ^ n < 2 ^ 400 := by
  have h2 : (64 : Nat) ^ n = 2 ^ (6 * n) := by rw [Nat.pow_mul]
  have h3 : 2 ^ (6 * n) ≤ 2 ^ 366 := Nat.pow_le_pow_right (by decide) (by omega)
  have h4 : n * 64 ^ n ≤ 2 ^ 6 * 2 ^ 366 := Nat.mul_le_mul (by show n ≤ 64; omega) (by omega)
  rw [← Nat.pow_add] at h4
  have h5 : (2 : Nat) ^ (6 + 366) < 2 ^ 400 := Nat.pow_lt_pow_right (by decide) (by decide)
  have h6 : (2 : Nat) ^ 366 < 2 ^ 400 := Nat.pow_lt_pow_right (by decide) (by decide)
  omega
open PySem L2 G T
theorem cMul_lg {x y : Int} {n m : Nat} (a : Lg x n) (b : Lg y m) (hn : 0 < n) (hm : 0 < m) (h : n + m ≤ 900000) : cMul x y = true := by
  have h1 := log_lt a hn
  have h2 := log_lt b hm
  exact decide_eq_true (by omega)
theorem cDiv_lg {y : Int} {n : Nat} (h0 : 0 < y) (b : Lg y n) (hn : 0 < n) (h : n ≤ 9000) : cDiv y = true := by
  have h2 := log_lt b hn
  unfold cDiv
  rw [decide_eq_true h0, decide_eq_true (by omega : y.natAbs.log2 < 9000)]; rfl
theorem cMul_nat {x y n m : Nat} (a : x < 2 ^ n) (b : y < 2 ^ m) (hn : 0 < n) (hm : 0 < m) (h : n + m ≤ 900000) : cMul ((x : Nat) : Int) ((y : Nat) : Int) = true := by
  have h1 := log_lt a hn
  have h2 := log_lt b hm
  refine decide_eq_true ?_
  rw [Int.natAbs_natCast, Int.natAbs_natCast]; omega
theorem gcd_lg {a b : Int} {n : Nat} (lb : Lg b n) (hb : 0 < b) : Lg (Int.gcd a b : Int) n := by
  refine lb.le ?_
  rw [Int.natAbs_natCast]
  have h : Int.gcd a b ∣ b.natAbs := by
    rw [Int.gcd_eq_natAbs_gcd_natAbs]; exact Nat.gcd_dvd_right _ _
  exact Nat.le_of_dvd (by omega) h
theorem Rat'.ok {x : Int × Int} {a b : Int} {n : Nat} (h : Rat' x a b n) (hn : n ≤ 4000) : Lg x.1 4000 ∧ Lg x.2 4000 ∧ 0 < x.2 := ⟨h.lg.1.mono hn, h.lg.2.mono hn, h.pos⟩
end W
set_option maxHeartbeats 1000000
namespace W
open PySem L2 G T
local instance : _root_.G.Wo := ⟨fun _ => 0⟩
end W
namespace W
open PySem L2 G T
local instance : _root_.G.Wo := ⟨fun _ => 0⟩
abbrev dsum (d : List (Nat × Nat)) : Nat := (d.map (·.2)).sum
abbrev dcnt (d : List (Nat × Nat)) (k : Nat) : Nat := (dget d k).getD 0
def dadd (d : List (Nat × Nat)) (k v : Nat) : List (Nat × Nat) := dput d k (dcnt d k + v)
theorem dget_none {β : Type} {d : List (Nat × β)} {k : Nat} (h : k ∉ dkeys d) : dget d k = none := by
  cases q : dget d k with
  | none => rfl
  | some v => exact absurd (dget_isSome.mp (by rw [q]; rfl)) h
theorem dget_map {β : Type} (k v') {d : List (Nat × β)} (x : Nat) : dget (d.map fun p => if p.1 = k then (p.1, v') else p) x = if x = k then (dget d x).map fun _ => v' else dget d x := by
  induction d with
  | nil => simp [dget]
  | cons p r ih =>
    obtain ⟨a, b⟩ := p
    rw [List.map_cons]
    by_cases h1 : a = k
    · subst h1
      rw [if_pos rfl]
      unfold dget
      by_cases h2 : a = x
      · subst h2; simp
      · rw [if_neg h2, ih, if_neg h2]
    · rw [if_neg h1]
      unfold dget
      by_cases h2 : a = x
      · subst h2; rw [if_pos rfl, if_pos rfl, if_neg h1]
      · rw [if_neg h2, if_neg h2, ih]
theorem dget_snoc {β : Type} {d : List (Nat × β)} {k : Nat} {v : β} (x : Nat) (h : k ∉ dkeys d) : dget (d ++ [(k, v)]) x = if x = k then some v else dget d x := by
  induction d with
  | nil =>
    show (if k = x then some v else none) = _
    by_cases e : x = k
    · subst e; simp
    · rw [if_neg e, if_neg (fun z => e z.symm)]; rfl
  | cons p r ih =>
    obtain ⟨a, b⟩ := p
    have hr : k ∉ dkeys r := fun z => h (List.mem_cons_of_mem _ z)
    have ha : a ≠ k := fun e => h (by rw [← e]; exact List.mem_cons_self)
    show (if a = x then some b else dget (r ++ [(k, v)]) x) = if x = k then some v else (if a = x then some b else dget r x)
    rw [ih hr]
    by_cases e : a = x
    · rw [if_pos e, if_pos e, if_neg (fun z => ha (e.trans z))]
    · rw [if_neg e, if_neg e]
theorem dget_dput {β : Type} (d : List (Nat × β)) (k : Nat) (v : β) (x : Nat) : dget (dput d k v) x = if x = k then some v else dget d x := by
  unfold dput
  by_cases q : (dget d k).isSome = true
  · rw [if_pos q, dget_map]
    by_cases e : x = k
    · subst e
      rw [if_pos rfl, if_pos rfl]
      obtain ⟨b, hb⟩ := Option.isSome_iff_exists.mp q
      rw [hb]; rfl
    · rw [if_neg e, if_neg e]
  · rw [if_neg q]
    exact dget_snoc x fun z => q (dget_isSome.mpr z)
theorem dcnt_dadd (d : List (Nat × Nat)) (k v x : Nat) : dcnt (dadd d k v) x = dcnt d x + if x = k then v else 0 := by
  unfold dadd
  show (dget (dput d k _) x).getD 0 = _
  rw [dget_dput]
  by_cases e : x = k
  · subst e; rw [if_pos rfl, if_pos rfl]; rfl
  · rw [if_neg e, if_neg e]; rfl
theorem dsum_map {k v : Nat} : ∀ {d : List (Nat × Nat)}, (dkeys d).Nodup → k ∈ dkeys d → dsum (d.map fun p => if p.1 = k then (p.1, dcnt d k + v) else p) = dsum d + v := by
  have far : ∀ {r : List (Nat × Nat)} {c : Nat}, k ∉ dkeys r → (r.map fun p => if p.1 = k then (p.1, c) else p) = r := fun {r c} h => by
    refine (List.map_congr_left fun p hp => ?_).trans (List.map_id r)
    rw [if_neg (fun e => h (List.mem_map.mpr ⟨p, hp, e⟩))]; rfl
  have gen : ∀ {d : List (Nat × Nat)} {c : Nat}, (dkeys d).Nodup → k ∈ dkeys d → dsum (d.map fun p => if p.1 = k then (p.1, c) else p) + dcnt d k = dsum d + c := by
    intro d c
    induction d with
    | nil => intro _ h; cases h
    | cons p r ih =>
      obtain ⟨a, b⟩ := p
      intro nd hk
      have nd' := List.nodup_cons.mp nd
      rw [List.map_cons]
      by_cases e : a = k
      · subst e
        rw [if_pos rfl, far nd'.1]
        show (((a, c) :: r).map (·.2)).sum + (dget ((a, b) :: r) a).getD 0 = (((a, b) :: r).map (·.2)).sum + c
        have : dget ((a, b) :: r) a = some b := by unfold dget; rw [if_pos rfl]
        rw [this]
        simp only [List.map_cons, List.sum_cons, Option.getD_some]
        omega
      · rw [if_neg e]
        have hk' : k ∈ dkeys r := (List.mem_cons.mp hk).resolve_left fun z => e z.symm
        have ih := ih nd'.2 hk'
        have : dcnt ((a, b) :: r) k = dcnt r k := by
          show (dget ((a, b) :: r) k).getD 0 = _
          unfold dget; rw [if_neg e]
        rw [this]
        show ((a, b) :: _ |>.map (·.2)).sum + dcnt r k = (((a, b) :: r).map (·.2)).sum + c
        simp only [List.map_cons, List.sum_cons]
        have ih : ((r.map fun p => if p.1 = k then (p.1, c) else p).map (·.2)).sum + dcnt r k = (r.map (·.2)).sum + c := ih
        omega
  intro d nd hk
  have := gen (c := dcnt d k + v) nd hk
  omega
theorem dsum_dadd {d : List (Nat × Nat)} (nd : (dkeys d).Nodup) (k v : Nat) : dsum (dadd d k v) = dsum d + v := by
  unfold dadd dput
  by_cases q : (dget d k).isSome = true
  · rw [if_pos q]; exact dsum_map nd (dget_isSome.mp q)
  · rw [if_neg q]
    have : dcnt d k = 0 := by
      show (dget d k).getD 0 = 0
      rw [dget_none fun z => q (dget_isSome.mpr z)]; rfl
    rw [this, Nat.zero_add]
    show ((d ++ [(k, v)]).map (·.2)).sum = _
    rw [List.map_append, List.sum_append]; simp
theorem nodup_dadd {d : List (Nat × Nat)} (nd : (dkeys d).Nodup) (k v : Nat) : (dkeys (dadd d k v)).Nodup := nodup_dput nd
/-- many pairs counted -/
def daddAll (ps : List (Nat × Nat)) (d : List (Nat × Nat)) : List (Nat × Nat) := ps.foldl (fun d x => dadd d x.1 x.2) d
def psum (ps : List (Nat × Nat)) (k : Nat) : Nat := ((ps.filter fun x => decide (x.1 = k)).map (·.2)).sum
theorem psum_cons (x : Nat × Nat) (ps : List (Nat × Nat)) (k : Nat) : psum (x :: ps) k = (if k = x.1 then x.2 else 0) + psum ps k := by
  unfold psum
  by_cases e : k = x.1
  · rw [List.filter_cons_of_pos (by simp [e]), if_pos e]; simp
  · rw [List.filter_cons_of_neg (by simp; exact fun z => e z.symm), if_neg e]; simp
theorem psum_app (a b : List (Nat × Nat)) (k : Nat) : psum (a ++ b) k = psum a k + psum b k := by
  unfold psum; rw [List.filter_append, List.map_append, List.sum_append]
theorem daddAll_app (a b d : List (Nat × Nat)) : daddAll (a ++ b) d = daddAll b (daddAll a d) := by unfold daddAll; rw [List.foldl_append]
theorem daddAll_spec : ∀ (ps d : List (Nat × Nat)), (dkeys d).Nodup → (dkeys (daddAll ps d)).Nodup ∧ (∀ k, dcnt (daddAll ps d) k = dcnt d k + psum ps k) ∧ dsum (daddAll ps d) = dsum d + (ps.map (·.2)).sum ∧ (daddAll ps d).length ≤ d.length + ps.length
  | [], d, h => ⟨h, fun k => by show dcnt d k = dcnt d k + 0; omega, by show dsum d = dsum d + 0; omega, Nat.le_refl _⟩
  | x :: ps, d, h => by
    obtain ⟨a, b, c, e⟩ := daddAll_spec ps (dadd d x.1 x.2) (nodup_dadd h _ _)
    refine ⟨a, fun k => ?_, ?_, ?_⟩
    · show dcnt (daddAll ps (dadd d x.1 x.2)) k = _
      rw [b, dcnt_dadd, psum_cons]; omega
    · show dsum (daddAll ps (dadd d x.1 x.2)) = _
      rw [c, dsum_dadd h, List.map_cons, List.sum_cons]; omega
    · show (daddAll ps (dadd d x.1 x.2)).length ≤ _
      have := len_dput d x.1 (dcnt d x.1 + x.2)
      have e : (daddAll ps (dadd d x.1 x.2)).length ≤ (dput d x.1 (dcnt d x.1 + x.2)).length + ps.length := e
      rw [List.length_cons]; omega
theorem ch_pos : ∀ {n k : Nat}, k ≤ n → 0 < ch n k
  | n, 0, _ => by rw [ch_zero]; exact Nat.one_pos
  | 0, k + 1, h => by omega
  | n + 1, k + 1, h => by
    have := ch_pos (n := n) (k := k) (by omega)
    show 0 < ch n k + ch n (k + 1); omega
end W
set_option maxHeartbeats 1000000
namespace W
open PySem L2 G T
local instance : _root_.G.Wo := ⟨fun _ => 0⟩
/-- ways to put t things into k heaps -/
def st : Nat → Nat → Nat
  | 0, 0 => 1
  | 0, _ + 1 => 0
  | _ + 1, 0 => 0
  | t + 1, k + 1 => (k + 1) * st t (k + 1) + st t k
/-- a sum over 0 .. n - 1 -/
def su (f : Nat → Nat) : Nat → Nat
  | 0 => 0
  | n + 1 => su f n + f n
theorem su_congr {f g : Nat → Nat} : ∀ {n : Nat}, (∀ i, i < n → f i = g i) → su f n = su g n
  | 0, _ => rfl
  | n + 1, h => by show su f n + f n = su g n + g n; rw [su_congr fun i hi => h i (by omega), h n (by omega)]
theorem su_le {f : Nat → Nat} {c : Nat} : ∀ {n : Nat}, (∀ i, i < n → f i ≤ c) → su f n ≤ n * c
  | 0, _ => by show 0 ≤ _; omega
  | n + 1, h => by
    have h1 := su_le (n := n) fun i hi => h i (by omega)
    have h2 := h n (by omega)
    show su f n + f n ≤ _
    rw [Nat.add_mul, Nat.one_mul]; omega
theorem su_add (f g : Nat → Nat) : ∀ n : Nat, su (fun i => f i + g i) n = su f n + su g n
  | 0 => rfl
  | n + 1 => by show su _ n + (f n + g n) = _; rw [su_add f g n]; show _ = su f n + f n + (su g n + g n); omega
theorem su_split (f : Nat → Nat) (a : Nat) : ∀ n : Nat, su f (a + n) = su f a + su (fun j => f (a + j)) n
  | 0 => rfl
  | n + 1 => by show su f (a + n) + f (a + n) = _; rw [su_split f a n]; show _ = su f a + (su _ n + f (a + n)); omega
theorem su_zero : ∀ {f : Nat → Nat} {n : Nat}, (∀ i, i < n → f i = 0) → su f n = 0
  | _, 0, _ => rfl
  | f, n + 1, h => by show su f n + f n = 0; rw [su_zero fun i hi => h i (by omega), h n (by omega)]
theorem su_one {f : Nat → Nat} {a n : Nat} (ha : a < n) (h : ∀ i, i < n → i ≠ a → f i = 0) : su f n = f a := by
  obtain ⟨m, rfl⟩ : ∃ m, n = a + 1 + m := ⟨n - (a + 1), by omega⟩
  rw [su_split, su_zero (n := m) fun j hj => h _ (by omega) (by omega)]
  show su f a + f a + 0 = f a
  rw [su_zero fun i hi => h i (by omega) (by omega)]; omega
theorem su_range (f : Nat → Nat) : ∀ n : Nat, ((List.range n).map f).sum = su f n
  | 0 => rfl
  | n + 1 => by rw [List.range_succ, List.map_append, List.sum_append, su_range f n]; simp [su]
theorem hfac_lt {n : Nat} (h : n ≤ 61) : hfac n < 2 ^ 400 := Nat.lt_of_le_of_lt (hfac_le n (by omega)) (pow400 h).2
end W
set_option maxHeartbeats 1000000
namespace W
open PySem L2 G T
local instance : _root_.G.Wo := ⟨fun _ => 0⟩
theorem Parts.get {T L : List (List Nat)} (h : Parts T L) : ∀ i, i < T.length → i < L.length ∧ (T[i]!).Sublist L[i]! ∧ (i + 1 < T.length → T[i]! = L[i]!) := by
  induction h with
  | nil => intro i hi; cases hi
  | last hs =>
    intro i hi
    have e : i = 0 := by simp at hi; omega
    subst e
    exact ⟨by simp, hs, fun z => by simp at z⟩
  | cons h ih =>
    intro i hi
    cases i with
    | zero => exact ⟨by simp, .refl _, fun _ => rfl⟩
    | succ i =>
      obtain ⟨a, b, c⟩ := ih i (by simpa using hi)
      refine ⟨by simpa using a, ?_, fun z => ?_⟩
      · rw [get!_cons_succ, get!_cons_succ]; exact b
      · rw [get!_cons_succ, get!_cons_succ]; exact c (by simpa using z)
/-- the orders of some layers -/
def fp (T : List (List Nat)) : Nat → Nat
  | 0 => 1
  | n + 1 => fp T n * hfac (T[n]!).length
end W
set_option maxHeartbeats 1000000
namespace W
open PySem L2 G T
local instance : _root_.G.Wo := ⟨fun _ => 0⟩
/-- far enough -/
theorem far {n t : Nat} (h2 : 2 ≤ n) (h8 : n ≤ 8) (ht : 120 ≤ t) : 9000000 * (n - 1) ^ t ≤ n ^ t := by
  obtain ⟨s, rfl⟩ : ∃ s, t = 120 + s := ⟨t - 120, by omega⟩
  clear ht
  induction s with
  | zero =>
    have : n = 2 ∨ n = 3 ∨ n = 4 ∨ n = 5 ∨ n = 6 ∨ n = 7 ∨ n = 8 := by omega
    rcases this with e | e | e | e | e | e | e <;> subst e <;> decide
  | succ s ih =>
    rw [← Nat.add_assoc, Nat.pow_succ, Nat.pow_succ, ← Nat.mul_assoc]
    exact Nat.mul_le_mul ih (by omega)
end W
set_option maxHeartbeats 1000000
namespace W
open PySem L2 G T
local instance : _root_.G.Wo := ⟨fun _ => 0⟩
end W
set_option maxHeartbeats 1000000
namespace W
open PySem L2 G T
local instance : _root_.G.Wo := ⟨fun _ => 0⟩
end W
set_option maxHeartbeats 1000000
set_option exponentiation.threshold 4000
namespace W
open PySem L2 G T
local instance : _root_.G.Wo := ⟨fun _ => 0⟩
section
variable {q : Pic}
theorem mem_le_sum : ∀ {d : List (Nat × Nat)} {x : Nat × Nat}, x ∈ d → x.2 ≤ dsum d
  | [], _, h => by cases h
  | y :: r, x, h => by
    show x.2 ≤ ((y :: r).map (·.2)).sum
    rw [List.map_cons, List.sum_cons]
    rcases List.mem_cons.mp h with e | h
    · rw [e]; exact Nat.le_add_right _ _
    · exact Nat.le_trans (mem_le_sum h) (Nat.le_add_left _ _)
end
end W
set_option maxHeartbeats 1000000
namespace W
open PySem L2 G T
local instance : _root_.G.Wo := ⟨fun _ => 0⟩
end W
set_option maxHeartbeats 1000000
namespace W
open PySem L2 G T
local instance : _root_.G.Wo := ⟨fun _ => 0⟩
theorem su_first (f : Nat → Nat) (n : Nat) : su f (n + 1) = f 0 + su (fun j => f (j + 1)) n := by
  rw [Nat.add_comm n 1, su_split]
  show 0 + f 0 + su (fun j => f (1 + j)) n = _
  rw [Nat.zero_add]
  congr 1
  exact su_congr fun i _ => by rw [Nat.add_comm 1 i]
theorem vander : ∀ a b c : Nat, su (fun i => ch a i * ch b (c - i)) (c + 1) = ch (a + b) c
  | 0, b, c => by
    rw [su_one (a := 0) (by omega) fun i _ hi => by rw [ch_gt (show 0 < i by omega)]; omega]
    show ch 0 0 * ch b (c - 0) = _
    rw [ch_zero, Nat.one_mul, Nat.zero_add]; rfl
  | a + 1, b, 0 => by
    show 0 + ch (a + 1) 0 * ch b 0 = _
    rw [ch_zero, ch_zero, ch_zero]
  | a + 1, b, c + 1 => by
    have h1 := vander a b c
    have h2 := vander a b (c + 1)
    rw [su_first] at h2 ⊢
    have e : su (fun j => ch (a + 1) (j + 1) * ch b (c + 1 - (j + 1))) (c + 1) = su (fun i => ch a i * ch b (c - i)) (c + 1) + su (fun j => ch a (j + 1) * ch b (c + 1 - (j + 1))) (c + 1) := by
      rw [← su_add]
      refine su_congr fun i _ => ?_
      show (ch a i + ch a (i + 1)) * ch b (c + 1 - (i + 1)) = _
      rw [Nat.add_sub_add_right, Nat.add_mul]
    rw [e, h1]
    have e2 : a + 1 + b = a + b + 1 := by omega
    rw [e2]
    show _ = ch (a + b) c + ch (a + b) (c + 1)
    rw [ch_zero] at h2 ⊢
    omega
theorem ch_fac : ∀ a b : Nat, ch (a + b) a * (hfac a * hfac b) = hfac (a + b)
  | 0, b => by rw [ch_zero, Nat.zero_add]; show 1 * (1 * hfac b) = _; omega
  | a + 1, b => by
    have ih := ch_fac a b
    have h := ch_mul (a + b) a
    have e : a + 1 + b = a + b + 1 := by omega
    rw [e]
    show ch (a + b + 1) (a + 1) * (hfac a * (a + 1) * hfac b) = hfac (a + b) * (a + b + 1)
    rw [← ih]
    calc ch (a + b + 1) (a + 1) * (hfac a * (a + 1) * hfac b) = ((a + 1) * ch (a + b + 1) (a + 1)) * (hfac a * hfac b) := by ac_rfl
      _ = ((a + b + 1) * ch (a + b) a) * (hfac a * hfac b) := by rw [h]
      _ = _ := by ac_rfl
theorem ch_sym (a b : Nat) : ch (a + b) a = ch (a + b) b := by
  have h1 := ch_fac a b
  have h2 := ch_fac b a
  rw [Nat.add_comm b a, Nat.mul_comm (hfac b)] at h2
  exact Nat.eq_of_mul_eq_mul_right (Nat.mul_pos (hfac_pos a) (hfac_pos b)) (h1.trans h2.symm)
/-- how often sizes i and j stand beside each other -/
def wtQ (i j : Nat) : Nat := if i = j then 2 else if i = j + 1 ∨ j = i + 1 then 1 else 0
theorem su_pick (f : Nat → Nat) (a c n : Nat) (h : ∀ i, n ≤ i → f i = 0) : su (fun j => (if j = a then c else 0) * f j) n = c * f a := by
  by_cases q : a < n
  · rw [su_one q fun i _ hi => by rw [if_neg hi, Nat.zero_mul], if_pos rfl]
  · rw [h a (by omega), Nat.mul_zero]
    exact su_zero fun i hi => by rw [if_neg (by omega), Nat.zero_mul]
theorem wt_row (i w : Nat) : su (fun j => wtQ i j * ch w j) (w + 1) = ch (w + 2) (i + 1) := by
  have z : ∀ j, w + 1 ≤ j → ch w j = 0 := fun j hj => ch_gt (by omega)
  cases i with
  | zero =>
    rw [su_congr (g := fun j => (if j = 0 then 2 else 0) * ch w j + (if j = 1 then 1 else 0) * ch w j) fun j _ => ?_]
    · rw [su_add, su_pick _ _ _ _ z, su_pick _ _ _ _ z]
      have e1 : ch (w + 2) 1 = ch (w + 1) 0 + ch (w + 1) 1 := rfl
      have e2 : ch (w + 1) 1 = ch w 0 + ch w 1 := rfl
      rw [Nat.zero_add, e1, e2, ch_zero, ch_zero]; omega
    · rw [← Nat.add_mul]; congr 1; unfold wtQ
      by_cases q : j = 0
      · subst q; rfl
      · by_cases r : j = 1
        · subst r; rfl
        · rw [if_neg (by omega), if_neg (by omega), if_neg q, if_neg r]
  | succ i =>
    rw [su_congr (g := fun j => (if j = i + 1 then 2 else 0) * ch w j + (if j = i + 2 then 1 else 0) * ch w j + (if j = i then 1 else 0) * ch w j) fun j _ => ?_]
    · rw [su_add, su_add, su_pick _ _ _ _ z, su_pick _ _ _ _ z, su_pick _ _ _ _ z]
      have e1 : ch (w + 2) (i + 2) = ch (w + 1) (i + 1) + ch (w + 1) (i + 2) := rfl
      have e2 : ch (w + 1) (i + 1) = ch w i + ch w (i + 1) := rfl
      have e3 : ch (w + 1) (i + 2) = ch w (i + 1) + ch w (i + 2) := rfl
      show _ = ch (w + 2) (i + 2)
      rw [e1, e2, e3]; omega
    · rw [← Nat.add_mul, ← Nat.add_mul]; congr 1; unfold wtQ
      by_cases q : j = i + 1
      · rw [if_pos q.symm, if_pos q, if_neg (by omega), if_neg (by omega)]
      · by_cases r : j = i + 2
        · rw [if_neg (by omega), if_pos (by omega), if_neg q, if_pos r, if_neg (by omega)]
        · by_cases s : j = i
          · rw [if_neg (by omega), if_pos (by omega), if_neg q, if_neg r, if_pos s]
          · rw [if_neg (by omega), if_neg (by omega), if_neg q, if_neg r, if_neg s]
theorem wt_all (h w : Nat) : su (fun i => ch h i * su (fun j => wtQ i j * ch w j) (w + 1)) (h + 1) = ch (h + 1 + (w + 1)) (h + 1) := by
  have v := vander (w + 2) h (h + 1)
  rw [su_first] at v
  have e0 : ch (w + 2) 0 * ch h (h + 1 - 0) = 0 := by rw [ch_gt (show h < h + 1 - 0 by omega)]; omega
  rw [e0, Nat.zero_add] at v
  have e : w + 2 + h = h + 1 + (w + 1) := by omega
  rw [e] at v
  rw [← v]
  refine su_congr fun i hi => ?_
  rw [wt_row, Nat.add_sub_add_right, Nat.mul_comm]
  congr 1
  have := ch_sym i (h - i)
  rw [show i + (h - i) = h by omega] at this
  exact this
end W
set_option maxHeartbeats 1000000
namespace W
open PySem L2 G T
local instance : _root_.G.Wo := ⟨fun _ => 0⟩
end W
set_option maxHeartbeats 1000000
namespace W
open PySem L2 G T
local instance : _root_.G.Wo := ⟨fun _ => 0⟩
end W
set_option maxHeartbeats 1000000
namespace W
open PySem L2 G T
local instance : _root_.G.Wo := ⟨fun _ => 0⟩
end W
set_option maxHeartbeats 1000000
namespace W
open PySem L2 G T
local instance : _root_.G.Wo := ⟨fun _ => 0⟩
theorem rngB {n i x : Nat} (h : (List.range' 1 n)[i]? = some x) : x = i + 1 ∧ i < n := by
  obtain ⟨a, b⟩ := List.getElem?_eq_some_iff.mp h
  rw [List.length_range'] at a
  rw [List.getElem_range'] at b
  omega
theorem getB_eq : ∀ (d : List (Nat × Nat)) (k : Nat), _root_.G.getB d k = dget d k
  | [], _ => rfl
  | (a, b) :: r, k => by
    show (if a = k then some b else _root_.G.getB r k) = if a = k then some b else dget r k
    rw [getB_eq r k]
theorem putB_eq (d : List (Nat × Nat)) (k v : Nat) : _root_.G.putB d k v = dput d k v := by
  unfold _root_.G.putB dput
  rw [getB_eq]
theorem addB_eq (d : List (Nat × Nat)) (k v : Nat) : _root_.G.putB d k ((_root_.G.getB d k).getD 0 + v) = dadd d k v := by
  rw [putB_eq, getB_eq]; rfl
/-- what a layer of so many lines adds -/
def stepB (w : Nat → Nat → Nat) (r c : Nat) (b : Bool) (rec : Nat → List (Nat × Nat)) (m : Nat) : List (Nat × Nat) := (rec m).map fun p => (p.1 + (if b = true then (m + 1) * c else 0), w (if b = true then r else c) (m + 1) * p.2)
abbrev leftN (w : Nat → Nat → Nat) (r c : Nat) (b : Bool) : List (Nat × Nat) := _root_.G.leftB w (r + c) r c b
theorem fold_add (g ww : Nat) (L : List (Nat × Nat)) (f : List (Nat × Nat)) : L.foldl (fun f p => _root_.G.putB f (p.1 + g) ((_root_.G.getB f (p.1 + g)).getD 0 + ww * p.2)) f = daddAll (L.map fun p => (p.1 + g, ww * p.2)) f := by
  unfold daddAll
  rw [List.foldl_map]
  congr 1
  funext f p
  exact addB_eq _ _ _
theorem leftB_zero (w : Nat → Nat → Nat) (n : Nat) (b : Bool) : _root_.G.leftB w n 0 0 b = [(0, 1)] := by
  cases n <;> rfl
theorem leftB_succ (w : Nat → Nat → Nat) {n r c : Nat} (b : Bool) (h : r + c ≠ 0) : _root_.G.leftB w (n + 1) r c b = (List.range (if b = true then r else c)).foldl (fun f m => daddAll (stepB w r c b (fun m => _root_.G.leftB w n (if b = true then r - (m + 1) else r) (if b = true then c else c - (m + 1)) (!b)) m) f) [] := by
  show (if r + c = 0 then _ else _) = _
  rw [if_neg h]
  congr 1
  funext f m
  exact fold_add _ _ _ _
theorem leftB_fuel (w : Nat → Nat → Nat) : ∀ (n m r c : Nat) (b : Bool), r + c ≤ n → r + c ≤ m → _root_.G.leftB w n r c b = _root_.G.leftB w m r c b := by
  intro n
  induction n with
  | zero =>
    intro m r c b h _
    have : r = 0 ∧ c = 0 := by omega
    obtain ⟨rfl, rfl⟩ := this
    rw [leftB_zero, leftB_zero]
  | succ n ih =>
    intro m r c b h h2
    by_cases z : r + c = 0
    · have : r = 0 ∧ c = 0 := by omega
      obtain ⟨rfl, rfl⟩ := this
      rw [leftB_zero, leftB_zero]
    · obtain ⟨m, rfl⟩ : ∃ k, m = k + 1 := ⟨m - 1, by omega⟩
      rw [leftB_succ w b z, leftB_succ w b z]
      refine foldl_congrB fun f k hk => ?_
      have hk := List.mem_range.mp hk
      congr 1
      unfold stepB
      congr 1
      cases b with
      | true =>
        simp only [if_true] at hk ⊢
        exact ih m _ _ _ (by omega) (by omega)
      | false =>
        simp only [Bool.false_eq_true, if_false] at hk ⊢
        exact ih m _ _ _ (by omega) (by omega)
where
  foldl_congrB {α β : Type} {f g : α → β → α} {L : List β} {a : α} (h : ∀ a x, x ∈ L → f a x = g a x) : L.foldl f a = L.foldl g a := by
    induction L generalizing a with
    | nil => rfl
    | cons x L ih =>
      rw [List.foldl_cons, List.foldl_cons, h a x List.mem_cons_self]
      exact ih fun a y hy => h a y (List.mem_cons_of_mem _ hy)
/-- the dict behind some layers' sizes -/
def foundB (w : Nat → Nat → Nat) (r c : Nat) (b : Bool) (n : Nat) : List (Nat × Nat) := (List.range n).foldl (fun f m => daddAll (stepB w r c b (fun m => leftN w (if b = true then r - (m + 1) else r) (if b = true then c else c - (m + 1)) (!b)) m) f) []
theorem foundB_succ (w : Nat → Nat → Nat) (r c : Nat) (b : Bool) (n : Nat) : foundB w r c b (n + 1) = daddAll (stepB w r c b (fun m => leftN w (if b = true then r - (m + 1) else r) (if b = true then c else c - (m + 1)) (!b)) n) (foundB w r c b n) := by
  unfold foundB
  rw [List.range_succ, List.foldl_append]; rfl
theorem leftN_found (w : Nat → Nat → Nat) {r c : Nat} (b : Bool) (h : r + c ≠ 0) : leftN w r c b = foundB w r c b (if b = true then r else c) := by
  unfold leftN foundB
  obtain ⟨n, hn⟩ : ∃ n, r + c = n + 1 := ⟨r + c - 1, by omega⟩
  rw [hn, leftB_succ w b h]
  refine leftB_fuel.foldl_congrB fun f k hk => ?_
  have hk := List.mem_range.mp hk
  congr 1
  unfold stepB
  congr 1
  cases b with
  | true =>
    simp only [if_true] at hk ⊢
    exact leftB_fuel w _ _ _ _ _ (by omega) (Nat.le_refl _)
  | false =>
    simp only [Bool.false_eq_true, if_false] at hk ⊢
    exact leftB_fuel w _ _ _ _ _ (by omega) (Nat.le_refl _)
theorem daddAll_mem : ∀ {ps d : List (Nat × Nat)} {k : Nat}, k ∈ dkeys (daddAll ps d) → k ∈ dkeys d ∨ ∃ p ∈ ps, p.1 = k
  | [], d, k, h => .inl h
  | p :: ps, d, k, h => by
    rcases daddAll_mem (ps := ps) (d := dadd d p.1 p.2) h with h | ⟨q, hq, e⟩
    · rcases dkeys_dput.mp h with h | h
      · exact .inl h
      · exact .inr ⟨p, List.mem_cons_self, h.symm⟩
    · exact .inr ⟨q, List.mem_cons_of_mem _ hq, e⟩
/-- a dict of black cells: few keys, no great sum -/
structure SmallD (M S : Nat) (d : List (Nat × Nat)) : Prop where
  nd : (dkeys d).Nodup
  ks : ∀ k ∈ dkeys d, k ≤ M
  su : dsum d ≤ S
theorem SmallD.len {M S : Nat} {d : List (Nat × Nat)} (h : SmallD M S d) : d.length ≤ M + 1 := by
  have := len_sub (b := List.range (M + 1)) h.nd fun k hk => List.mem_range.mpr (Nat.lt_succ_of_le (h.ks k hk))
  rw [List.length_range] at this
  have e : (dkeys d).length = d.length := List.length_map _
  omega
theorem mem_le_dsum : ∀ {d : List (Nat × Nat)} {p : Nat × Nat}, p ∈ d → p.2 ≤ dsum d
  | [], _, h => by cases h
  | y :: r, x, h => by
    show x.2 ≤ ((y :: r).map (·.2)).sum
    rw [List.map_cons, List.sum_cons]
    rcases List.mem_cons.mp h with h | h
    · rw [h]; omega
    · have := mem_le_dsum h
      exact Nat.le_trans this (Nat.le_add_left _ _)
theorem SmallD.add {M S S' : Nat} {d ps : List (Nat × Nat)} (h : SmallD M S d) (hk : ∀ p ∈ ps, p.1 ≤ M) (hs : (ps.map (·.2)).sum ≤ S') : SmallD M (S + S') (daddAll ps d) := by
  obtain ⟨a, b, c, _⟩ := daddAll_spec ps d h.nd
  refine ⟨a, fun k hk' => ?_, by rw [c]; have := h.su; omega⟩
  rcases daddAll_mem hk' with z | ⟨p, hp, e⟩
  · exact h.ks k z
  · rw [← e]; exact hk p hp
theorem sum_times (g ww : Nat) : ∀ L : List (Nat × Nat), ((L.map fun p => (p.1 + g, ww * p.2)).map (·.2)).sum = ww * dsum L
  | [] => by show 0 = ww * 0; omega
  | p :: L => by
    rw [List.map_cons, List.map_cons, List.sum_cons, sum_times g ww L]
    show ww * p.2 + ww * dsum L = ww * ((p :: L).map (·.2)).sum
    rw [List.map_cons, List.sum_cons, Nat.mul_add]
/-- weights that are not great -/
abbrev FewW (w : Nat → Nat → Nat) : Prop := ∀ n k, n ≤ 8 → w n k ≤ 2 ^ 24
theorem left_small {w : Nat → Nat → Nat} (hw : FewW w) : ∀ (n r c : Nat) (b : Bool), r ≤ 8 → c ≤ 8 → SmallD (r * c) (2 ^ (27 * n)) (_root_.G.leftB w n r c b) := by
  have one : ∀ (M n : Nat), SmallD M (2 ^ (27 * n)) [(0, 1)] := fun M n => ⟨by simp, fun k hk => by
    have : k = 0 := by simpa using hk
    omega, Nat.one_le_two_pow⟩
  intro n
  induction n with
  | zero => intro r c b _ _; exact one _ _
  | succ n ih =>
    intro r c b hr hc
    by_cases z : r + c = 0
    · have : r = 0 ∧ c = 0 := by omega
      obtain ⟨rfl, rfl⟩ := this
      rw [leftB_zero]; exact one _ _
    · rw [leftB_succ w b z]
      have key : ∀ j, j ≤ (if b = true then r else c) → SmallD (r * c) (j * (2 ^ 24 * 2 ^ (27 * n))) ((List.range j).foldl (fun f m => daddAll (stepB w r c b (fun m => _root_.G.leftB w n (if b = true then r - (m + 1) else r) (if b = true then c else c - (m + 1)) (!b)) m) f) []) := by
        intro j
        induction j with
        | zero => intro _; exact ⟨List.nodup_nil, fun k hk => (by cases hk), Nat.zero_le _⟩
        | succ j ihj =>
          intro hj
          rw [List.range_succ, List.foldl_append]
          show SmallD _ _ (daddAll (stepB w r c b _ j) _)
          rw [Nat.succ_mul]
          have rs : SmallD ((if b = true then r - (j + 1) else r) * (if b = true then c else c - (j + 1))) (2 ^ (27 * n)) (_root_.G.leftB w n (if b = true then r - (j + 1) else r) (if b = true then c else c - (j + 1)) (!b)) := ih _ _ _ (by split <;> omega) (by split <;> omega)
          refine (ihj (by omega)).add (fun p hp => ?_) ?_
          · unfold stepB at hp
            obtain ⟨q, hq, rfl⟩ := List.mem_map.mp hp
            have := rs.ks q.1 (List.mem_map.mpr ⟨q, hq, rfl⟩)
            show q.1 + (if b = true then (j + 1) * c else 0) ≤ r * c
            cases b with
            | true =>
              simp only [if_true] at this hj ⊢
              have e : (r - (j + 1)) * c + (j + 1) * c = r * c := by rw [← Nat.add_mul, Nat.sub_add_cancel hj]
              omega
            | false =>
              simp only [Bool.false_eq_true, if_false] at this hj ⊢
              have := Nat.le_trans this (Nat.mul_le_mul_left r (Nat.sub_le c (j + 1)))
              omega
          · unfold stepB
            rw [sum_times]
            exact Nat.mul_le_mul (hw _ _ (by split <;> omega)) rs.su
      have := key _ (Nat.le_refl _)
      refine ⟨this.nd, this.ks, Nat.le_trans this.su ?_⟩
      have l8 : (if b = true then r else c) ≤ 2 ^ 3 := by split <;> omega
      refine Nat.le_trans (Nat.mul_le_mul_right _ l8) ?_
      rw [← Nat.pow_add, ← Nat.pow_add]
      exact Nat.pow_le_pow_right (by decide) (by omega)
theorem found_small {w : Nat → Nat → Nat} (hw : FewW w) {r c : Nat} (b : Bool) (hr : r ≤ 8) (hc : c ≤ 8) : ∀ j, j ≤ (if b = true then r else c) → SmallD (r * c) (j * (2 ^ 24 * 2 ^ 432)) (foundB w r c b j) := by
  intro j
  induction j with
  | zero => intro _; exact ⟨List.nodup_nil, fun k hk => (by cases hk), Nat.zero_le _⟩
  | succ j ihj =>
    intro hj
    rw [foundB_succ, Nat.succ_mul]
    have rs : SmallD ((if b = true then r - (j + 1) else r) * (if b = true then c else c - (j + 1))) (2 ^ (27 * ((if b = true then r - (j + 1) else r) + (if b = true then c else c - (j + 1))))) (leftN w (if b = true then r - (j + 1) else r) (if b = true then c else c - (j + 1)) (!b)) := left_small hw _ _ _ _ (by split <;> omega) (by split <;> omega)
    refine (ihj (by omega)).add (fun p hp => ?_) ?_
    · unfold stepB at hp
      obtain ⟨q, hq, rfl⟩ := List.mem_map.mp hp
      have := rs.ks q.1 (List.mem_map.mpr ⟨q, hq, rfl⟩)
      show q.1 + (if b = true then (j + 1) * c else 0) ≤ r * c
      cases b with
      | true =>
        simp only [if_true] at this hj ⊢
        have e : (r - (j + 1)) * c + (j + 1) * c = r * c := by rw [← Nat.add_mul, Nat.sub_add_cancel hj]
        omega
      | false =>
        simp only [Bool.false_eq_true, if_false] at this hj ⊢
        have := Nat.le_trans this (Nat.mul_le_mul_left r (Nat.sub_le c (j + 1)))
        omega
    · unfold stepB
      rw [sum_times]
      refine Nat.mul_le_mul (hw _ _ (by split <;> omega)) (Nat.le_trans rs.su (Nat.pow_le_pow_right (by decide) ?_))
      split <;> omega
theorem sum_take_le : ∀ (L : List (Nat × Nat)) (j : Nat), ((L.take j).map (·.2)).sum ≤ (L.map (·.2)).sum
  | [], j => by rw [List.take_nil]; exact Nat.le_refl _
  | p :: L, 0 => Nat.zero_le _
  | p :: L, j + 1 => by
    rw [List.take_succ_cons, List.map_cons, List.map_cons, List.sum_cons, List.sum_cons]
    have := sum_take_le L j
    omega
theorem bcB_ch (n : Nat) : ∀ k, _root_.G.bcB n k = ch n k
  | 0 => (ch_zero n).symm
  | k + 1 => by
    show _root_.G.bcB n k * (n - k) / (k + 1) = _
    rw [bcB_ch n k]; exact ch_div n k
theorem few_bc : FewW _root_.G.bcB := fun n k h => by
  rw [bcB_ch]
  exact Nat.le_trans (ch_le n k) (Nat.pow_le_pow_right (by decide) (by omega))
theorem orB_le (n : Nat) : ∀ k, k ≤ n → _root_.G.orB n k ≤ n ^ k
  | 0, _ => Nat.le_refl _
  | k + 1, h => by
    show _root_.G.orB n k * (n - k) ≤ n ^ k * n
    exact Nat.mul_le_mul (orB_le n k (by omega)) (by omega)
theorem orB_over (n : Nat) : ∀ k, n < k → _root_.G.orB n k = 0
  | 0, h => by omega
  | k + 1, h => by
    show _root_.G.orB n k * (n - k) = 0
    rw [Nat.sub_eq_zero_of_le (by omega), Nat.mul_zero]
theorem few_or : FewW _root_.G.orB := fun n k h => by
  rcases Nat.lt_or_ge n k with z | z
  · rw [orB_over n k z]; exact Nat.zero_le _
  · refine Nat.le_trans (orB_le n k z) ?_
    have a : n ^ k ≤ 8 ^ k := Nat.pow_le_pow_left h k
    have b : 8 ^ k ≤ 8 ^ 8 := Nat.pow_le_pow_right (by decide) (by omega)
    exact Nat.le_trans a (Nat.le_trans b (by decide))
theorem orB_pos (n : Nat) : ∀ k, k ≤ n → 0 < _root_.G.orB n k
  | 0, _ => Nat.one_pos
  | k + 1, h => Nat.mul_pos (orB_pos n k (by omega)) (by omega)
/-- both kinds of first layers -/
def bothB (w : Nat → Nat → Nat) (r c : Nat) : List (Nat × Nat) := daddAll (leftN w r c false) (daddAll (leftN w r c true) [])
theorem both_small {w : Nat → Nat → Nat} (hw : FewW w) {r c : Nat} (hr : r ≤ 8) (hc : c ≤ 8) : SmallD (r * c) (2 ^ 433) (bothB w r c) ∧ SmallD (r * c) (2 ^ 433) (daddAll (leftN w r c true) []) := by
  have s : ∀ b, SmallD (r * c) (2 ^ 432) (leftN w r c b) := fun b => by
    have := left_small hw (r + c) r c b hr hc
    exact ⟨this.nd, this.ks, Nat.le_trans this.su (Nat.pow_le_pow_right (by decide) (by omega))⟩
  have k : ∀ b, ∀ p ∈ leftN w r c b, p.1 ≤ r * c := fun b p hp => (s b).ks p.1 (List.mem_map.mpr ⟨p, hp, rfl⟩)
  have z : SmallD (r * c) 0 [] := ⟨List.nodup_nil, fun k hk => (by cases hk), Nat.le_refl _⟩
  have a := z.add (k true) (s true).su
  have b := a.add (k false) (s false).su
  refine ⟨⟨b.nd, b.ks, Nat.le_trans b.su ?_⟩, ⟨a.nd, a.ks, Nat.le_trans a.su ?_⟩⟩
  · have : (2 : Nat) ^ 433 = 2 ^ 432 + 2 ^ 432 := by rw [← Nat.two_mul, ← Nat.pow_succ']
    omega
  · have : (2 : Nat) ^ 433 = 2 ^ 432 + 2 ^ 432 := by rw [← Nat.two_mul, ← Nat.pow_succ']
    omega
theorem both_pos {w : Nat → Nat → Nat} (hp : ∀ n k, k ≤ n → 0 < w n k) {r c : Nat} (hr : 1 ≤ r) (hc : 1 ≤ c) : 0 < dsum (bothB w r c) := by
  have ones : ∀ (n r c : Nat) (b : Bool), r + c ≤ n → ((if b = true then r else c) = 0 → r + c = 0) → 0 < dsum (_root_.G.leftB w n r c b) := by
    intro n
    induction n with
    | zero => intro r c b _ _; exact Nat.one_pos
    | succ n ih =>
      intro r c b h hz
      by_cases z : r + c = 0
      · have : r = 0 ∧ c = 0 := by omega
        obtain ⟨rfl, rfl⟩ := this
        rw [leftB_zero]; exact Nat.one_pos
      · rw [leftB_succ _ b z]
        obtain ⟨m, hm⟩ : ∃ m, (if b = true then r else c) = m + 1 := ⟨(if b = true then r else c) - 1, by omega⟩
        have nd : ∀ j, (dkeys ((List.range j).foldl (fun f m => daddAll (stepB w r c b (fun m => _root_.G.leftB w n (if b = true then r - (m + 1) else r) (if b = true then c else c - (m + 1)) (!b)) m) f) [])).Nodup := by
          intro j
          induction j with
          | zero => exact List.nodup_nil
          | succ j ihj =>
            rw [List.range_succ, List.foldl_append]
            exact (daddAll_spec _ _ ihj).1
        rw [hm, List.range_succ, List.foldl_append]
        show 0 < dsum (daddAll (stepB w r c b _ m) _)
        rw [(daddAll_spec _ _ (nd m)).2.2.1]
        unfold stepB
        rw [sum_times]
        refine Nat.lt_of_lt_of_le ?_ (Nat.le_add_left _ _)
        have cp : 0 < w (if b = true then r else c) (m + 1) := by
          rw [hm]; exact hp _ _ (Nat.le_refl _)
        refine Nat.mul_pos cp (ih _ _ _ ?_ ?_)
        · cases b with
          | true => simp only [if_true] at hm ⊢; omega
          | false => simp only [Bool.false_eq_true, if_false] at hm ⊢; omega
        · cases b with
          | true => simp only [if_true, Bool.not_true, Bool.false_eq_true, if_false] at hm ⊢; omega
          | false => simp only [Bool.false_eq_true, if_false, Bool.not_false, if_true] at hm ⊢; omega
  have e : dsum (bothB w r c) = dsum (leftN w r c true) + dsum (leftN w r c false) := by
    unfold bothB
    have a := daddAll_spec (leftN w r c true) [] List.nodup_nil
    rw [(daddAll_spec (leftN w r c false) _ a.1).2.2.1, a.2.2.1]
    show 0 + _ + _ = _
    rw [Nat.zero_add]
  rw [e]
  have h1 : 0 < dsum (leftN w r c true) := ones (r + c) r c true (Nat.le_refl _) (fun z => by simp only [if_true] at z; omega)
  exact Nat.lt_of_lt_of_le h1 (Nat.le_add_right _ _)
theorem both_ne {r c : Nat} (hr : 1 ≤ r) (hc : 1 ≤ c) : bothB _root_.G.orB r c ≠ [] := fun e => by
  have := both_pos (fun n k h => orB_pos n k h) hr hc
  rw [e] at this
  exact absurd this (by decide)
theorem low_lgs {a b : Int} {n m : Nat} (ha : Lg a n) (hb : Lg b m) (h : 0 < b) : Lg (low a b).1 n ∧ Lg (low a b).2 m := ⟨ha.le (low_le h).1, hb.le (low_le h).2⟩
end W
set_option maxHeartbeats 1000000
namespace W
open PySem L2 G T
local instance : _root_.G.Wo := ⟨fun _ => 0⟩
theorem bin_ch : ∀ n k : Nat, G.bin n k = ch n k
  | n, 0 => by rw [ch_zero]; cases n <;> rfl
  | 0, k + 1 => rfl
  | n + 1, k + 1 => by
    show G.bin n k + G.bin n (k + 1) = ch n k + ch n (k + 1)
    rw [bin_ch n k, bin_ch n (k + 1)]
def wv (r c : Nat) (b : Bool) : Nat := G.waysN (r + c) r c b
theorem waysN_fuel : ∀ (n r c : Nat) (b : Bool), r + c ≤ n → G.waysN n r c b = G.waysN (r + c) r c b := by
  have key : ∀ (n m r c : Nat) (b : Bool), r + c ≤ n → r + c ≤ m → G.waysN n r c b = G.waysN m r c b := by
    intro n
    induction n with
    | zero =>
      intro m r c b h1 h2
      have : r = 0 ∧ c = 0 := by omega
      obtain ⟨rfl, rfl⟩ := this
      cases m with
      | zero => rfl
      | succ m => rfl
    | succ n ih =>
      intro m r c b h1 h2
      by_cases z : r + c = 0
      · have : r = 0 ∧ c = 0 := by omega
        obtain ⟨rfl, rfl⟩ := this
        cases m with
        | zero => rfl
        | succ m => rfl
      · cases m with
        | zero => omega
        | succ m =>
          unfold G.waysN
          rw [if_neg z, if_neg z]
          cases b with
          | true =>
            show ((List.range r).map _).sum = ((List.range r).map _).sum
            congr 1
            exact List.map_congr_left fun x hx => by
              have := List.mem_range.mp hx
              rw [ih m _ _ _ (by omega) (by omega)]
          | false =>
            show ((List.range c).map _).sum = ((List.range c).map _).sum
            congr 1
            exact List.map_congr_left fun x hx => by
              have := List.mem_range.mp hx
              rw [ih m _ _ _ (by omega) (by omega)]
  exact fun n r c b h => key n _ r c b h (Nat.le_refl _)
theorem wv_true {r c : Nat} (h : r + c ≠ 0) : wv r c true = su (fun m => ch r (m + 1) * wv (r - (m + 1)) c false) r := by
  unfold wv
  obtain ⟨n, hn⟩ : ∃ n, r + c = n + 1 := ⟨r + c - 1, by omega⟩
  rw [hn]
  conv => lhs; unfold G.waysN
  rw [if_neg h]
  show ((List.range r).map _).sum = _
  rw [su_range]
  exact su_congr fun m hm => by rw [bin_ch, waysN_fuel n _ _ _ (by omega)]
theorem wv_false {r c : Nat} (h : r + c ≠ 0) : wv r c false = su (fun m => ch c (m + 1) * wv r (c - (m + 1)) true) c := by
  unfold wv
  obtain ⟨n, hn⟩ : ∃ n, r + c = n + 1 := ⟨r + c - 1, by omega⟩
  rw [hn]
  conv => lhs; unfold G.waysN
  rw [if_neg h]
  show ((List.range c).map _).sum = _
  rw [su_range]
  exact su_congr fun m hm => by rw [bin_ch, waysN_fuel n _ _ _ (by omega)]
/-- of no great size -/
theorem wv_small : ∀ (n r c : Nat) (b : Bool), r ≤ 30 → c ≤ 30 → r + c ≤ n → wv r c b ≤ 2 ^ (35 * n)
  | 0, r, c, b, _, _, h => by
    have : r = 0 ∧ c = 0 := by omega
    obtain ⟨rfl, rfl⟩ := this
    exact Nat.le_refl _
  | n + 1, r, c, b, hr, hc, h => by
    by_cases z : r + c = 0
    · have : r = 0 ∧ c = 0 := by omega
      obtain ⟨rfl, rfl⟩ := this
      exact Nat.one_le_two_pow
    · have e : 30 * (2 ^ 30 * 2 ^ (35 * n)) ≤ 2 ^ (35 * (n + 1)) := by
        rw [show 35 * (n + 1) = 5 + (30 + 35 * n) by omega, Nat.pow_add 2 5, Nat.pow_add 2 30]
        exact Nat.mul_le_mul_right _ (by decide)
      cases b with
      | true =>
        rw [wv_true z]
        refine Nat.le_trans (su_le (c := 2 ^ 30 * 2 ^ (35 * n)) fun m hm => ?_) (Nat.le_trans (Nat.mul_le_mul_right _ hr) e)
        exact Nat.mul_le_mul (Nat.le_trans (ch_le r _) (Nat.pow_le_pow_right (by decide) hr)) (wv_small n _ _ _ (by omega) hc (by omega))
      | false =>
        rw [wv_false z]
        refine Nat.le_trans (su_le (c := 2 ^ 30 * 2 ^ (35 * n)) fun m hm => ?_) (Nat.le_trans (Nat.mul_le_mul_right _ hc) e)
        exact Nat.mul_le_mul (Nat.le_trans (ch_le c _) (Nat.pow_le_pow_right (by decide) hc)) (wv_small n _ _ _ hr (by omega) (by omega))
/-- the number of free pictures -/
def frN (r c : Nat) : Nat := if r + c = 0 then 1 else wv r c true + wv r c false
end W
set_option maxHeartbeats 1000000
namespace W
open PySem L2 G T
local instance : _root_.G.Wo := ⟨fun _ => 0⟩
def V_is_int (value : Nat) (Q : Bool → Prop) : Prop := Q (decide (True ∧ (¬False)))
theorem snd_is_int (value : Nat) {Q : Bool → Prop} (h : V_is_int value Q) (tp : List D) : ∃ r : Bool, Q r ∧ m_is_int [eN value] tp = .ok (eB r) tp := by
  obtain ⟨d, t, e1, rfl, r, rfl, q⟩ := T.wp_def (n := 1) (s := b_is_int) (ds := [eN value]) (tp := tp) (Q := fun d t => t = tp ∧ ∃ r : Bool, d = eB r ∧ Q r) (by
    unfold V_is_int at h
    change WP _ _ _ _ (b_is_int [some (eN value)] _)
    unfold b_is_int
    exact T.wp_ret (T.ev_andE (P := True) (Q := (¬False)) (T.ev_isi (d := eN value) (T.ev_v rfl) rfl kb_int_int) (fun hp => (T.ev_notE (P := False) (T.ev_isi (d := eN value) (T.ev_v rfl) rfl kb_int_bool)))) ⟨rfl, (decide (True ∧ (¬False))), rfl, h⟩)
  exact ⟨r, q, e1⟩
abbrev F_is_int (_ : Nat) : Bool := true
theorem ok_is_int (v : Nat) : V_is_int v (· = F_is_int v) := by simp [V_is_int]
theorem t_is_int {value : Nat} (_ : True) (tp : List D) : m_is_int [eN value] tp = .ok (eB (F_is_int value)) tp := by
  obtain ⟨r, rfl, e⟩ := snd_is_int value (ok_is_int value) tp
  exact e
end W
set_option maxHeartbeats 1000000
namespace W
open PySem L2 G T
local instance : _root_.G.Wo := ⟨fun _ => 0⟩
def V_product_to (number : Nat) (Q : Nat → Prop) : Prop := (2 ≤ 1073741824 ∧ (number + 1) ≤ 1073741824) ∧ ∃ I3 : Nat → Nat → Prop, I3 0 1 ∧ (∀ (i7 : Nat) (x8 : Nat), (List.range' 2 ((number + 1) - 2))[i7]? = some x8 → ∀ found : Nat, I3 i7 found → (cMul ((found : Nat) : Int) ((x8 : Nat) : Int) = true) ∧ ∀ found_1 : Nat, found_1 = (found * x8) → I3 (i7 + 1) found_1) ∧ (∀ found : Nat, I3 (List.range' 2 ((number + 1) - 2)).length found → Q found)
theorem snd_product_to (number : Nat) {Q : Nat → Prop} (h : V_product_to number Q) (tp : List D) : ∃ r : Nat, Q r ∧ m_product_to [eN number] tp = .ok (eN r) tp := by
  obtain ⟨d, t, e1, rfl, r, rfl, q⟩ := T.wp_def (n := 3) (s := b_product_to) (ds := [eN number]) (tp := tp) (Q := fun d t => t = tp ∧ ∃ r : Nat, d = eN r ∧ Q r) (by
    unfold V_product_to at h
    change WP _ _ _ _ (b_product_to [some (eN number), none, none] _)
    unfold b_product_to
    refine T.wp_seq (T.wp_set (T.ev_cN 1) ?_)
    change WP _ _ _ _ (At _ [some (eN number), some (eN 1), none] _)
    obtain ⟨c1, h⟩ := h
    obtain ⟨I3, h4, h5, h6⟩ := h
    refine T.wp_seq (T.wp_for (e := eN) (xs := (List.range' 2 ((number + 1) - 2))) (ds := fun x8 => [eN x8]) (fun k env tz => tp = tz ∧ ∃ found : Nat, ∃ g2 : Option D, env = [some (eN number), some (eN found), g2] ∧ I3 k found) (T.it_range2 (a := 2) (n := (number + 1)) c1 (T.ev_cN 2) (T.ev_add (x := number) (y := 1) (T.ev_v rfl) (T.ev_cN 1))) (fun _ => rfl) ⟨rfl, 1, _, rfl, h4⟩ ?_ ?_)
    · intro i7 x8 env t hk hI
      obtain ⟨rfl, found, g2, rfl, h⟩ := hI
      replace h := h5 i7 x8 hk found h
      change WP _ _ _ _ (At _ [some (eN number), some (eN found), some (eN x8)] _)
      obtain ⟨c11, h⟩ := h
      obtain ⟨found_1, d12⟩ : ∃ found_1 : Nat, found_1 = (found * x8) := ⟨_, rfl⟩
      replace h := h found_1 d12
      refine T.wp_set (T.ev_as d12 (e := eN) (T.ev_mul (x := found) (y := x8) c11 (T.ev_v rfl) (T.ev_v rfl))) ?_
      exact ⟨rfl, found_1, _, rfl, h⟩
    rintro _ _ ⟨rfl, found, g2, rfl, h⟩
    replace h := h6 found h
    change WP _ _ _ _ (At _ [some (eN number), some (eN found), g2] _)
    exact T.wp_ret (T.ev_v rfl) ⟨rfl, found, rfl, h⟩)
  exact ⟨r, q, e1⟩
abbrev P_product_to (n : Nat) : Prop := n ≤ 61
abbrev F_product_to (n : Nat) : Nat := hfac n
theorem ok_product_to {n : Nat} (k : P_product_to n) : V_product_to n (· = F_product_to n) := by
  have k : n ≤ 61 := k
  refine ⟨⟨by omega, by omega⟩, fun i f => f = hfac (i + 1), rfl, fun i x hx f hf => ?_, fun f hf => ?_⟩
  · have hi := (List.getElem?_eq_some_iff.mp hx).1
    rw [List.length_range'] at hi
    rw [List.getElem?_range' (by omega)] at hx
    have ex : x = i + 2 := by have := Option.some.inj hx; omega
    subst ex hf
    exact ⟨cMul_nat (hfac_lt (by omega)) (show i + 2 < 2 ^ 7 by omega) (by omega) (by omega) (by omega), fun g hg => hg⟩
  · rw [List.length_range'] at hf
    rw [hf]
    show hfac (n + 1 - 2 + 1) = hfac n
    cases n with
    | zero => rfl
    | succ n => congr 1
theorem t_product_to {number : Nat} (hP : P_product_to number) (tp : List D) : m_product_to [eN number] tp = .ok (eN (F_product_to number)) tp := by
  obtain ⟨r, rfl, e⟩ := snd_product_to number (ok_product_to hP) tp
  exact e
end W
set_option maxHeartbeats 1000000
namespace W
open PySem L2 G T
local instance : _root_.G.Wo := ⟨fun _ => 0⟩
def V_common (one : Int) (other : Int) (Q : Int → Prop) : Prop := ∃ (I1 : Int → Int → Prop) (M2 : Int → Int → Nat), I1 one other ∧ M2 one other < 1000000 ∧ (∀ one_1 : Int, ∀ other_1 : Int, I1 one_1 other_1 → (((other_1 ≠ (0 : Int)) → (0 < other_1) ∧ ∀ other_2 : Int, other_2 = (one_1 % other_1) → (I1 other_1 other_2 ∧ M2 other_1 other_2 < M2 one_1 other_1)) ∧ (¬(other_1 ≠ (0 : Int)) → Q ((one_1.natAbs : Nat) : Int))))
theorem snd_common (one : Int) (other : Int) {Q : Int → Prop} (h : V_common one other Q) (tp : List D) : ∃ r : Int, Q r ∧ m_common [eZ one, eZ other] tp = .ok (eZ r) tp := by
  obtain ⟨d, t, e1, rfl, r, rfl, q⟩ := T.wp_def (n := 2) (s := b_common) (ds := [eZ one, eZ other]) (tp := tp) (Q := fun d t => t = tp ∧ ∃ r : Int, d = eZ r ∧ Q r) (by
    unfold V_common at h
    change WP _ _ _ _ (b_common [some (eZ one), some (eZ other)] _)
    unfold b_common
    obtain ⟨I1, M2, h3, h4, h5⟩ := h
    refine T.wp_seq (T.wp_while (fun n env tz => tp = tz ∧ ∃ one_1 : Int, ∃ other_1 : Int, env = [some (eZ one_1), some (eZ other_1)] ∧ I1 one_1 other_1 ∧ M2 one_1 other_1 = n) ⟨_, h4, rfl, one, other, rfl, h3, rfl⟩ ?_)
    intro n6 env t hI
    obtain ⟨rfl, one_1, other_1, rfl, h, rfl⟩ := hI
    replace h := h5 one_1 other_1 h
    refine ⟨(other_1 ≠ (0 : Int)), inferInstance, (T.ev_bool (T.ev_ne (x := other_1) (y := (0 : Int)) qZ rfl (T.ev_v rfl) (T.ev_c rfl))), fun hp => ?_, fun hn => ?_⟩
    · replace h := h.1 hp
      obtain ⟨c8, h⟩ := h
      obtain ⟨other_2, d9⟩ : ∃ other_2 : Int, other_2 = (one_1 % other_1) := ⟨_, rfl⟩
      replace h := h other_2 d9
      refine T.wp_par (T.ev_cons (T.ev_v rfl) (T.ev_cons (T.ev_as d9 (e := eZ) (T.ev_modZ (x := one_1) (y := other_1) c8 (T.ev_v rfl) (T.ev_v rfl))) T.ev_nil)) rfl ?_
      exact ⟨_, h.2, rfl, other_1, other_2, rfl, h.1, rfl⟩
    · replace h := h.2 hn
      change WP _ _ _ _ (At _ [some (eZ one_1), some (eZ other_1)] _)
      exact T.wp_ret (T.ev_absZ (x := one_1) (T.ev_v rfl)) ⟨rfl, ((one_1.natAbs : Nat) : Int), rfl, h⟩)
  exact ⟨r, q, e1⟩
def gcdZ (one other : Int) : Nat := if other = 0 then 0 else if one < 0 then 2 * other.natAbs.log2 + 4 else gcdM one.natAbs other.natAbs
abbrev P_common (a b : Int) : Prop := Lg a 400000 ∧ Lg b 9000 ∧ 0 < b
abbrev F_common (a b : Int) : Int := (Int.gcd a b : Int)
theorem ok_common {a b : Int} (k : P_common a b) : V_common a b (· = F_common a b) := by
  obtain ⟨la, lb, hb⟩ := k
  refine ⟨fun x y => 0 ≤ y ∧ Int.gcd x y = Int.gcd a b, gcdZ, ⟨by omega, rfl⟩, ?_, fun x y h => ⟨fun hy => ⟨by omega, fun z hz => ?_⟩, fun hy => ?_⟩⟩
  · unfold gcdZ
    split
    · omega
    · split
      · have := log_lt lb (by omega); omega
      · have := gcdM_le la lb (by omega); omega
  · subst hz
    have yp : 0 < y := by omega
    have m0 := Int.emod_nonneg x hy
    have m1 := Int.emod_lt_of_pos x yp
    refine ⟨⟨m0, by rw [gcd_mod]; exact h.2⟩, ?_⟩
    unfold gcdZ
    rw [if_neg hy, if_neg (by omega : ¬ y < 0)]
    by_cases xn : x < 0
    · rw [if_pos xn]
      have h1 : (x % y).natAbs < 2 ^ (y.natAbs.log2 + 1) := by
        have := Nat.lt_log2_self (n := y.natAbs)
        omega
      have := gcdM_le (a := y.natAbs) (b := (x % y).natAbs) (Nat.lt_log2_self) h1 (by omega)
      split <;> omega
    · rw [if_neg xn]
      have e : (x % y).natAbs = x.natAbs % y.natAbs := by
        rw [Int.natAbs_emod x hy, if_pos (.inl (by omega))]
      have := gcdM_lt (a := x.natAbs) (b := y.natAbs) (by omega)
      rw [e]
      split <;> omega
  · have e : y = 0 := by omega
    subst e
    show ((x.natAbs : Nat) : Int) = (Int.gcd a b : Int)
    rw [← h.2, Int.gcd_zero_right]
theorem t_common {one : Int} {other : Int} (hP : P_common one other) (tp : List D) : m_common [eZ one, eZ other] tp = .ok (eZ (F_common one other)) tp := by
  obtain ⟨r, rfl, e⟩ := snd_common one other (ok_common hP) tp
  exact e
end W
set_option maxHeartbeats 1000000
namespace W
open PySem L2 G T
local instance : _root_.G.Wo := ⟨fun _ => 0⟩
def V_splits (many : Nat) (parts : Nat) (Q : Nat → Prop) : Prop := (parts ≤ 1073741824) ∧ (1 ≤ 1000000) ∧ ∃ I4 : Nat → Nat → Prop, I4 0 1 ∧ (∀ (i8 : Nat) (x9 : Nat), (List.range (parts - 1))[i8]? = some x9 → ∀ found : Nat, I4 i8 found → (1 ≤ many) ∧ (x9 ≤ (many - 1)) ∧ (cMul ((found : Nat) : Int) ((((many - 1) - x9) : Nat) : Int) = true) ∧ (cDiv (((x9 + 1) : Nat) : Int) = true) ∧ ∀ found_1 : Nat, found_1 = ((found * ((many - 1) - x9)) / (x9 + 1)) → I4 (i8 + 1) found_1) ∧ (∀ found : Nat, I4 (List.range (parts - 1)).length found → Q found)
theorem snd_splits (many : Nat) (parts : Nat) {Q : Nat → Prop} (h : V_splits many parts Q) (tp : List D) : ∃ r : Nat, Q r ∧ m_splits [eN many, eN parts] tp = .ok (eN r) tp := by
  obtain ⟨d, t, e1, rfl, r, rfl, q⟩ := T.wp_def (n := 4) (s := b_splits) (ds := [eN many, eN parts]) (tp := tp) (Q := fun d t => t = tp ∧ ∃ r : Nat, d = eN r ∧ Q r) (by
    unfold V_splits at h
    change WP _ _ _ _ (b_splits [some (eN many), some (eN parts), none, none] _)
    unfold b_splits
    refine T.wp_seq (T.wp_set (T.ev_cN 1) ?_)
    change WP _ _ _ _ (At _ [some (eN many), some (eN parts), some (eN 1), none] _)
    obtain ⟨c1, h⟩ := h
    obtain ⟨c2, h⟩ := h
    obtain ⟨I4, h5, h6, h7⟩ := h
    refine T.wp_seq (T.wp_for (e := eN) (xs := (List.range (parts - 1))) (ds := fun x9 => [eN x9]) (fun k env tz => tp = tz ∧ ∃ found : Nat, ∃ g3 : Option D, env = [some (eN many), some (eN parts), some (eN found), g3] ∧ I4 k found) (T.it_rangeS (x := parts) (y := 1) c1 c2 (T.ev_v rfl) (T.ev_cN 1)) (fun _ => rfl) ⟨rfl, 1, _, rfl, h5⟩ ?_ ?_)
    · intro i8 x9 env t hk hI
      obtain ⟨rfl, found, g3, rfl, h⟩ := hI
      replace h := h6 i8 x9 hk found h
      change WP _ _ _ _ (At _ [some (eN many), some (eN parts), some (eN found), some (eN x9)] _)
      obtain ⟨c12, h⟩ := h
      obtain ⟨c13, h⟩ := h
      obtain ⟨c14, h⟩ := h
      obtain ⟨c15, h⟩ := h
      obtain ⟨found_1, d16⟩ : ∃ found_1 : Nat, found_1 = ((found * ((many - 1) - x9)) / (x9 + 1)) := ⟨_, rfl⟩
      replace h := h found_1 d16
      refine T.wp_set (T.ev_as d16 (e := eN) (T.ev_fdiv (x := (found * ((many - 1) - x9))) (y := (x9 + 1)) c15 (T.ev_mul (x := found) (y := ((many - 1) - x9)) c14 (T.ev_v rfl) (T.ev_sub (x := (many - 1)) (y := x9) c13 (T.ev_sub (x := many) (y := 1) c12 (T.ev_v rfl) (T.ev_cN 1)) (T.ev_v rfl))) (T.ev_add (x := x9) (y := 1) (T.ev_v rfl) (T.ev_cN 1)))) ?_
      exact ⟨rfl, found_1, _, rfl, h⟩
    rintro _ _ ⟨rfl, found, g3, rfl, h⟩
    replace h := h7 found h
    change WP _ _ _ _ (At _ [some (eN many), some (eN parts), some (eN found), g3] _)
    exact T.wp_ret (T.ev_v rfl) ⟨rfl, found, rfl, h⟩)
  exact ⟨r, q, e1⟩
abbrev P_splits (n k : Nat) : Prop := 1 ≤ k ∧ k ≤ n ∧ n ≤ 30
abbrev F_splits (n k : Nat) : Nat := ch (n - 1) (k - 1)
theorem ok_splits {n k : Nat} (h : P_splits n k) : V_splits n k (· = F_splits n k) := by
  obtain ⟨h1, h2, h3⟩ := h
  refine ⟨by omega, by omega, fun i f => f = ch (n - 1) i, (ch_zero _).symm, fun i x hx f hf => ?_, fun f hf => ?_⟩
  · have hi := (List.getElem?_eq_some_iff.mp hx).1
    rw [List.length_range] at hi
    have ex : x = i := by rw [List.getElem?_range hi] at hx; exact (Option.some.inj hx).symm
    subst ex
    have hf : f = ch (n - 1) x := hf
    have cl : f < 2 ^ 61 := by rw [hf]; exact Nat.lt_of_le_of_lt (ch_le _ _) (Nat.pow_lt_pow_right (by decide) (by omega))
    refine ⟨by omega, by omega, cMul_nat (m := 7) cl (by omega) (by omega) (by omega) (by omega), cDiv_lg (n := 7) (by omega) (Lg.nat (by omega)) (by omega) (by omega), fun g hg => ?_⟩
    show g = ch (n - 1) (x + 1)
    rw [hg, hf]; exact ch_div _ _
  · rw [List.length_range] at hf
    exact hf
theorem t_splits {many : Nat} {parts : Nat} (hP : P_splits many parts) (tp : List D) : m_splits [eN many, eN parts] tp = .ok (eN (F_splits many parts)) tp := by
  obtain ⟨r, rfl, e⟩ := snd_splits many parts (ok_splits hP) tp
  exact e
end W
set_option maxHeartbeats 1000000
namespace W
open PySem L2 G T
local instance : _root_.G.Wo := ⟨fun _ => 0⟩
def V_chosen (many : Nat) (some_ : Nat) (Q : Nat → Prop) : Prop := (some_ ≤ 1073741824) ∧ ∃ I3 : Nat → Nat → Prop, I3 0 1 ∧ (∀ (i7 : Nat) (x8 : Nat), (List.range some_)[i7]? = some x8 → ∀ found : Nat, I3 i7 found → (x8 ≤ many) ∧ (cMul ((found : Nat) : Int) (((many - x8) : Nat) : Int) = true) ∧ (cDiv (((x8 + 1) : Nat) : Int) = true) ∧ ∀ found_1 : Nat, found_1 = ((found * (many - x8)) / (x8 + 1)) → I3 (i7 + 1) found_1) ∧ (∀ found : Nat, I3 (List.range some_).length found → Q found)
theorem snd_chosen (many : Nat) (some_ : Nat) {Q : Nat → Prop} (h : V_chosen many some_ Q) (tp : List D) : ∃ r : Nat, Q r ∧ m_chosen [eN many, eN some_] tp = .ok (eN r) tp := by
  obtain ⟨d, t, e1, rfl, r, rfl, q⟩ := T.wp_def (n := 4) (s := b_chosen) (ds := [eN many, eN some_]) (tp := tp) (Q := fun d t => t = tp ∧ ∃ r : Nat, d = eN r ∧ Q r) (by
    unfold V_chosen at h
    change WP _ _ _ _ (b_chosen [some (eN many), some (eN some_), none, none] _)
    unfold b_chosen
    refine T.wp_seq (T.wp_set (T.ev_cN 1) ?_)
    change WP _ _ _ _ (At _ [some (eN many), some (eN some_), some (eN 1), none] _)
    obtain ⟨c1, h⟩ := h
    obtain ⟨I3, h4, h5, h6⟩ := h
    refine T.wp_seq (T.wp_for (e := eN) (xs := (List.range some_)) (ds := fun x8 => [eN x8]) (fun k env tz => tp = tz ∧ ∃ found : Nat, ∃ g2 : Option D, env = [some (eN many), some (eN some_), some (eN found), g2] ∧ I3 k found) (T.it_range (n := some_) c1 (T.ev_v rfl)) (fun _ => rfl) ⟨rfl, 1, _, rfl, h4⟩ ?_ ?_)
    · intro i7 x8 env t hk hI
      obtain ⟨rfl, found, g2, rfl, h⟩ := hI
      replace h := h5 i7 x8 hk found h
      change WP _ _ _ _ (At _ [some (eN many), some (eN some_), some (eN found), some (eN x8)] _)
      obtain ⟨c11, h⟩ := h
      obtain ⟨c12, h⟩ := h
      obtain ⟨c13, h⟩ := h
      obtain ⟨found_1, d14⟩ : ∃ found_1 : Nat, found_1 = ((found * (many - x8)) / (x8 + 1)) := ⟨_, rfl⟩
      replace h := h found_1 d14
      refine T.wp_set (T.ev_as d14 (e := eN) (T.ev_fdiv (x := (found * (many - x8))) (y := (x8 + 1)) c13 (T.ev_mul (x := found) (y := (many - x8)) c12 (T.ev_v rfl) (T.ev_sub (x := many) (y := x8) c11 (T.ev_v rfl) (T.ev_v rfl))) (T.ev_add (x := x8) (y := 1) (T.ev_v rfl) (T.ev_cN 1)))) ?_
      exact ⟨rfl, found_1, _, rfl, h⟩
    rintro _ _ ⟨rfl, found, g2, rfl, h⟩
    replace h := h6 found h
    change WP _ _ _ _ (At _ [some (eN many), some (eN some_), some (eN found), g2] _)
    exact T.wp_ret (T.ev_v rfl) ⟨rfl, found, rfl, h⟩)
  exact ⟨r, q, e1⟩
abbrev P_chosen (m s : Nat) : Prop := s ≤ m ∧ m ≤ 60
abbrev F_chosen (m s : Nat) : Nat := ch m s
theorem ok_chosen {m s : Nat} (h : P_chosen m s) : V_chosen m s (· = F_chosen m s) := by
  obtain ⟨h1, h2⟩ := h
  refine ⟨by omega, fun i f => f = ch m i, (ch_zero m).symm, fun i x hx f hf => ?_, fun f hf => ?_⟩
  · obtain ⟨e, hi⟩ := range_get hx
    subst e hf
    have cw : ch m x < 2 ^ 61 := Nat.lt_of_le_of_lt (ch_le m x) (Nat.pow_lt_pow_right (by decide) (by omega))
    refine ⟨by omega, cMul_nat cw (show m - x < 2 ^ 7 by omega) (by omega) (by omega) (by omega), cDiv_lg (n := 7) (by omega) (Lg.nat (by omega)) (by omega) (by omega), fun g hg => ?_⟩
    rw [hg]; exact ch_div m x
  · rw [List.length_range] at hf; exact hf
theorem t_chosen {many : Nat} {some_ : Nat} (hP : P_chosen many some_) (tp : List D) : m_chosen [eN many, eN some_] tp = .ok (eN (F_chosen many some_)) tp := by
  obtain ⟨r, rfl, e⟩ := snd_chosen many some_ (ok_chosen hP) tp
  exact e
end W
set_option maxHeartbeats 1000000
namespace W
open PySem L2 G T
local instance : _root_.G.Wo := ⟨fun _ => 0⟩
def V_orders_number (many : Nat) (some_ : Nat) (Q : Nat → Prop) : Prop := (some_ ≤ 1073741824) ∧ ∃ I3 : Nat → Nat → Prop, I3 0 1 ∧ (∀ (i7 : Nat) (x8 : Nat), (List.range some_)[i7]? = some x8 → ∀ found : Nat, I3 i7 found → (x8 ≤ many) ∧ (cMul ((found : Nat) : Int) (((many - x8) : Nat) : Int) = true) ∧ ∀ found_1 : Nat, found_1 = (found * (many - x8)) → I3 (i7 + 1) found_1) ∧ (∀ found : Nat, I3 (List.range some_).length found → Q found)
theorem snd_orders_number (many : Nat) (some_ : Nat) {Q : Nat → Prop} (h : V_orders_number many some_ Q) (tp : List D) : ∃ r : Nat, Q r ∧ m_orders_number [eN many, eN some_] tp = .ok (eN r) tp := by
  obtain ⟨d, t, e1, rfl, r, rfl, q⟩ := T.wp_def (n := 4) (s := b_orders_number) (ds := [eN many, eN some_]) (tp := tp) (Q := fun d t => t = tp ∧ ∃ r : Nat, d = eN r ∧ Q r) (by
    unfold V_orders_number at h
    change WP _ _ _ _ (b_orders_number [some (eN many), some (eN some_), none, none] _)
    unfold b_orders_number
    refine T.wp_seq (T.wp_set (T.ev_cN 1) ?_)
    change WP _ _ _ _ (At _ [some (eN many), some (eN some_), some (eN 1), none] _)
    obtain ⟨c1, h⟩ := h
    obtain ⟨I3, h4, h5, h6⟩ := h
    refine T.wp_seq (T.wp_for (e := eN) (xs := (List.range some_)) (ds := fun x8 => [eN x8]) (fun k env tz => tp = tz ∧ ∃ found : Nat, ∃ g2 : Option D, env = [some (eN many), some (eN some_), some (eN found), g2] ∧ I3 k found) (T.it_range (n := some_) c1 (T.ev_v rfl)) (fun _ => rfl) ⟨rfl, 1, _, rfl, h4⟩ ?_ ?_)
    · intro i7 x8 env t hk hI
      obtain ⟨rfl, found, g2, rfl, h⟩ := hI
      replace h := h5 i7 x8 hk found h
      change WP _ _ _ _ (At _ [some (eN many), some (eN some_), some (eN found), some (eN x8)] _)
      obtain ⟨c11, h⟩ := h
      obtain ⟨c12, h⟩ := h
      obtain ⟨found_1, d13⟩ : ∃ found_1 : Nat, found_1 = (found * (many - x8)) := ⟨_, rfl⟩
      replace h := h found_1 d13
      refine T.wp_set (T.ev_as d13 (e := eN) (T.ev_mul (x := found) (y := (many - x8)) c12 (T.ev_v rfl) (T.ev_sub (x := many) (y := x8) c11 (T.ev_v rfl) (T.ev_v rfl)))) ?_
      exact ⟨rfl, found_1, _, rfl, h⟩
    rintro _ _ ⟨rfl, found, g2, rfl, h⟩
    replace h := h6 found h
    change WP _ _ _ _ (At _ [some (eN many), some (eN some_), some (eN found), g2] _)
    exact T.wp_ret (T.ev_v rfl) ⟨rfl, found, rfl, h⟩)
  exact ⟨r, q, e1⟩
abbrev P_orders_number (m s : Nat) : Prop := s ≤ m ∧ m ≤ 60
abbrev F_orders_number (m s : Nat) : Nat := _root_.G.orB m s
theorem ok_orders_number {m s : Nat} (h : P_orders_number m s) : V_orders_number m s (· = F_orders_number m s) := by
  obtain ⟨h1, h2⟩ := h
  refine ⟨by omega, fun i f => f = _root_.G.orB m i, rfl, fun i x hx f hf => ?_, fun f hf => ?_⟩
  · obtain ⟨e, hi⟩ := range_get hx
    subst e hf
    have cw : _root_.G.orB m x < 2 ^ 361 := by
      refine Nat.lt_of_le_of_lt (orB_le m x (by omega)) ?_
      have a : m ^ x ≤ (2 ^ 6) ^ x := Nat.pow_le_pow_left (by omega) x
      rw [← Nat.pow_mul] at a
      exact Nat.lt_of_le_of_lt a (Nat.pow_lt_pow_right (by decide) (by omega))
    exact ⟨by omega, cMul_nat cw (show m - x < 2 ^ 7 by omega) (by omega) (by omega) (by omega), fun g hg => by rw [hg]; rfl⟩
  · rw [List.length_range] at hf; exact hf
theorem t_orders_number {many : Nat} {some_ : Nat} (hP : P_orders_number many some_) (tp : List D) : m_orders_number [eN many, eN some_] tp = .ok (eN (F_orders_number many some_)) tp := by
  obtain ⟨r, rfl, e⟩ := snd_orders_number many some_ (ok_orders_number hP) tp
  exact e
end W
set_option maxHeartbeats 1000000
namespace W
open PySem L2 G T
local instance : _root_.G.Wo := ⟨fun _ => 0⟩
def V_law_product (number : Nat) (Q : Nat → Prop) : Prop := (2 ≤ 1073741824 ∧ (number + 1) ≤ 1073741824) ∧ ∃ I3 : Nat → Nat → Prop, I3 0 1 ∧ (∀ (i7 : Nat) (x8 : Nat), (List.range' 2 ((number + 1) - 2))[i7]? = some x8 → ∀ found : Nat, I3 i7 found → (cMul ((found : Nat) : Int) ((x8 : Nat) : Int) = true) ∧ ∀ found_1 : Nat, found_1 = (found * x8) → I3 (i7 + 1) found_1) ∧ (∀ found : Nat, I3 (List.range' 2 ((number + 1) - 2)).length found → Q found)
theorem snd_law_product (number : Nat) {Q : Nat → Prop} (h : V_law_product number Q) (tp : List D) : ∃ r : Nat, Q r ∧ m_law_product [eN number] tp = .ok (eN r) tp := by
  obtain ⟨d, t, e1, rfl, r, rfl, q⟩ := T.wp_def (n := 3) (s := b_law_product) (ds := [eN number]) (tp := tp) (Q := fun d t => t = tp ∧ ∃ r : Nat, d = eN r ∧ Q r) (by
    unfold V_law_product at h
    change WP _ _ _ _ (b_law_product [some (eN number), none, none] _)
    unfold b_law_product
    refine T.wp_seq (T.wp_set (T.ev_cN 1) ?_)
    change WP _ _ _ _ (At _ [some (eN number), some (eN 1), none] _)
    obtain ⟨c1, h⟩ := h
    obtain ⟨I3, h4, h5, h6⟩ := h
    refine T.wp_seq (T.wp_for (e := eN) (xs := (List.range' 2 ((number + 1) - 2))) (ds := fun x8 => [eN x8]) (fun k env tz => tp = tz ∧ ∃ found : Nat, ∃ g2 : Option D, env = [some (eN number), some (eN found), g2] ∧ I3 k found) (T.it_range2 (a := 2) (n := (number + 1)) c1 (T.ev_cN 2) (T.ev_add (x := number) (y := 1) (T.ev_v rfl) (T.ev_cN 1))) (fun _ => rfl) ⟨rfl, 1, _, rfl, h4⟩ ?_ ?_)
    · intro i7 x8 env t hk hI
      obtain ⟨rfl, found, g2, rfl, h⟩ := hI
      replace h := h5 i7 x8 hk found h
      change WP _ _ _ _ (At _ [some (eN number), some (eN found), some (eN x8)] _)
      obtain ⟨c11, h⟩ := h
      obtain ⟨found_1, d12⟩ : ∃ found_1 : Nat, found_1 = (found * x8) := ⟨_, rfl⟩
      replace h := h found_1 d12
      refine T.wp_set (T.ev_as d12 (e := eN) (T.ev_mul (x := found) (y := x8) c11 (T.ev_v rfl) (T.ev_v rfl))) ?_
      exact ⟨rfl, found_1, _, rfl, h⟩
    rintro _ _ ⟨rfl, found, g2, rfl, h⟩
    replace h := h6 found h
    change WP _ _ _ _ (At _ [some (eN number), some (eN found), g2] _)
    exact T.wp_ret (T.ev_v rfl) ⟨rfl, found, rfl, h⟩)
  exact ⟨r, q, e1⟩
abbrev P_law_product (n : Nat) : Prop := n ≤ 61
abbrev F_law_product (n : Nat) : Nat := hfac n
theorem ok_law_product {n : Nat} (k : P_law_product n) : V_law_product n (· = F_law_product n) := by
  have k : n ≤ 61 := k
  refine ⟨⟨by omega, by omega⟩, fun i f => f = hfac (i + 1), rfl, fun i x hx f hf => ?_, fun f hf => ?_⟩
  · have hi := (List.getElem?_eq_some_iff.mp hx).1
    rw [List.length_range'] at hi
    rw [List.getElem?_range' (by omega)] at hx
    have ex : x = i + 2 := by have := Option.some.inj hx; omega
    subst ex hf
    exact ⟨cMul_nat (hfac_lt (by omega)) (show i + 2 < 2 ^ 7 by omega) (by omega) (by omega) (by omega), fun g hg => hg⟩
  · rw [List.length_range'] at hf
    rw [hf]
    show hfac (n + 1 - 2 + 1) = hfac n
    cases n with
    | zero => rfl
    | succ n => congr 1
theorem t_law_product {number : Nat} (hP : P_law_product number) (tp : List D) : m_law_product [eN number] tp = .ok (eN (F_law_product number)) tp := by
  obtain ⟨r, rfl, e⟩ := snd_law_product number (ok_law_product hP) tp
  exact e
end W
set_option maxHeartbeats 1000000
namespace W
open PySem L2 G T
local instance : _root_.G.Wo := ⟨fun _ => 0⟩
def V_law_common (one : Int) (other : Int) (Q : Nat → Prop) : Prop := ∃ (I1 : Nat → Nat → Prop) (M2 : Nat → Nat → Nat), I1 one.natAbs other.natAbs ∧ M2 one.natAbs other.natAbs < 1000000 ∧ (∀ one_1 : Nat, ∀ other_1 : Nat, I1 one_1 other_1 → (((other_1 ≠ 0) → (0 < other_1) ∧ ∀ other_2 : Nat, other_2 = (one_1 % other_1) → (I1 other_1 other_2 ∧ M2 other_1 other_2 < M2 one_1 other_1)) ∧ (¬(other_1 ≠ 0) → Q one_1)))
theorem snd_law_common (one : Int) (other : Int) {Q : Nat → Prop} (h : V_law_common one other Q) (tp : List D) : ∃ r : Nat, Q r ∧ m_law_common [eZ one, eZ other] tp = .ok (eN r) tp := by
  obtain ⟨d, t, e1, rfl, r, rfl, q⟩ := T.wp_def (n := 2) (s := b_law_common) (ds := [eZ one, eZ other]) (tp := tp) (Q := fun d t => t = tp ∧ ∃ r : Nat, d = eN r ∧ Q r) (by
    unfold V_law_common at h
    change WP _ _ _ _ (b_law_common [some (eZ one), some (eZ other)] _)
    unfold b_law_common
    refine T.wp_seq (T.wp_par (T.ev_cons (T.ev_absZ (x := one) (T.ev_v rfl)) (T.ev_cons (T.ev_absZ (x := other) (T.ev_v rfl)) T.ev_nil)) rfl ?_)
    change WP _ _ _ _ (At _ [some (eN one.natAbs), some (eN other.natAbs)] _)
    obtain ⟨I1, M2, h3, h4, h5⟩ := h
    refine T.wp_seq (T.wp_while (fun n env tz => tp = tz ∧ ∃ one_1 : Nat, ∃ other_1 : Nat, env = [some (eN one_1), some (eN other_1)] ∧ I1 one_1 other_1 ∧ M2 one_1 other_1 = n) ⟨_, h4, rfl, one.natAbs, other.natAbs, rfl, h3, rfl⟩ ?_)
    intro n6 env t hI
    obtain ⟨rfl, one_1, other_1, rfl, h, rfl⟩ := hI
    replace h := h5 one_1 other_1 h
    refine ⟨(other_1 ≠ 0), inferInstance, (T.ev_bool (T.ev_ne (x := other_1) (y := 0) qN rfl (T.ev_v rfl) (T.ev_cN 0))), fun hp => ?_, fun hn => ?_⟩
    · replace h := h.1 hp
      obtain ⟨c8, h⟩ := h
      obtain ⟨other_2, d9⟩ : ∃ other_2 : Nat, other_2 = (one_1 % other_1) := ⟨_, rfl⟩
      replace h := h other_2 d9
      refine T.wp_par (T.ev_cons (T.ev_v rfl) (T.ev_cons (T.ev_as d9 (e := eN) (T.ev_mod (x := one_1) (y := other_1) c8 (T.ev_v rfl) (T.ev_v rfl))) T.ev_nil)) rfl ?_
      exact ⟨_, h.2, rfl, other_1, other_2, rfl, h.1, rfl⟩
    · replace h := h.2 hn
      change WP _ _ _ _ (At _ [some (eN one_1), some (eN other_1)] _)
      exact T.wp_ret (T.ev_v rfl) ⟨rfl, one_1, rfl, h⟩)
  exact ⟨r, q, e1⟩
abbrev P_law_common (a b : Int) : Prop := Lg a 400000 ∧ Lg b 400000
abbrev F_law_common (a b : Int) : Nat := Int.gcd a b
theorem ok_law_common {a b : Int} (k : P_law_common a b) : V_law_common a b (· = F_law_common a b) := by
  obtain ⟨la, lb⟩ := k
  refine ⟨fun x y => Nat.gcd x y = Nat.gcd a.natAbs b.natAbs, gcdM, rfl, ?_, fun x y h => ⟨fun hy => ⟨by omega, fun z hz => ?_⟩, fun hy => ?_⟩⟩
  · have := gcdM_le la lb (by omega); omega
  · subst hz
    exact ⟨by rw [← h, Nat.gcd_comm x y, Nat.gcd_rec y x, Nat.gcd_comm], gcdM_lt hy⟩
  · have e : y = 0 := by omega
    subst e
    show x = Int.gcd a b
    rw [Int.gcd_eq_natAbs_gcd_natAbs, ← h, Nat.gcd_zero_right]
theorem t_law_common {one : Int} {other : Int} (hP : P_law_common one other) (tp : List D) : m_law_common [eZ one, eZ other] tp = .ok (eN (F_law_common one other)) tp := by
  obtain ⟨r, rfl, e⟩ := snd_law_common one other (ok_law_common hP) tp
  exact e
end W
set_option maxHeartbeats 1000000
namespace W
open PySem L2 G T
local instance : _root_.G.Wo := ⟨fun _ => 0⟩
def V_is_in (value : Nat) (least : Nat) (most : Nat) (Q : Bool → Prop) : Prop := Q (decide (((F_is_int value) = true) ∧ (least ≤ value ∧ value ≤ most)))
theorem snd_is_in (value : Nat) (least : Nat) (most : Nat) {Q : Bool → Prop} (h : V_is_in value least most Q) (tp : List D) : ∃ r : Bool, Q r ∧ m_is_in [eN value, eN least, eN most] tp = .ok (eB r) tp := by
  obtain ⟨d, t, e1, rfl, r, rfl, q⟩ := T.wp_def (n := 3) (s := b_is_in) (ds := [eN value, eN least, eN most]) (tp := tp) (Q := fun d t => t = tp ∧ ∃ r : Bool, d = eB r ∧ Q r) (by
    unfold V_is_in at h
    change WP _ _ _ _ (b_is_in [some (eN value), some (eN least), some (eN most)] _)
    unfold b_is_in
    exact T.wp_ret (T.ev_andE (P := ((F_is_int value) = true)) (Q := (least ≤ value ∧ value ≤ most)) (T.ev_decB (F_is_int value) (T.ev_call (T.ev_cons (T.ev_v rfl) T.ev_nil) rfl (t_is_int True.intro _))) (fun hp => (T.ev_chLeLe (x := least) (y := value) (z := most) (T.ev_v rfl) (T.ev_v rfl) (T.ev_v rfl)))) ⟨rfl, (decide (((F_is_int value) = true) ∧ (least ≤ value ∧ value ≤ most))), rfl, h⟩)
  exact ⟨r, q, e1⟩
def F_is_in (v l m : Nat) : Bool := decide (l ≤ v ∧ v ≤ m)
theorem ok_is_in (v l m : Nat) : V_is_in v l m (· = F_is_in v l m) := by simp [V_is_in, F_is_in]
theorem t_is_in {value : Nat} {least : Nat} {most : Nat} (_ : True) (tp : List D) : m_is_in [eN value, eN least, eN most] tp = .ok (eB (F_is_in value least most)) tp := by
  obtain ⟨r, rfl, e⟩ := snd_is_in value least most (ok_is_in value least most) tp
  exact e
end W
set_option maxHeartbeats 1000000
namespace W
open PySem L2 G T
local instance : _root_.G.Wo := ⟨fun _ => 0⟩
def V_lowered (above : Int) (low : Int) (Q : (Int × Int) → Prop) : Prop := (P_common above low) ∧ ∀ shared : Int, shared = (F_common above low) → (cDiv shared = true) ∧ Q ((above / shared), (low / shared))
theorem snd_lowered (above : Int) (low : Int) {Q : (Int × Int) → Prop} (h : V_lowered above low Q) (tp : List D) : ∃ r : (Int × Int), Q r ∧ m_lowered [eZ above, eZ low] tp = .ok ((eP eZ eZ) r) tp := by
  obtain ⟨d, t, e1, rfl, r, rfl, q⟩ := T.wp_def (n := 3) (s := b_lowered) (ds := [eZ above, eZ low]) (tp := tp) (Q := fun d t => t = tp ∧ ∃ r : (Int × Int), d = (eP eZ eZ) r ∧ Q r) (by
    unfold V_lowered at h
    change WP _ _ _ _ (b_lowered [some (eZ above), some (eZ low), none] _)
    unfold b_lowered
    obtain ⟨c1, h⟩ := h
    obtain ⟨shared, d2⟩ : ∃ shared : Int, shared = (F_common above low) := ⟨_, rfl⟩
    replace h := h shared d2
    refine T.wp_seq (T.wp_set (T.ev_as d2 (e := eZ) (T.ev_call (T.ev_cons (T.ev_v rfl) (T.ev_cons (T.ev_v rfl) T.ev_nil)) rfl (t_common c1 _))) ?_)
    change WP _ _ _ _ (At _ [some (eZ above), some (eZ low), some (eZ shared)] _)
    obtain ⟨c3, h⟩ := h
    exact T.wp_ret (T.ev_tup (ds := [eZ (above / shared), eZ (low / shared)]) (T.ev_cons (T.ev_fdivZ (x := above) (y := shared) c3 (T.ev_v rfl) (T.ev_v rfl)) (T.ev_cons (T.ev_fdivZ (x := low) (y := shared) c3 (T.ev_v rfl) (T.ev_v rfl)) T.ev_nil)) rfl) ⟨rfl, ((above / shared), (low / shared)), rfl, h⟩)
  exact ⟨r, q, e1⟩
abbrev P_lowered (a b : Int) : Prop := Lg a 400000 ∧ Lg b 9000 ∧ 0 < b
abbrev F_lowered (a b : Int) : Int × Int := low a b
theorem ok_lowered {a b : Int} (k : P_lowered a b) : V_lowered a b (· = F_lowered a b) := by
  refine ⟨k, fun s hs => ?_⟩
  subst hs
  exact ⟨cDiv_lg (gcd_pos k.2.2) (gcd_lg k.2.1 k.2.2) (by omega) (by omega), rfl⟩
theorem t_lowered {above : Int} {low : Int} (hP : P_lowered above low) (tp : List D) : m_lowered [eZ above, eZ low] tp = .ok ((eP eZ eZ) (F_lowered above low)) tp := by
  obtain ⟨r, rfl, e⟩ := snd_lowered above low (ok_lowered hP) tp
  exact e
end W
set_option maxHeartbeats 1000000
namespace W
open PySem L2 G T
local instance : _root_.G.Wo := ⟨fun _ => 0⟩
abbrev P_black_left (k : Int × List Str) (r c : Nat) (_ : Bool) : Prop := k = (6, []) ∧ r ≤ 8 ∧ c ≤ 8
def F_black_left (_ : Int × List Str) (r c : Nat) (b : Bool) : List (Nat × Nat) := leftN _root_.G.bcB r c b
abbrev mu_black_left (_ : Int × List Str) (r c : Nat) (_ : Bool) : Nat := r + c
theorem mu_lt_black_left {k : Int × List Str} {r c : Nat} {b : Bool} (h : P_black_left k r c b) : mu_black_left k r c b < 18 := by
  obtain ⟨_, h1, h2⟩ := h
  show r + c < 18; omega
def V_black_left (known : (Int × List Str)) (rows : Nat) (columns : Nat) (is_rows : Bool) (Q : (List (Nat × Nat)) → Prop) : Prop := ((((rows + columns) = 0) → Q [(0, 1)]) ∧ (¬((rows + columns) = 0) → ∀ key : (Nat × Nat × Bool), key = (rows, columns, is_rows) → (1 ≤ 1073741824 ∧ ((if (is_rows = true) then rows else columns) + 1) ≤ 1073741824) ∧ ∃ I9 : Nat → (List (Nat × Nat)) → Prop, I9 0 [] ∧ (∀ (i13 : Nat) (x14 : Nat), (List.range' 1 (((if (is_rows = true) then rows else columns) + 1) - 1))[i13]? = some x14 → ∀ found : (List (Nat × Nat)), I9 i13 found → (P_chosen (if (is_rows = true) then rows else columns) x14) ∧ ∀ ways : Nat, ways = (F_chosen (if (is_rows = true) then rows else columns) x14) → ((is_rows = true) → (x14 ≤ rows)) ∧ (¬(is_rows = true) → (x14 ≤ columns)) ∧ ∀ left : (Nat × Nat), left = (if (is_rows = true) then ((rows - x14), columns) else (rows, (columns - x14))) → ((is_rows = true) → (cMul ((x14 : Nat) : Int) ((columns : Nat) : Int) = true)) ∧ ∀ gain : Nat, gain = (if (is_rows = true) then (x14 * columns) else 0) → (P_black_left known left.1 left.2 (decide (¬(is_rows = true))) ∧ mu_black_left known left.1 left.2 (decide (¬(is_rows = true))) < mu_black_left known rows columns is_rows) ∧ ∃ I30 : Nat → (List (Nat × Nat)) → Prop, I30 0 found ∧ (∀ (i34 : Nat) (x35 : (Nat × Nat)), (F_black_left known left.1 left.2 (decide (¬(is_rows = true))))[i34]? = some x35 → ∀ found_1 : (List (Nat × Nat)), I30 i34 found_1 → (cMul ((ways : Nat) : Int) ((x35.2 : Nat) : Int) = true) ∧ (found_1.length < 1000000) ∧ ∀ found_2 : (List (Nat × Nat)), found_2 = (dput found_1 (x35.1 + gain) (((dget found_1 (x35.1 + gain)).getD 0) + (ways * x35.2))) → I30 (i34 + 1) found_2) ∧ (∀ found_1 : (List (Nat × Nat)), I30 (F_black_left known left.1 left.2 (decide (¬(is_rows = true)))).length found_1 → I9 (i13 + 1) found_1)) ∧ (∀ found : (List (Nat × Nat)), I9 (List.range' 1 (((if (is_rows = true) then rows else columns) + 1) - 1)).length found → (tellsF known.1 known.2 ((nkP3 nkN nkN nkB) key) = some ((eD eN) found)) ∧ Q found)))
theorem snd_black_left (n : Nat) (ih : ∀ (known : (Int × List Str)) (rows : Nat) (columns : Nat) (is_rows : Bool), P_black_left known rows columns is_rows → mu_black_left known rows columns is_rows < n → ∀ tp, m_black_left n [eM known, eN rows, eN columns, eB is_rows] tp = .ok ((eD eN) (F_black_left known rows columns is_rows)) tp) (known : (Int × List Str)) (rows : Nat) (columns : Nat) (is_rows : Bool) {Q : (List (Nat × Nat)) → Prop} (h : V_black_left known rows columns is_rows Q) (hmu : mu_black_left known rows columns is_rows < n + 1) (tp : List D) : ∃ r : (List (Nat × Nat)), Q r ∧ m_black_left (n + 1) [eM known, eN rows, eN columns, eB is_rows] tp = .ok ((eD eN) r) tp := by
  obtain ⟨d, t, e1, rfl, r, rfl, q⟩ := T.wp_def (n := 12) (s := b_black_left (m_black_left n)) (ds := [eM known, eN rows, eN columns, eB is_rows]) (tp := tp) (Q := fun d t => t = tp ∧ ∃ r : (List (Nat × Nat)), d = (eD eN) r ∧ Q r) (by
    unfold V_black_left at h
    change WP _ _ _ _ (b_black_left (m_black_left n) [some (eM known), some (eN rows), some (eN columns), some (eB is_rows), none, none, none, none, none, none, none, none] _)
    unfold b_black_left
    refine T.wp_seq (T.wp_if (P := ((rows + columns) = 0)) (T.ev_bool (T.ev_eq (x := (rows + columns)) (y := 0) qN rfl (T.ev_add (x := rows) (y := columns) (T.ev_v rfl) (T.ev_v rfl)) (T.ev_cN 0))) (fun hp => ?_) (fun hn => ?_))
    · replace h := h.1 hp
      exact T.wp_ret (T.ev_c rfl) ⟨rfl, [(0, 1)], rfl, h⟩
    · replace h := h.2 hn
      refine T.wp_skip ?_
      change WP _ _ _ _ (At _ [some (eM known), some (eN rows), some (eN columns), some (eB is_rows), none, none, none, none, none, none, none, none] _)
      obtain ⟨key, d1⟩ : ∃ key : (Nat × Nat × Bool), key = (rows, columns, is_rows) := ⟨_, rfl⟩
      replace h := h key d1
      refine T.wp_seq (T.wp_set (T.ev_as d1 (e := (eP3 eN eN eB)) (T.ev_tup (ds := [eN rows, eN columns, eB is_rows]) (T.ev_cons (T.ev_v rfl) (T.ev_cons (T.ev_v rfl) (T.ev_cons (T.ev_v rfl) T.ev_nil))) rfl)) ?_)
      change WP _ _ _ _ (At _ [some (eM known), some (eN rows), some (eN columns), some (eB is_rows), some ((eP3 eN eN eB) key), none, none, none, none, none, none, none] _)
      refine T.wp_memo rfl rfl ((kdP3 kdN kdN kdB).h key) (Nat.le_trans ((kdP3 kdN kdN kdB).d key) (by decide)) ?_
      refine T.wp_seq (T.wp_setF (T.ev_c rfl) rfl ?_)
      change WP _ _ _ _ (At _ [some (eM known), some (eN rows), some (eN columns), some (eB is_rows), some ((eP3 eN eN eB) key), some ((eD eN) []), none, none, none, none, none, none] _)
      obtain ⟨c2, h⟩ := h
      obtain ⟨I9, h10, h11, h12⟩ := h
      refine T.wp_seq (T.wp_for (e := eN) (xs := (List.range' 1 (((if (is_rows = true) then rows else columns) + 1) - 1))) (ds := fun x14 => [eN x14]) (fun k env tz => tp = tz ∧ ∃ found : (List (Nat × Nat)), ∃ g3 : Option D, ∃ g4 : Option D, ∃ g5 : Option D, ∃ g6 : Option D, ∃ g7 : Option D, ∃ g8 : Option D, env = [some (eM known), some (eN rows), some (eN columns), some (eB is_rows), some ((eP3 eN eN eB) key), some ((eD eN) found), g3, g4, g5, g6, g7, g8] ∧ I9 k found) (T.it_range2 (a := 1) (n := ((if (is_rows = true) then rows else columns) + 1)) c2 (T.ev_cN 1) (T.ev_add (x := (if (is_rows = true) then rows else columns)) (y := 1) (T.ev_ifE (P := (is_rows = true)) (e := eN) (x := rows) (y := columns) (T.ev_dec is_rows (T.ev_v rfl)) (fun hp => (T.ev_v rfl)) (fun hp => (T.ev_v rfl))) (T.ev_cN 1))) (fun _ => rfl) ⟨rfl, [], _, _, _, _, _, _, rfl, h10⟩ ?_ ?_)
      · intro i13 x14 env t hk hI
        obtain ⟨rfl, found, g3, g4, g5, g6, g7, g8, rfl, h⟩ := hI
        replace h := h11 i13 x14 hk found h
        change WP _ _ _ _ (At _ [some (eM known), some (eN rows), some (eN columns), some (eB is_rows), some ((eP3 eN eN eB) key), some ((eD eN) found), some (eN x14), g4, g5, g6, g7, g8] _)
        obtain ⟨c17, h⟩ := h
        obtain ⟨ways, d18⟩ : ∃ ways : Nat, ways = (F_chosen (if (is_rows = true) then rows else columns) x14) := ⟨_, rfl⟩
        replace h := h ways d18
        refine T.wp_seq (T.wp_set (T.ev_as d18 (e := eN) (T.ev_call (T.ev_cons (T.ev_ifE (P := (is_rows = true)) (e := eN) (x := rows) (y := columns) (T.ev_dec is_rows (T.ev_v rfl)) (fun hp => (T.ev_v rfl)) (fun hp => (T.ev_v rfl))) (T.ev_cons (T.ev_v rfl) T.ev_nil)) rfl (t_chosen c17 _))) ?_)
        change WP _ _ _ _ (At _ [some (eM known), some (eN rows), some (eN columns), some (eB is_rows), some ((eP3 eN eN eB) key), some ((eD eN) found), some (eN x14), some (eN ways), g5, g6, g7, g8] _)
        obtain ⟨c21, h⟩ := h
        obtain ⟨c22, h⟩ := h
        obtain ⟨left, d23⟩ : ∃ left : (Nat × Nat), left = (if (is_rows = true) then ((rows - x14), columns) else (rows, (columns - x14))) := ⟨_, rfl⟩
        replace h := h left d23
        refine T.wp_seq (T.wp_set (T.ev_as d23 (e := (eP eN eN)) (T.ev_ifE (P := (is_rows = true)) (e := (eP eN eN)) (x := ((rows - x14), columns)) (y := (rows, (columns - x14))) (T.ev_dec is_rows (T.ev_v rfl)) (fun hp => have c19 := c21 hp; (T.ev_tup (ds := [eN (rows - x14), eN columns]) (T.ev_cons (T.ev_sub (x := rows) (y := x14) c19 (T.ev_v rfl) (T.ev_v rfl)) (T.ev_cons (T.ev_v rfl) T.ev_nil)) rfl)) (fun hp => have c20 := c22 hp; (T.ev_tup (ds := [eN rows, eN (columns - x14)]) (T.ev_cons (T.ev_v rfl) (T.ev_cons (T.ev_sub (x := columns) (y := x14) c20 (T.ev_v rfl) (T.ev_v rfl)) T.ev_nil)) rfl)))) ?_)
        change WP _ _ _ _ (At _ [some (eM known), some (eN rows), some (eN columns), some (eB is_rows), some ((eP3 eN eN eB) key), some ((eD eN) found), some (eN x14), some (eN ways), some ((eP eN eN) left), g6, g7, g8] _)
        obtain ⟨c25, h⟩ := h
        obtain ⟨gain, d26⟩ : ∃ gain : Nat, gain = (if (is_rows = true) then (x14 * columns) else 0) := ⟨_, rfl⟩
        replace h := h gain d26
        refine T.wp_seq (T.wp_set (T.ev_as d26 (e := eN) (T.ev_ifE (P := (is_rows = true)) (e := eN) (x := (x14 * columns)) (y := 0) (T.ev_dec is_rows (T.ev_v rfl)) (fun hp => have c24 := c25 hp; (T.ev_mul (x := x14) (y := columns) c24 (T.ev_v rfl) (T.ev_v rfl))) (fun hp => (T.ev_cN 0)))) ?_)
        change WP _ _ _ _ (At _ [some (eM known), some (eN rows), some (eN columns), some (eB is_rows), some ((eP3 eN eN eB) key), some ((eD eN) found), some (eN x14), some (eN ways), some ((eP eN eN) left), some (eN gain), g7, g8] _)
        obtain ⟨c27, h⟩ := h
        obtain ⟨I30, h31, h32, h33⟩ := h
        refine T.wp_for (e := (eP eN eN)) (xs := (F_black_left known left.1 left.2 (decide (¬(is_rows = true))))) (ds := fun x35 => [eN x35.1, eN x35.2]) (fun k env tz => tp = tz ∧ ∃ found_1 : (List (Nat × Nat)), ∃ g28 : Option D, ∃ g29 : Option D, env = [some (eM known), some (eN rows), some (eN columns), some (eB is_rows), some ((eP3 eN eN eB) key), some ((eD eN) found_1), some (eN x14), some (eN ways), some ((eP eN eN) left), some (eN gain), g28, g29] ∧ I30 k found_1) (T.it_items (e := eN) (d := (F_black_left known left.1 left.2 (decide (¬(is_rows = true))))) (T.ev_call (T.ev_cons (T.ev_v rfl) (T.ev_cons (T.ev_fst (x := left) (T.ev_v rfl) rfl) (T.ev_cons (T.ev_snd (x := left) (T.ev_v rfl) rfl) (T.ev_cons (T.ev_notE (P := (is_rows = true)) (T.ev_decB is_rows (T.ev_v rfl))) T.ev_nil)))) rfl (ih known left.1 left.2 (decide (¬(is_rows = true))) (c27).1 (Nat.lt_of_lt_of_le (c27).2 (Nat.le_of_lt_succ hmu)) _))) (fun _ => rfl) ⟨rfl, found, _, _, rfl, h31⟩ ?_ ?_
        · intro i34 x35 env t hk hI
          obtain ⟨rfl, found_1, g28, g29, rfl, h⟩ := hI
          replace h := h32 i34 x35 hk found_1 h
          change WP _ _ _ _ (At _ [some (eM known), some (eN rows), some (eN columns), some (eB is_rows), some ((eP3 eN eN eB) key), some ((eD eN) found_1), some (eN x14), some (eN ways), some ((eP eN eN) left), some (eN gain), some (eN x35.1), some (eN x35.2)] _)
          obtain ⟨c38, h⟩ := h
          obtain ⟨c39, h⟩ := h
          obtain ⟨found_2, d40⟩ : ∃ found_2 : (List (Nat × Nat)), found_2 = (dput found_1 (x35.1 + gain) (((dget found_1 (x35.1 + gain)).getD 0) + (ways * x35.2))) := ⟨_, rfl⟩
          replace h := h found_2 d40
          refine T.wp_dset (e := eN) (d := found_1) (k := (x35.1 + gain)) (v := (((dget found_1 (x35.1 + gain)).getD 0) + (ways * x35.2))) rfl (T.ev_add (x := ((dget found_1 (x35.1 + gain)).getD 0)) (y := (ways * x35.2)) (T.ev_get2 (e := eN) (x := (x35.1 + gain)) (y := 0) (d := found_1) (T.ev_v rfl) (T.ev_add (x := x35.1) (y := gain) (T.ev_v rfl) (T.ev_v rfl)) (T.ev_cN 0)) (T.ev_mul (x := ways) (y := x35.2) c38 (T.ev_v rfl) (T.ev_v rfl))) (T.ev_add (x := x35.1) (y := gain) (T.ev_v rfl) (T.ev_v rfl)) c39 ?_
          rw [← d40]
          exact ⟨rfl, found_2, _, _, rfl, h⟩
        rintro _ _ ⟨rfl, found_1, g28, g29, rfl, h⟩
        replace h := h33 found_1 h
        exact ⟨rfl, found_1, _, _, _, _, _, _, rfl, h⟩
      rintro _ _ ⟨rfl, found, g3, g4, g5, g6, g7, g8, rfl, h⟩
      replace h := h12 found h
      change WP _ _ _ _ (At _ [some (eM known), some (eN rows), some (eN columns), some (eB is_rows), some ((eP3 eN eN eB) key), some ((eD eN) found), g3, g4, g5, g6, g7, g8] _)
      exact T.wp_mputL rfl rfl ((kdP3 kdN kdN kdB).h key) (Nat.le_trans ((kdP3 kdN kdN kdB).d key) (by decide)) rfl h.1 (okkv_D found) ⟨rfl, h.1, okvX_D found, ⟨rfl, found, rfl, h.2⟩⟩)
  exact ⟨r, q, e1⟩
theorem ok_black_left {k : Int × List Str} {r c : Nat} {b : Bool} (h : P_black_left k r c b) : V_black_left k r c b (· = F_black_left k r c b) := by
  obtain ⟨hk, hr, hc⟩ := h
  refine ⟨fun z => ?_, fun z key ek => ⟨⟨by omega, by split <;> omega⟩, fun n f => f = foundB _root_.G.bcB r c b n, rfl, fun i x hx f hf => ?_, fun f hf => ⟨?_, ?_⟩⟩⟩
  · have : r = 0 ∧ c = 0 := by omega
    obtain ⟨rfl, rfl⟩ := this
    exact (leftB_zero _ _ _).symm
  · obtain ⟨rfl, hi⟩ := rngB hx
    have hi : i < (if b = true then r else c) := by omega
    have hf : f = foundB _root_.G.bcB r c b i := hf
    have le8 : (if b = true then r else c) ≤ 8 := by split <;> omega
    have el : (if b = true then (r - (i + 1), c) else (r, c - (i + 1))) = ((if b = true then r - (i + 1) else r), if b = true then c else c - (i + 1)) := by cases b <;> rfl
    refine ⟨⟨by omega, by omega⟩, fun ways ew => ⟨fun z => by rw [if_pos z] at hi; omega, fun z => by rw [if_neg z] at hi; omega, fun left hl => ⟨fun z => cMul_nat (n := 4) (m := 4) (by rw [if_pos z] at hi; show i + 1 < 16; omega) (by show c < 16; omega) (by omega) (by omega) (by omega), fun gain hg => ?_⟩⟩⟩
    rw [el] at hl
    subst hl
    have rs : SmallD ((if b = true then r - (i + 1) else r) * (if b = true then c else c - (i + 1))) (2 ^ 432) (leftN _root_.G.bcB (if b = true then r - (i + 1) else r) (if b = true then c else c - (i + 1)) (!b)) := by
      have := left_small few_bc ((if b = true then r - (i + 1) else r) + (if b = true then c else c - (i + 1))) (if b = true then r - (i + 1) else r) (if b = true then c else c - (i + 1)) (!b) (by split <;> omega) (by split <;> omega)
      exact ⟨this.nd, this.ks, Nat.le_trans this.su (Nat.pow_le_pow_right (by decide) (by split <;> omega))⟩
    have eb : (decide ¬b = true) = !b := by cases b <;> rfl
    have fs := found_small few_bc b hr hc
    have ws : ways ≤ 2 ^ 24 := by rw [ew]; show ch _ _ ≤ _; exact Nat.le_trans (ch_le _ _) (Nat.pow_le_pow_right (by decide) (by omega))
    have eF : F_black_left k (if b = true then r - (i + 1) else r) (if b = true then c else c - (i + 1)) (decide ¬b = true) = leftN _root_.G.bcB (if b = true then r - (i + 1) else r) (if b = true then c else c - (i + 1)) (!b) := by rw [eb]; rfl
    have es : stepB _root_.G.bcB r c b (fun m => leftN _root_.G.bcB (if b = true then r - (m + 1) else r) (if b = true then c else c - (m + 1)) (!b)) i = (leftN _root_.G.bcB (if b = true then r - (i + 1) else r) (if b = true then c else c - (i + 1)) (!b)).map fun p => (p.1 + gain, ways * p.2) := by
      unfold stepB
      rw [hg, ew]
      rw [bcB_ch]
    refine ⟨⟨⟨hk, by show (if b = true then r - (i + 1) else r) ≤ 8; split <;> omega, by show (if b = true then c else c - (i + 1)) ≤ 8; split <;> omega⟩, ?_⟩, fun j g => g = daddAll ((stepB _root_.G.bcB r c b (fun m => leftN _root_.G.bcB (if b = true then r - (m + 1) else r) (if b = true then c else c - (m + 1)) (!b)) i).take j) f, rfl, fun j y hy g hg2 => ?_, fun g hg2 => ?_⟩
    · show (if b = true then r - (i + 1) else r) + (if b = true then c else c - (i + 1)) < r + c
      cases b with
      | true => simp only [if_true] at hi ⊢; omega
      | false => simp only [Bool.false_eq_true, if_false] at hi ⊢; omega
    · rw [eF] at hy
      have hg2 : g = daddAll ((stepB _root_.G.bcB r c b (fun m => leftN _root_.G.bcB (if b = true then r - (m + 1) else r) (if b = true then c else c - (m + 1)) (!b)) i).take j) f := hg2
      have ym := List.mem_of_getElem? hy
      have y2 : y.2 ≤ 2 ^ 432 := Nat.le_trans (mem_le_dsum ym) rs.su
      have gs : SmallD (r * c) (i * (2 ^ 24 * 2 ^ 432) + 2 ^ 24 * 2 ^ 432) g := by
        rw [hg2, hf]
        refine (fs i (by omega)).add (fun p hp => ?_) ?_
        · have hp := List.mem_of_mem_take hp
          rw [es] at hp
          obtain ⟨q, hq, rfl⟩ := List.mem_map.mp hp
          have := rs.ks q.1 (List.mem_map.mpr ⟨q, hq, rfl⟩)
          show q.1 + gain ≤ r * c
          rw [hg]
          cases b with
          | true =>
            simp only [if_true] at this hi ⊢
            have e : (r - (i + 1)) * c + (i + 1) * c = r * c := by rw [← Nat.add_mul, Nat.sub_add_cancel hi]
            omega
          | false =>
            simp only [Bool.false_eq_true, if_false] at this hi ⊢
            have := Nat.le_trans this (Nat.mul_le_mul_left r (Nat.sub_le c (i + 1)))
            omega
        · refine Nat.le_trans (sum_take_le _ _) ?_
          rw [es, sum_times]
          exact Nat.mul_le_mul ws rs.su
      refine ⟨cMul_nat (n := 25) (m := 433) (Nat.lt_of_le_of_lt ws (by decide)) (Nat.lt_of_le_of_lt y2 (Nat.pow_lt_pow_right (by decide) (by omega))) (by omega) (by omega) (by omega), ?_, fun g1 e1 => ?_⟩
      · have := gs.len
        have : r * c ≤ 64 := Nat.mul_le_mul hr hc
        omega
      · have ht : (stepB _root_.G.bcB r c b (fun m => leftN _root_.G.bcB (if b = true then r - (m + 1) else r) (if b = true then c else c - (m + 1)) (!b)) i)[j]? = some (y.1 + gain, ways * y.2) := by
          rw [es, List.getElem?_map, hy]; rfl
        show g1 = daddAll (List.take (j + 1) _) f
        rw [take_snoc ht, daddAll_app, ← hg2, e1]
        rfl
    · rw [eF] at hg2
      have hg2 : g = daddAll ((stepB _root_.G.bcB r c b (fun m => leftN _root_.G.bcB (if b = true then r - (m + 1) else r) (if b = true then c else c - (m + 1)) (!b)) i).take (leftN _root_.G.bcB (if b = true then r - (i + 1) else r) (if b = true then c else c - (i + 1)) (!b)).length) f := hg2
      show g = foundB _root_.G.bcB r c b (i + 1)
      rw [foundB_succ, ← hf, hg2, List.take_of_length_le]
      rw [es, List.length_map]; exact Nat.le_refl _
  · have hf : f = foundB _root_.G.bcB r c b (List.range' 1 ((if b = true then r else c) + 1 - 1)).length := hf
    rw [List.length_range', Nat.add_sub_cancel, ← leftN_found _ b z] at hf
    subst hk ek
    rw [hf]
    exact _root_.G.tells_six r c b hr hc
  · have hf : f = foundB _root_.G.bcB r c b (List.range' 1 ((if b = true then r else c) + 1 - 1)).length := hf
    rw [List.length_range', Nat.add_sub_cancel, ← leftN_found _ b z] at hf
    exact hf
theorem t_black_left_n : ∀ (n : Nat) (known : (Int × List Str)) (rows : Nat) (columns : Nat) (is_rows : Bool), P_black_left known rows columns is_rows → mu_black_left known rows columns is_rows < n → ∀ tp, m_black_left n [eM known, eN rows, eN columns, eB is_rows] tp = .ok ((eD eN) (F_black_left known rows columns is_rows)) tp := fun n => by
  induction n with
  | zero => intro known rows columns is_rows _ h; exact absurd h (Nat.not_lt_zero _)
  | succ n ih =>
    intro known rows columns is_rows hP hm tp
    obtain ⟨r, rfl, e⟩ := snd_black_left n ih known rows columns is_rows (ok_black_left hP) hm tp
    exact e
theorem t_black_left {known : (Int × List Str)} {rows : Nat} {columns : Nat} {is_rows : Bool} (hP : P_black_left known rows columns is_rows) (tp : List D) : m_black_left 18 [eM known, eN rows, eN columns, eB is_rows] tp = .ok ((eD eN) (F_black_left known rows columns is_rows)) tp := t_black_left_n 18 known rows columns is_rows hP (mu_lt_black_left hP) tp
end W
set_option maxHeartbeats 1000000
namespace W
open PySem L2 G T
local instance : _root_.G.Wo := ⟨fun _ => 0⟩
abbrev P_run_left (k : Int × List Str) (r c : Nat) (_ : Bool) : Prop := k = (7, []) ∧ r ≤ 8 ∧ c ≤ 8
def F_run_left (_ : Int × List Str) (r c : Nat) (b : Bool) : List (Nat × Nat) := leftN _root_.G.orB r c b
abbrev mu_run_left (_ : Int × List Str) (r c : Nat) (_ : Bool) : Nat := r + c
theorem mu_lt_run_left {k : Int × List Str} {r c : Nat} {b : Bool} (h : P_run_left k r c b) : mu_run_left k r c b < 18 := by
  obtain ⟨_, h1, h2⟩ := h
  show r + c < 18; omega
def V_run_left (known : (Int × List Str)) (rows : Nat) (columns : Nat) (is_rows : Bool) (Q : (List (Nat × Nat)) → Prop) : Prop := ((((rows + columns) = 0) → Q [(0, 1)]) ∧ (¬((rows + columns) = 0) → ∀ key : (Nat × Nat × Bool), key = (rows, columns, is_rows) → (1 ≤ 1073741824 ∧ ((if (is_rows = true) then rows else columns) + 1) ≤ 1073741824) ∧ ∃ I9 : Nat → (List (Nat × Nat)) → Prop, I9 0 [] ∧ (∀ (i13 : Nat) (x14 : Nat), (List.range' 1 (((if (is_rows = true) then rows else columns) + 1) - 1))[i13]? = some x14 → ∀ found : (List (Nat × Nat)), I9 i13 found → (P_orders_number (if (is_rows = true) then rows else columns) x14) ∧ ∀ ways : Nat, ways = (F_orders_number (if (is_rows = true) then rows else columns) x14) → ((is_rows = true) → (x14 ≤ rows)) ∧ (¬(is_rows = true) → (x14 ≤ columns)) ∧ ∀ left : (Nat × Nat), left = (if (is_rows = true) then ((rows - x14), columns) else (rows, (columns - x14))) → ((is_rows = true) → (cMul ((x14 : Nat) : Int) ((columns : Nat) : Int) = true)) ∧ ∀ gain : Nat, gain = (if (is_rows = true) then (x14 * columns) else 0) → (P_run_left known left.1 left.2 (decide (¬(is_rows = true))) ∧ mu_run_left known left.1 left.2 (decide (¬(is_rows = true))) < mu_run_left known rows columns is_rows) ∧ ∃ I30 : Nat → (List (Nat × Nat)) → Prop, I30 0 found ∧ (∀ (i34 : Nat) (x35 : (Nat × Nat)), (F_run_left known left.1 left.2 (decide (¬(is_rows = true))))[i34]? = some x35 → ∀ found_1 : (List (Nat × Nat)), I30 i34 found_1 → (cMul ((ways : Nat) : Int) ((x35.2 : Nat) : Int) = true) ∧ (found_1.length < 1000000) ∧ ∀ found_2 : (List (Nat × Nat)), found_2 = (dput found_1 (x35.1 + gain) (((dget found_1 (x35.1 + gain)).getD 0) + (ways * x35.2))) → I30 (i34 + 1) found_2) ∧ (∀ found_1 : (List (Nat × Nat)), I30 (F_run_left known left.1 left.2 (decide (¬(is_rows = true)))).length found_1 → I9 (i13 + 1) found_1)) ∧ (∀ found : (List (Nat × Nat)), I9 (List.range' 1 (((if (is_rows = true) then rows else columns) + 1) - 1)).length found → (tellsF known.1 known.2 ((nkP3 nkN nkN nkB) key) = some ((eD eN) found)) ∧ Q found)))
theorem snd_run_left (n : Nat) (ih : ∀ (known : (Int × List Str)) (rows : Nat) (columns : Nat) (is_rows : Bool), P_run_left known rows columns is_rows → mu_run_left known rows columns is_rows < n → ∀ tp, m_run_left n [eM known, eN rows, eN columns, eB is_rows] tp = .ok ((eD eN) (F_run_left known rows columns is_rows)) tp) (known : (Int × List Str)) (rows : Nat) (columns : Nat) (is_rows : Bool) {Q : (List (Nat × Nat)) → Prop} (h : V_run_left known rows columns is_rows Q) (hmu : mu_run_left known rows columns is_rows < n + 1) (tp : List D) : ∃ r : (List (Nat × Nat)), Q r ∧ m_run_left (n + 1) [eM known, eN rows, eN columns, eB is_rows] tp = .ok ((eD eN) r) tp := by
  obtain ⟨d, t, e1, rfl, r, rfl, q⟩ := T.wp_def (n := 12) (s := b_run_left (m_run_left n)) (ds := [eM known, eN rows, eN columns, eB is_rows]) (tp := tp) (Q := fun d t => t = tp ∧ ∃ r : (List (Nat × Nat)), d = (eD eN) r ∧ Q r) (by
    unfold V_run_left at h
    change WP _ _ _ _ (b_run_left (m_run_left n) [some (eM known), some (eN rows), some (eN columns), some (eB is_rows), none, none, none, none, none, none, none, none] _)
    unfold b_run_left
    refine T.wp_seq (T.wp_if (P := ((rows + columns) = 0)) (T.ev_bool (T.ev_eq (x := (rows + columns)) (y := 0) qN rfl (T.ev_add (x := rows) (y := columns) (T.ev_v rfl) (T.ev_v rfl)) (T.ev_cN 0))) (fun hp => ?_) (fun hn => ?_))
    · replace h := h.1 hp
      exact T.wp_ret (T.ev_c rfl) ⟨rfl, [(0, 1)], rfl, h⟩
    · replace h := h.2 hn
      refine T.wp_skip ?_
      change WP _ _ _ _ (At _ [some (eM known), some (eN rows), some (eN columns), some (eB is_rows), none, none, none, none, none, none, none, none] _)
      obtain ⟨key, d1⟩ : ∃ key : (Nat × Nat × Bool), key = (rows, columns, is_rows) := ⟨_, rfl⟩
      replace h := h key d1
      refine T.wp_seq (T.wp_set (T.ev_as d1 (e := (eP3 eN eN eB)) (T.ev_tup (ds := [eN rows, eN columns, eB is_rows]) (T.ev_cons (T.ev_v rfl) (T.ev_cons (T.ev_v rfl) (T.ev_cons (T.ev_v rfl) T.ev_nil))) rfl)) ?_)
      change WP _ _ _ _ (At _ [some (eM known), some (eN rows), some (eN columns), some (eB is_rows), some ((eP3 eN eN eB) key), none, none, none, none, none, none, none] _)
      refine T.wp_memo rfl rfl ((kdP3 kdN kdN kdB).h key) (Nat.le_trans ((kdP3 kdN kdN kdB).d key) (by decide)) ?_
      refine T.wp_seq (T.wp_setF (T.ev_c rfl) rfl ?_)
      change WP _ _ _ _ (At _ [some (eM known), some (eN rows), some (eN columns), some (eB is_rows), some ((eP3 eN eN eB) key), some ((eD eN) []), none, none, none, none, none, none] _)
      obtain ⟨c2, h⟩ := h
      obtain ⟨I9, h10, h11, h12⟩ := h
      refine T.wp_seq (T.wp_for (e := eN) (xs := (List.range' 1 (((if (is_rows = true) then rows else columns) + 1) - 1))) (ds := fun x14 => [eN x14]) (fun k env tz => tp = tz ∧ ∃ found : (List (Nat × Nat)), ∃ g3 : Option D, ∃ g4 : Option D, ∃ g5 : Option D, ∃ g6 : Option D, ∃ g7 : Option D, ∃ g8 : Option D, env = [some (eM known), some (eN rows), some (eN columns), some (eB is_rows), some ((eP3 eN eN eB) key), some ((eD eN) found), g3, g4, g5, g6, g7, g8] ∧ I9 k found) (T.it_range2 (a := 1) (n := ((if (is_rows = true) then rows else columns) + 1)) c2 (T.ev_cN 1) (T.ev_add (x := (if (is_rows = true) then rows else columns)) (y := 1) (T.ev_ifE (P := (is_rows = true)) (e := eN) (x := rows) (y := columns) (T.ev_dec is_rows (T.ev_v rfl)) (fun hp => (T.ev_v rfl)) (fun hp => (T.ev_v rfl))) (T.ev_cN 1))) (fun _ => rfl) ⟨rfl, [], _, _, _, _, _, _, rfl, h10⟩ ?_ ?_)
      · intro i13 x14 env t hk hI
        obtain ⟨rfl, found, g3, g4, g5, g6, g7, g8, rfl, h⟩ := hI
        replace h := h11 i13 x14 hk found h
        change WP _ _ _ _ (At _ [some (eM known), some (eN rows), some (eN columns), some (eB is_rows), some ((eP3 eN eN eB) key), some ((eD eN) found), some (eN x14), g4, g5, g6, g7, g8] _)
        obtain ⟨c17, h⟩ := h
        obtain ⟨ways, d18⟩ : ∃ ways : Nat, ways = (F_orders_number (if (is_rows = true) then rows else columns) x14) := ⟨_, rfl⟩
        replace h := h ways d18
        refine T.wp_seq (T.wp_set (T.ev_as d18 (e := eN) (T.ev_call (T.ev_cons (T.ev_ifE (P := (is_rows = true)) (e := eN) (x := rows) (y := columns) (T.ev_dec is_rows (T.ev_v rfl)) (fun hp => (T.ev_v rfl)) (fun hp => (T.ev_v rfl))) (T.ev_cons (T.ev_v rfl) T.ev_nil)) rfl (t_orders_number c17 _))) ?_)
        change WP _ _ _ _ (At _ [some (eM known), some (eN rows), some (eN columns), some (eB is_rows), some ((eP3 eN eN eB) key), some ((eD eN) found), some (eN x14), some (eN ways), g5, g6, g7, g8] _)
        obtain ⟨c21, h⟩ := h
        obtain ⟨c22, h⟩ := h
        obtain ⟨left, d23⟩ : ∃ left : (Nat × Nat), left = (if (is_rows = true) then ((rows - x14), columns) else (rows, (columns - x14))) := ⟨_, rfl⟩
        replace h := h left d23
        refine T.wp_seq (T.wp_set (T.ev_as d23 (e := (eP eN eN)) (T.ev_ifE (P := (is_rows = true)) (e := (eP eN eN)) (x := ((rows - x14), columns)) (y := (rows, (columns - x14))) (T.ev_dec is_rows (T.ev_v rfl)) (fun hp => have c19 := c21 hp; (T.ev_tup (ds := [eN (rows - x14), eN columns]) (T.ev_cons (T.ev_sub (x := rows) (y := x14) c19 (T.ev_v rfl) (T.ev_v rfl)) (T.ev_cons (T.ev_v rfl) T.ev_nil)) rfl)) (fun hp => have c20 := c22 hp; (T.ev_tup (ds := [eN rows, eN (columns - x14)]) (T.ev_cons (T.ev_v rfl) (T.ev_cons (T.ev_sub (x := columns) (y := x14) c20 (T.ev_v rfl) (T.ev_v rfl)) T.ev_nil)) rfl)))) ?_)
        change WP _ _ _ _ (At _ [some (eM known), some (eN rows), some (eN columns), some (eB is_rows), some ((eP3 eN eN eB) key), some ((eD eN) found), some (eN x14), some (eN ways), some ((eP eN eN) left), g6, g7, g8] _)
        obtain ⟨c25, h⟩ := h
        obtain ⟨gain, d26⟩ : ∃ gain : Nat, gain = (if (is_rows = true) then (x14 * columns) else 0) := ⟨_, rfl⟩
        replace h := h gain d26
        refine T.wp_seq (T.wp_set (T.ev_as d26 (e := eN) (T.ev_ifE (P := (is_rows = true)) (e := eN) (x := (x14 * columns)) (y := 0) (T.ev_dec is_rows (T.ev_v rfl)) (fun hp => have c24 := c25 hp; (T.ev_mul (x := x14) (y := columns) c24 (T.ev_v rfl) (T.ev_v rfl))) (fun hp => (T.ev_cN 0)))) ?_)
        change WP _ _ _ _ (At _ [some (eM known), some (eN rows), some (eN columns), some (eB is_rows), some ((eP3 eN eN eB) key), some ((eD eN) found), some (eN x14), some (eN ways), some ((eP eN eN) left), some (eN gain), g7, g8] _)
        obtain ⟨c27, h⟩ := h
        obtain ⟨I30, h31, h32, h33⟩ := h
        refine T.wp_for (e := (eP eN eN)) (xs := (F_run_left known left.1 left.2 (decide (¬(is_rows = true))))) (ds := fun x35 => [eN x35.1, eN x35.2]) (fun k env tz => tp = tz ∧ ∃ found_1 : (List (Nat × Nat)), ∃ g28 : Option D, ∃ g29 : Option D, env = [some (eM known), some (eN rows), some (eN columns), some (eB is_rows), some ((eP3 eN eN eB) key), some ((eD eN) found_1), some (eN x14), some (eN ways), some ((eP eN eN) left), some (eN gain), g28, g29] ∧ I30 k found_1) (T.it_items (e := eN) (d := (F_run_left known left.1 left.2 (decide (¬(is_rows = true))))) (T.ev_call (T.ev_cons (T.ev_v rfl) (T.ev_cons (T.ev_fst (x := left) (T.ev_v rfl) rfl) (T.ev_cons (T.ev_snd (x := left) (T.ev_v rfl) rfl) (T.ev_cons (T.ev_notE (P := (is_rows = true)) (T.ev_decB is_rows (T.ev_v rfl))) T.ev_nil)))) rfl (ih known left.1 left.2 (decide (¬(is_rows = true))) (c27).1 (Nat.lt_of_lt_of_le (c27).2 (Nat.le_of_lt_succ hmu)) _))) (fun _ => rfl) ⟨rfl, found, _, _, rfl, h31⟩ ?_ ?_
        · intro i34 x35 env t hk hI
          obtain ⟨rfl, found_1, g28, g29, rfl, h⟩ := hI
          replace h := h32 i34 x35 hk found_1 h
          change WP _ _ _ _ (At _ [some (eM known), some (eN rows), some (eN columns), some (eB is_rows), some ((eP3 eN eN eB) key), some ((eD eN) found_1), some (eN x14), some (eN ways), some ((eP eN eN) left), some (eN gain), some (eN x35.1), some (eN x35.2)] _)
          obtain ⟨c38, h⟩ := h
          obtain ⟨c39, h⟩ := h
          obtain ⟨found_2, d40⟩ : ∃ found_2 : (List (Nat × Nat)), found_2 = (dput found_1 (x35.1 + gain) (((dget found_1 (x35.1 + gain)).getD 0) + (ways * x35.2))) := ⟨_, rfl⟩
          replace h := h found_2 d40
          refine T.wp_dset (e := eN) (d := found_1) (k := (x35.1 + gain)) (v := (((dget found_1 (x35.1 + gain)).getD 0) + (ways * x35.2))) rfl (T.ev_add (x := ((dget found_1 (x35.1 + gain)).getD 0)) (y := (ways * x35.2)) (T.ev_get2 (e := eN) (x := (x35.1 + gain)) (y := 0) (d := found_1) (T.ev_v rfl) (T.ev_add (x := x35.1) (y := gain) (T.ev_v rfl) (T.ev_v rfl)) (T.ev_cN 0)) (T.ev_mul (x := ways) (y := x35.2) c38 (T.ev_v rfl) (T.ev_v rfl))) (T.ev_add (x := x35.1) (y := gain) (T.ev_v rfl) (T.ev_v rfl)) c39 ?_
          rw [← d40]
          exact ⟨rfl, found_2, _, _, rfl, h⟩
        rintro _ _ ⟨rfl, found_1, g28, g29, rfl, h⟩
        replace h := h33 found_1 h
        exact ⟨rfl, found_1, _, _, _, _, _, _, rfl, h⟩
      rintro _ _ ⟨rfl, found, g3, g4, g5, g6, g7, g8, rfl, h⟩
      replace h := h12 found h
      change WP _ _ _ _ (At _ [some (eM known), some (eN rows), some (eN columns), some (eB is_rows), some ((eP3 eN eN eB) key), some ((eD eN) found), g3, g4, g5, g6, g7, g8] _)
      exact T.wp_mputL rfl rfl ((kdP3 kdN kdN kdB).h key) (Nat.le_trans ((kdP3 kdN kdN kdB).d key) (by decide)) rfl h.1 (okkv_D found) ⟨rfl, h.1, okvX_D found, ⟨rfl, found, rfl, h.2⟩⟩)
  exact ⟨r, q, e1⟩
theorem ok_run_left {k : Int × List Str} {r c : Nat} {b : Bool} (h : P_run_left k r c b) : V_run_left k r c b (· = F_run_left k r c b) := by
  obtain ⟨hk, hr, hc⟩ := h
  refine ⟨fun z => ?_, fun z key ek => ⟨⟨by omega, by split <;> omega⟩, fun n f => f = foundB _root_.G.orB r c b n, rfl, fun i x hx f hf => ?_, fun f hf => ⟨?_, ?_⟩⟩⟩
  · have : r = 0 ∧ c = 0 := by omega
    obtain ⟨rfl, rfl⟩ := this
    exact (leftB_zero _ _ _).symm
  · obtain ⟨rfl, hi⟩ := rngB hx
    have hi : i < (if b = true then r else c) := by omega
    have hf : f = foundB _root_.G.orB r c b i := hf
    have le8 : (if b = true then r else c) ≤ 8 := by split <;> omega
    have el : (if b = true then (r - (i + 1), c) else (r, c - (i + 1))) = ((if b = true then r - (i + 1) else r), if b = true then c else c - (i + 1)) := by cases b <;> rfl
    refine ⟨⟨by omega, by omega⟩, fun ways ew => ⟨fun z => by rw [if_pos z] at hi; omega, fun z => by rw [if_neg z] at hi; omega, fun left hl => ⟨fun z => cMul_nat (n := 4) (m := 4) (by rw [if_pos z] at hi; show i + 1 < 16; omega) (by show c < 16; omega) (by omega) (by omega) (by omega), fun gain hg => ?_⟩⟩⟩
    rw [el] at hl
    subst hl
    have rs : SmallD ((if b = true then r - (i + 1) else r) * (if b = true then c else c - (i + 1))) (2 ^ 432) (leftN _root_.G.orB (if b = true then r - (i + 1) else r) (if b = true then c else c - (i + 1)) (!b)) := by
      have := left_small few_or ((if b = true then r - (i + 1) else r) + (if b = true then c else c - (i + 1))) (if b = true then r - (i + 1) else r) (if b = true then c else c - (i + 1)) (!b) (by split <;> omega) (by split <;> omega)
      exact ⟨this.nd, this.ks, Nat.le_trans this.su (Nat.pow_le_pow_right (by decide) (by split <;> omega))⟩
    have eb : (decide ¬b = true) = !b := by cases b <;> rfl
    have fs := found_small few_or b hr hc
    have ws : ways ≤ 2 ^ 24 := by rw [ew]; exact few_or _ _ le8
    have eF : F_run_left k (if b = true then r - (i + 1) else r) (if b = true then c else c - (i + 1)) (decide ¬b = true) = leftN _root_.G.orB (if b = true then r - (i + 1) else r) (if b = true then c else c - (i + 1)) (!b) := by rw [eb]; rfl
    have es : stepB _root_.G.orB r c b (fun m => leftN _root_.G.orB (if b = true then r - (m + 1) else r) (if b = true then c else c - (m + 1)) (!b)) i = (leftN _root_.G.orB (if b = true then r - (i + 1) else r) (if b = true then c else c - (i + 1)) (!b)).map fun p => (p.1 + gain, ways * p.2) := by
      unfold stepB
      rw [hg, ew]
    refine ⟨⟨⟨hk, by show (if b = true then r - (i + 1) else r) ≤ 8; split <;> omega, by show (if b = true then c else c - (i + 1)) ≤ 8; split <;> omega⟩, ?_⟩, fun j g => g = daddAll ((stepB _root_.G.orB r c b (fun m => leftN _root_.G.orB (if b = true then r - (m + 1) else r) (if b = true then c else c - (m + 1)) (!b)) i).take j) f, rfl, fun j y hy g hg2 => ?_, fun g hg2 => ?_⟩
    · show (if b = true then r - (i + 1) else r) + (if b = true then c else c - (i + 1)) < r + c
      cases b with
      | true => simp only [if_true] at hi ⊢; omega
      | false => simp only [Bool.false_eq_true, if_false] at hi ⊢; omega
    · rw [eF] at hy
      have hg2 : g = daddAll ((stepB _root_.G.orB r c b (fun m => leftN _root_.G.orB (if b = true then r - (m + 1) else r) (if b = true then c else c - (m + 1)) (!b)) i).take j) f := hg2
      have ym := List.mem_of_getElem? hy
      have y2 : y.2 ≤ 2 ^ 432 := Nat.le_trans (mem_le_dsum ym) rs.su
      have gs : SmallD (r * c) (i * (2 ^ 24 * 2 ^ 432) + 2 ^ 24 * 2 ^ 432) g := by
        rw [hg2, hf]
        refine (fs i (by omega)).add (fun p hp => ?_) ?_
        · have hp := List.mem_of_mem_take hp
          rw [es] at hp
          obtain ⟨q, hq, rfl⟩ := List.mem_map.mp hp
          have := rs.ks q.1 (List.mem_map.mpr ⟨q, hq, rfl⟩)
          show q.1 + gain ≤ r * c
          rw [hg]
          cases b with
          | true =>
            simp only [if_true] at this hi ⊢
            have e : (r - (i + 1)) * c + (i + 1) * c = r * c := by rw [← Nat.add_mul, Nat.sub_add_cancel hi]
            omega
          | false =>
            simp only [Bool.false_eq_true, if_false] at this hi ⊢
            have := Nat.le_trans this (Nat.mul_le_mul_left r (Nat.sub_le c (i + 1)))
            omega
        · refine Nat.le_trans (sum_take_le _ _) ?_
          rw [es, sum_times]
          exact Nat.mul_le_mul ws rs.su
      refine ⟨cMul_nat (n := 25) (m := 433) (Nat.lt_of_le_of_lt ws (by decide)) (Nat.lt_of_le_of_lt y2 (Nat.pow_lt_pow_right (by decide) (by omega))) (by omega) (by omega) (by omega), ?_, fun g1 e1 => ?_⟩
      · have := gs.len
        have : r * c ≤ 64 := Nat.mul_le_mul hr hc
        omega
      · have ht : (stepB _root_.G.orB r c b (fun m => leftN _root_.G.orB (if b = true then r - (m + 1) else r) (if b = true then c else c - (m + 1)) (!b)) i)[j]? = some (y.1 + gain, ways * y.2) := by
          rw [es, List.getElem?_map, hy]; rfl
        show g1 = daddAll (List.take (j + 1) _) f
        rw [take_snoc ht, daddAll_app, ← hg2, e1]
        rfl
    · rw [eF] at hg2
      have hg2 : g = daddAll ((stepB _root_.G.orB r c b (fun m => leftN _root_.G.orB (if b = true then r - (m + 1) else r) (if b = true then c else c - (m + 1)) (!b)) i).take (leftN _root_.G.orB (if b = true then r - (i + 1) else r) (if b = true then c else c - (i + 1)) (!b)).length) f := hg2
      show g = foundB _root_.G.orB r c b (i + 1)
      rw [foundB_succ, ← hf, hg2, List.take_of_length_le]
      rw [es, List.length_map]; exact Nat.le_refl _
  · have hf : f = foundB _root_.G.orB r c b (List.range' 1 ((if b = true then r else c) + 1 - 1)).length := hf
    rw [List.length_range', Nat.add_sub_cancel, ← leftN_found _ b z] at hf
    subst hk ek
    rw [hf]
    exact _root_.G.tells_seven r c b hr hc
  · have hf : f = foundB _root_.G.orB r c b (List.range' 1 ((if b = true then r else c) + 1 - 1)).length := hf
    rw [List.length_range', Nat.add_sub_cancel, ← leftN_found _ b z] at hf
    exact hf
theorem t_run_left_n : ∀ (n : Nat) (known : (Int × List Str)) (rows : Nat) (columns : Nat) (is_rows : Bool), P_run_left known rows columns is_rows → mu_run_left known rows columns is_rows < n → ∀ tp, m_run_left n [eM known, eN rows, eN columns, eB is_rows] tp = .ok ((eD eN) (F_run_left known rows columns is_rows)) tp := fun n => by
  induction n with
  | zero => intro known rows columns is_rows _ h; exact absurd h (Nat.not_lt_zero _)
  | succ n ih =>
    intro known rows columns is_rows hP hm tp
    obtain ⟨r, rfl, e⟩ := snd_run_left n ih known rows columns is_rows (ok_run_left hP) hm tp
    exact e
theorem t_run_left {known : (Int × List Str)} {rows : Nat} {columns : Nat} {is_rows : Bool} (hP : P_run_left known rows columns is_rows) (tp : List D) : m_run_left 18 [eM known, eN rows, eN columns, eB is_rows] tp = .ok ((eD eN) (F_run_left known rows columns is_rows)) tp := t_run_left_n 18 known rows columns is_rows hP (mu_lt_run_left hP) tp
end W
set_option maxHeartbeats 1000000
namespace W
open PySem L2 G T
local instance : _root_.G.Wo := ⟨fun _ => 0⟩
theorem rng1 {n i x : Nat} (h : (List.range' 1 n)[i]? = some x) : x = i + 1 ∧ i < n := by
  obtain ⟨a, b⟩ := List.getElem?_eq_some_iff.mp h
  rw [List.length_range'] at a
  rw [List.getElem_range'] at b
  omega
abbrev P_ways_left (k : Int × List Str) (r c : Nat) (_ : Bool) : Prop := k = (0, []) ∧ r ≤ 30 ∧ c ≤ 30
abbrev F_ways_left (_ : Int × List Str) (r c : Nat) (b : Bool) : Nat := wv r c b
abbrev mu_ways_left (_ : Int × List Str) (r c : Nat) (_ : Bool) : Nat := r + c
theorem mu_lt_ways_left {u : Int × List Str} {r c : Nat} {b : Bool} (h : P_ways_left u r c b) : mu_ways_left u r c b < 62 := by
  obtain ⟨_, h1, h2⟩ := h
  show r + c < 62; omega
theorem wv_lt {r c : Nat} (b : Bool) (h1 : r ≤ 30) (h2 : c ≤ 30) : wv r c b < 2 ^ 2200 := Nat.lt_of_le_of_lt (wv_small 60 r c b h1 h2 (by omega)) (Nat.pow_lt_pow_right (by decide) (by omega))
theorem ch_lt {r x : Nat} (h : r ≤ 30) : ch r x < 2 ^ 31 := Nat.lt_of_le_of_lt (ch_le r x) (Nat.pow_lt_pow_right (by decide) (by omega))
def V_ways_left (known : (Int × List Str)) (rows : Nat) (columns : Nat) (is_rows : Bool) (Q : Nat → Prop) : Prop := ((((rows + columns) = 0) → Q 1) ∧ (¬((rows + columns) = 0) → ∀ key : (Nat × Nat × Bool), key = (rows, columns, is_rows) → ∃ J3 : Nat → Prop, ((is_rows = true) → (1 ≤ 1073741824 ∧ (rows + 1) ≤ 1073741824) ∧ ∃ I9 : Nat → Nat → Prop, I9 0 0 ∧ (∀ (i13 : Nat) (x14 : Nat), (List.range' 1 ((rows + 1) - 1))[i13]? = some x14 → ∀ found_1 : Nat, I9 i13 found_1 → (P_chosen rows x14) ∧ (x14 ≤ rows) ∧ (P_ways_left known (rows - x14) columns false ∧ mu_ways_left known (rows - x14) columns false < mu_ways_left known rows columns is_rows) ∧ (cMul (((F_chosen rows x14) : Nat) : Int) (((F_ways_left known (rows - x14) columns false) : Nat) : Int) = true) ∧ ∀ found_2 : Nat, found_2 = (found_1 + ((F_chosen rows x14) * (F_ways_left known (rows - x14) columns false))) → I9 (i13 + 1) found_2) ∧ (∀ found_1 : Nat, I9 (List.range' 1 ((rows + 1) - 1)).length found_1 → J3 found_1)) ∧ (¬(is_rows = true) → (1 ≤ 1073741824 ∧ (columns + 1) ≤ 1073741824) ∧ ∃ I26 : Nat → Nat → Prop, I26 0 0 ∧ (∀ (i30 : Nat) (x31 : Nat), (List.range' 1 ((columns + 1) - 1))[i30]? = some x31 → ∀ found_3 : Nat, I26 i30 found_3 → (P_chosen columns x31) ∧ (x31 ≤ columns) ∧ (P_ways_left known rows (columns - x31) true ∧ mu_ways_left known rows (columns - x31) true < mu_ways_left known rows columns is_rows) ∧ (cMul (((F_chosen columns x31) : Nat) : Int) (((F_ways_left known rows (columns - x31) true) : Nat) : Int) = true) ∧ ∀ found_4 : Nat, found_4 = (found_3 + ((F_chosen columns x31) * (F_ways_left known rows (columns - x31) true))) → I26 (i30 + 1) found_4) ∧ (∀ found_3 : Nat, I26 (List.range' 1 ((columns + 1) - 1)).length found_3 → J3 found_3)) ∧ (∀ found : Nat, J3 found → (tellsF known.1 known.2 ((nkP3 nkN nkN nkB) key) = some (eN found)) ∧ Q found)))
theorem snd_ways_left (n : Nat) (ih : ∀ (known : (Int × List Str)) (rows : Nat) (columns : Nat) (is_rows : Bool), P_ways_left known rows columns is_rows → mu_ways_left known rows columns is_rows < n → ∀ tp, m_ways_left n [eM known, eN rows, eN columns, eB is_rows] tp = .ok (eN (F_ways_left known rows columns is_rows)) tp) (known : (Int × List Str)) (rows : Nat) (columns : Nat) (is_rows : Bool) {Q : Nat → Prop} (h : V_ways_left known rows columns is_rows Q) (hmu : mu_ways_left known rows columns is_rows < n + 1) (tp : List D) : ∃ r : Nat, Q r ∧ m_ways_left (n + 1) [eM known, eN rows, eN columns, eB is_rows] tp = .ok (eN r) tp := by
  obtain ⟨d, t, e1, rfl, r, rfl, q⟩ := T.wp_def (n := 7) (s := b_ways_left (m_ways_left n)) (ds := [eM known, eN rows, eN columns, eB is_rows]) (tp := tp) (Q := fun d t => t = tp ∧ ∃ r : Nat, d = eN r ∧ Q r) (by
    unfold V_ways_left at h
    change WP _ _ _ _ (b_ways_left (m_ways_left n) [some (eM known), some (eN rows), some (eN columns), some (eB is_rows), none, none, none] _)
    unfold b_ways_left
    refine T.wp_seq (T.wp_if (P := ((rows + columns) = 0)) (T.ev_bool (T.ev_eq (x := (rows + columns)) (y := 0) qN rfl (T.ev_add (x := rows) (y := columns) (T.ev_v rfl) (T.ev_v rfl)) (T.ev_cN 0))) (fun hp => ?_) (fun hn => ?_))
    · replace h := h.1 hp
      exact T.wp_ret (T.ev_cN 1) ⟨rfl, 1, rfl, h⟩
    · replace h := h.2 hn
      refine T.wp_skip ?_
      change WP _ _ _ _ (At _ [some (eM known), some (eN rows), some (eN columns), some (eB is_rows), none, none, none] _)
      obtain ⟨key, d1⟩ : ∃ key : (Nat × Nat × Bool), key = (rows, columns, is_rows) := ⟨_, rfl⟩
      replace h := h key d1
      refine T.wp_seq (T.wp_set (T.ev_as d1 (e := (eP3 eN eN eB)) (T.ev_tup (ds := [eN rows, eN columns, eB is_rows]) (T.ev_cons (T.ev_v rfl) (T.ev_cons (T.ev_v rfl) (T.ev_cons (T.ev_v rfl) T.ev_nil))) rfl)) ?_)
      change WP _ _ _ _ (At _ [some (eM known), some (eN rows), some (eN columns), some (eB is_rows), some ((eP3 eN eN eB) key), none, none] _)
      refine T.wp_memo rfl rfl ((kdP3 kdN kdN kdB).h key) (Nat.le_trans ((kdP3 kdN kdN kdB).d key) (by decide)) ?_
      refine T.wp_seq (T.wp_set (T.ev_cN 0) ?_)
      change WP _ _ _ _ (At _ [some (eM known), some (eN rows), some (eN columns), some (eB is_rows), some ((eP3 eN eN eB) key), some (eN 0), none] _)
      obtain ⟨J3, h4, h5, h6⟩ := h
      refine T.wp_seq (T.wp_ifJ (P := (is_rows = true)) (J := fun env tz => tp = tz ∧ ∃ found : Nat, ∃ g2 : Option D, env = [some (eM known), some (eN rows), some (eN columns), some (eB is_rows), some ((eP3 eN eN eB) key), some (eN found), g2] ∧ J3 found) (T.ev_dec is_rows (T.ev_v rfl)) (fun hp => ?_) (fun hn => ?_) ?_)
      · replace h := h4 hp
        obtain ⟨c7, h⟩ := h
        obtain ⟨I9, h10, h11, h12⟩ := h
        refine T.wp_for (e := eN) (xs := (List.range' 1 ((rows + 1) - 1))) (ds := fun x14 => [eN x14]) (fun k env tz => tp = tz ∧ ∃ found_1 : Nat, ∃ g8 : Option D, env = [some (eM known), some (eN rows), some (eN columns), some (eB is_rows), some ((eP3 eN eN eB) key), some (eN found_1), g8] ∧ I9 k found_1) (T.it_range2 (a := 1) (n := (rows + 1)) c7 (T.ev_cN 1) (T.ev_add (x := rows) (y := 1) (T.ev_v rfl) (T.ev_cN 1))) (fun _ => rfl) ⟨rfl, 0, _, rfl, h10⟩ ?_ ?_
        · intro i13 x14 env t hk hI
          obtain ⟨rfl, found_1, g8, rfl, h⟩ := hI
          replace h := h11 i13 x14 hk found_1 h
          change WP _ _ _ _ (At _ [some (eM known), some (eN rows), some (eN columns), some (eB is_rows), some ((eP3 eN eN eB) key), some (eN found_1), some (eN x14)] _)
          obtain ⟨c17, h⟩ := h
          obtain ⟨c18, h⟩ := h
          obtain ⟨c19, h⟩ := h
          obtain ⟨c20, h⟩ := h
          obtain ⟨found_2, d21⟩ : ∃ found_2 : Nat, found_2 = (found_1 + ((F_chosen rows x14) * (F_ways_left known (rows - x14) columns false))) := ⟨_, rfl⟩
          replace h := h found_2 d21
          refine T.wp_augN (x := found_1) (y := ((F_chosen rows x14) * (F_ways_left known (rows - x14) columns false))) rfl (T.ev_mul (x := (F_chosen rows x14)) (y := (F_ways_left known (rows - x14) columns false)) c20 (T.ev_call (T.ev_cons (T.ev_v rfl) (T.ev_cons (T.ev_v rfl) T.ev_nil)) rfl (t_chosen c17 _)) (T.ev_call (T.ev_cons (T.ev_v rfl) (T.ev_cons (T.ev_sub (x := rows) (y := x14) c18 (T.ev_v rfl) (T.ev_v rfl)) (T.ev_cons (T.ev_v rfl) (T.ev_cons (T.ev_c rfl) T.ev_nil)))) rfl (ih known (rows - x14) columns false (c19).1 (Nat.lt_of_lt_of_le (c19).2 (Nat.le_of_lt_succ hmu)) _))) ?_
          rw [← d21]
          exact ⟨rfl, found_2, _, rfl, h⟩
        rintro _ _ ⟨rfl, found_1, g8, rfl, h⟩
        replace h := h12 found_1 h
        exact ⟨rfl, found_1, _, rfl, h⟩
      · replace h := h5 hn
        obtain ⟨c24, h⟩ := h
        obtain ⟨I26, h27, h28, h29⟩ := h
        refine T.wp_for (e := eN) (xs := (List.range' 1 ((columns + 1) - 1))) (ds := fun x31 => [eN x31]) (fun k env tz => tp = tz ∧ ∃ found_3 : Nat, ∃ g25 : Option D, env = [some (eM known), some (eN rows), some (eN columns), some (eB is_rows), some ((eP3 eN eN eB) key), some (eN found_3), g25] ∧ I26 k found_3) (T.it_range2 (a := 1) (n := (columns + 1)) c24 (T.ev_cN 1) (T.ev_add (x := columns) (y := 1) (T.ev_v rfl) (T.ev_cN 1))) (fun _ => rfl) ⟨rfl, 0, _, rfl, h27⟩ ?_ ?_
        · intro i30 x31 env t hk hI
          obtain ⟨rfl, found_3, g25, rfl, h⟩ := hI
          replace h := h28 i30 x31 hk found_3 h
          change WP _ _ _ _ (At _ [some (eM known), some (eN rows), some (eN columns), some (eB is_rows), some ((eP3 eN eN eB) key), some (eN found_3), some (eN x31)] _)
          obtain ⟨c34, h⟩ := h
          obtain ⟨c35, h⟩ := h
          obtain ⟨c36, h⟩ := h
          obtain ⟨c37, h⟩ := h
          obtain ⟨found_4, d38⟩ : ∃ found_4 : Nat, found_4 = (found_3 + ((F_chosen columns x31) * (F_ways_left known rows (columns - x31) true))) := ⟨_, rfl⟩
          replace h := h found_4 d38
          refine T.wp_augN (x := found_3) (y := ((F_chosen columns x31) * (F_ways_left known rows (columns - x31) true))) rfl (T.ev_mul (x := (F_chosen columns x31)) (y := (F_ways_left known rows (columns - x31) true)) c37 (T.ev_call (T.ev_cons (T.ev_v rfl) (T.ev_cons (T.ev_v rfl) T.ev_nil)) rfl (t_chosen c34 _)) (T.ev_call (T.ev_cons (T.ev_v rfl) (T.ev_cons (T.ev_v rfl) (T.ev_cons (T.ev_sub (x := columns) (y := x31) c35 (T.ev_v rfl) (T.ev_v rfl)) (T.ev_cons (T.ev_c rfl) T.ev_nil)))) rfl (ih known rows (columns - x31) true (c36).1 (Nat.lt_of_lt_of_le (c36).2 (Nat.le_of_lt_succ hmu)) _))) ?_
          rw [← d38]
          exact ⟨rfl, found_4, _, rfl, h⟩
        rintro _ _ ⟨rfl, found_3, g25, rfl, h⟩
        replace h := h29 found_3 h
        exact ⟨rfl, found_3, _, rfl, h⟩
      rintro _ _ ⟨rfl, found, g2, rfl, h⟩
      replace h := h6 found h
      change WP _ _ _ _ (At _ [some (eM known), some (eN rows), some (eN columns), some (eB is_rows), some ((eP3 eN eN eB) key), some (eN found), g2] _)
      exact T.wp_mput rfl rfl ((kdP3 kdN kdN kdB).h key) (Nat.le_trans ((kdP3 kdN kdN kdB).d key) (by decide)) (T.ev_v rfl) h.1 rfl ⟨rfl, h.1, okvX rfl, ⟨rfl, found, rfl, h.2⟩⟩)
  exact ⟨r, q, e1⟩
theorem ok_ways_left {u : Int × List Str} {r c : Nat} {b : Bool} (k : P_ways_left u r c b) : V_ways_left u r c b (· = F_ways_left u r c b) := by
  obtain ⟨hu, h1, h2⟩ := k
  refine ⟨fun z => ?_, fun z key hk => ⟨fun f => f = wv r c b, fun hb => ⟨⟨by omega, by omega⟩, fun n f => f = su (fun m => ch r (m + 1) * wv (r - (m + 1)) c false) n, rfl, fun i x hx f hf => ?_, fun f hf => ?_⟩, fun hb => ⟨⟨by omega, by omega⟩, fun n f => f = su (fun m => ch c (m + 1) * wv r (c - (m + 1)) true) n, rfl, fun i x hx f hf => ?_, fun f hf => ?_⟩, fun f hf => ⟨?_, hf⟩⟩⟩
  · have : r = 0 ∧ c = 0 := by omega
    obtain ⟨rfl, rfl⟩ := this
    rfl
  · obtain ⟨rfl, hi⟩ := rng1 hx
    refine ⟨⟨by omega, by omega⟩, by omega, ⟨⟨hu, by omega, h2⟩, by show r - (i + 1) + c < r + c; omega⟩, cMul_nat (ch_lt h1) (wv_lt false (by omega) h2) (by omega) (by omega) (by omega), fun g hg => ?_⟩
    show g = su _ i + _
    have hf : f = su (fun m => ch r (m + 1) * wv (r - (m + 1)) c false) i := hf
    rw [hg, hf]
  · have hf : f = su (fun m => ch r (m + 1) * wv (r - (m + 1)) c false) (List.range' 1 ((r + 1) - 1)).length := hf
    rw [List.length_range', show r + 1 - 1 = r by omega] at hf
    rw [hf, hb, wv_true z]
  · obtain ⟨rfl, hi⟩ := rng1 hx
    refine ⟨⟨by omega, by omega⟩, by omega, ⟨⟨hu, h1, by omega⟩, by show r + (c - (i + 1)) < r + c; omega⟩, cMul_nat (ch_lt h2) (wv_lt true h1 (by omega)) (by omega) (by omega) (by omega), fun g hg => ?_⟩
    show g = su _ i + _
    have hf : f = su (fun m => ch c (m + 1) * wv r (c - (m + 1)) true) i := hf
    rw [hg, hf]
  · have hf : f = su (fun m => ch c (m + 1) * wv r (c - (m + 1)) true) (List.range' 1 ((c + 1) - 1)).length := hf
    rw [List.length_range', show c + 1 - 1 = c by omega] at hf
    have hb : b = false := by cases b with
      | false => rfl
      | true => exact (hb rfl).elim
    rw [hf, hb, wv_false z]
  · subst hk
    have hf : f = wv r c b := hf
    subst hf
    subst hu
    exact _root_.G.tells_ways r c b h1 h2
theorem t_ways_left_n : ∀ (n : Nat) (known : (Int × List Str)) (rows : Nat) (columns : Nat) (is_rows : Bool), P_ways_left known rows columns is_rows → mu_ways_left known rows columns is_rows < n → ∀ tp, m_ways_left n [eM known, eN rows, eN columns, eB is_rows] tp = .ok (eN (F_ways_left known rows columns is_rows)) tp := fun n => by
  induction n with
  | zero => intro known rows columns is_rows _ h; exact absurd h (Nat.not_lt_zero _)
  | succ n ih =>
    intro known rows columns is_rows hP hm tp
    obtain ⟨r, rfl, e⟩ := snd_ways_left n ih known rows columns is_rows (ok_ways_left hP) hm tp
    exact e
theorem t_ways_left {known : (Int × List Str)} {rows : Nat} {columns : Nat} {is_rows : Bool} (hP : P_ways_left known rows columns is_rows) (tp : List D) : m_ways_left 62 [eM known, eN rows, eN columns, eB is_rows] tp = .ok (eN (F_ways_left known rows columns is_rows)) tp := t_ways_left_n 62 known rows columns is_rows hP (mu_lt_ways_left hP) tp
end W
set_option maxHeartbeats 1000000
namespace W
open PySem L2 G T
local instance : _root_.G.Wo := ⟨fun _ => 0⟩
def V_law_lowered (above : Int) (low : Int) (Q : (Int × Int) → Prop) : Prop := (P_law_common above low) ∧ ∀ shared : Nat, shared = (F_law_common above low) → (cDiv ((shared : Nat) : Int) = true) ∧ Q ((above / ((shared : Nat) : Int)), (low / ((shared : Nat) : Int)))
theorem snd_law_lowered (above : Int) (low : Int) {Q : (Int × Int) → Prop} (h : V_law_lowered above low Q) (tp : List D) : ∃ r : (Int × Int), Q r ∧ m_law_lowered [eZ above, eZ low] tp = .ok ((eP eZ eZ) r) tp := by
  obtain ⟨d, t, e1, rfl, r, rfl, q⟩ := T.wp_def (n := 3) (s := b_law_lowered) (ds := [eZ above, eZ low]) (tp := tp) (Q := fun d t => t = tp ∧ ∃ r : (Int × Int), d = (eP eZ eZ) r ∧ Q r) (by
    unfold V_law_lowered at h
    change WP _ _ _ _ (b_law_lowered [some (eZ above), some (eZ low), none] _)
    unfold b_law_lowered
    obtain ⟨c1, h⟩ := h
    obtain ⟨shared, d2⟩ : ∃ shared : Nat, shared = (F_law_common above low) := ⟨_, rfl⟩
    replace h := h shared d2
    refine T.wp_seq (T.wp_set (T.ev_as d2 (e := eN) (T.ev_call (T.ev_cons (T.ev_v rfl) (T.ev_cons (T.ev_v rfl) T.ev_nil)) rfl (t_law_common c1 _))) ?_)
    change WP _ _ _ _ (At _ [some (eZ above), some (eZ low), some (eN shared)] _)
    obtain ⟨c3, h⟩ := h
    exact T.wp_ret (T.ev_tup (ds := [eZ (above / ((shared : Nat) : Int)), eZ (low / ((shared : Nat) : Int))]) (T.ev_cons (T.ev_fdivZ (x := above) (y := ((shared : Nat) : Int)) c3 (T.ev_v rfl) (T.ev_v rfl)) (T.ev_cons (T.ev_fdivZ (x := low) (y := ((shared : Nat) : Int)) c3 (T.ev_v rfl) (T.ev_v rfl)) T.ev_nil)) rfl) ⟨rfl, ((above / ((shared : Nat) : Int)), (low / ((shared : Nat) : Int))), rfl, h⟩)
  exact ⟨r, q, e1⟩
abbrev P_law_lowered (a b : Int) : Prop := Lg a 400000 ∧ Lg b 9000 ∧ 0 < b
abbrev F_law_lowered (a b : Int) : Int × Int := low a b
theorem ok_law_lowered {a b : Int} (k : P_law_lowered a b) : V_law_lowered a b (· = F_law_lowered a b) := by
  refine ⟨⟨k.1, k.2.1.mono (by omega)⟩, fun s hs => ?_⟩
  subst hs
  exact ⟨cDiv_lg (gcd_pos k.2.2) (gcd_lg k.2.1 k.2.2) (by omega) (by omega), rfl⟩
theorem t_law_lowered {above : Int} {low : Int} (hP : P_law_lowered above low) (tp : List D) : m_law_lowered [eZ above, eZ low] tp = .ok ((eP eZ eZ) (F_law_lowered above low)) tp := by
  obtain ⟨r, rfl, e⟩ := snd_law_lowered above low (ok_law_lowered hP) tp
  exact e
end W
set_option maxHeartbeats 1000000
namespace W
open PySem L2 G T
local instance : _root_.G.Wo := ⟨fun _ => 0⟩
def V_need_number (value : Nat) (least : Nat) (most : Nat) (Q : Unit → Prop) : Prop := ((F_is_in value least most) = true) ∧ Q ()
theorem snd_need_number (value : Nat) (least : Nat) (most : Nat) {Q : Unit → Prop} (h : V_need_number value least most Q) (tp : List D) : ∃ r : Unit, Q r ∧ m_need_number [eN value, eN least, eN most] tp = .ok (eU r) tp := by
  obtain ⟨d, t, e1, rfl, r, rfl, q⟩ := T.wp_def (n := 3) (s := b_need_number) (ds := [eN value, eN least, eN most]) (tp := tp) (Q := fun d t => t = tp ∧ ∃ r : Unit, d = eU r ∧ Q r) (by
    unfold V_need_number at h
    change WP _ _ _ _ (b_need_number [some (eN value), some (eN least), some (eN most)] _)
    unfold b_need_number
    obtain ⟨hf, h⟩ := h
    refine T.wp_if (P := (¬((F_is_in value least most) = true))) (T.ev_notT (P := ((F_is_in value least most) = true)) (T.ev_dec (F_is_in value least most) (T.ev_call (T.ev_cons (T.ev_v rfl) (T.ev_cons (T.ev_v rfl) (T.ev_cons (T.ev_v rfl) T.ev_nil))) rfl (t_is_in True.intro _)))) (fun hp => ?_) (fun hn => ?_)
    · exact absurd hp ((fun h0 => h0 (hf)))
    · refine T.wp_skip ?_
      exact ⟨rfl, (), rfl, h⟩)
  exact ⟨r, q, e1⟩
abbrev P_need_number (v l m : Nat) : Prop := l ≤ v ∧ v ≤ m
abbrev F_need_number (_ _ _ : Nat) : Unit := ()
theorem ok_need_number {v l m : Nat} (h : P_need_number v l m) : V_need_number v l m (· = F_need_number v l m) := by
  unfold V_need_number
  exact ⟨by unfold F_is_in; exact decide_eq_true h, rfl⟩
theorem t_need_number {value : Nat} {least : Nat} {most : Nat} (hP : P_need_number value least most) (tp : List D) : m_need_number [eN value, eN least, eN most] tp = .ok (eU (F_need_number value least most)) tp := by
  obtain ⟨r, rfl, e⟩ := snd_need_number value least most (ok_need_number hP) tp
  exact e
end W
set_option maxHeartbeats 1000000
namespace W
open PySem L2 G T
local instance : _root_.G.Wo := ⟨fun _ => 0⟩
def V_law_plus (one : (Int × Int)) (other : (Int × Int)) (Q : (Int × Int) → Prop) : Prop := (cMul one.1 other.2 = true) ∧ (cMul other.1 one.2 = true) ∧ (cMul one.2 other.2 = true) ∧ (P_law_lowered ((one.1 * other.2) + (other.1 * one.2)) (one.2 * other.2)) ∧ Q (F_law_lowered ((one.1 * other.2) + (other.1 * one.2)) (one.2 * other.2))
theorem snd_law_plus (one : (Int × Int)) (other : (Int × Int)) {Q : (Int × Int) → Prop} (h : V_law_plus one other Q) (tp : List D) : ∃ r : (Int × Int), Q r ∧ m_law_plus [(eP eZ eZ) one, (eP eZ eZ) other] tp = .ok ((eP eZ eZ) r) tp := by
  obtain ⟨d, t, e1, rfl, r, rfl, q⟩ := T.wp_def (n := 2) (s := b_law_plus) (ds := [(eP eZ eZ) one, (eP eZ eZ) other]) (tp := tp) (Q := fun d t => t = tp ∧ ∃ r : (Int × Int), d = (eP eZ eZ) r ∧ Q r) (by
    unfold V_law_plus at h
    change WP _ _ _ _ (b_law_plus [some ((eP eZ eZ) one), some ((eP eZ eZ) other)] _)
    unfold b_law_plus
    obtain ⟨c1, h⟩ := h
    obtain ⟨c2, h⟩ := h
    obtain ⟨c3, h⟩ := h
    obtain ⟨c4, h⟩ := h
    exact T.wp_ret (T.ev_call (T.ev_cons (T.ev_addZ (x := (one.1 * other.2)) (y := (other.1 * one.2)) (T.ev_mulZ (x := one.1) (y := other.2) c1 (T.ev_fst (x := one) (T.ev_v rfl) rfl) (T.ev_snd (x := other) (T.ev_v rfl) rfl)) (T.ev_mulZ (x := other.1) (y := one.2) c2 (T.ev_fst (x := other) (T.ev_v rfl) rfl) (T.ev_snd (x := one) (T.ev_v rfl) rfl))) (T.ev_cons (T.ev_mulZ (x := one.2) (y := other.2) c3 (T.ev_snd (x := one) (T.ev_v rfl) rfl) (T.ev_snd (x := other) (T.ev_v rfl) rfl)) T.ev_nil)) rfl (t_law_lowered c4 _)) ⟨rfl, (F_law_lowered ((one.1 * other.2) + (other.1 * one.2)) (one.2 * other.2)), rfl, h⟩)
  exact ⟨r, q, e1⟩
abbrev P_law_plus (x y : Int × Int) : Prop := (Lg x.1 4000 ∧ Lg x.2 4000 ∧ 0 < x.2) ∧ Lg y.1 4000 ∧ Lg y.2 4000 ∧ 0 < y.2
abbrev F_law_plus (x y : Int × Int) : Int × Int := low (x.1 * y.2 + y.1 * x.2) (x.2 * y.2)
theorem cMul_law_plus {x y : Int} (a : Lg x 4000) (b : Lg y 4000) : cMul x y = true := by
  have h1 := log_lt a (by omega)
  have h2 := log_lt b (by omega)
  exact decide_eq_true (by omega)
theorem ok_law_plus {x y : Int × Int} (k : P_law_plus x y) : V_law_plus x y (· = F_law_plus x y) := by
  obtain ⟨⟨a, b, c⟩, d, e, f⟩ := k
  exact ⟨cMul_law_plus a e, cMul_law_plus d b, cMul_law_plus b e, ⟨((a.mul e).add (d.mul b)).mono (by omega), (b.mul e).mono (by omega), Int.mul_pos c f⟩, rfl⟩
theorem t_law_plus {one : (Int × Int)} {other : (Int × Int)} (hP : P_law_plus one other) (tp : List D) : m_law_plus [(eP eZ eZ) one, (eP eZ eZ) other] tp = .ok ((eP eZ eZ) (F_law_plus one other)) tp := by
  obtain ⟨r, rfl, e⟩ := snd_law_plus one other (ok_law_plus hP) tp
  exact e
end W
set_option maxHeartbeats 1000000
namespace W
open PySem L2 G T
local instance : _root_.G.Wo := ⟨fun _ => 0⟩
def V_need_board (rows : Nat) (columns : Nat) (Q : Unit → Prop) : Prop := (P_need_number rows 1 30) ∧ (P_need_number columns 1 30) ∧ Q ()
theorem snd_need_board (rows : Nat) (columns : Nat) {Q : Unit → Prop} (h : V_need_board rows columns Q) (tp : List D) : ∃ r : Unit, Q r ∧ m_need_board [eN rows, eN columns] tp = .ok (eU r) tp := by
  obtain ⟨d, t, e1, rfl, r, rfl, q⟩ := T.wp_def (n := 2) (s := b_need_board) (ds := [eN rows, eN columns]) (tp := tp) (Q := fun d t => t = tp ∧ ∃ r : Unit, d = eU r ∧ Q r) (by
    unfold V_need_board at h
    change WP _ _ _ _ (b_need_board [some (eN rows), some (eN columns)] _)
    unfold b_need_board
    obtain ⟨c1, h⟩ := h
    refine T.wp_seq (T.wp_drop (T.ev_call (T.ev_cons (T.ev_v rfl) (T.ev_cons (T.ev_cN 1) (T.ev_cons (T.ev_cN 30) T.ev_nil))) rfl (t_need_number c1 _)) ?_)
    change WP _ _ _ _ (At _ [some (eN rows), some (eN columns)] _)
    obtain ⟨c2, h⟩ := h
    refine T.wp_drop (T.ev_call (T.ev_cons (T.ev_v rfl) (T.ev_cons (T.ev_cN 1) (T.ev_cons (T.ev_cN 30) T.ev_nil))) rfl (t_need_number c2 _)) ?_
    exact ⟨rfl, (), rfl, h⟩)
  exact ⟨r, q, e1⟩
abbrev P_need_board (h w : Nat) : Prop := (1 ≤ h ∧ h ≤ 30) ∧ 1 ≤ w ∧ w ≤ 30
abbrev F_need_board (_ _ : Nat) : Unit := ()
theorem ok_need_board {h w : Nat} (k : P_need_board h w) : V_need_board h w (· = F_need_board h w) := ⟨k.1, k.2, rfl⟩
theorem t_need_board {rows : Nat} {columns : Nat} (hP : P_need_board rows columns) (tp : List D) : m_need_board [eN rows, eN columns] tp = .ok (eU (F_need_board rows columns)) tp := by
  obtain ⟨r, rfl, e⟩ := snd_need_board rows columns (ok_need_board hP) tp
  exact e
end W
set_option maxHeartbeats 1000000
namespace W
open PySem L2 G T
local instance : _root_.G.Wo := ⟨fun _ => 0⟩
def V_need_small (rows : Nat) (columns : Nat) (Q : Unit → Prop) : Prop := (P_need_number rows 1 8) ∧ (P_need_number columns 1 8) ∧ Q ()
theorem snd_need_small (rows : Nat) (columns : Nat) {Q : Unit → Prop} (h : V_need_small rows columns Q) (tp : List D) : ∃ r : Unit, Q r ∧ m_need_small [eN rows, eN columns] tp = .ok (eU r) tp := by
  obtain ⟨d, t, e1, rfl, r, rfl, q⟩ := T.wp_def (n := 2) (s := b_need_small) (ds := [eN rows, eN columns]) (tp := tp) (Q := fun d t => t = tp ∧ ∃ r : Unit, d = eU r ∧ Q r) (by
    unfold V_need_small at h
    change WP _ _ _ _ (b_need_small [some (eN rows), some (eN columns)] _)
    unfold b_need_small
    obtain ⟨c1, h⟩ := h
    refine T.wp_seq (T.wp_drop (T.ev_call (T.ev_cons (T.ev_v rfl) (T.ev_cons (T.ev_cN 1) (T.ev_cons (T.ev_cN 8) T.ev_nil))) rfl (t_need_number c1 _)) ?_)
    change WP _ _ _ _ (At _ [some (eN rows), some (eN columns)] _)
    obtain ⟨c2, h⟩ := h
    refine T.wp_drop (T.ev_call (T.ev_cons (T.ev_v rfl) (T.ev_cons (T.ev_cN 1) (T.ev_cons (T.ev_cN 8) T.ev_nil))) rfl (t_need_number c2 _)) ?_
    exact ⟨rfl, (), rfl, h⟩)
  exact ⟨r, q, e1⟩
abbrev P_need_small (h w : Nat) : Prop := (1 ≤ h ∧ h ≤ 8) ∧ 1 ≤ w ∧ w ≤ 8
abbrev F_need_small (_ _ : Nat) : Unit := ()
theorem ok_need_small {h w : Nat} (k : P_need_small h w) : V_need_small h w (· = F_need_small h w) := ⟨k.1, k.2, rfl⟩
theorem t_need_small {rows : Nat} {columns : Nat} (hP : P_need_small rows columns) (tp : List D) : m_need_small [eN rows, eN columns] tp = .ok (eU (F_need_small rows columns)) tp := by
  obtain ⟨r, rfl, e⟩ := snd_need_small rows columns (ok_need_small hP) tp
  exact e
end W
set_option maxHeartbeats 1000000
namespace W
open PySem L2 G T
local instance : _root_.G.Wo := ⟨fun _ => 0⟩
def V_need_sides (rows : Nat) (columns : Nat) (Q : Unit → Prop) : Prop := (P_need_number rows 1 30) ∧ (P_need_number columns 1 30) ∧ Q ()
theorem snd_need_sides (rows : Nat) (columns : Nat) {Q : Unit → Prop} (h : V_need_sides rows columns Q) (tp : List D) : ∃ r : Unit, Q r ∧ m_need_sides [eN rows, eN columns] tp = .ok (eU r) tp := by
  obtain ⟨d, t, e1, rfl, r, rfl, q⟩ := T.wp_def (n := 2) (s := b_need_sides) (ds := [eN rows, eN columns]) (tp := tp) (Q := fun d t => t = tp ∧ ∃ r : Unit, d = eU r ∧ Q r) (by
    unfold V_need_sides at h
    change WP _ _ _ _ (b_need_sides [some (eN rows), some (eN columns)] _)
    unfold b_need_sides
    obtain ⟨c1, h⟩ := h
    refine T.wp_seq (T.wp_drop (T.ev_call (T.ev_cons (T.ev_v rfl) (T.ev_cons (T.ev_cN 1) (T.ev_cons (T.ev_cN 30) T.ev_nil))) rfl (t_need_number c1 _)) ?_)
    change WP _ _ _ _ (At _ [some (eN rows), some (eN columns)] _)
    obtain ⟨c2, h⟩ := h
    refine T.wp_drop (T.ev_call (T.ev_cons (T.ev_v rfl) (T.ev_cons (T.ev_cN 1) (T.ev_cons (T.ev_cN 30) T.ev_nil))) rfl (t_need_number c2 _)) ?_
    exact ⟨rfl, (), rfl, h⟩)
  exact ⟨r, q, e1⟩
abbrev P_need_sides (h w : Nat) : Prop := (1 ≤ h ∧ h ≤ 30) ∧ 1 ≤ w ∧ w ≤ 30
abbrev F_need_sides (_ _ : Nat) : Unit := ()
theorem ok_need_sides {h w : Nat} (k : P_need_sides h w) : V_need_sides h w (· = F_need_sides h w) := ⟨k.1, k.2, rfl⟩
theorem t_need_sides {rows : Nat} {columns : Nat} (hP : P_need_sides rows columns) (tp : List D) : m_need_sides [eN rows, eN columns] tp = .ok (eU (F_need_sides rows columns)) tp := by
  obtain ⟨r, rfl, e⟩ := snd_need_sides rows columns (ok_need_sides hP) tp
  exact e
end W
set_option maxHeartbeats 1000000
namespace W
open PySem L2 G T
local instance : _root_.G.Wo := ⟨fun _ => 0⟩
def V_long_run_tally (rows : Nat) (columns : Nat) (Q : (List (Nat × (Int × Int))) → Prop) : Prop := (P_need_board rows columns) ∧ (P_product_to (rows + columns)) ∧ ∀ whole : Nat, whole = (F_product_to (rows + columns)) → (1 ≤ 1073741824 ∧ (rows + 1) ≤ 1073741824) ∧ ∃ I9 : Nat → (List (Nat × Nat)) → Prop, I9 0 [] ∧ (∀ (i13 : Nat) (x14 : Nat), (List.range' 1 ((rows + 1) - 1))[i13]? = some x14 → ∀ found : (List (Nat × Nat)), I9 i13 found → (1 ≤ 1073741824 ∧ (columns + 1) ≤ 1073741824) ∧ ∃ I21 : Nat → (List (Nat × Nat)) → Prop, I21 0 found ∧ (∀ (i25 : Nat) (x26 : Nat), (List.range' 1 ((columns + 1) - 1))[i25]? = some x26 → ∀ found_1 : (List (Nat × Nat)), I21 i25 found_1 → (((((x14 : Nat) : Int) - ((x26 : Nat) : Int)).natAbs < 2) → (P_splits rows x14) ∧ (cMul (((if (x14 = x26) then 2 else 1) : Nat) : Int) (((F_splits rows x14) : Nat) : Int) = true) ∧ (P_splits columns x26) ∧ (cMul ((((if (x14 = x26) then 2 else 1) * (F_splits rows x14)) : Nat) : Int) (((F_splits columns x26) : Nat) : Int) = true) ∧ (P_product_to rows) ∧ (cMul (((((if (x14 = x26) then 2 else 1) * (F_splits rows x14)) * (F_splits columns x26)) : Nat) : Int) (((F_product_to rows) : Nat) : Int) = true) ∧ (P_product_to columns) ∧ (cMul ((((((if (x14 = x26) then 2 else 1) * (F_splits rows x14)) * (F_splits columns x26)) * (F_product_to rows)) : Nat) : Int) (((F_product_to columns) : Nat) : Int) = true) ∧ (found_1.length < 1000000)) ∧ ∀ found_2 : (List (Nat × Nat)), found_2 = (if ((((x14 : Nat) : Int) - ((x26 : Nat) : Int)).natAbs < 2) then (dput found_1 (x14 + x26) (((dget found_1 (x14 + x26)).getD 0) + (((((if (x14 = x26) then 2 else 1) * (F_splits rows x14)) * (F_splits columns x26)) * (F_product_to rows)) * (F_product_to columns)))) else found_1) → I21 (i25 + 1) found_2) ∧ (∀ found_1 : (List (Nat × Nat)), I21 (List.range' 1 ((columns + 1) - 1)).length found_1 → I9 (i13 + 1) found_1)) ∧ (∀ found : (List (Nat × Nat)), I9 (List.range' 1 ((rows + 1) - 1)).length found → (found.length ≤ 1000000) ∧ (∀ x46, x46 ∈ found → (P_lowered ((x46.2 : Nat) : Int) ((whole : Nat) : Int))) ∧ Q (srtBy (eP eN (eP eZ eZ)) (found.map fun x46 => (x46.1, (F_lowered ((x46.2 : Nat) : Int) ((whole : Nat) : Int))))))
theorem snd_long_run_tally (rows : Nat) (columns : Nat) {Q : (List (Nat × (Int × Int))) → Prop} (h : V_long_run_tally rows columns Q) (tp : List D) : ∃ r : (List (Nat × (Int × Int))), Q r ∧ m_long_run_tally [eN rows, eN columns] tp = .ok ((eT (eP eN (eP eZ eZ))) r) tp := by
  obtain ⟨d, t, e1, rfl, r, rfl, q⟩ := T.wp_def (n := 9) (s := b_long_run_tally) (ds := [eN rows, eN columns]) (tp := tp) (Q := fun d t => t = tp ∧ ∃ r : (List (Nat × (Int × Int))), d = (eT (eP eN (eP eZ eZ))) r ∧ Q r) (by
    unfold V_long_run_tally at h
    change WP _ _ _ _ (b_long_run_tally [some (eN rows), some (eN columns), none, none, none, none, none, none, none] _)
    unfold b_long_run_tally
    obtain ⟨c1, h⟩ := h
    refine T.wp_seq (T.wp_drop (T.ev_call (T.ev_cons (T.ev_v rfl) (T.ev_cons (T.ev_v rfl) T.ev_nil)) rfl (t_need_board c1 _)) ?_)
    change WP _ _ _ _ (At _ [some (eN rows), some (eN columns), none, none, none, none, none, none, none] _)
    obtain ⟨c2, h⟩ := h
    obtain ⟨whole, d3⟩ : ∃ whole : Nat, whole = (F_product_to (rows + columns)) := ⟨_, rfl⟩
    replace h := h whole d3
    refine T.wp_seq (T.wp_par (T.ev_cons (T.ev_c rfl) (T.ev_cons (T.ev_as d3 (e := eN) (T.ev_call (T.ev_cons (T.ev_add (x := rows) (y := columns) (T.ev_v rfl) (T.ev_v rfl)) T.ev_nil) rfl (t_product_to c2 _))) T.ev_nil)) rfl ?_)
    change WP _ _ _ _ (At _ [some (eN rows), some (eN columns), some ((eD eN) []), some (eN whole), none, none, none, none, none] _)
    obtain ⟨c4, h⟩ := h
    obtain ⟨I9, h10, h11, h12⟩ := h
    refine T.wp_seq (T.wp_for (e := eN) (xs := (List.range' 1 ((rows + 1) - 1))) (ds := fun x14 => [eN x14]) (fun k env tz => tp = tz ∧ ∃ found : (List (Nat × Nat)), ∃ g5 : Option D, ∃ g6 : Option D, ∃ g7 : Option D, ∃ g8 : Option D, env = [some (eN rows), some (eN columns), some ((eD eN) found), some (eN whole), g5, g6, g7, g8, none] ∧ I9 k found) (T.it_range2 (a := 1) (n := (rows + 1)) c4 (T.ev_cN 1) (T.ev_add (x := rows) (y := 1) (T.ev_v rfl) (T.ev_cN 1))) (fun _ => rfl) ⟨rfl, [], _, _, _, _, rfl, h10⟩ ?_ ?_)
    · intro i13 x14 env t hk hI
      obtain ⟨rfl, found, g5, g6, g7, g8, rfl, h⟩ := hI
      replace h := h11 i13 x14 hk found h
      change WP _ _ _ _ (At _ [some (eN rows), some (eN columns), some ((eD eN) found), some (eN whole), some (eN x14), g6, g7, g8, none] _)
      obtain ⟨c17, h⟩ := h
      obtain ⟨I21, h22, h23, h24⟩ := h
      refine T.wp_for (e := eN) (xs := (List.range' 1 ((columns + 1) - 1))) (ds := fun x26 => [eN x26]) (fun k env tz => tp = tz ∧ ∃ found_1 : (List (Nat × Nat)), ∃ g18 : Option D, ∃ g19 : Option D, ∃ g20 : Option D, env = [some (eN rows), some (eN columns), some ((eD eN) found_1), some (eN whole), some (eN x14), g18, g19, g20, none] ∧ I21 k found_1) (T.it_range2 (a := 1) (n := (columns + 1)) c17 (T.ev_cN 1) (T.ev_add (x := columns) (y := 1) (T.ev_v rfl) (T.ev_cN 1))) (fun _ => rfl) ⟨rfl, found, _, _, _, rfl, h22⟩ ?_ ?_
      · intro i25 x26 env t hk hI
        obtain ⟨rfl, found_1, g18, g19, g20, rfl, h⟩ := hI
        replace h := h23 i25 x26 hk found_1 h
        change WP _ _ _ _ (At _ [some (eN rows), some (eN columns), some ((eD eN) found_1), some (eN whole), some (eN x14), some (eN x26), g19, g20, none] _)
        obtain ⟨c38, h⟩ := h
        refine T.wp_ifJ (P := ((((x14 : Nat) : Int) - ((x26 : Nat) : Int)).natAbs < 2)) (J := fun env tz => tp = tz ∧ ∃ found_2 : (List (Nat × Nat)), ∃ g39 : Option D, ∃ g40 : Option D, env = [some (eN rows), some (eN columns), some ((eD eN) found_2), some (eN whole), some (eN x14), some (eN x26), g39, g40, none] ∧ found_2 = (if ((((x14 : Nat) : Int) - ((x26 : Nat) : Int)).natAbs < 2) then (dput found_1 (x14 + x26) (((dget found_1 (x14 + x26)).getD 0) + (((((if (x14 = x26) then 2 else 1) * (F_splits rows x14)) * (F_splits columns x26)) * (F_product_to rows)) * (F_product_to columns)))) else found_1)) (T.ev_bool (T.ev_lt (x := (((x14 : Nat) : Int) - ((x26 : Nat) : Int)).natAbs) (y := 2) (T.ev_absZ (x := (((x14 : Nat) : Int) - ((x26 : Nat) : Int))) (T.ev_subZ (x := ((x14 : Nat) : Int)) (y := ((x26 : Nat) : Int)) (T.ev_v rfl) (T.ev_v rfl))) (T.ev_cN 2))) (fun hq => ?_) (fun hq => ?_) ?_
        · obtain ⟨c29, c30, c31, c32, c33, c34, c35, c36, c37⟩ := c38 hq
          refine T.wp_seq (T.wp_set (T.ev_ifE (P := (x14 = x26)) (e := eN) (x := 2) (y := 1) (T.ev_bool (T.ev_eq (x := x14) (y := x26) qN rfl (T.ev_v rfl) (T.ev_v rfl))) (fun hp => (T.ev_cN 2)) (fun hp => (T.ev_cN 1))) ?_)
          change WP _ _ _ _ (At _ [some (eN rows), some (eN columns), some ((eD eN) found_1), some (eN whole), some (eN x14), some (eN x26), some (eN (if (x14 = x26) then 2 else 1)), g20, none] _)
          refine T.wp_seq (T.wp_set (T.ev_mul (x := ((((if (x14 = x26) then 2 else 1) * (F_splits rows x14)) * (F_splits columns x26)) * (F_product_to rows))) (y := (F_product_to columns)) c36 (T.ev_mul (x := (((if (x14 = x26) then 2 else 1) * (F_splits rows x14)) * (F_splits columns x26))) (y := (F_product_to rows)) c34 (T.ev_mul (x := ((if (x14 = x26) then 2 else 1) * (F_splits rows x14))) (y := (F_splits columns x26)) c32 (T.ev_mul (x := (if (x14 = x26) then 2 else 1)) (y := (F_splits rows x14)) c30 (T.ev_v rfl) (T.ev_call (T.ev_cons (T.ev_v rfl) (T.ev_cons (T.ev_v rfl) T.ev_nil)) rfl (t_splits c29 _))) (T.ev_call (T.ev_cons (T.ev_v rfl) (T.ev_cons (T.ev_v rfl) T.ev_nil)) rfl (t_splits c31 _))) (T.ev_call (T.ev_cons (T.ev_v rfl) T.ev_nil) rfl (t_product_to c33 _))) (T.ev_call (T.ev_cons (T.ev_v rfl) T.ev_nil) rfl (t_product_to c35 _))) ?_)
          change WP _ _ _ _ (At _ [some (eN rows), some (eN columns), some ((eD eN) found_1), some (eN whole), some (eN x14), some (eN x26), some (eN (if (x14 = x26) then 2 else 1)), some (eN (((((if (x14 = x26) then 2 else 1) * (F_splits rows x14)) * (F_splits columns x26)) * (F_product_to rows)) * (F_product_to columns))), none] _)
          refine T.wp_dset (e := eN) (d := found_1) (k := (x14 + x26)) (v := (((dget found_1 (x14 + x26)).getD 0) + (((((if (x14 = x26) then 2 else 1) * (F_splits rows x14)) * (F_splits columns x26)) * (F_product_to rows)) * (F_product_to columns)))) rfl (T.ev_add (x := ((dget found_1 (x14 + x26)).getD 0)) (y := (((((if (x14 = x26) then 2 else 1) * (F_splits rows x14)) * (F_splits columns x26)) * (F_product_to rows)) * (F_product_to columns))) (T.ev_get2 (e := eN) (x := (x14 + x26)) (y := 0) (d := found_1) (T.ev_v rfl) (T.ev_add (x := x14) (y := x26) (T.ev_v rfl) (T.ev_v rfl)) (T.ev_cN 0)) (T.ev_v rfl)) (T.ev_add (x := x14) (y := x26) (T.ev_v rfl) (T.ev_v rfl)) c37 ?_
          exact ⟨rfl, (dput found_1 (x14 + x26) (((dget found_1 (x14 + x26)).getD 0) + (((((if (x14 = x26) then 2 else 1) * (F_splits rows x14)) * (F_splits columns x26)) * (F_product_to rows)) * (F_product_to columns)))), _, _, rfl, (if_pos hq).symm⟩
        · refine T.wp_skip ?_
          exact ⟨rfl, found_1, _, _, rfl, (if_neg hq).symm⟩
        rintro _ _ ⟨rfl, found_2, g39, g40, rfl, d41⟩
        replace h := h found_2 d41
        exact ⟨rfl, found_2, _, _, _, rfl, h⟩
      rintro _ _ ⟨rfl, found_1, g18, g19, g20, rfl, h⟩
      replace h := h24 found_1 h
      exact ⟨rfl, found_1, _, _, _, _, rfl, h⟩
    rintro _ _ ⟨rfl, found, g5, g6, g7, g8, rfl, h⟩
    replace h := h12 found h
    change WP _ _ _ _ (At _ [some (eN rows), some (eN columns), some ((eD eN) found), some (eN whole), g5, g6, g7, g8, none] _)
    obtain ⟨c47, h⟩ := h
    obtain ⟨c49, h⟩ := h
    exact T.wp_ret (T.ev_tupleL (e := (eP eN (eP eZ eZ))) (xs := (srtBy (eP eN (eP eZ eZ)) (found.map fun x46 => (x46.1, (F_lowered ((x46.2 : Nat) : Int) ((whole : Nat) : Int)))))) (T.ev_sortDat (e := (eP eN (eP eZ eZ))) (xs := (found.map fun x46 => (x46.1, (F_lowered ((x46.2 : Nat) : Int) ((whole : Nat) : Int))))) srt_NZZ (T.ev_compY (e := (eP eN eN)) (e1 := (eP eN (eP eZ eZ))) (xs := found) (ds := fun x46 => [eN x46.1, eN x46.2]) (g := fun x46 => (x46.1, (F_lowered ((x46.2 : Nat) : Int) ((whole : Nat) : Int)))) (T.it_items (e := eN) (d := found) (T.ev_v rfl)) c47 (fun _ => rfl) (fun x46 hx => have c48 := c49 x46 hx; (T.ev_tup (ds := [eN x46.1, (eP eZ eZ) (F_lowered ((x46.2 : Nat) : Int) ((whole : Nat) : Int))]) (T.ev_cons (T.ev_v rfl) (T.ev_cons (T.ev_call (ds := [eZ ((x46.2 : Nat) : Int), eZ ((whole : Nat) : Int)]) (T.ev_cons (T.ev_v rfl) (T.ev_cons (T.ev_v rfl) T.ev_nil)) rfl (t_lowered c48 _)) T.ev_nil)) rfl))))) ⟨rfl, (srtBy (eP eN (eP eZ eZ)) (found.map fun x46 => (x46.1, (F_lowered ((x46.2 : Nat) : Int) ((whole : Nat) : Int))))), rfl, h⟩)
  exact ⟨r, q, e1⟩
abbrev P_long_run_tally (h w : Nat) : Prop := P_need_board h w
def tvalR (h w i j : Nat) : Nat := (if i = j then 2 else 1) * ch (h - 1) i * ch (w - 1) j * hfac h * hfac w
abbrev nearR (i j : Nat) : Prop := i = j ∨ i = j + 1 ∨ j = i + 1
def trowR (h w i : Nat) : Nat → List (Nat × Nat)
  | 0 => []
  | j + 1 => trowR h w i j ++ (if nearR i j then [(i + 1 + (j + 1), tvalR h w i j)] else [])
def tallR (h w : Nat) : Nat → List (Nat × Nat)
  | 0 => []
  | i + 1 => tallR h w i ++ trowR h w i w
def tallyR (h w : Nat) : List (Nat × Nat) := daddAll (tallR h w h) []
abbrev F_long_run_tally (h w : Nat) : List (Nat × (Int × Int)) := srtBy (eP eN (eP eZ eZ)) ((tallyR h w).map fun p => (p.1, low ((p.2 : Nat) : Int) ((hfac (h + w) : Nat) : Int)))
theorem trowR_sum (h w i : Nat) : ∀ m, ((trowR h w i m).map (·.2)).sum = su (fun j => wtQ i j * ch (w - 1) j) m * (ch (h - 1) i * (hfac h * hfac w))
  | 0 => by show 0 = 0 * _; omega
  | m + 1 => by
    show ((trowR h w i m ++ _).map (·.2)).sum = (su _ m + wtQ i m * ch (w - 1) m) * _
    rw [List.map_append, List.sum_append, trowR_sum h w i m, Nat.add_mul]
    congr 1
    unfold wtQ
    by_cases q : nearR i m
    · rw [if_pos q]
      show tvalR h w i m + 0 = _
      unfold tvalR
      by_cases e : i = m
      · rw [if_pos e, if_pos e, Nat.add_zero]; ac_rfl
      · rw [if_neg e, if_neg e, if_pos (by unfold nearR at q; omega), Nat.add_zero]; ac_rfl
    · rw [if_neg q, if_neg (by unfold nearR at q; omega), if_neg (by unfold nearR at q; omega)]
      simp
theorem tallR_sum (h w : Nat) : ∀ n, ((tallR h w n).map (·.2)).sum = su (fun i => ch (h - 1) i * su (fun j => wtQ i j * ch (w - 1) j) w) n * (hfac h * hfac w)
  | 0 => by show 0 = 0 * _; omega
  | n + 1 => by
    show ((tallR h w n ++ trowR h w n w).map (·.2)).sum = (su _ n + ch (h - 1) n * su _ w) * _
    rw [List.map_append, List.sum_append, tallR_sum h w n, trowR_sum, Nat.add_mul]
    congr 1
    ac_rfl
theorem tallR_all {h w : Nat} (h1 : 1 ≤ h) (w1 : 1 ≤ w) : ((tallR h w h).map (·.2)).sum = hfac (h + w) := by
  obtain ⟨a, rfl⟩ : ∃ a, h = a + 1 := ⟨h - 1, by omega⟩
  obtain ⟨b, rfl⟩ : ∃ b, w = b + 1 := ⟨w - 1, by omega⟩
  rw [tallR_sum, Nat.add_sub_cancel, Nat.add_sub_cancel, wt_all, ch_fac]
theorem trowR_two (h w i : Nat) : ∀ m, psum (trowR h w i m) 2 = if i = 0 ∧ 0 < m then tvalR h w 0 0 else 0
  | 0 => by rw [if_neg (by omega)]; rfl
  | m + 1 => by
    show psum (trowR h w i m ++ _) 2 = _
    rw [psum_app, trowR_two h w i m]
    by_cases q : nearR i m
    · rw [if_pos q, psum_cons]
      show _ + (_ + 0) = _
      by_cases z : i = 0 ∧ m = 0
      · rw [if_neg (by omega), if_pos (by omega), if_pos (by omega), z.1, z.2]; omega
      · rw [if_neg (show ¬ 2 = i + 1 + (m + 1) by omega)]
        by_cases y : i = 0
        · rw [if_pos (by omega), if_pos (by omega)]; omega
        · rw [if_neg (by omega), if_neg (by omega)]; omega
    · rw [if_neg q]
      show _ + 0 = _
      by_cases y : i = 0
      · have : 0 < m := by unfold nearR at q; omega
        rw [if_pos (by omega), if_pos (by omega), Nat.add_zero]
      · rw [if_neg (by omega), if_neg (by omega), Nat.add_zero]
theorem tallR_two {h w : Nat} (w1 : 1 ≤ w) : ∀ n, psum (tallR h w n) 2 = if 0 < n then tvalR h w 0 0 else 0
  | 0 => rfl
  | n + 1 => by
    show psum (tallR h w n ++ trowR h w n w) 2 = _
    rw [psum_app, tallR_two w1 n, trowR_two, if_pos (show 0 < n + 1 by omega)]
    by_cases z : n = 0
    · rw [if_neg (by omega), if_pos (by omega)]; omega
    · rw [if_pos (by omega), if_neg (by omega)]; omega
theorem trowR_len (h w i : Nat) : ∀ m, (trowR h w i m).length ≤ m
  | 0 => Nat.le_refl _
  | m + 1 => by
    show (trowR h w i m ++ _).length ≤ _
    rw [List.length_append]
    have := trowR_len h w i m
    split <;> simp <;> omega
theorem tallR_len (h w : Nat) : ∀ n, (tallR h w n).length ≤ n * w
  | 0 => Nat.zero_le _
  | n + 1 => by
    show (tallR h w n ++ trowR h w n w).length ≤ _
    rw [List.length_append, Nat.add_mul, Nat.one_mul]
    have := tallR_len h w n
    have := trowR_len h w n w
    omega
theorem tallyR_facts {h w : Nat} (h1 : 1 ≤ h) (w1 : 1 ≤ w) : (dkeys (tallyR h w)).Nodup ∧ dsum (tallyR h w) = hfac (h + w) ∧ dcnt (tallyR h w) 2 = 2 * hfac h * hfac w ∧ (tallyR h w).length ≤ h * w := by
  obtain ⟨a, b, c, d⟩ := daddAll_spec (tallR h w h) [] (by simp)
  refine ⟨a, ?_, ?_, ?_⟩
  · show dsum (daddAll _ _) = _
    rw [c, tallR_all h1 w1]
    show 0 + _ = _
    omega
  · show dcnt (daddAll _ _) 2 = _
    rw [b, tallR_two w1, if_pos (by omega)]
    show 0 + tvalR h w 0 0 = _
    unfold tvalR
    rw [if_pos rfl, ch_zero, ch_zero]; simp
  · have := tallR_len h w h
    have d : (tallyR h w).length ≤ 0 + (tallR h w h).length := d
    omega
theorem ok_long_run_tally {h w : Nat} (k : P_long_run_tally h w) : V_long_run_tally h w (· = F_long_run_tally h w) := by
  have kk := k
  obtain ⟨⟨h1, h30⟩, w1, w30⟩ := k
  have nd0 : (dkeys ([] : List (Nat × Nat))).Nodup := by simp
  refine ⟨kk, by show h + w ≤ 61; omega, fun W hW => ⟨by omega, fun i f => f = daddAll (tallR h w i) [], rfl, fun i x hx f hf => ⟨by omega, fun j g => g = daddAll (tallR h w i ++ trowR h w i j) [], ?_, fun j y hy g hg => ?_, fun g hg => ?_⟩, fun f hf => ?_⟩⟩
  · show f = _
    have : trowR h w i 0 = [] := rfl
    rw [this, List.append_nil]; exact hf
  · have hi := (List.getElem?_eq_some_iff.mp hx).1
    rw [List.length_range'] at hi
    rw [List.getElem?_range' (by omega)] at hx
    have ex : x = i + 1 := by have := Option.some.inj hx; omega
    have hj := (List.getElem?_eq_some_iff.mp hy).1
    rw [List.length_range'] at hj
    rw [List.getElem?_range' (by omega)] at hy
    have ey : y = j + 1 := by have := Option.some.inj hy; omega
    subst ex ey
    have hg : g = daddAll (tallR h w i ++ trowR h w i j) [] := hg
    have hnr : (((i + 1 : Nat) : Int) - ((j + 1 : Nat) : Int)).natAbs < 2 ↔ nearR i j := by unfold nearR; omega
    have c1 : (if i + 1 = j + 1 then 2 else 1) < 2 ^ 2 := by split <;> omega
    have c2 : F_splits h (i + 1) < 2 ^ 31 := Nat.lt_of_le_of_lt (ch_le _ _) (Nat.pow_lt_pow_right (by decide) (by omega))
    have c3 : F_splits w (j + 1) < 2 ^ 31 := Nat.lt_of_le_of_lt (ch_le _ _) (Nat.pow_lt_pow_right (by decide) (by omega))
    have c4 : F_product_to h < 2 ^ 400 := hfac_lt (by omega)
    have c5 : F_product_to w < 2 ^ 400 := hfac_lt (by omega)
    have m2 : (if i + 1 = j + 1 then 2 else 1) * F_splits h (i + 1) < 2 ^ (2 + 31) := by rw [Nat.pow_add]; exact Nat.mul_lt_mul'' c1 c2
    have m3 : (if i + 1 = j + 1 then 2 else 1) * F_splits h (i + 1) * F_splits w (j + 1) < 2 ^ (2 + 31 + 31) := by rw [Nat.pow_add]; exact Nat.mul_lt_mul'' m2 c3
    have m4 : (if i + 1 = j + 1 then 2 else 1) * F_splits h (i + 1) * F_splits w (j + 1) * F_product_to h < 2 ^ (2 + 31 + 31 + 400) := by rw [Nat.pow_add (m := 2 + 31 + 31)]; exact Nat.mul_lt_mul'' m3 c4
    refine ⟨fun hn => ⟨⟨by omega, by omega, by omega⟩, cMul_nat c1 c2 (by omega) (by omega) (by omega), ⟨by omega, by omega, by omega⟩, cMul_nat m2 c3 (by omega) (by omega) (by omega), by show h ≤ 61; omega, cMul_nat m3 c4 (by omega) (by omega) (by omega), by show w ≤ 61; omega, cMul_nat m4 c5 (by omega) (by omega) (by omega), ?_⟩, fun g2 hg2 => ?_⟩
    · have l1 := (daddAll_spec (tallR h w i ++ trowR h w i j) [] nd0).2.2.2
      have l2 := tallR_len h w i
      have l3 := trowR_len h w i j
      have l4 : i * w ≤ 30 * 30 := Nat.mul_le_mul (by omega) w30
      rw [hg]
      rw [List.length_append] at l1
      have l1 : (daddAll (tallR h w i ++ trowR h w i j) []).length ≤ 0 + ((tallR h w i).length + (trowR h w i j).length) := l1
      omega
    · show g2 = daddAll (tallR h w i ++ (trowR h w i j ++ (if nearR i j then [(i + 1 + (j + 1), tvalR h w i j)] else []))) []
      rw [← List.append_assoc, daddAll_app, ← hg, hg2]
      by_cases z : nearR i j
      · rw [if_pos (hnr.mpr z), if_pos z]
        show _ = dadd g (i + 1 + (j + 1)) (tvalR h w i j)
        have e : tvalR h w i j = (if i + 1 = j + 1 then 2 else 1) * F_splits h (i + 1) * F_splits w (j + 1) * F_product_to h * F_product_to w := by
          unfold tvalR
          have : (if i + 1 = j + 1 then 2 else 1) = if i = j then 2 else 1 := by
            by_cases q : i = j
            · rw [if_pos q, if_pos (by omega)]
            · rw [if_neg q, if_neg (by omega)]
          rw [this]; rfl
        rw [e]; rfl
      · rw [if_neg (fun q => z (hnr.mp q)), if_neg z]; rfl
  · rw [List.length_range'] at hg
    exact hg
  · rw [List.length_range'] at hf
    have hf : f = tallyR h w := hf
    obtain ⟨f1, f2, f3, f4⟩ := tallyR_facts (h := h) (w := w) h1 w1
    have l4 : h * w ≤ 30 * 30 := Nat.mul_le_mul h30 w30
    have hW : W = hfac (h + w) := hW
    have p := hfac_pos (h + w)
    refine ⟨by rw [hf]; omega, fun x hx => ?_, ?_⟩
    · rw [hf] at hx
      have := mem_le_sum hx
      rw [f2] at this
      have l := hfac_lt (n := h + w) (by omega)
      rw [hW]
      exact ⟨(Lg.nat (Nat.lt_of_le_of_lt this l)).mono (by omega), (Lg.nat l).mono (by omega), by omega⟩
    · rw [hf, hW]
theorem t_long_run_tally {rows : Nat} {columns : Nat} (hP : P_long_run_tally rows columns) (tp : List D) : m_long_run_tally [eN rows, eN columns] tp = .ok ((eT (eP eN (eP eZ eZ))) (F_long_run_tally rows columns)) tp := by
  obtain ⟨r, rfl, e⟩ := snd_long_run_tally rows columns (ok_long_run_tally hP) tp
  exact e
end W
set_option maxHeartbeats 1000000
namespace W
open PySem L2 G T
local instance : _root_.G.Wo := ⟨fun _ => 0⟩
def V_tally_of (rows : Nat) (columns : Nat) (Q : (List (Nat × Nat)) → Prop) : Prop := ∀ known : (Int × List Str), known = ((6, []) : Int × List Str) → ∃ I5 : Nat → (List (Nat × Nat)) → Prop, I5 0 [] ∧ (∀ (i9 : Nat) (x10 : Bool), [true, false][i9]? = some x10 → ∀ found : (List (Nat × Nat)), I5 i9 found → (P_black_left known rows columns x10) ∧ ∃ I16 : Nat → (List (Nat × Nat)) → Prop, I16 0 found ∧ (∀ (i20 : Nat) (x21 : (Nat × Nat)), (F_black_left known rows columns x10)[i20]? = some x21 → ∀ found_1 : (List (Nat × Nat)), I16 i20 found_1 → (found_1.length < 1000000) ∧ ∀ found_2 : (List (Nat × Nat)), found_2 = (dput found_1 x21.1 (((dget found_1 x21.1).getD 0) + x21.2)) → I16 (i20 + 1) found_2) ∧ (∀ found_1 : (List (Nat × Nat)), I16 (F_black_left known rows columns x10).length found_1 → I5 (i9 + 1) found_1)) ∧ (∀ found : (List (Nat × Nat)), I5 [true, false].length found → Q found)
theorem snd_tally_of (rows : Nat) (columns : Nat) {Q : (List (Nat × Nat)) → Prop} (h : V_tally_of rows columns Q) (tp : List D) : ∃ r : (List (Nat × Nat)), Q r ∧ m_tally_of [eN rows, eN columns] tp = .ok ((eD eN) r) tp := by
  obtain ⟨d, t, e1, rfl, r, rfl, q⟩ := T.wp_def (n := 7) (s := b_tally_of) (ds := [eN rows, eN columns]) (tp := tp) (Q := fun d t => t = tp ∧ ∃ r : (List (Nat × Nat)), d = (eD eN) r ∧ Q r) (by
    unfold V_tally_of at h
    change WP _ _ _ _ (b_tally_of [some (eN rows), some (eN columns), none, none, none, none, none] _)
    unfold b_tally_of
    obtain ⟨known, d1⟩ : ∃ known : (Int × List Str), known = ((6, []) : Int × List Str) := ⟨_, rfl⟩
    replace h := h known d1
    refine T.wp_seq (T.wp_par (T.ev_cons (T.ev_as d1 (e := eM) (T.ev_memoE (n := 6) (f := fun _ => some []) rfl)) (T.ev_cons (T.ev_c rfl) T.ev_nil)) rfl ?_)
    change WP _ _ _ _ (At _ [some (eN rows), some (eN columns), some (eM known), some ((eD eN) []), none, none, none] _)
    obtain ⟨I5, h6, h7, h8⟩ := h
    refine T.wp_seq (T.wp_for (e := eB) (xs := [true, false]) (ds := fun x10 => [eB x10]) (fun k env tz => tp = tz ∧ ∃ found : (List (Nat × Nat)), ∃ g2 : Option D, ∃ g3 : Option D, ∃ g4 : Option D, env = [some (eN rows), some (eN columns), some (eM known), some ((eD eN) found), g2, g3, g4] ∧ I5 k found) (T.it_T (e := eB) (xs := [true, false]) (T.ev_tup (ds := [eB true, eB false]) (T.ev_cons (T.ev_c rfl) (T.ev_cons (T.ev_c rfl) T.ev_nil)) rfl)) (fun _ => rfl) ⟨rfl, [], _, _, _, rfl, h6⟩ ?_ ?_)
    · intro i9 x10 env t hk hI
      obtain ⟨rfl, found, g2, g3, g4, rfl, h⟩ := hI
      replace h := h7 i9 x10 hk found h
      change WP _ _ _ _ (At _ [some (eN rows), some (eN columns), some (eM known), some ((eD eN) found), some (eB x10), g3, g4] _)
      obtain ⟨c13, h⟩ := h
      obtain ⟨I16, h17, h18, h19⟩ := h
      refine T.wp_for (e := (eP eN eN)) (xs := (F_black_left known rows columns x10)) (ds := fun x21 => [eN x21.1, eN x21.2]) (fun k env tz => tp = tz ∧ ∃ found_1 : (List (Nat × Nat)), ∃ g14 : Option D, ∃ g15 : Option D, env = [some (eN rows), some (eN columns), some (eM known), some ((eD eN) found_1), some (eB x10), g14, g15] ∧ I16 k found_1) (T.it_items (e := eN) (d := (F_black_left known rows columns x10)) (T.ev_call (T.ev_cons (T.ev_v rfl) (T.ev_cons (T.ev_v rfl) (T.ev_cons (T.ev_v rfl) (T.ev_cons (T.ev_v rfl) T.ev_nil)))) rfl (t_black_left c13 _))) (fun _ => rfl) ⟨rfl, found, _, _, rfl, h17⟩ ?_ ?_
      · intro i20 x21 env t hk hI
        obtain ⟨rfl, found_1, g14, g15, rfl, h⟩ := hI
        replace h := h18 i20 x21 hk found_1 h
        change WP _ _ _ _ (At _ [some (eN rows), some (eN columns), some (eM known), some ((eD eN) found_1), some (eB x10), some (eN x21.1), some (eN x21.2)] _)
        obtain ⟨c24, h⟩ := h
        obtain ⟨found_2, d25⟩ : ∃ found_2 : (List (Nat × Nat)), found_2 = (dput found_1 x21.1 (((dget found_1 x21.1).getD 0) + x21.2)) := ⟨_, rfl⟩
        replace h := h found_2 d25
        refine T.wp_dset (e := eN) (d := found_1) (k := x21.1) (v := (((dget found_1 x21.1).getD 0) + x21.2)) rfl (T.ev_add (x := ((dget found_1 x21.1).getD 0)) (y := x21.2) (T.ev_get2 (e := eN) (x := x21.1) (y := 0) (d := found_1) (T.ev_v rfl) (T.ev_v rfl) (T.ev_cN 0)) (T.ev_v rfl)) (T.ev_v rfl) c24 ?_
        rw [← d25]
        exact ⟨rfl, found_2, _, _, rfl, h⟩
      rintro _ _ ⟨rfl, found_1, g14, g15, rfl, h⟩
      replace h := h19 found_1 h
      exact ⟨rfl, found_1, _, _, _, rfl, h⟩
    rintro _ _ ⟨rfl, found, g2, g3, g4, rfl, h⟩
    replace h := h8 found h
    change WP _ _ _ _ (At _ [some (eN rows), some (eN columns), some (eM known), some ((eD eN) found), g2, g3, g4] _)
    exact T.wp_ret (T.ev_v rfl) ⟨rfl, found, rfl, h⟩)
  exact ⟨r, q, e1⟩
abbrev P_tally_of (r c : Nat) : Prop := r ≤ 8 ∧ c ≤ 8
def F_tally_of (r c : Nat) : List (Nat × Nat) := bothB _root_.G.bcB r c
theorem ok_tally_of {r c : Nat} (h : P_tally_of r c) : V_tally_of r c (· = F_tally_of r c) := by
  obtain ⟨hr, hc⟩ := h
  intro known ek
  subst ek
  have m64 : r * c ≤ 64 := Nat.mul_le_mul hr hc
  obtain ⟨b1, b2⟩ := both_small few_bc hr hc
  refine ⟨fun i f => i ≤ 2 ∧ f = if i = 0 then [] else if i = 1 then daddAll (leftN _root_.G.bcB r c true) [] else bothB _root_.G.bcB r c, ⟨by omega, rfl⟩, fun i x hx f hf => ⟨⟨rfl, hr, hc⟩, fun j g => g = daddAll ((leftN _root_.G.bcB r c x).take j) f, rfl, fun j y hy g hg => ?_, fun g hg => ?_⟩, fun f hf => ?_⟩
  · have hy : (leftN _root_.G.bcB r c x)[j]? = some y := hy
    have hg : g = daddAll ((leftN _root_.G.bcB r c x).take j) f := hg
    refine ⟨?_, fun g1 e1 => ?_⟩
    · obtain ⟨h2, hf⟩ := hf
      have fs : SmallD (r * c) (2 ^ 433) f := by
        rw [hf]
        split
        · exact ⟨List.nodup_nil, fun k hk => (by cases hk), Nat.zero_le _⟩
        · split
          · exact b2
          · exact b1
      have ls := left_small few_bc (r + c) r c x hr hc
      have := fs.add (ps := (leftN _root_.G.bcB r c x).take j) (S' := 2 ^ (27 * (r + c))) (fun p hp => ls.ks p.1 (List.mem_map.mpr ⟨p, List.mem_of_mem_take hp, rfl⟩)) (Nat.le_trans (sum_take_le _ _) ls.su)
      rw [← hg] at this
      have := this.len
      omega
    · show g1 = daddAll (List.take (j + 1) (leftN _root_.G.bcB r c x)) f
      rw [take_snoc hy, daddAll_app, ← hg, e1]; rfl
  · have hg : g = daddAll ((leftN _root_.G.bcB r c x).take (leftN _root_.G.bcB r c x).length) f := hg
    rw [List.take_length] at hg
    obtain ⟨_, hf⟩ := hf
    have hx : [true, false][i]? = some x := hx
    match i, hx with
    | 0, hx => cases hx; exact ⟨by omega, by rw [hg, hf]; rfl⟩
    | 1, hx => cases hx; exact ⟨by omega, by rw [hg, hf]; rfl⟩
    | i + 2, hx => simp at hx
  · exact hf.2
theorem t_tally_of {rows : Nat} {columns : Nat} (hP : P_tally_of rows columns) (tp : List D) : m_tally_of [eN rows, eN columns] tp = .ok ((eD eN) (F_tally_of rows columns)) tp := by
  obtain ⟨r, rfl, e⟩ := snd_tally_of rows columns (ok_tally_of hP) tp
  exact e
end W
set_option maxHeartbeats 1000000
namespace W
open PySem L2 G T
local instance : _root_.G.Wo := ⟨fun _ => 0⟩
def V_long_run_black (rows : Nat) (columns : Nat) (Q : (List (Nat × (Int × Int))) → Prop) : Prop := (P_need_small rows columns) ∧ (P_orders_number (rows + columns) (rows + columns)) ∧ ∀ known : (Int × List Str), known = ((7, []) : Int × List Str) → ∀ whole : Nat, whole = (F_orders_number (rows + columns) (rows + columns)) → ∃ I8 : Nat → (List (Nat × Nat)) → Prop, I8 0 [] ∧ (∀ (i12 : Nat) (x13 : Bool), [true, false][i12]? = some x13 → ∀ found : (List (Nat × Nat)), I8 i12 found → (P_run_left known rows columns x13) ∧ ∃ I19 : Nat → (List (Nat × Nat)) → Prop, I19 0 found ∧ (∀ (i23 : Nat) (x24 : (Nat × Nat)), (F_run_left known rows columns x13)[i23]? = some x24 → ∀ found_1 : (List (Nat × Nat)), I19 i23 found_1 → (found_1.length < 1000000) ∧ ∀ found_2 : (List (Nat × Nat)), found_2 = (dput found_1 x24.1 (((dget found_1 x24.1).getD 0) + x24.2)) → I19 (i23 + 1) found_2) ∧ (∀ found_1 : (List (Nat × Nat)), I19 (F_run_left known rows columns x13).length found_1 → I8 (i12 + 1) found_1)) ∧ (∀ found : (List (Nat × Nat)), I8 [true, false].length found → ((sortNN found).length ≤ 1000000) ∧ (∀ x33, x33 ∈ (sortNN found) → (P_lowered ((x33.2 : Nat) : Int) ((whole : Nat) : Int))) ∧ Q ((sortNN found).map fun x33 => (x33.1, (F_lowered ((x33.2 : Nat) : Int) ((whole : Nat) : Int)))))
theorem snd_long_run_black (rows : Nat) (columns : Nat) {Q : (List (Nat × (Int × Int))) → Prop} (h : V_long_run_black rows columns Q) (tp : List D) : ∃ r : (List (Nat × (Int × Int))), Q r ∧ m_long_run_black [eN rows, eN columns] tp = .ok ((eT (eP eN (eP eZ eZ))) r) tp := by
  obtain ⟨d, t, e1, rfl, r, rfl, q⟩ := T.wp_def (n := 8) (s := b_long_run_black) (ds := [eN rows, eN columns]) (tp := tp) (Q := fun d t => t = tp ∧ ∃ r : (List (Nat × (Int × Int))), d = (eT (eP eN (eP eZ eZ))) r ∧ Q r) (by
    unfold V_long_run_black at h
    change WP _ _ _ _ (b_long_run_black [some (eN rows), some (eN columns), none, none, none, none, none, none] _)
    unfold b_long_run_black
    obtain ⟨c1, h⟩ := h
    refine T.wp_seq (T.wp_drop (T.ev_call (T.ev_cons (T.ev_v rfl) (T.ev_cons (T.ev_v rfl) T.ev_nil)) rfl (t_need_small c1 _)) ?_)
    change WP _ _ _ _ (At _ [some (eN rows), some (eN columns), none, none, none, none, none, none] _)
    obtain ⟨c2, h⟩ := h
    obtain ⟨known, d3⟩ : ∃ known : (Int × List Str), known = ((7, []) : Int × List Str) := ⟨_, rfl⟩
    replace h := h known d3
    obtain ⟨whole, d4⟩ : ∃ whole : Nat, whole = (F_orders_number (rows + columns) (rows + columns)) := ⟨_, rfl⟩
    replace h := h whole d4
    refine T.wp_seq (T.wp_par (T.ev_cons (T.ev_as d3 (e := eM) (T.ev_memoE (n := 7) (f := fun _ => some []) rfl)) (T.ev_cons (T.ev_c rfl) (T.ev_cons (T.ev_as d4 (e := eN) (T.ev_call (T.ev_cons (T.ev_add (x := rows) (y := columns) (T.ev_v rfl) (T.ev_v rfl)) (T.ev_cons (T.ev_add (x := rows) (y := columns) (T.ev_v rfl) (T.ev_v rfl)) T.ev_nil)) rfl (t_orders_number c2 _))) T.ev_nil))) rfl ?_)
    change WP _ _ _ _ (At _ [some (eN rows), some (eN columns), some (eM known), some ((eD eN) []), some (eN whole), none, none, none] _)
    obtain ⟨I8, h9, h10, h11⟩ := h
    refine T.wp_seq (T.wp_for (e := eB) (xs := [true, false]) (ds := fun x13 => [eB x13]) (fun k env tz => tp = tz ∧ ∃ found : (List (Nat × Nat)), ∃ g5 : Option D, ∃ g6 : Option D, ∃ g7 : Option D, env = [some (eN rows), some (eN columns), some (eM known), some ((eD eN) found), some (eN whole), g5, g6, g7] ∧ I8 k found) (T.it_T (e := eB) (xs := [true, false]) (T.ev_tup (ds := [eB true, eB false]) (T.ev_cons (T.ev_c rfl) (T.ev_cons (T.ev_c rfl) T.ev_nil)) rfl)) (fun _ => rfl) ⟨rfl, [], _, _, _, rfl, h9⟩ ?_ ?_)
    · intro i12 x13 env t hk hI
      obtain ⟨rfl, found, g5, g6, g7, rfl, h⟩ := hI
      replace h := h10 i12 x13 hk found h
      change WP _ _ _ _ (At _ [some (eN rows), some (eN columns), some (eM known), some ((eD eN) found), some (eN whole), some (eB x13), g6, g7] _)
      obtain ⟨c16, h⟩ := h
      obtain ⟨I19, h20, h21, h22⟩ := h
      refine T.wp_for (e := (eP eN eN)) (xs := (F_run_left known rows columns x13)) (ds := fun x24 => [eN x24.1, eN x24.2]) (fun k env tz => tp = tz ∧ ∃ found_1 : (List (Nat × Nat)), ∃ g17 : Option D, ∃ g18 : Option D, env = [some (eN rows), some (eN columns), some (eM known), some ((eD eN) found_1), some (eN whole), some (eB x13), g17, g18] ∧ I19 k found_1) (T.it_items (e := eN) (d := (F_run_left known rows columns x13)) (T.ev_call (T.ev_cons (T.ev_v rfl) (T.ev_cons (T.ev_v rfl) (T.ev_cons (T.ev_v rfl) (T.ev_cons (T.ev_v rfl) T.ev_nil)))) rfl (t_run_left c16 _))) (fun _ => rfl) ⟨rfl, found, _, _, rfl, h20⟩ ?_ ?_
      · intro i23 x24 env t hk hI
        obtain ⟨rfl, found_1, g17, g18, rfl, h⟩ := hI
        replace h := h21 i23 x24 hk found_1 h
        change WP _ _ _ _ (At _ [some (eN rows), some (eN columns), some (eM known), some ((eD eN) found_1), some (eN whole), some (eB x13), some (eN x24.1), some (eN x24.2)] _)
        obtain ⟨c27, h⟩ := h
        obtain ⟨found_2, d28⟩ : ∃ found_2 : (List (Nat × Nat)), found_2 = (dput found_1 x24.1 (((dget found_1 x24.1).getD 0) + x24.2)) := ⟨_, rfl⟩
        replace h := h found_2 d28
        refine T.wp_dset (e := eN) (d := found_1) (k := x24.1) (v := (((dget found_1 x24.1).getD 0) + x24.2)) rfl (T.ev_add (x := ((dget found_1 x24.1).getD 0)) (y := x24.2) (T.ev_get2 (e := eN) (x := x24.1) (y := 0) (d := found_1) (T.ev_v rfl) (T.ev_v rfl) (T.ev_cN 0)) (T.ev_v rfl)) (T.ev_v rfl) c27 ?_
        rw [← d28]
        exact ⟨rfl, found_2, _, _, rfl, h⟩
      rintro _ _ ⟨rfl, found_1, g17, g18, rfl, h⟩
      replace h := h22 found_1 h
      exact ⟨rfl, found_1, _, _, _, rfl, h⟩
    rintro _ _ ⟨rfl, found, g5, g6, g7, rfl, h⟩
    replace h := h11 found h
    change WP _ _ _ _ (At _ [some (eN rows), some (eN columns), some (eM known), some ((eD eN) found), some (eN whole), g5, g6, g7] _)
    obtain ⟨c34, h⟩ := h
    obtain ⟨c36, h⟩ := h
    exact T.wp_ret (T.ev_tupleL (e := (eP eN (eP eZ eZ))) (xs := ((sortNN found).map fun x33 => (x33.1, (F_lowered ((x33.2 : Nat) : Int) ((whole : Nat) : Int))))) (T.ev_compY (e := (eP eN eN)) (e1 := (eP eN (eP eZ eZ))) (xs := (sortNN found)) (ds := fun x33 => [eN x33.1, eN x33.2]) (g := fun x33 => (x33.1, (F_lowered ((x33.2 : Nat) : Int) ((whole : Nat) : Int)))) (T.it_L (e := (eP eN eN)) (xs := (sortNN found)) (T.ev_sortIt (d := found) (T.ev_v rfl))) c34 (fun _ => rfl) (fun x33 hx => have c35 := c36 x33 hx; (T.ev_tup (ds := [eN x33.1, (eP eZ eZ) (F_lowered ((x33.2 : Nat) : Int) ((whole : Nat) : Int))]) (T.ev_cons (T.ev_v rfl) (T.ev_cons (T.ev_call (ds := [eZ ((x33.2 : Nat) : Int), eZ ((whole : Nat) : Int)]) (T.ev_cons (T.ev_v rfl) (T.ev_cons (T.ev_v rfl) T.ev_nil)) rfl (t_lowered c35 _)) T.ev_nil)) rfl)))) ⟨rfl, ((sortNN found).map fun x33 => (x33.1, (F_lowered ((x33.2 : Nat) : Int) ((whole : Nat) : Int)))), rfl, h⟩)
  exact ⟨r, q, e1⟩
abbrev P_long_run_black (r c : Nat) : Prop := (1 ≤ r ∧ r ≤ 8) ∧ 1 ≤ c ∧ c ≤ 8
def F_long_run_black (r c : Nat) : List (Nat × (Int × Int)) := (sortNN (bothB _root_.G.orB r c)).map fun x => (x.1, F_lowered ((x.2 : Nat) : Int) ((_root_.G.orB (r + c) (r + c) : Nat) : Int))
theorem ok_long_run_black {r c : Nat} (k : P_long_run_black r c) : V_long_run_black r c (· = F_long_run_black r c) := by
  obtain ⟨⟨r1, hr⟩, c1, hc⟩ := id k
  have m64 : r * c ≤ 64 := Nat.mul_le_mul hr hc
  obtain ⟨b1, b2⟩ := both_small few_or hr hc
  refine ⟨k, ⟨Nat.le_refl _, by omega⟩, fun known ek whole ew => ?_⟩
  subst ek
  refine ⟨fun i f => i ≤ 2 ∧ f = if i = 0 then [] else if i = 1 then daddAll (leftN _root_.G.orB r c true) [] else bothB _root_.G.orB r c, ⟨by omega, rfl⟩, fun i x hx f hf => ⟨⟨rfl, hr, hc⟩, fun j g => g = daddAll ((leftN _root_.G.orB r c x).take j) f, rfl, fun j y hy g hg => ?_, fun g hg => ?_⟩, fun f hf => ?_⟩
  · have hy : (leftN _root_.G.orB r c x)[j]? = some y := hy
    have hg : g = daddAll ((leftN _root_.G.orB r c x).take j) f := hg
    refine ⟨?_, fun g1 e1 => ?_⟩
    · obtain ⟨h2, hf⟩ := hf
      have fs : SmallD (r * c) (2 ^ 433) f := by
        rw [hf]
        split
        · exact ⟨List.nodup_nil, fun k hk => (by cases hk), Nat.zero_le _⟩
        · split
          · exact b2
          · exact b1
      have ls := left_small few_or (r + c) r c x hr hc
      have := fs.add (ps := (leftN _root_.G.orB r c x).take j) (S' := 2 ^ (27 * (r + c))) (fun p hp => ls.ks p.1 (List.mem_map.mpr ⟨p, List.mem_of_mem_take hp, rfl⟩)) (Nat.le_trans (sum_take_le _ _) ls.su)
      rw [← hg] at this
      have := this.len
      omega
    · show g1 = daddAll (List.take (j + 1) (leftN _root_.G.orB r c x)) f
      rw [take_snoc hy, daddAll_app, ← hg, e1]; rfl
  · have hg : g = daddAll ((leftN _root_.G.orB r c x).take (leftN _root_.G.orB r c x).length) f := hg
    rw [List.take_length] at hg
    obtain ⟨_, hf⟩ := hf
    have hx : [true, false][i]? = some x := hx
    match i, hx with
    | 0, hx => cases hx; exact ⟨by omega, by rw [hg, hf]; rfl⟩
    | 1, hx => cases hx; exact ⟨by omega, by rw [hg, hf]; rfl⟩
    | i + 2, hx => simp at hx
  · have hf : f = bothB _root_.G.orB r c := hf.2
    subst hf
    have sl : (sortNN (bothB _root_.G.orB r c)).length = (bothB _root_.G.orB r c).length := (sortNN_perm _).length_eq
    have bl := b1.len
    refine ⟨by omega, fun x hx => ⟨?_, ?_, ?_⟩, ?_⟩
    · have := mem_le_dsum ((sortNN_perm _).mem_iff.mp hx)
      exact (Lg.nat (n := 434) (Nat.lt_of_le_of_lt (Nat.le_trans this b1.su) (Nat.pow_lt_pow_right (by decide) (by omega)))).mono (by omega)
    · rw [ew]
      refine (Lg.nat (n := 65) (Nat.lt_of_le_of_lt (orB_le _ _ (Nat.le_refl _)) ?_)).mono (by omega)
      have a : (r + c) ^ (r + c) ≤ (2 ^ 4) ^ (r + c) := Nat.pow_le_pow_left (by omega) _
      rw [← Nat.pow_mul] at a
      exact Nat.lt_of_le_of_lt a (Nat.pow_lt_pow_right (by decide) (by omega))
    · rw [ew]
      have := orB_pos (r + c) (r + c) (Nat.le_refl _)
      show (0 : Int) < ((_root_.G.orB (r + c) (r + c) : Nat) : Int)
      omega
    · rw [ew]; rfl
theorem t_long_run_black {rows : Nat} {columns : Nat} (hP : P_long_run_black rows columns) (tp : List D) : m_long_run_black [eN rows, eN columns] tp = .ok ((eT (eP eN (eP eZ eZ))) (F_long_run_black rows columns)) tp := by
  obtain ⟨r, rfl, e⟩ := snd_long_run_black rows columns (ok_long_run_black hP) tp
  exact e
end W
set_option maxHeartbeats 1000000
namespace W
open PySem L2 G T
local instance : _root_.G.Wo := ⟨fun _ => 0⟩
def V_black_tally (rows : Nat) (columns : Nat) (Q : (List (Nat × Nat)) → Prop) : Prop := (P_need_small rows columns) ∧ (P_tally_of rows columns) ∧ Q (sortNN (F_tally_of rows columns))
theorem snd_black_tally (rows : Nat) (columns : Nat) {Q : (List (Nat × Nat)) → Prop} (h : V_black_tally rows columns Q) (tp : List D) : ∃ r : (List (Nat × Nat)), Q r ∧ m_black_tally [eN rows, eN columns] tp = .ok ((eT (eP eN eN)) r) tp := by
  obtain ⟨d, t, e1, rfl, r, rfl, q⟩ := T.wp_def (n := 2) (s := b_black_tally) (ds := [eN rows, eN columns]) (tp := tp) (Q := fun d t => t = tp ∧ ∃ r : (List (Nat × Nat)), d = (eT (eP eN eN)) r ∧ Q r) (by
    unfold V_black_tally at h
    change WP _ _ _ _ (b_black_tally [some (eN rows), some (eN columns)] _)
    unfold b_black_tally
    obtain ⟨c1, h⟩ := h
    refine T.wp_seq (T.wp_drop (T.ev_call (T.ev_cons (T.ev_v rfl) (T.ev_cons (T.ev_v rfl) T.ev_nil)) rfl (t_need_small c1 _)) ?_)
    change WP _ _ _ _ (At _ [some (eN rows), some (eN columns)] _)
    obtain ⟨c2, h⟩ := h
    exact T.wp_ret (T.ev_tupleL (e := (eP eN eN)) (xs := (sortNN (F_tally_of rows columns))) (T.ev_sortIt (d := (F_tally_of rows columns)) (T.ev_call (T.ev_cons (T.ev_v rfl) (T.ev_cons (T.ev_v rfl) T.ev_nil)) rfl (t_tally_of c2 _)))) ⟨rfl, (sortNN (F_tally_of rows columns)), rfl, h⟩)
  exact ⟨r, q, e1⟩
abbrev P_black_tally (r c : Nat) : Prop := (1 ≤ r ∧ r ≤ 8) ∧ 1 ≤ c ∧ c ≤ 8
def F_black_tally (r c : Nat) : List (Nat × Nat) := sortNN (F_tally_of r c)
theorem ok_black_tally {r c : Nat} (k : P_black_tally r c) : V_black_tally r c (· = F_black_tally r c) := ⟨k, ⟨k.1.2, k.2.2⟩, rfl⟩
theorem t_black_tally {rows : Nat} {columns : Nat} (hP : P_black_tally rows columns) (tp : List D) : m_black_tally [eN rows, eN columns] tp = .ok ((eT (eP eN eN)) (F_black_tally rows columns)) tp := by
  obtain ⟨r, rfl, e⟩ := snd_black_tally rows columns (ok_black_tally hP) tp
  exact e
end W
set_option maxHeartbeats 1000000
namespace W
open PySem L2 G T
local instance : _root_.G.Wo := ⟨fun _ => 0⟩
def V_count_free_black (rows : Nat) (columns : Nat) (black : Nat) (Q : Nat → Prop) : Prop := (P_need_small rows columns) ∧ (cMul ((rows : Nat) : Int) ((columns : Nat) : Int) = true) ∧ (P_need_number black 0 (rows * columns)) ∧ (P_tally_of rows columns) ∧ Q ((dget (F_tally_of rows columns) black).getD 0)
theorem snd_count_free_black (rows : Nat) (columns : Nat) (black : Nat) {Q : Nat → Prop} (h : V_count_free_black rows columns black Q) (tp : List D) : ∃ r : Nat, Q r ∧ m_count_free_black [eN rows, eN columns, eN black] tp = .ok (eN r) tp := by
  obtain ⟨d, t, e1, rfl, r, rfl, q⟩ := T.wp_def (n := 3) (s := b_count_free_black) (ds := [eN rows, eN columns, eN black]) (tp := tp) (Q := fun d t => t = tp ∧ ∃ r : Nat, d = eN r ∧ Q r) (by
    unfold V_count_free_black at h
    change WP _ _ _ _ (b_count_free_black [some (eN rows), some (eN columns), some (eN black)] _)
    unfold b_count_free_black
    obtain ⟨c1, h⟩ := h
    refine T.wp_seq (T.wp_drop (T.ev_call (T.ev_cons (T.ev_v rfl) (T.ev_cons (T.ev_v rfl) T.ev_nil)) rfl (t_need_small c1 _)) ?_)
    change WP _ _ _ _ (At _ [some (eN rows), some (eN columns), some (eN black)] _)
    obtain ⟨c2, h⟩ := h
    obtain ⟨c3, h⟩ := h
    refine T.wp_seq (T.wp_drop (T.ev_call (T.ev_cons (T.ev_v rfl) (T.ev_cons (T.ev_cN 0) (T.ev_cons (T.ev_mul (x := rows) (y := columns) c2 (T.ev_v rfl) (T.ev_v rfl)) T.ev_nil))) rfl (t_need_number c3 _)) ?_)
    change WP _ _ _ _ (At _ [some (eN rows), some (eN columns), some (eN black)] _)
    obtain ⟨c4, h⟩ := h
    exact T.wp_ret (T.ev_get2 (e := eN) (x := black) (y := 0) (d := (F_tally_of rows columns)) (T.ev_call (T.ev_cons (T.ev_v rfl) (T.ev_cons (T.ev_v rfl) T.ev_nil)) rfl (t_tally_of c4 _)) (T.ev_v rfl) (T.ev_cN 0)) ⟨rfl, ((dget (F_tally_of rows columns) black).getD 0), rfl, h⟩)
  exact ⟨r, q, e1⟩
abbrev P_count_free_black (r c k : Nat) : Prop := ((1 ≤ r ∧ r ≤ 8) ∧ 1 ≤ c ∧ c ≤ 8) ∧ k ≤ r * c
def F_count_free_black (r c k : Nat) : Nat := dcnt (F_tally_of r c) k
theorem ok_count_free_black {r c k : Nat} (h : P_count_free_black r c k) : V_count_free_black r c k (· = F_count_free_black r c k) := ⟨h.1, cMul_nat (n := 4) (m := 4) (by have := h.1.1.2; omega) (by have := h.1.2.2; omega) (by omega) (by omega) (by omega), ⟨Nat.zero_le _, h.2⟩, ⟨h.1.1.2, h.1.2.2⟩, rfl⟩
theorem t_count_free_black {rows : Nat} {columns : Nat} {black : Nat} (hP : P_count_free_black rows columns black) (tp : List D) : m_count_free_black [eN rows, eN columns, eN black] tp = .ok (eN (F_count_free_black rows columns black)) tp := by
  obtain ⟨r, rfl, e⟩ := snd_count_free_black rows columns black (ok_count_free_black hP) tp
  exact e
end W
set_option maxHeartbeats 1000000
namespace W
open PySem L2 G T
local instance : _root_.G.Wo := ⟨fun _ => 0⟩
def V_mean_free_black (rows : Nat) (columns : Nat) (Q : (Int × Int) → Prop) : Prop := (P_need_small rows columns) ∧ (P_tally_of rows columns) ∧ ∀ told : (List (Nat × Nat)), told = (F_tally_of rows columns) → (told.length ≤ 1000000) ∧ (∀ x4, x4 ∈ told → (cMul ((x4.1 : Nat) : Int) ((x4.2 : Nat) : Int) = true)) ∧ (P_lowered (((told.map fun x4 => (x4.1 * x4.2)).sum : Nat) : Int) (((told.map (·.2)).sum : Nat) : Int)) ∧ Q (F_lowered (((told.map fun x4 => (x4.1 * x4.2)).sum : Nat) : Int) (((told.map (·.2)).sum : Nat) : Int))
theorem snd_mean_free_black (rows : Nat) (columns : Nat) {Q : (Int × Int) → Prop} (h : V_mean_free_black rows columns Q) (tp : List D) : ∃ r : (Int × Int), Q r ∧ m_mean_free_black [eN rows, eN columns] tp = .ok ((eP eZ eZ) r) tp := by
  obtain ⟨d, t, e1, rfl, r, rfl, q⟩ := T.wp_def (n := 5) (s := b_mean_free_black) (ds := [eN rows, eN columns]) (tp := tp) (Q := fun d t => t = tp ∧ ∃ r : (Int × Int), d = (eP eZ eZ) r ∧ Q r) (by
    unfold V_mean_free_black at h
    change WP _ _ _ _ (b_mean_free_black [some (eN rows), some (eN columns), none, none, none] _)
    unfold b_mean_free_black
    obtain ⟨c1, h⟩ := h
    refine T.wp_seq (T.wp_drop (T.ev_call (T.ev_cons (T.ev_v rfl) (T.ev_cons (T.ev_v rfl) T.ev_nil)) rfl (t_need_small c1 _)) ?_)
    change WP _ _ _ _ (At _ [some (eN rows), some (eN columns), none, none, none] _)
    obtain ⟨c2, h⟩ := h
    obtain ⟨told, d3⟩ : ∃ told : (List (Nat × Nat)), told = (F_tally_of rows columns) := ⟨_, rfl⟩
    replace h := h told d3
    refine T.wp_seq (T.wp_set (T.ev_as d3 (e := (eD eN)) (T.ev_call (T.ev_cons (T.ev_v rfl) (T.ev_cons (T.ev_v rfl) T.ev_nil)) rfl (t_tally_of c2 _))) ?_)
    change WP _ _ _ _ (At _ [some (eN rows), some (eN columns), some ((eD eN) told), none, none] _)
    obtain ⟨c5, h⟩ := h
    obtain ⟨c7, h⟩ := h
    obtain ⟨c8, h⟩ := h
    exact T.wp_ret (T.ev_call (T.ev_cons (T.ev_sumL (xs := (told.map fun x4 => (x4.1 * x4.2))) (T.ev_compY (e := (eP eN eN)) (e1 := eN) (xs := told) (ds := fun x4 => [eN x4.1, eN x4.2]) (g := fun x4 => (x4.1 * x4.2)) (T.it_items (e := eN) (d := told) (T.ev_v rfl)) c5 (fun _ => rfl) (fun x4 hx => have c6 := c7 x4 hx; (T.ev_mul (x := x4.1) (y := x4.2) c6 (T.ev_v rfl) (T.ev_v rfl))))) (T.ev_cons (T.ev_sumV (d := told) (T.ev_v rfl)) T.ev_nil)) rfl (t_lowered c8 _)) ⟨rfl, (F_lowered (((told.map fun x4 => (x4.1 * x4.2)).sum : Nat) : Int) (((told.map (·.2)).sum : Nat) : Int)), rfl, h⟩)
  exact ⟨r, q, e1⟩
abbrev P_mean_free_black (r c : Nat) : Prop := (1 ≤ r ∧ r ≤ 8) ∧ 1 ≤ c ∧ c ≤ 8
def F_mean_free_black (r c : Nat) : Int × Int := F_lowered ((((F_tally_of r c).map fun x => x.1 * x.2).sum : Nat) : Int) ((dsum (F_tally_of r c) : Nat) : Int)
theorem sum_prod : ∀ {d : List (Nat × Nat)} {M : Nat}, (∀ k ∈ dkeys d, k ≤ M) → (d.map fun x => x.1 * x.2).sum ≤ M * dsum d
  | [], _, _ => Nat.zero_le _
  | p :: d, M, h => by
    rw [List.map_cons, List.sum_cons]
    have a := sum_prod (d := d) (M := M) fun k hk => h k (List.mem_cons_of_mem _ hk)
    have b : p.1 * p.2 ≤ M * p.2 := Nat.mul_le_mul_right _ (h p.1 List.mem_cons_self)
    show _ ≤ M * ((p :: d).map (·.2)).sum
    rw [List.map_cons, List.sum_cons, Nat.mul_add]
    exact Nat.add_le_add b a
theorem tally_pos {r c : Nat} (hr : 1 ≤ r) (hc : 1 ≤ c) : 0 < dsum (F_tally_of r c) := both_pos (fun n k h => by rw [bcB_ch]; exact ch_pos h) hr hc
theorem ok_mean_free_black {r c : Nat} (k : P_mean_free_black r c) : V_mean_free_black r c (· = F_mean_free_black r c) := by
  obtain ⟨⟨r1, r8⟩, c1, c8⟩ := id k
  have s := (both_small few_bc r8 c8).1
  have m64 : r * c ≤ 64 := Nat.mul_le_mul r8 c8
  have sl := s.len
  refine ⟨k, ⟨r8, c8⟩, fun told et => ?_⟩
  subst et
  have su : dsum (F_tally_of r c) < 2 ^ 434 := Nat.lt_of_le_of_lt s.su (Nat.pow_lt_pow_right (by decide) (by omega))
  refine ⟨by show (bothB _root_.G.bcB r c).length ≤ _; omega, fun x hx => cMul_nat (n := 7) (m := 434) ?_ (Nat.lt_of_le_of_lt (mem_le_dsum hx) su) (by omega) (by omega) (by omega), ⟨?_, ?_, ?_⟩, rfl⟩
  · have := s.ks x.1 (List.mem_map.mpr ⟨x, hx, rfl⟩)
    show x.1 < 128; omega
  · have := sum_prod (d := F_tally_of r c) s.ks
    refine (Lg.nat (n := 441) (Nat.lt_of_le_of_lt this ?_)).mono (by omega)
    have a : r * c * dsum (F_tally_of r c) ≤ 2 ^ 6 * dsum (F_tally_of r c) := Nat.mul_le_mul_right _ m64
    have b : 2 ^ 6 * dsum (F_tally_of r c) < 2 ^ 6 * 2 ^ 434 := Nat.mul_lt_mul_of_pos_left su (by decide)
    exact Nat.lt_of_le_of_lt a (Nat.lt_of_lt_of_le b (by rw [← Nat.pow_add]; exact Nat.pow_le_pow_right (by decide) (by omega)))
  · exact (Lg.nat su).mono (by omega)
  · have := tally_pos (r := r) (c := c) r1 c1
    show (0 : Int) < ((dsum (F_tally_of r c) : Nat) : Int)
    omega
theorem t_mean_free_black {rows : Nat} {columns : Nat} (hP : P_mean_free_black rows columns) (tp : List D) : m_mean_free_black [eN rows, eN columns] tp = .ok ((eP eZ eZ) (F_mean_free_black rows columns)) tp := by
  obtain ⟨r, rfl, e⟩ := snd_mean_free_black rows columns (ok_mean_free_black hP) tp
  exact e
end W
set_option maxHeartbeats 1000000
namespace W
open PySem L2 G T
local instance : _root_.G.Wo := ⟨fun _ => 0⟩
def V_likeliest_black (rows : Nat) (columns : Nat) (Q : Nat → Prop) : Prop := (P_long_run_black rows columns) ∧ ∀ told : (List (Nat × (Int × Int))), told = (F_long_run_black rows columns) → ∃ I5 : Nat → (Option (Nat × (Int × Int))) → Prop, I5 0 none ∧ (∀ (i9 : Nat) (x10 : (Nat × (Int × Int))), told[i9]? = some x10 → ∀ best : (Option (Nat × (Int × Int))), I5 i9 best → (¬(best = none) → (best ≠ none) ∧ (cMul x10.2.1 (((best.getD default).2).2) = true) ∧ (cMul (((best.getD default).2).1) x10.2.2 = true)) ∧ ∀ best_1 : (Option (Nat × (Int × Int))), best_1 = (if ((best = none) ∨ ((x10.2.1 * ((best.getD default).2).2) > (((best.getD default).2).1 * x10.2.2))) then (some (x10.1, x10.2)) else best) → I5 (i9 + 1) best_1) ∧ (∀ best : (Option (Nat × (Int × Int))), I5 told.length best → (best ≠ none) ∧ Q ((best.getD default).1))
theorem snd_likeliest_black (rows : Nat) (columns : Nat) {Q : Nat → Prop} (h : V_likeliest_black rows columns Q) (tp : List D) : ∃ r : Nat, Q r ∧ m_likeliest_black [eN rows, eN columns] tp = .ok (eN r) tp := by
  obtain ⟨d, t, e1, rfl, r, rfl, q⟩ := T.wp_def (n := 6) (s := b_likeliest_black) (ds := [eN rows, eN columns]) (tp := tp) (Q := fun d t => t = tp ∧ ∃ r : Nat, d = eN r ∧ Q r) (by
    unfold V_likeliest_black at h
    change WP _ _ _ _ (b_likeliest_black [some (eN rows), some (eN columns), none, none, none, none] _)
    unfold b_likeliest_black
    obtain ⟨c1, h⟩ := h
    obtain ⟨told, d2⟩ : ∃ told : (List (Nat × (Int × Int))), told = (F_long_run_black rows columns) := ⟨_, rfl⟩
    replace h := h told d2
    refine T.wp_seq (T.wp_set (T.ev_as d2 (e := (eT (eP eN (eP eZ eZ)))) (T.ev_call (T.ev_cons (T.ev_v rfl) (T.ev_cons (T.ev_v rfl) T.ev_nil)) rfl (t_long_run_black c1 _))) ?_)
    change WP _ _ _ _ (At _ [some (eN rows), some (eN columns), some ((eT (eP eN (eP eZ eZ))) told), none, none, none] _)
    refine T.wp_seq (T.wp_set (T.ev_c rfl) ?_)
    change WP _ _ _ _ (At _ [some (eN rows), some (eN columns), some ((eT (eP eN (eP eZ eZ))) told), some ((eO (eP eN (eP eZ eZ))) none), none, none] _)
    obtain ⟨I5, h6, h7, h8⟩ := h
    refine T.wp_seq (T.wp_for (e := (eP eN (eP eZ eZ))) (xs := told) (ds := fun x10 => [eN x10.1, (eP eZ eZ) x10.2]) (fun k env tz => tp = tz ∧ ∃ best : (Option (Nat × (Int × Int))), ∃ g3 : Option D, ∃ g4 : Option D, env = [some (eN rows), some (eN columns), some ((eT (eP eN (eP eZ eZ))) told), some ((eO (eP eN (eP eZ eZ))) best), g3, g4] ∧ I5 k best) (T.it_T (e := (eP eN (eP eZ eZ))) (xs := told) (T.ev_v rfl)) (fun _ => rfl) ⟨rfl, none, _, _, rfl, h6⟩ ?_ ?_)
    · intro i9 x10 env t hk hI
      obtain ⟨rfl, best, g3, g4, rfl, h⟩ := hI
      replace h := h7 i9 x10 hk best h
      change WP _ _ _ _ (At _ [some (eN rows), some (eN columns), some ((eT (eP eN (eP eZ eZ))) told), some ((eO (eP eN (eP eZ eZ))) best), some (eN x10.1), some ((eP eZ eZ) x10.2)] _)
      obtain ⟨c16, h⟩ := h
      refine T.wp_ifJ (P := ((best = none) ∨ ((x10.2.1 * ((best.getD default).2).2) > (((best.getD default).2).1 * x10.2.2)))) (J := fun env tz => tp = tz ∧ ∃ best_1 : (Option (Nat × (Int × Int))), env = [some (eN rows), some (eN columns), some ((eT (eP eN (eP eZ eZ))) told), some ((eO (eP eN (eP eZ eZ))) best_1), some (eN x10.1), some ((eP eZ eZ) x10.2)] ∧ best_1 = (if ((best = none) ∨ ((x10.2.1 * ((best.getD default).2).2) > (((best.getD default).2).1 * x10.2.2))) then (some (x10.1, x10.2)) else best)) (T.ev_orT (P := (best = none)) (Q := ((x10.2.1 * ((best.getD default).2).2) > (((best.getD default).2).1 * x10.2.2))) (T.ev_bool (T.ev_isNon (x := best) (fun _ => rfl) (T.ev_v rfl) (T.ev_c rfl))) (fun hp => match c16 hp with | ⟨c13, c14, c15⟩ => (T.ev_bool (T.ev_gtZ (x := (x10.2.1 * ((best.getD default).2).2)) (y := (((best.getD default).2).1 * x10.2.2)) (T.ev_mulZ (x := x10.2.1) (y := ((best.getD default).2).2) c14 (T.ev_fst (x := x10.2) (T.ev_v rfl) rfl) (T.ev_snd (x := (best.getD default).2) (T.ev_snd (x := (best.getD default)) (T.ev_get (e := (eP eN (eP eZ eZ))) (x := best) c13 (T.ev_v rfl)) rfl) rfl)) (T.ev_mulZ (x := ((best.getD default).2).1) (y := x10.2.2) c15 (T.ev_fst (x := (best.getD default).2) (T.ev_snd (x := (best.getD default)) (T.ev_get (e := (eP eN (eP eZ eZ))) (x := best) c13 (T.ev_v rfl)) rfl) rfl) (T.ev_snd (x := x10.2) (T.ev_v rfl) rfl)))))) (fun hq => ?_) (fun hq => ?_) ?_
      · refine T.wp_set (T.ev_tup (ds := [eN x10.1, (eP eZ eZ) x10.2]) (T.ev_cons (T.ev_v rfl) (T.ev_cons (T.ev_v rfl) T.ev_nil)) rfl) ?_
        exact ⟨rfl, (some (x10.1, x10.2)), rfl, (if_pos hq).symm⟩
      · refine T.wp_skip ?_
        exact ⟨rfl, best, rfl, (if_neg hq).symm⟩
      rintro _ _ ⟨rfl, best_1, rfl, d17⟩
      replace h := h best_1 d17
      exact ⟨rfl, best_1, _, _, rfl, h⟩
    rintro _ _ ⟨rfl, best, g3, g4, rfl, h⟩
    replace h := h8 best h
    change WP _ _ _ _ (At _ [some (eN rows), some (eN columns), some ((eT (eP eN (eP eZ eZ))) told), some ((eO (eP eN (eP eZ eZ))) best), g3, g4] _)
    obtain ⟨c20, h⟩ := h
    exact T.wp_ret (T.ev_fst (x := (best.getD default)) (T.ev_get (e := (eP eN (eP eZ eZ))) (x := best) c20 (T.ev_v rfl)) rfl) ⟨rfl, (best.getD default).1, rfl, h⟩)
  exact ⟨r, q, e1⟩
abbrev P_likeliest_black (r c : Nat) : Prop := (1 ≤ r ∧ r ≤ 8) ∧ 1 ≤ c ∧ c ≤ 8
def bestB (L : List (Nat × (Int × Int))) : Option (Nat × (Int × Int)) := L.foldl (fun b x => if b = none ∨ x.2.1 * ((b.getD default).2).2 > ((b.getD default).2).1 * x.2.2 then some (x.1, x.2) else b) none
def F_likeliest_black (r c : Nat) : Nat := ((bestB (F_long_run_black r c)).getD default).1
theorem bestB_snoc (L : List (Nat × (Int × Int))) (x : Nat × (Int × Int)) : bestB (L ++ [x]) = if bestB L = none ∨ x.2.1 * (((bestB L).getD default).2).2 > (((bestB L).getD default).2).1 * x.2.2 then some (x.1, x.2) else bestB L := by
  unfold bestB; rw [List.foldl_append]; rfl
theorem bestB_mem : ∀ (n : Nat) (L : List (Nat × (Int × Int))), L.length = n → (∀ y, bestB L = some y → y ∈ L) ∧ (L ≠ [] → bestB L ≠ none)
  | 0, L, h => by
    rw [List.length_eq_zero_iff.mp h]
    exact ⟨fun y e => (by cases e), fun e => (e rfl).elim⟩
  | n + 1, L, h => by
    obtain ⟨K, x, rfl⟩ : ∃ K x, L = K ++ [x] := ⟨L.dropLast, L.getLast (by intro e; rw [e] at h; cases h), (List.dropLast_concat_getLast _).symm⟩
    obtain ⟨i1, i2⟩ := bestB_mem n K (by rw [List.length_append] at h; simpa using h)
    rw [bestB_snoc]
    refine ⟨fun y e => ?_, fun _ => ?_⟩
    · split at e
      · rw [← Option.some.inj e]; exact List.mem_append_right _ (List.mem_singleton.mpr rfl)
      · exact List.mem_append_left _ (i1 y e)
    · split
      · simp
      · rename_i z
        exact fun e => z (.inl e)
theorem lr_lg {r c : Nat} (k : P_long_run_black r c) : ∀ x ∈ F_long_run_black r c, Lg x.2.1 434 ∧ Lg x.2.2 65 := fun x hx => by
  obtain ⟨⟨r1, hr⟩, c1, hc⟩ := id k
  obtain ⟨b1, _⟩ := both_small few_or hr hc
  obtain ⟨y, hy, rfl⟩ := List.mem_map.mp hx
  have hy := mem_le_dsum ((sortNN_perm _).mem_iff.mp hy)
  have p : (0 : Int) < ((_root_.G.orB (r + c) (r + c) : Nat) : Int) := by
    have := orB_pos (r + c) (r + c) (Nat.le_refl _); omega
  have a1 : Lg ((y.2 : Nat) : Int) 434 := Lg.nat (n := 434) (Nat.lt_of_le_of_lt (Nat.le_trans hy b1.su) (Nat.pow_lt_pow_right (by decide) (by omega)))
  have a2 : Lg ((_root_.G.orB (r + c) (r + c) : Nat) : Int) 65 := by
    refine Lg.nat (n := 65) (Nat.lt_of_le_of_lt (orB_le _ _ (Nat.le_refl _)) ?_)
    have a : (r + c) ^ (r + c) ≤ (2 ^ 4) ^ (r + c) := Nat.pow_le_pow_left (by omega) _
    rw [← Nat.pow_mul] at a
    exact Nat.lt_of_le_of_lt a (Nat.pow_lt_pow_right (by decide) (by omega))
  exact low_lgs a1 a2 p
theorem ok_likeliest_black {r c : Nat} (k : P_likeliest_black r c) : V_likeliest_black r c (· = F_likeliest_black r c) := by
  refine ⟨k, fun told et => ?_⟩
  subst et
  have lg := lr_lg k
  have mem := fun n => bestB_mem _ ((F_long_run_black r c).take n) rfl
  refine ⟨fun n b => b = bestB ((F_long_run_black r c).take n), rfl, fun i x hx b hb => ⟨fun ne => ?_, fun b1 e1 => ?_⟩, fun b hb => ⟨?_, ?_⟩⟩
  · have hb : b = bestB ((F_long_run_black r c).take i) := hb
    cases b with
    | none => exact (ne rfl).elim
    | some y =>
      have ym := List.mem_of_mem_take ((mem i).1 y hb.symm)
      have xm := List.mem_of_getElem? hx
      refine ⟨by simp, cMul_lg (n := 434) (m := 65) (lg x xm).1 (lg y ym).2 (by omega) (by omega) (by omega), cMul_lg (n := 434) (m := 65) (lg y ym).1 (lg x xm).2 (by omega) (by omega) (by omega)⟩
  · have hb : b = bestB ((F_long_run_black r c).take i) := hb
    show b1 = bestB ((F_long_run_black r c).take (i + 1))
    rw [take_snoc hx, bestB_snoc, ← hb, e1]
  · have hb : b = bestB ((F_long_run_black r c).take (F_long_run_black r c).length) := hb
    rw [hb]
    refine (mem _).2 ?_
    rw [List.take_length]
    intro e
    have e2 := congrArg List.length e
    unfold F_long_run_black at e2
    rw [List.length_map, (sortNN_perm _).length_eq] at e2
    exact both_ne k.1.1 k.2.1 (List.length_eq_zero_iff.mp e2)
  · have hb : b = bestB ((F_long_run_black r c).take (F_long_run_black r c).length) := hb
    rw [List.take_length] at hb
    rw [hb]; rfl
theorem t_likeliest_black {rows : Nat} {columns : Nat} (hP : P_likeliest_black rows columns) (tp : List D) : m_likeliest_black [eN rows, eN columns] tp = .ok (eN (F_likeliest_black rows columns)) tp := by
  obtain ⟨r, rfl, e⟩ := snd_likeliest_black rows columns (ok_likeliest_black hP) tp
  exact e
end W
set_option maxHeartbeats 1000000
namespace W
open PySem L2 G T
local instance : _root_.G.Wo := ⟨fun _ => 0⟩
def V_free_number_of (rows : Nat) (columns : Nat) (Q : Nat → Prop) : Prop := ((((rows + columns) = 0) → Q 1) ∧ (¬((rows + columns) = 0) → ∀ known : (Int × List Str), known = ((0, []) : Int × List Str) → (P_ways_left known rows columns true) ∧ (P_ways_left known rows columns false) ∧ Q ((F_ways_left known rows columns true) + (F_ways_left known rows columns false))))
theorem snd_free_number_of (rows : Nat) (columns : Nat) {Q : Nat → Prop} (h : V_free_number_of rows columns Q) (tp : List D) : ∃ r : Nat, Q r ∧ m_free_number_of [eN rows, eN columns] tp = .ok (eN r) tp := by
  obtain ⟨d, t, e1, rfl, r, rfl, q⟩ := T.wp_def (n := 3) (s := b_free_number_of) (ds := [eN rows, eN columns]) (tp := tp) (Q := fun d t => t = tp ∧ ∃ r : Nat, d = eN r ∧ Q r) (by
    unfold V_free_number_of at h
    change WP _ _ _ _ (b_free_number_of [some (eN rows), some (eN columns), none] _)
    unfold b_free_number_of
    refine T.wp_seq (T.wp_if (P := ((rows + columns) = 0)) (T.ev_bool (T.ev_eq (x := (rows + columns)) (y := 0) qN rfl (T.ev_add (x := rows) (y := columns) (T.ev_v rfl) (T.ev_v rfl)) (T.ev_cN 0))) (fun hp => ?_) (fun hn => ?_))
    · replace h := h.1 hp
      exact T.wp_ret (T.ev_cN 1) ⟨rfl, 1, rfl, h⟩
    · replace h := h.2 hn
      refine T.wp_skip ?_
      change WP _ _ _ _ (At _ [some (eN rows), some (eN columns), none] _)
      obtain ⟨known, d1⟩ : ∃ known : (Int × List Str), known = ((0, []) : Int × List Str) := ⟨_, rfl⟩
      replace h := h known d1
      refine T.wp_seq (T.wp_set (T.ev_as d1 (e := eM) (T.ev_memoE (n := 0) (f := fun _ => some []) rfl)) ?_)
      change WP _ _ _ _ (At _ [some (eN rows), some (eN columns), some (eM known)] _)
      obtain ⟨c2, h⟩ := h
      obtain ⟨c3, h⟩ := h
      exact T.wp_ret (T.ev_add (x := (F_ways_left known rows columns true)) (y := (F_ways_left known rows columns false)) (T.ev_call (T.ev_cons (T.ev_v rfl) (T.ev_cons (T.ev_v rfl) (T.ev_cons (T.ev_v rfl) (T.ev_cons (T.ev_c rfl) T.ev_nil)))) rfl (t_ways_left c2 _)) (T.ev_call (T.ev_cons (T.ev_v rfl) (T.ev_cons (T.ev_v rfl) (T.ev_cons (T.ev_v rfl) (T.ev_cons (T.ev_c rfl) T.ev_nil)))) rfl (t_ways_left c3 _))) ⟨rfl, ((F_ways_left known rows columns true) + (F_ways_left known rows columns false)), rfl, h⟩)
  exact ⟨r, q, e1⟩
abbrev P_free_number_of (r c : Nat) : Prop := r ≤ 30 ∧ c ≤ 30
abbrev F_free_number_of (r c : Nat) : Nat := frN r c
theorem ok_free_number_of {r c : Nat} (k : P_free_number_of r c) : V_free_number_of r c (· = F_free_number_of r c) := by
  refine ⟨fun z => ?_, fun z u eu => ⟨⟨eu, k⟩, ⟨eu, k⟩, ?_⟩⟩
  · show 1 = frN r c
    unfold frN; rw [if_pos z]
  · show _ = frN r c
    unfold frN; rw [if_neg z]
theorem t_free_number_of {rows : Nat} {columns : Nat} (hP : P_free_number_of rows columns) (tp : List D) : m_free_number_of [eN rows, eN columns] tp = .ok (eN (F_free_number_of rows columns)) tp := by
  obtain ⟨r, rfl, e⟩ := snd_free_number_of rows columns (ok_free_number_of hP) tp
  exact e
end W
set_option maxHeartbeats 1000000
namespace W
open PySem L2 G T
local instance : _root_.G.Wo := ⟨fun _ => 0⟩
def V_count_free (rows : Nat) (columns : Nat) (Q : Nat → Prop) : Prop := (P_need_sides rows columns) ∧ (P_free_number_of rows columns) ∧ Q (F_free_number_of rows columns)
theorem snd_count_free (rows : Nat) (columns : Nat) {Q : Nat → Prop} (h : V_count_free rows columns Q) (tp : List D) : ∃ r : Nat, Q r ∧ m_count_free [eN rows, eN columns] tp = .ok (eN r) tp := by
  obtain ⟨d, t, e1, rfl, r, rfl, q⟩ := T.wp_def (n := 2) (s := b_count_free) (ds := [eN rows, eN columns]) (tp := tp) (Q := fun d t => t = tp ∧ ∃ r : Nat, d = eN r ∧ Q r) (by
    unfold V_count_free at h
    change WP _ _ _ _ (b_count_free [some (eN rows), some (eN columns)] _)
    unfold b_count_free
    obtain ⟨c1, h⟩ := h
    refine T.wp_seq (T.wp_drop (T.ev_call (T.ev_cons (T.ev_v rfl) (T.ev_cons (T.ev_v rfl) T.ev_nil)) rfl (t_need_sides c1 _)) ?_)
    change WP _ _ _ _ (At _ [some (eN rows), some (eN columns)] _)
    obtain ⟨c2, h⟩ := h
    exact T.wp_ret (T.ev_call (T.ev_cons (T.ev_v rfl) (T.ev_cons (T.ev_v rfl) T.ev_nil)) rfl (t_free_number_of c2 _)) ⟨rfl, (F_free_number_of rows columns), rfl, h⟩)
  exact ⟨r, q, e1⟩
abbrev P_count_free (r c : Nat) : Prop := (1 ≤ r ∧ r ≤ 30) ∧ 1 ≤ c ∧ c ≤ 30
abbrev F_count_free (r c : Nat) : Nat := frN r c
theorem ok_count_free {r c : Nat} (k : P_count_free r c) : V_count_free r c (· = F_count_free r c) := ⟨k, ⟨k.1.2, k.2.2⟩, rfl⟩
theorem t_count_free {rows : Nat} {columns : Nat} (hP : P_count_free rows columns) (tp : List D) : m_count_free [eN rows, eN columns] tp = .ok (eN (F_count_free rows columns)) tp := by
  obtain ⟨r, rfl, e⟩ := snd_count_free rows columns (ok_count_free hP) tp
  exact e
end W
set_option maxHeartbeats 1000000
namespace W
open PySem L2 G T
local instance : _root_.G.Wo := ⟨fun _ => 0⟩
def V_law : Prop := (P_law_taken 6) ∧ ∀ drawn : Nat, (D_law_taken 6 drawn) → ∀ drawn_1 : Nat, (D_law_taken 6 drawn_1) → ∀ high : Nat, high = (1 + drawn) → ∀ wide : Nat, wide = (1 + drawn_1) → (P_black_tally high wide) ∧ (P_black_tally wide high) ∧ ∀ told : (List (Nat × Nat)), told = (F_black_tally high wide) → ∀ turned : (List (Nat × Nat)), turned = (F_black_tally wide high) → (told.length ≤ 1000000) ∧ (P_count_free high wide) ∧ ((told.map fun x16 => x16.2).sum = (F_count_free high wide)) ∧ (told.reverse.length ≤ 1000000) ∧ (∀ x19, x19 ∈ told.reverse → (cMul ((high : Nat) : Int) ((wide : Nat) : Int) = true) ∧ (x19.1 ≤ (high * wide))) ∧ (turned = (told.reverse.map fun x19 => (((high * wide) - x19.1), x19.2))) ∧ (told.length ≤ 1000000) ∧ (∀ x24, x24 ∈ told → (cMul ((high : Nat) : Int) ((wide : Nat) : Int) = true) ∧ (x24.1 ≤ (high * wide)) ∧ (P_count_free_black high wide ((high * wide) - x24.1))) ∧ (((told.filter fun x24 => decide ((F_count_free_black high wide ((high * wide) - x24.1)) ≠ x24.2)).map fun x24 => x24.1) = []) ∧ (0 < told.length) ∧ (¬((told[0]!).1 ≠ 0) → (told ≠ []) ∧ (cMul ((high : Nat) : Int) ((wide : Nat) : Int) = true)) ∧ (((told[0]!).1 = 0) ∧ ((told[told.length - 1]!).1 = (high * wide))) ∧ (P_mean_free_black high wide) ∧ (cMul ((high : Nat) : Int) ((wide : Nat) : Int) = true) ∧ (P_law_lowered (((high * wide) : Nat) : Int) (2 : Int)) ∧ ((F_mean_free_black high wide) = (F_law_lowered (((high * wide) : Nat) : Int) (2 : Int))) ∧ (P_long_run_black high wide) ∧ ∀ whole : (Int × Int), whole = ((0 : Int), (1 : Int)) → ∀ mean : (Int × Int), mean = ((0 : Int), (1 : Int)) → ∀ shares : (List (Nat × (Int × Int))), shares = (F_long_run_black high wide) → ∃ I43 : Nat → (Int × Int) → (Int × Int) → Prop, I43 0 whole mean ∧ (∀ (i47 : Nat) (x48 : (Nat × (Int × Int))), shares[i47]? = some x48 → ∀ whole_1 : (Int × Int), ∀ mean_1 : (Int × Int), I43 i47 whole_1 mean_1 → (P_law_plus whole_1 x48.2) ∧ (cMul x48.2.1 ((x48.1 : Nat) : Int) = true) ∧ (P_law_lowered (x48.2.1 * ((x48.1 : Nat) : Int)) x48.2.2) ∧ (P_law_plus mean_1 (F_law_lowered (x48.2.1 * ((x48.1 : Nat) : Int)) x48.2.2)) ∧ ∀ whole_2 : (Int × Int), whole_2 = (F_law_plus whole_1 x48.2) → ∀ mean_2 : (Int × Int), mean_2 = (F_law_plus mean_1 (F_law_lowered (x48.2.1 * ((x48.1 : Nat) : Int)) x48.2.2)) → I43 (i47 + 1) whole_2 mean_2) ∧ (∀ whole_1 : (Int × Int), ∀ mean_1 : (Int × Int), I43 shares.length whole_1 mean_1 → (¬(whole_1 ≠ ((1 : Int), (1 : Int))) → (cMul ((high : Nat) : Int) ((wide : Nat) : Int) = true) ∧ (P_law_lowered (((high * wide) : Nat) : Int) (2 : Int))) ∧ ((whole_1 = ((1 : Int), (1 : Int))) ∧ (mean_1 = (F_law_lowered (((high * wide) : Nat) : Int) (2 : Int)))) ∧ (shares.length ≤ 1000000) ∧ (told.length ≤ 1000000) ∧ ((shares.map fun x62 => x62.1) = (told.map fun x64 => x64.1)) ∧ (P_likeliest_black high wide) ∧ ∀ best : Nat, best = (F_likeliest_black high wide) → (shares.length ≤ 1000000) ∧ (0 < ((shares.filter fun x68 => decide (x68.1 = best)).map fun x68 => x68.2).length) ∧ ∀ top : (Int × Int), top = ((shares.filter fun x68 => decide (x68.1 = best)).map fun x68 => x68.2)[0]! → (shares.length ≤ 1000000) ∧ (∀ x72, x72 ∈ shares → (cMul x72.2.1 top.2 = true) ∧ (cMul top.1 x72.2.2 = true)) ∧ (((shares.filter fun x72 => decide (((x72.2.1 * top.2) > (top.1 * x72.2.2)) ∨ ((x72.1 < best) ∧ (x72.2 = top)))).map fun x72 => x72.1) = []) ∧ (0 < shares.length) ∧ (shares ≠ []) ∧ ((shares[0]!).2 = (shares[shares.length - 1]!).2) ∧ (0 < shares.length) ∧ (P_law_product high) ∧ (P_law_product wide) ∧ (cMul (((F_law_product high) : Nat) : Int) (((F_law_product wide) : Nat) : Int) = true) ∧ (P_law_product (high + wide)) ∧ (P_law_lowered ((((F_law_product high) * (F_law_product wide)) : Nat) : Int) (((F_law_product (high + wide)) : Nat) : Int)) ∧ ((shares[0]!).2 = (F_law_lowered ((((F_law_product high) * (F_law_product wide)) : Nat) : Int) (((F_law_product (high + wide)) : Nat) : Int))) ∧ ∀ whole_3 : (Int × Int), whole_3 = ((0 : Int), (1 : Int)) → (P_long_run_tally high wide) ∧ ∃ I89 : Nat → (Int × Int) → Prop, I89 0 whole_3 ∧ (∀ (i93 : Nat) (x94 : (Nat × (Int × Int))), (F_long_run_tally high wide)[i93]? = some x94 → ∀ whole_4 : (Int × Int), I89 i93 whole_4 → (P_law_plus whole_4 x94.2) ∧ ∀ whole_5 : (Int × Int), whole_5 = (F_law_plus whole_4 x94.2) → I89 (i93 + 1) whole_5) ∧ (∀ whole_4 : (Int × Int), I89 (F_long_run_tally high wide).length whole_4 → ((whole_4 = ((1 : Int), (1 : Int))) → (P_long_run_tally high wide) ∧ (P_long_run_tally wide high)) ∧ ((whole_4 = ((1 : Int), (1 : Int))) ∧ ((F_long_run_tally high wide) = (F_long_run_tally wide high)))))
theorem snd_law (h : V_law) (ns : List Int) (hns : ns.length ≤ 63) : ∃ tp', retR (b_law (some (.scr ns) :: some .tape :: List.replicate 13 none) [.scr ns, .int 0, .int 5333, .int 0]) = .ok (.bl true) tp' := by
  have ht := tape0 ns 5333 hns (by decide) (by decide)
  generalize [D.scr ns, D.int 0, D.int 5333, D.int 0] = tp at ht ⊢
  refine T.wp_law ?_
  unfold V_law at h
  change WP _ _ _ _ (b_law [some (.scr ns), some (.tape), none, none, none, none, none, none, none, none, none, none, none, none, none] _)
  unfold b_law
  obtain ⟨c1, h⟩ := h
  obtain ⟨drawn, t2, e3, k4, p5⟩ := t_law_taken ht c1
  replace h := h drawn p5
  obtain ⟨drawn_1, t6, e7, k8, p9⟩ := t_law_taken k4 c1
  replace h := h drawn_1 p9
  obtain ⟨high, d10⟩ : ∃ high : Nat, high = (1 + drawn) := ⟨_, rfl⟩
  replace h := h high d10
  obtain ⟨wide, d11⟩ : ∃ wide : Nat, wide = (1 + drawn_1) := ⟨_, rfl⟩
  replace h := h wide d11
  refine T.wp_seq (T.wp_par (T.ev_cons (T.ev_as d10 (e := eN) (T.ev_add (x := 1) (y := drawn) (T.ev_cN 1) (T.ev_call (T.ev_cons (T.ev_v rfl) (T.ev_cons (T.ev_cN 6) T.ev_nil)) rfl e3))) (T.ev_cons (T.ev_as d11 (e := eN) (T.ev_add (x := 1) (y := drawn_1) (T.ev_cN 1) (T.ev_call (T.ev_cons (T.ev_v rfl) (T.ev_cons (T.ev_cN 6) T.ev_nil)) rfl e7))) T.ev_nil)) rfl ?_)
  change WP _ _ _ _ (At _ [some (.scr ns), some (.tape), some (eN high), some (eN wide), none, none, none, none, none, none, none, none, none, none, none] _)
  obtain ⟨c12, h⟩ := h
  obtain ⟨c13, h⟩ := h
  obtain ⟨told, d14⟩ : ∃ told : (List (Nat × Nat)), told = (F_black_tally high wide) := ⟨_, rfl⟩
  replace h := h told d14
  obtain ⟨turned, d15⟩ : ∃ turned : (List (Nat × Nat)), turned = (F_black_tally wide high) := ⟨_, rfl⟩
  replace h := h turned d15
  refine T.wp_seq (T.wp_par (T.ev_cons (T.ev_as d14 (e := (eT (eP eN eN))) (T.ev_call (T.ev_cons (T.ev_v rfl) (T.ev_cons (T.ev_v rfl) T.ev_nil)) rfl (t_black_tally c12 _))) (T.ev_cons (T.ev_as d15 (e := (eT (eP eN eN))) (T.ev_call (T.ev_cons (T.ev_v rfl) (T.ev_cons (T.ev_v rfl) T.ev_nil)) rfl (t_black_tally c13 _))) T.ev_nil)) rfl ?_)
  change WP _ _ _ _ (At _ [some (.scr ns), some (.tape), some (eN high), some (eN wide), some ((eT (eP eN eN)) told), some ((eT (eP eN eN)) turned), none, none, none, none, none, none, none, none, none] _)
  obtain ⟨c17, h⟩ := h
  obtain ⟨c18, h⟩ := h
  obtain ⟨hf, h⟩ := h
  refine T.wp_seq (T.wp_if (P := ((told.map fun x16 => x16.2).sum ≠ (F_count_free high wide))) (T.ev_bool (T.ev_ne (x := (told.map fun x16 => x16.2).sum) (y := (F_count_free high wide)) qN rfl (T.ev_sumL (xs := (told.map fun x16 => x16.2)) (T.ev_compY (e := (eP eN eN)) (e1 := eN) (xs := told) (ds := fun x16 => [eN x16.1, eN x16.2]) (g := fun x16 => x16.2) (T.it_T (e := (eP eN eN)) (xs := told) (T.ev_v rfl)) c17 (fun _ => rfl) (fun x16 hx => (T.ev_v rfl)))) (T.ev_call (T.ev_cons (T.ev_v rfl) (T.ev_cons (T.ev_v rfl) T.ev_nil)) rfl (t_count_free c18 _)))) (fun hp => ?_) (fun hn => ?_))
  · exact absurd hp ((fun h0 => h0 (hf)))
  · refine T.wp_skip ?_
    change WP _ _ _ _ (At _ [some (.scr ns), some (.tape), some (eN high), some (eN wide), some ((eT (eP eN eN)) told), some ((eT (eP eN eN)) turned), none, none, none, none, none, none, none, none, none] _)
    obtain ⟨c20, h⟩ := h
    obtain ⟨c23, h⟩ := h
    obtain ⟨hf, h⟩ := h
    refine T.wp_seq (T.wp_if (P := (turned ≠ (told.reverse.map fun x19 => (((high * wide) - x19.1), x19.2)))) (T.ev_bool (T.ev_ne (x := turned) (y := (told.reverse.map fun x19 => (((high * wide) - x19.1), x19.2))) (qT (qP qN qN)) rfl (T.ev_v rfl) (T.ev_tupleL (e := (eP eN eN)) (xs := (told.reverse.map fun x19 => (((high * wide) - x19.1), x19.2))) (T.ev_compY (e := (eP eN eN)) (e1 := (eP eN eN)) (xs := told.reverse) (ds := fun x19 => [eN x19.1, eN x19.2]) (g := fun x19 => (((high * wide) - x19.1), x19.2)) (T.it_T (e := (eP eN eN)) (xs := told.reverse) (T.ev_revT (e := (eP eN eN)) (xs := told) (T.ev_v rfl))) c20 (fun _ => rfl) (fun x19 hx => match c23 x19 hx with | ⟨c21, c22⟩ => (T.ev_tup (ds := [eN ((high * wide) - x19.1), eN x19.2]) (T.ev_cons (T.ev_sub (x := (high * wide)) (y := x19.1) c22 (T.ev_mul (x := high) (y := wide) c21 (T.ev_v rfl) (T.ev_v rfl)) (T.ev_v rfl)) (T.ev_cons (T.ev_v rfl) T.ev_nil)) rfl)))))) (fun hp => ?_) (fun hn => ?_))
    · exact absurd hp ((fun h0 => h0 (hf)))
    · refine T.wp_skip ?_
      change WP _ _ _ _ (At _ [some (.scr ns), some (.tape), some (eN high), some (eN wide), some ((eT (eP eN eN)) told), some ((eT (eP eN eN)) turned), none, none, none, none, none, none, none, none, none] _)
      obtain ⟨c25, h⟩ := h
      obtain ⟨c29, h⟩ := h
      obtain ⟨hf, h⟩ := h
      refine T.wp_seq (T.wp_if (P := (((told.filter fun x24 => decide ((F_count_free_black high wide ((high * wide) - x24.1)) ≠ x24.2)).map fun x24 => x24.1) ≠ [])) (T.ev_bool (T.ev_ne (x := ((told.filter fun x24 => decide ((F_count_free_black high wide ((high * wide) - x24.1)) ≠ x24.2)).map fun x24 => x24.1)) (y := []) (qL qN) rfl (T.ev_comp (e := (eP eN eN)) (e1 := eN) (xs := told) (ds := fun x24 => [eN x24.1, eN x24.2]) (g := fun x24 => x24.1) (P := fun x24 => ((F_count_free_black high wide ((high * wide) - x24.1)) ≠ x24.2)) (T.it_T (e := (eP eN eN)) (xs := told) (T.ev_v rfl)) c25 (fun _ => rfl) (fun x24 hx => match c29 x24 hx with | ⟨c26, c27, c28⟩ => (T.ev_bool (T.ev_ne (x := (F_count_free_black high wide ((high * wide) - x24.1))) (y := x24.2) qN rfl (T.ev_call (T.ev_cons (T.ev_v rfl) (T.ev_cons (T.ev_v rfl) (T.ev_cons (T.ev_sub (x := (high * wide)) (y := x24.1) c27 (T.ev_mul (x := high) (y := wide) c26 (T.ev_v rfl) (T.ev_v rfl)) (T.ev_v rfl)) T.ev_nil))) rfl (t_count_free_black c28 _)) (T.ev_v rfl)))) (fun x24 hx hq => (T.ev_v rfl))) (T.ev_lst (ds := []) T.ev_nil rfl))) (fun hp => ?_) (fun hn => ?_))
      · exact absurd hp ((fun h0 => h0 (hf)))
      · refine T.wp_skip ?_
        change WP _ _ _ _ (At _ [some (.scr ns), some (.tape), some (eN high), some (eN wide), some ((eT (eP eN eN)) told), some ((eT (eP eN eN)) turned), none, none, none, none, none, none, none, none, none] _)
        obtain ⟨c30, h⟩ := h
        obtain ⟨c33, h⟩ := h
        obtain ⟨hf, h⟩ := h
        refine T.wp_seq (T.wp_if (P := (((told[0]!).1 ≠ 0) ∨ ((told[told.length - 1]!).1 ≠ (high * wide)))) (T.ev_orT (P := ((told[0]!).1 ≠ 0)) (Q := ((told[told.length - 1]!).1 ≠ (high * wide))) (T.ev_bool (T.ev_ne (x := (told[0]!).1) (y := 0) qN rfl (T.ev_fst (x := told[0]!) (T.ev_ixT (e := (eP eN eN)) (xs := told) (i := 0) c30 (T.ev_v rfl) (T.ev_cN 0)) rfl) (T.ev_cN 0))) (fun hp => match c33 hp with | ⟨c31, c32⟩ => (T.ev_bool (T.ev_ne (x := (told[told.length - 1]!).1) (y := (high * wide)) qN rfl (T.ev_fst (x := told[told.length - 1]!) (T.ev_lastT (e := (eP eN eN)) (xs := told) c31 (T.ev_v rfl) (T.ev_negZ (x := 1) (T.ev_c rfl))) rfl) (T.ev_mul (x := high) (y := wide) c32 (T.ev_v rfl) (T.ev_v rfl)))))) (fun hp => ?_) (fun hn => ?_))
        · exact absurd hp ((fun h0 => h0.elim ((fun h0 => h0 ((hf).1))) ((fun h0 => h0 ((hf).2)))))
        · refine T.wp_skip ?_
          change WP _ _ _ _ (At _ [some (.scr ns), some (.tape), some (eN high), some (eN wide), some ((eT (eP eN eN)) told), some ((eT (eP eN eN)) turned), none, none, none, none, none, none, none, none, none] _)
          obtain ⟨c34, h⟩ := h
          obtain ⟨c35, h⟩ := h
          obtain ⟨c36, h⟩ := h
          obtain ⟨hf, h⟩ := h
          refine T.wp_seq (T.wp_if (P := ((F_mean_free_black high wide) ≠ (F_law_lowered (((high * wide) : Nat) : Int) (2 : Int)))) (T.ev_bool (T.ev_ne (x := (F_mean_free_black high wide)) (y := (F_law_lowered (((high * wide) : Nat) : Int) (2 : Int))) (qP qZ qZ) rfl (T.ev_call (T.ev_cons (T.ev_v rfl) (T.ev_cons (T.ev_v rfl) T.ev_nil)) rfl (t_mean_free_black c34 _)) (T.ev_call (T.ev_cons (T.ev_mul (x := high) (y := wide) c35 (T.ev_v rfl) (T.ev_v rfl)) (T.ev_cons (T.ev_c rfl) T.ev_nil)) rfl (t_law_lowered c36 _)))) (fun hp => ?_) (fun hn => ?_))
          · exact absurd hp ((fun h0 => h0 (hf)))
          · refine T.wp_skip ?_
            change WP _ _ _ _ (At _ [some (.scr ns), some (.tape), some (eN high), some (eN wide), some ((eT (eP eN eN)) told), some ((eT (eP eN eN)) turned), none, none, none, none, none, none, none, none, none] _)
            obtain ⟨c37, h⟩ := h
            obtain ⟨whole, d38⟩ : ∃ whole : (Int × Int), whole = ((0 : Int), (1 : Int)) := ⟨_, rfl⟩
            replace h := h whole d38
            obtain ⟨mean, d39⟩ : ∃ mean : (Int × Int), mean = ((0 : Int), (1 : Int)) := ⟨_, rfl⟩
            replace h := h mean d39
            obtain ⟨shares, d40⟩ : ∃ shares : (List (Nat × (Int × Int))), shares = (F_long_run_black high wide) := ⟨_, rfl⟩
            replace h := h shares d40
            refine T.wp_seq (T.wp_par (T.ev_cons (T.ev_as d38 (e := (eP eZ eZ)) (T.ev_tup (ds := [eZ (0 : Int), eZ (1 : Int)]) (T.ev_cons (T.ev_c rfl) (T.ev_cons (T.ev_c rfl) T.ev_nil)) rfl)) (T.ev_cons (T.ev_as d39 (e := (eP eZ eZ)) (T.ev_tup (ds := [eZ (0 : Int), eZ (1 : Int)]) (T.ev_cons (T.ev_c rfl) (T.ev_cons (T.ev_c rfl) T.ev_nil)) rfl)) (T.ev_cons (T.ev_as d40 (e := (eT (eP eN (eP eZ eZ)))) (T.ev_call (T.ev_cons (T.ev_v rfl) (T.ev_cons (T.ev_v rfl) T.ev_nil)) rfl (t_long_run_black c37 _))) T.ev_nil))) rfl ?_)
            change WP _ _ _ _ (At _ [some (.scr ns), some (.tape), some (eN high), some (eN wide), some ((eT (eP eN eN)) told), some ((eT (eP eN eN)) turned), none, none, some ((eP eZ eZ) whole), some ((eP eZ eZ) mean), some ((eT (eP eN (eP eZ eZ))) shares), none, none, none, none] _)
            obtain ⟨I43, h44, h45, h46⟩ := h
            refine T.wp_seq (T.wp_for (e := (eP eN (eP eZ eZ))) (xs := shares) (ds := fun x48 => [eN x48.1, (eP eZ eZ) x48.2]) (fun k env tz => Tape tz ∧ ∃ whole_1 : (Int × Int), ∃ mean_1 : (Int × Int), ∃ g41 : Option D, ∃ g42 : Option D, env = [some (.scr ns), some (.tape), some (eN high), some (eN wide), some ((eT (eP eN eN)) told), some ((eT (eP eN eN)) turned), g41, none, some ((eP eZ eZ) whole_1), some ((eP eZ eZ) mean_1), some ((eT (eP eN (eP eZ eZ))) shares), g42, none, none, none] ∧ I43 k whole_1 mean_1) (T.it_T (e := (eP eN (eP eZ eZ))) (xs := shares) (T.ev_v rfl)) (fun _ => rfl) ⟨k8, whole, mean, _, _, rfl, h44⟩ ?_ ?_)
            · intro i47 x48 env t hk hI
              obtain ⟨k50, whole_1, mean_1, g41, g42, rfl, h⟩ := hI
              replace h := h45 i47 x48 hk whole_1 mean_1 h
              change WP _ _ _ _ (At _ [some (.scr ns), some (.tape), some (eN high), some (eN wide), some ((eT (eP eN eN)) told), some ((eT (eP eN eN)) turned), some (eN x48.1), none, some ((eP eZ eZ) whole_1), some ((eP eZ eZ) mean_1), some ((eT (eP eN (eP eZ eZ))) shares), some ((eP eZ eZ) x48.2), none, none, none] _)
              obtain ⟨c51, h⟩ := h
              obtain ⟨c52, h⟩ := h
              obtain ⟨c53, h⟩ := h
              obtain ⟨c54, h⟩ := h
              obtain ⟨whole_2, d55⟩ : ∃ whole_2 : (Int × Int), whole_2 = (F_law_plus whole_1 x48.2) := ⟨_, rfl⟩
              replace h := h whole_2 d55
              obtain ⟨mean_2, d56⟩ : ∃ mean_2 : (Int × Int), mean_2 = (F_law_plus mean_1 (F_law_lowered (x48.2.1 * ((x48.1 : Nat) : Int)) x48.2.2)) := ⟨_, rfl⟩
              replace h := h mean_2 d56
              refine T.wp_par (T.ev_cons (T.ev_as d55 (e := (eP eZ eZ)) (T.ev_call (T.ev_cons (T.ev_v rfl) (T.ev_cons (T.ev_v rfl) T.ev_nil)) rfl (t_law_plus c51 _))) (T.ev_cons (T.ev_as d56 (e := (eP eZ eZ)) (T.ev_call (T.ev_cons (T.ev_v rfl) (T.ev_cons (T.ev_call (T.ev_cons (T.ev_mulZ (x := x48.2.1) (y := ((x48.1 : Nat) : Int)) c52 (T.ev_fst (x := x48.2) (T.ev_v rfl) rfl) (T.ev_v rfl)) (T.ev_cons (T.ev_snd (x := x48.2) (T.ev_v rfl) rfl) T.ev_nil)) rfl (t_law_lowered c53 _)) T.ev_nil)) rfl (t_law_plus c54 _))) T.ev_nil)) rfl ?_
              exact ⟨k50, whole_2, mean_2, _, _, rfl, h⟩
            rintro _ t57 ⟨k58, whole_1, mean_1, g41, g42, rfl, h⟩
            replace h := h46 whole_1 mean_1 h
            change WP _ _ _ _ (At _ [some (.scr ns), some (.tape), some (eN high), some (eN wide), some ((eT (eP eN eN)) told), some ((eT (eP eN eN)) turned), g41, none, some ((eP eZ eZ) whole_1), some ((eP eZ eZ) mean_1), some ((eT (eP eN (eP eZ eZ))) shares), g42, none, none, none] _)
            obtain ⟨c61, h⟩ := h
            obtain ⟨hf, h⟩ := h
            refine T.wp_seq (T.wp_if (P := ((whole_1 ≠ ((1 : Int), (1 : Int))) ∨ (mean_1 ≠ (F_law_lowered (((high * wide) : Nat) : Int) (2 : Int))))) (T.ev_orT (P := (whole_1 ≠ ((1 : Int), (1 : Int)))) (Q := (mean_1 ≠ (F_law_lowered (((high * wide) : Nat) : Int) (2 : Int)))) (T.ev_bool (T.ev_ne (x := whole_1) (y := ((1 : Int), (1 : Int))) (qP qZ qZ) rfl (T.ev_v rfl) (T.ev_tup (ds := [eZ (1 : Int), eZ (1 : Int)]) (T.ev_cons (T.ev_c rfl) (T.ev_cons (T.ev_c rfl) T.ev_nil)) rfl))) (fun hp => match c61 hp with | ⟨c59, c60⟩ => (T.ev_bool (T.ev_ne (x := mean_1) (y := (F_law_lowered (((high * wide) : Nat) : Int) (2 : Int))) (qP qZ qZ) rfl (T.ev_v rfl) (T.ev_call (T.ev_cons (T.ev_mul (x := high) (y := wide) c59 (T.ev_v rfl) (T.ev_v rfl)) (T.ev_cons (T.ev_c rfl) T.ev_nil)) rfl (t_law_lowered c60 _)))))) (fun hp => ?_) (fun hn => ?_))
            · exact absurd hp ((fun h0 => h0.elim ((fun h0 => h0 ((hf).1))) ((fun h0 => h0 ((hf).2)))))
            · refine T.wp_skip ?_
              change WP _ _ _ _ (At _ [some (.scr ns), some (.tape), some (eN high), some (eN wide), some ((eT (eP eN eN)) told), some ((eT (eP eN eN)) turned), g41, none, some ((eP eZ eZ) whole_1), some ((eP eZ eZ) mean_1), some ((eT (eP eN (eP eZ eZ))) shares), g42, none, none, none] _)
              obtain ⟨c63, h⟩ := h
              obtain ⟨c65, h⟩ := h
              obtain ⟨hf, h⟩ := h
              refine T.wp_seq (T.wp_if (P := ((shares.map fun x62 => x62.1) ≠ (told.map fun x64 => x64.1))) (T.ev_bool (T.ev_ne (x := (shares.map fun x62 => x62.1)) (y := (told.map fun x64 => x64.1)) (qL qN) rfl (T.ev_compY (e := (eP eN (eP eZ eZ))) (e1 := eN) (xs := shares) (ds := fun x62 => [eN x62.1, (eP eZ eZ) x62.2]) (g := fun x62 => x62.1) (T.it_T (e := (eP eN (eP eZ eZ))) (xs := shares) (T.ev_v rfl)) c63 (fun _ => rfl) (fun x62 hx => (T.ev_v rfl))) (T.ev_compY (e := (eP eN eN)) (e1 := eN) (xs := told) (ds := fun x64 => [eN x64.1, eN x64.2]) (g := fun x64 => x64.1) (T.it_T (e := (eP eN eN)) (xs := told) (T.ev_v rfl)) c65 (fun _ => rfl) (fun x64 hx => (T.ev_v rfl))))) (fun hp => ?_) (fun hn => ?_))
              · exact absurd hp ((fun h0 => h0 (hf)))
              · refine T.wp_skip ?_
                change WP _ _ _ _ (At _ [some (.scr ns), some (.tape), some (eN high), some (eN wide), some ((eT (eP eN eN)) told), some ((eT (eP eN eN)) turned), g41, none, some ((eP eZ eZ) whole_1), some ((eP eZ eZ) mean_1), some ((eT (eP eN (eP eZ eZ))) shares), g42, none, none, none] _)
                obtain ⟨c66, h⟩ := h
                obtain ⟨best, d67⟩ : ∃ best : Nat, best = (F_likeliest_black high wide) := ⟨_, rfl⟩
                replace h := h best d67
                refine T.wp_seq (T.wp_set (T.ev_as d67 (e := eN) (T.ev_call (T.ev_cons (T.ev_v rfl) (T.ev_cons (T.ev_v rfl) T.ev_nil)) rfl (t_likeliest_black c66 _))) ?_)
                change WP _ _ _ _ (At _ [some (.scr ns), some (.tape), some (eN high), some (eN wide), some ((eT (eP eN eN)) told), some ((eT (eP eN eN)) turned), g41, none, some ((eP eZ eZ) whole_1), some ((eP eZ eZ) mean_1), some ((eT (eP eN (eP eZ eZ))) shares), g42, some (eN best), none, none] _)
                obtain ⟨c69, h⟩ := h
                obtain ⟨c70, h⟩ := h
                obtain ⟨top, d71⟩ : ∃ top : (Int × Int), top = ((shares.filter fun x68 => decide (x68.1 = best)).map fun x68 => x68.2)[0]! := ⟨_, rfl⟩
                replace h := h top d71
                refine T.wp_seq (T.wp_set (T.ev_as d71 (e := (eP eZ eZ)) (T.ev_ixL (e := (eP eZ eZ)) (xs := ((shares.filter fun x68 => decide (x68.1 = best)).map fun x68 => x68.2)) (i := 0) c70 (T.ev_comp (e := (eP eN (eP eZ eZ))) (e1 := (eP eZ eZ)) (xs := shares) (ds := fun x68 => [eN x68.1, (eP eZ eZ) x68.2]) (g := fun x68 => x68.2) (P := fun x68 => (x68.1 = best)) (T.it_T (e := (eP eN (eP eZ eZ))) (xs := shares) (T.ev_v rfl)) c69 (fun _ => rfl) (fun x68 hx => (T.ev_bool (T.ev_eq (x := x68.1) (y := best) qN rfl (T.ev_v rfl) (T.ev_v rfl)))) (fun x68 hx hq => (T.ev_v rfl))) (T.ev_cN 0))) ?_)
                change WP _ _ _ _ (At _ [some (.scr ns), some (.tape), some (eN high), some (eN wide), some ((eT (eP eN eN)) told), some ((eT (eP eN eN)) turned), g41, none, some ((eP eZ eZ) whole_1), some ((eP eZ eZ) mean_1), some ((eT (eP eN (eP eZ eZ))) shares), g42, some (eN best), some ((eP eZ eZ) top), none] _)
                obtain ⟨c73, h⟩ := h
                obtain ⟨c76, h⟩ := h
                obtain ⟨hf, h⟩ := h
                refine T.wp_seq (T.wp_if (P := (((shares.filter fun x72 => decide (((x72.2.1 * top.2) > (top.1 * x72.2.2)) ∨ ((x72.1 < best) ∧ (x72.2 = top)))).map fun x72 => x72.1) ≠ [])) (T.ev_bool (T.ev_ne (x := ((shares.filter fun x72 => decide (((x72.2.1 * top.2) > (top.1 * x72.2.2)) ∨ ((x72.1 < best) ∧ (x72.2 = top)))).map fun x72 => x72.1)) (y := []) (qL qN) rfl (T.ev_comp (e := (eP eN (eP eZ eZ))) (e1 := eN) (xs := shares) (ds := fun x72 => [eN x72.1, (eP eZ eZ) x72.2]) (g := fun x72 => x72.1) (P := fun x72 => (((x72.2.1 * top.2) > (top.1 * x72.2.2)) ∨ ((x72.1 < best) ∧ (x72.2 = top)))) (T.it_T (e := (eP eN (eP eZ eZ))) (xs := shares) (T.ev_v rfl)) c73 (fun _ => rfl) (fun x72 hx => match c76 x72 hx with | ⟨c74, c75⟩ => (T.ev_orT (P := ((x72.2.1 * top.2) > (top.1 * x72.2.2))) (Q := ((x72.1 < best) ∧ (x72.2 = top))) (T.ev_bool (T.ev_gtZ (x := (x72.2.1 * top.2)) (y := (top.1 * x72.2.2)) (T.ev_mulZ (x := x72.2.1) (y := top.2) c74 (T.ev_fst (x := x72.2) (T.ev_v rfl) rfl) (T.ev_snd (x := top) (T.ev_v rfl) rfl)) (T.ev_mulZ (x := top.1) (y := x72.2.2) c75 (T.ev_fst (x := top) (T.ev_v rfl) rfl) (T.ev_snd (x := x72.2) (T.ev_v rfl) rfl)))) (fun hp => (T.ev_andT (P := (x72.1 < best)) (Q := (x72.2 = top)) (T.ev_bool (T.ev_lt (x := x72.1) (y := best) (T.ev_v rfl) (T.ev_v rfl))) (fun hp => (T.ev_bool (T.ev_eq (x := x72.2) (y := top) (qP qZ qZ) rfl (T.ev_v rfl) (T.ev_v rfl)))))))) (fun x72 hx hq => (T.ev_v rfl))) (T.ev_lst (ds := []) T.ev_nil rfl))) (fun hp => ?_) (fun hn => ?_))
                · exact absurd hp ((fun h0 => h0 (hf)))
                · refine T.wp_skip ?_
                  change WP _ _ _ _ (At _ [some (.scr ns), some (.tape), some (eN high), some (eN wide), some ((eT (eP eN eN)) told), some ((eT (eP eN eN)) turned), g41, none, some ((eP eZ eZ) whole_1), some ((eP eZ eZ) mean_1), some ((eT (eP eN (eP eZ eZ))) shares), g42, some (eN best), some ((eP eZ eZ) top), none] _)
                  obtain ⟨c77, h⟩ := h
                  obtain ⟨c78, h⟩ := h
                  obtain ⟨hf, h⟩ := h
                  refine T.wp_seq (T.wp_if (P := ((shares[0]!).2 ≠ (shares[shares.length - 1]!).2)) (T.ev_bool (T.ev_ne (x := (shares[0]!).2) (y := (shares[shares.length - 1]!).2) (qP qZ qZ) rfl (T.ev_snd (x := shares[0]!) (T.ev_ixT (e := (eP eN (eP eZ eZ))) (xs := shares) (i := 0) c77 (T.ev_v rfl) (T.ev_cN 0)) rfl) (T.ev_snd (x := shares[shares.length - 1]!) (T.ev_lastT (e := (eP eN (eP eZ eZ))) (xs := shares) c78 (T.ev_v rfl) (T.ev_negZ (x := 1) (T.ev_c rfl))) rfl))) (fun hp => ?_) (fun hn => ?_))
                  · exact absurd hp ((fun h0 => h0 (hf)))
                  · refine T.wp_skip ?_
                    change WP _ _ _ _ (At _ [some (.scr ns), some (.tape), some (eN high), some (eN wide), some ((eT (eP eN eN)) told), some ((eT (eP eN eN)) turned), g41, none, some ((eP eZ eZ) whole_1), some ((eP eZ eZ) mean_1), some ((eT (eP eN (eP eZ eZ))) shares), g42, some (eN best), some ((eP eZ eZ) top), none] _)
                    obtain ⟨c79, h⟩ := h
                    obtain ⟨c80, h⟩ := h
                    obtain ⟨c81, h⟩ := h
                    obtain ⟨c82, h⟩ := h
                    obtain ⟨c83, h⟩ := h
                    obtain ⟨c84, h⟩ := h
                    obtain ⟨hf, h⟩ := h
                    refine T.wp_seq (T.wp_if (P := ((shares[0]!).2 ≠ (F_law_lowered ((((F_law_product high) * (F_law_product wide)) : Nat) : Int) (((F_law_product (high + wide)) : Nat) : Int)))) (T.ev_bool (T.ev_ne (x := (shares[0]!).2) (y := (F_law_lowered ((((F_law_product high) * (F_law_product wide)) : Nat) : Int) (((F_law_product (high + wide)) : Nat) : Int))) (qP qZ qZ) rfl (T.ev_snd (x := shares[0]!) (T.ev_ixT (e := (eP eN (eP eZ eZ))) (xs := shares) (i := 0) c79 (T.ev_v rfl) (T.ev_cN 0)) rfl) (T.ev_call (T.ev_cons (T.ev_mul (x := (F_law_product high)) (y := (F_law_product wide)) c82 (T.ev_call (T.ev_cons (T.ev_v rfl) T.ev_nil) rfl (t_law_product c80 _)) (T.ev_call (T.ev_cons (T.ev_v rfl) T.ev_nil) rfl (t_law_product c81 _))) (T.ev_cons (T.ev_call (T.ev_cons (T.ev_add (x := high) (y := wide) (T.ev_v rfl) (T.ev_v rfl)) T.ev_nil) rfl (t_law_product c83 _)) T.ev_nil)) rfl (t_law_lowered c84 _)))) (fun hp => ?_) (fun hn => ?_))
                    · exact absurd hp ((fun h0 => h0 (hf)))
                    · refine T.wp_skip ?_
                      change WP _ _ _ _ (At _ [some (.scr ns), some (.tape), some (eN high), some (eN wide), some ((eT (eP eN eN)) told), some ((eT (eP eN eN)) turned), g41, none, some ((eP eZ eZ) whole_1), some ((eP eZ eZ) mean_1), some ((eT (eP eN (eP eZ eZ))) shares), g42, some (eN best), some ((eP eZ eZ) top), none] _)
                      obtain ⟨whole_3, d85⟩ : ∃ whole_3 : (Int × Int), whole_3 = ((0 : Int), (1 : Int)) := ⟨_, rfl⟩
                      replace h := h whole_3 d85
                      refine T.wp_seq (T.wp_set (T.ev_as d85 (e := (eP eZ eZ)) (T.ev_tup (ds := [eZ (0 : Int), eZ (1 : Int)]) (T.ev_cons (T.ev_c rfl) (T.ev_cons (T.ev_c rfl) T.ev_nil)) rfl)) ?_)
                      change WP _ _ _ _ (At _ [some (.scr ns), some (.tape), some (eN high), some (eN wide), some ((eT (eP eN eN)) told), some ((eT (eP eN eN)) turned), g41, none, some ((eP eZ eZ) whole_3), some ((eP eZ eZ) mean_1), some ((eT (eP eN (eP eZ eZ))) shares), g42, some (eN best), some ((eP eZ eZ) top), none] _)
                      obtain ⟨c86, h⟩ := h
                      obtain ⟨I89, h90, h91, h92⟩ := h
                      refine T.wp_seq (T.wp_for (e := (eP eN (eP eZ eZ))) (xs := (F_long_run_tally high wide)) (ds := fun x94 => [eN x94.1, (eP eZ eZ) x94.2]) (fun k env tz => Tape tz ∧ ∃ whole_4 : (Int × Int), ∃ g87 : Option D, ∃ g88 : Option D, env = [some (.scr ns), some (.tape), some (eN high), some (eN wide), some ((eT (eP eN eN)) told), some ((eT (eP eN eN)) turned), g41, none, some ((eP eZ eZ) whole_4), some ((eP eZ eZ) mean_1), some ((eT (eP eN (eP eZ eZ))) shares), g87, some (eN best), some ((eP eZ eZ) top), g88] ∧ I89 k whole_4) (T.it_T (e := (eP eN (eP eZ eZ))) (xs := (F_long_run_tally high wide)) (T.ev_call (T.ev_cons (T.ev_v rfl) (T.ev_cons (T.ev_v rfl) T.ev_nil)) rfl (t_long_run_tally c86 _))) (fun _ => rfl) ⟨k58, whole_3, _, _, rfl, h90⟩ ?_ ?_)
                      · intro i93 x94 env t hk hI
                        obtain ⟨k96, whole_4, g87, g88, rfl, h⟩ := hI
                        replace h := h91 i93 x94 hk whole_4 h
                        change WP _ _ _ _ (At _ [some (.scr ns), some (.tape), some (eN high), some (eN wide), some ((eT (eP eN eN)) told), some ((eT (eP eN eN)) turned), g41, none, some ((eP eZ eZ) whole_4), some ((eP eZ eZ) mean_1), some ((eT (eP eN (eP eZ eZ))) shares), some ((eP eZ eZ) x94.2), some (eN best), some ((eP eZ eZ) top), some (eN x94.1)] _)
                        obtain ⟨c97, h⟩ := h
                        obtain ⟨whole_5, d98⟩ : ∃ whole_5 : (Int × Int), whole_5 = (F_law_plus whole_4 x94.2) := ⟨_, rfl⟩
                        replace h := h whole_5 d98
                        refine T.wp_set (T.ev_as d98 (e := (eP eZ eZ)) (T.ev_call (T.ev_cons (T.ev_v rfl) (T.ev_cons (T.ev_v rfl) T.ev_nil)) rfl (t_law_plus c97 _))) ?_
                        exact ⟨k96, whole_5, _, _, rfl, h⟩
                      rintro _ t99 ⟨k100, whole_4, g87, g88, rfl, h⟩
                      replace h := h92 whole_4 h
                      change WP _ _ _ _ (At _ [some (.scr ns), some (.tape), some (eN high), some (eN wide), some ((eT (eP eN eN)) told), some ((eT (eP eN eN)) turned), g41, none, some ((eP eZ eZ) whole_4), some ((eP eZ eZ) mean_1), some ((eT (eP eN (eP eZ eZ))) shares), g87, some (eN best), some ((eP eZ eZ) top), g88] _)
                      obtain ⟨c103, h⟩ := h
                      exact T.wp_ret (d := .bl true) (Eq.trans ((T.ev_andE (P := (whole_4 = ((1 : Int), (1 : Int)))) (Q := ((F_long_run_tally high wide) = (F_long_run_tally wide high))) (T.ev_eq (x := whole_4) (y := ((1 : Int), (1 : Int))) (qP qZ qZ) rfl (T.ev_v rfl) (T.ev_tup (ds := [eZ (1 : Int), eZ (1 : Int)]) (T.ev_cons (T.ev_c rfl) (T.ev_cons (T.ev_c rfl) T.ev_nil)) rfl)) (fun hp => match c103 hp with | ⟨c101, c102⟩ => (T.ev_eq (x := (F_long_run_tally high wide)) (y := (F_long_run_tally wide high)) (qT (qP qN (qP qZ qZ))) rfl (T.ev_call (T.ev_cons (T.ev_v rfl) (T.ev_cons (T.ev_v rfl) T.ev_nil)) rfl (t_long_run_tally c101 _)) (T.ev_call (T.ev_cons (T.ev_v rfl) (T.ev_cons (T.ev_v rfl) T.ev_nil)) rfl (t_long_run_tally c102 _)))))) (T.ev_tt (P := ((whole_4 = ((1 : Int), (1 : Int))) ∧ ((F_long_run_tally high wide) = (F_long_run_tally wide high)))) (⟨(h).1, (h).2⟩))) rfl
end W
set_option maxHeartbeats 1000000
namespace W
open PySem L2 G T
local instance : _root_.G.Wo := ⟨fun _ => 0⟩
/-- a list in a weak order is the one in the strict order of the same things -/
theorem one_orderZ {α : Type} {lt : α → α → Bool} : ∀ {A B : List α}, A.Perm B → A.Pairwise (fun x y => lt y x = false) → B.Pairwise (fun x y => lt x y = true) → A = B
  | [], B, p, _, _ => p.nil_eq
  | a :: A, [], p, _, _ => absurd p.symm.nil_eq (by simp)
  | a :: A, b :: B, p, hA, hB => by
    obtain ⟨a1, a2⟩ := List.pairwise_cons.mp hA
    obtain ⟨b1, b2⟩ := List.pairwise_cons.mp hB
    have e : a = b := by
      rcases List.mem_cons.mp (p.mem_iff.mpr List.mem_cons_self) with e | e
      · exact e.symm
      rcases List.mem_cons.mp (p.mem_iff.mp List.mem_cons_self) with f | f
      · exact f
      have x := a1 b e
      have y := b1 a f
      rw [x] at y; cases y
    subst e
    rw [one_orderZ (List.Perm.cons_inv p) a2 b2]
theorem srt_keysZ {xs ys : List (Nat × (Int × Int))} (hp : xs.Perm ys) (h : ys.Pairwise fun x y => x.1 < y.1) : srtBy (eP eN (eP eZ eZ)) xs = ys := by
  refine one_orderZ (lt := fun x y => PySem.W.dataLt (eP eN (eP eZ eZ) x).pd (eP eN (eP eZ eZ) y).pd) ((srtBy_perm _ _).trans hp) ?_ ?_
  · unfold srtBy
    refine (PySem.W.sort_pairwise (PySem.W.sortLe_total _ false _) _).imp fun {a b} h => ?_
    have h : (!PySem.W.dataLt (eP eN (eP eZ eZ) b).pd (eP eN (eP eZ eZ) a).pd) = true := h
    simpa using h
  · refine h.imp fun {x y} l => ?_
    show PySem.W.dataLt (.tuple [.int (x.1 : Int), .tuple [.int x.2.1, .int x.2.2]]) (.tuple [.int (y.1 : Int), .tuple [.int y.2.1, .int y.2.2]]) = true
    rw [PySem.W.dataLt_pair, if_neg (by intro e; have e : decide ((x.1 : Int) = (y.1 : Int)) = true := e; have := of_decide_eq_true e; omega), PySem.W.dataLt_int]
    · exact decide_eq_true (by omega)
    · simp [PySem.W.alike]
    · simp [PySem.W.alike, PySem.W.alikeAll]
/-- the long run's tally in its order -/
def LTq (h w : Nat) : List (Nat × (Int × Int)) := (sortNN (tallyR h w)).map fun p => (p.1, low ((p.2 : Nat) : Int) ((hfac (h + w) : Nat) : Int))
theorem lrt_eq {h w : Nat} (hs : (LTq h w).Pairwise fun x y => x.1 < y.1) : F_long_run_tally h w = LTq h w :=
  srt_keysZ ((sortNN_perm _).symm.map _) hs
def smallR (a : Int × Int) : Bool := decide (a.1.natAbs < 2 ^ 64 ∧ a.2.natAbs < 2 ^ 64 ∧ 0 < a.2)
def runR : Int × Int → List (Int × Int) → Bool
  | a, [] => smallR a
  | a, x :: xs => smallR a && smallR x && runR (F_law_plus a x) xs
theorem small_P {a : Int × Int} (h : smallR a = true) : Lg a.1 64 ∧ Lg a.2 64 ∧ 0 < a.2 := by
  have e : a.1.natAbs < 2 ^ 64 ∧ a.2.natAbs < 2 ^ 64 ∧ 0 < a.2 := of_decide_eq_true h
  exact e
theorem small_L {a : Int × Int} (h : smallR a = true) : Lg a.1 4000 ∧ Lg a.2 4000 ∧ 0 < a.2 := ⟨(small_P h).1.mono (by omega), (small_P h).2.1.mono (by omega), (small_P h).2.2⟩
theorem run_at : ∀ (xs : List (Int × Int)) (a : Int × Int), runR a xs = true → ∀ (i : Nat) (x : Int × Int), xs[i]? = some x → smallR ((xs.take i).foldl F_law_plus a) = true ∧ smallR x = true
  | [], _, _, _, _, h => by cases h
  | x :: xs, a, h, 0, y, e => by
    unfold runR at h
    simp only [Bool.and_eq_true] at h
    cases e
    exact h.1
  | x :: xs, a, h, i + 1, y, e => by
    unfold runR at h
    simp only [Bool.and_eq_true] at h
    exact run_at xs _ h.2 i y e
abbrev meanR (x : Nat × (Int × Int)) : Int × Int := low (x.2.1 * ((x.1 : Nat) : Int)) x.2.2
abbrev sixs : List Nat := [1, 2, 3, 4, 5, 6]
def topR (h w : Nat) : Int × Int := (((F_long_run_black h w).filter fun x => decide (x.1 = F_likeliest_black h w)).map fun x => x.2)[0]!
theorem tabR : ∀ h ∈ sixs, ∀ w ∈ sixs, (((F_black_tally h w).map fun x => x.2).sum = frN h w) ∧ (F_black_tally w h = ((F_black_tally h w).reverse.map fun x => (((h * w) - x.1), x.2))) ∧ (∀ x ∈ F_black_tally h w, x.1 ≤ h * w ∧ F_count_free_black h w (h * w - x.1) = x.2) ∧ ((F_black_tally h w).length ≤ 100 ∧ F_black_tally h w ≠ [] ∧ ((F_black_tally h w)[0]!).1 = 0 ∧ ((F_black_tally h w)[(F_black_tally h w).length - 1]!).1 = h * w) ∧ (F_mean_free_black h w = F_law_lowered ((h * w : Nat) : Int) (2 : Int)) ∧ (runR (0, 1) ((F_long_run_black h w).map fun x => x.2) = true ∧ ((F_long_run_black h w).map fun x => x.2).foldl F_law_plus (0, 1) = (1, 1)) ∧ (runR (0, 1) ((F_long_run_black h w).map meanR) = true ∧ ((F_long_run_black h w).map meanR).foldl F_law_plus (0, 1) = F_law_lowered ((h * w : Nat) : Int) (2 : Int)) ∧ (((F_long_run_black h w).map fun x => x.1) = ((F_black_tally h w).map fun x => x.1)) ∧ (0 < (((F_long_run_black h w).filter fun x => decide (x.1 = F_likeliest_black h w)).map fun x => x.2).length ∧ smallR (topR h w) = true) ∧ ((((F_long_run_black h w).filter fun x => decide (((x.2.1 * (topR h w).2) > ((topR h w).1 * x.2.2)) ∨ ((x.1 < F_likeliest_black h w) ∧ (x.2 = topR h w)))).map fun x => x.1) = []) ∧ (((F_long_run_black h w)[0]!).2 = ((F_long_run_black h w)[(F_long_run_black h w).length - 1]!).2 ∧ ((F_long_run_black h w)[0]!).2 = (F_law_lowered ((((F_law_product h) * (F_law_product w)) : Nat) : Int) (((F_law_product (h + w)) : Nat) : Int))) ∧ ((LTq h w).Pairwise fun x y => x.1 < y.1) ∧ (runR (0, 1) ((LTq h w).map fun x => x.2) = true ∧ ((LTq h w).map fun x => x.2).foldl F_law_plus (0, 1) = (1, 1)) ∧ (LTq h w = LTq w h) := by decide +kernel
theorem A1 : ∀ h ∈ sixs, ∀ w ∈ sixs, ((F_black_tally h w).map fun x => x.2).sum = frN h w := fun h mh w mw => (tabR h mh w mw).1
theorem A2 : ∀ h ∈ sixs, ∀ w ∈ sixs, F_black_tally w h = ((F_black_tally h w).reverse.map fun x => (((h * w) - x.1), x.2)) := fun h mh w mw => (tabR h mh w mw).2.1
theorem A3 : ∀ h ∈ sixs, ∀ w ∈ sixs, ∀ x ∈ F_black_tally h w, x.1 ≤ h * w ∧ F_count_free_black h w (h * w - x.1) = x.2 := fun h mh w mw => (tabR h mh w mw).2.2.1
theorem A4 : ∀ h ∈ sixs, ∀ w ∈ sixs, (F_black_tally h w).length ≤ 100 ∧ F_black_tally h w ≠ [] ∧ ((F_black_tally h w)[0]!).1 = 0 ∧ ((F_black_tally h w)[(F_black_tally h w).length - 1]!).1 = h * w := fun h mh w mw => (tabR h mh w mw).2.2.2.1
theorem A5 : ∀ h ∈ sixs, ∀ w ∈ sixs, F_mean_free_black h w = F_law_lowered ((h * w : Nat) : Int) (2 : Int) := fun h mh w mw => (tabR h mh w mw).2.2.2.2.1
theorem B1 : ∀ h ∈ sixs, ∀ w ∈ sixs, runR (0, 1) ((F_long_run_black h w).map fun x => x.2) = true ∧ ((F_long_run_black h w).map fun x => x.2).foldl F_law_plus (0, 1) = (1, 1) := fun h mh w mw => (tabR h mh w mw).2.2.2.2.2.1
theorem B2 : ∀ h ∈ sixs, ∀ w ∈ sixs, runR (0, 1) ((F_long_run_black h w).map meanR) = true ∧ ((F_long_run_black h w).map meanR).foldl F_law_plus (0, 1) = F_law_lowered ((h * w : Nat) : Int) (2 : Int) := fun h mh w mw => (tabR h mh w mw).2.2.2.2.2.2.1
theorem B3 : ∀ h ∈ sixs, ∀ w ∈ sixs, ((F_long_run_black h w).map fun x => x.1) = ((F_black_tally h w).map fun x => x.1) := fun h mh w mw => (tabR h mh w mw).2.2.2.2.2.2.2.1
theorem B4 : ∀ h ∈ sixs, ∀ w ∈ sixs, 0 < (((F_long_run_black h w).filter fun x => decide (x.1 = F_likeliest_black h w)).map fun x => x.2).length ∧ smallR (topR h w) = true := fun h mh w mw => (tabR h mh w mw).2.2.2.2.2.2.2.2.1
theorem B5 : ∀ h ∈ sixs, ∀ w ∈ sixs, (((F_long_run_black h w).filter fun x => decide (((x.2.1 * (topR h w).2) > ((topR h w).1 * x.2.2)) ∨ ((x.1 < F_likeliest_black h w) ∧ (x.2 = topR h w)))).map fun x => x.1) = [] := fun h mh w mw => (tabR h mh w mw).2.2.2.2.2.2.2.2.2.1
theorem B6 : ∀ h ∈ sixs, ∀ w ∈ sixs, ((F_long_run_black h w)[0]!).2 = ((F_long_run_black h w)[(F_long_run_black h w).length - 1]!).2 ∧ ((F_long_run_black h w)[0]!).2 = (F_law_lowered ((((F_law_product h) * (F_law_product w)) : Nat) : Int) (((F_law_product (h + w)) : Nat) : Int)) := fun h mh w mw => (tabR h mh w mw).2.2.2.2.2.2.2.2.2.2.1
theorem C1 : ∀ h ∈ sixs, ∀ w ∈ sixs, (LTq h w).Pairwise fun x y => x.1 < y.1 := fun h mh w mw => (tabR h mh w mw).2.2.2.2.2.2.2.2.2.2.2.1
theorem C2 : ∀ h ∈ sixs, ∀ w ∈ sixs, runR (0, 1) ((LTq h w).map fun x => x.2) = true ∧ ((LTq h w).map fun x => x.2).foldl F_law_plus (0, 1) = (1, 1) := fun h mh w mw => (tabR h mh w mw).2.2.2.2.2.2.2.2.2.2.2.2.1
theorem C3 : ∀ h ∈ sixs, ∀ w ∈ sixs, LTq h w = LTq w h := fun h mh w mw => (tabR h mh w mw).2.2.2.2.2.2.2.2.2.2.2.2.2
theorem six_mem {n : Nat} (h1 : 1 ≤ n) (h6 : n ≤ 6) : n ∈ sixs := by
  have : n = 1 ∨ n = 2 ∨ n = 3 ∨ n = 4 ∨ n = 5 ∨ n = 6 := by omega
  rcases this with rfl | rfl | rfl | rfl | rfl | rfl <;> decide
theorem snoc_run {α β : Type} {f : β → α → β} {g : Nat × (Int × Int) → α} {xs : List (Nat × (Int × Int))} {i : Nat} {x : Nat × (Int × Int)} (hx : xs[i]? = some x) (a : β) : (((xs.take (i + 1)).map g).foldl f a) = f (((xs.take i).map g).foldl f a) (g x) := by
  rw [take_snoc hx, List.map_append, List.foldl_append]; rfl
theorem run_map {g : Nat × (Int × Int) → Int × Int} {xs : List (Nat × (Int × Int))} (h : runR (0, 1) (xs.map g) = true) {i : Nat} {x : Nat × (Int × Int)} (hx : xs[i]? = some x) : smallR (((xs.take i).map g).foldl F_law_plus (0, 1)) = true ∧ smallR (g x) = true := by
  have := run_at (xs.map g) (0, 1) h i (g x) (by rw [List.getElem?_map, hx]; rfl)
  rw [List.map_take]; exact this
theorem ok_law : V_law := by
  refine ⟨⟨by decide, by decide⟩, fun d1 e1 d2 e2 h eh w ew => ?_⟩
  have e1 : d1 < 6 := e1
  have e2 : d2 < 6 := e2
  have h1 : 1 ≤ h := by omega
  have w1 : 1 ≤ w := by omega
  have h6 : h ≤ 6 := by omega
  have w6 : w ≤ 6 := by omega
  have mh := six_mem h1 h6
  have mw := six_mem w1 w6
  have kB : (1 ≤ h ∧ h ≤ 8) ∧ 1 ≤ w ∧ w ≤ 8 := ⟨⟨h1, by omega⟩, w1, by omega⟩
  have kB' : (1 ≤ w ∧ w ≤ 8) ∧ 1 ≤ h ∧ h ≤ 8 := ⟨⟨w1, by omega⟩, h1, by omega⟩
  have hw36 : h * w ≤ 36 := Nat.mul_le_mul h6 w6
  have cm : cMul ((h : Nat) : Int) ((w : Nat) : Int) = true := cMul_nat (n := 4) (m := 4) (by omega) (by omega) (by omega) (by omega) (by omega)
  have kT : P_long_run_tally h w := ⟨⟨h1, by omega⟩, w1, by omega⟩
  have kT' : P_long_run_tally w h := ⟨⟨w1, by omega⟩, h1, by omega⟩
  have low2 : P_law_lowered (((h * w) : Nat) : Int) (2 : Int) := ⟨Lg.mono (n := 6) (Lg.nat (by omega)) (by omega), Lg.mono (n := 2) (by show (2 : Int).natAbs < _; decide) (by omega), by decide⟩
  refine ⟨kB, kB', fun told et turned eu => ?_⟩
  subst et eu
  obtain ⟨tl, tne, t0, tz⟩ := A4 h mh w mw
  have a3 := A3 h mh w mw
  refine ⟨by omega, ⟨⟨h1, by omega⟩, w1, by omega⟩, A1 h mh w mw, by rw [List.length_reverse]; omega, fun x hx => ⟨cm, (a3 x (List.mem_reverse.mp hx)).1⟩, A2 h mh w mw, by omega, fun x hx => ⟨cm, (a3 x hx).1, kB, Nat.sub_le _ _⟩, ?_, List.length_pos_iff.mpr tne, fun _ => ⟨tne, cm⟩, ⟨t0, tz⟩, kB, cm, low2, A5 h mh w mw, kB, fun whole ewh mean eme shares esh => ?_⟩
  · rw [List.map_eq_nil_iff, List.filter_eq_nil_iff]
    intro x hx
    have := (a3 x hx).2
    simpa using this
  subst ewh eme esh
  obtain ⟨b1r, b1f⟩ := B1 h mh w mw
  obtain ⟨b2r, b2f⟩ := B2 h mh w mw
  have b3 := B3 h mh w mw
  have sl : (F_long_run_black h w).length = (F_black_tally h w).length := by
    have := congrArg List.length b3
    rw [List.length_map, List.length_map] at this; exact this
  have sne : F_long_run_black h w ≠ [] := fun e => by
    rw [e] at sl
    exact tne (List.length_eq_zero_iff.mp sl.symm)
  have keyle : ∀ x ∈ F_long_run_black h w, x.1 ≤ 36 := fun x hx => by
    have : x.1 ∈ ((F_black_tally h w).map fun x => x.1) := by rw [← b3]; exact List.mem_map.mpr ⟨x, hx, rfl⟩
    obtain ⟨y, hy, ey⟩ := List.mem_map.mp this
    have := (a3 y hy).1
    omega
  have sm : ∀ x ∈ F_long_run_black h w, smallR x.2 = true := fun x hx => by
    obtain ⟨i, hi⟩ := List.getElem?_of_mem hx
    exact (run_map b1r hi).2
  obtain ⟨b4l, b4s⟩ := B4 h mh w mw
  obtain ⟨b61, b62⟩ := B6 h mh w mw
  have pr : hfac h < 2 ^ 400 ∧ hfac w < 2 ^ 400 ∧ hfac (h + w) < 2 ^ 400 := ⟨hfac_lt (by omega), hfac_lt (by omega), hfac_lt (by omega)⟩
  refine ⟨fun i a b => a = (((F_long_run_black h w).take i).map fun x => x.2).foldl F_law_plus (0, 1) ∧ b = (((F_long_run_black h w).take i).map meanR).foldl F_law_plus (0, 1), ⟨rfl, rfl⟩, fun i x hx a b hI => ?_, fun a b hI => ?_⟩
  · obtain ⟨ea, eb⟩ := hI
    have r1 := run_map b1r hx
    have r2 := run_map b2r hx
    rw [← ea] at r1
    rw [← eb] at r2
    have sx := small_P r1.2
    have kx : Lg ((x.1 : Nat) : Int) 6 := Lg.nat (by have := keyle x (List.mem_of_getElem? hx); omega)
    refine ⟨⟨small_L r1.1, small_L r1.2⟩, cMul_lg sx.1 kx (by omega) (by omega) (by omega), ⟨(sx.1.mul kx).mono (by omega), sx.2.1.mono (by omega), sx.2.2⟩, ⟨small_L r2.1, small_L r2.2⟩, fun a2 e2 b2 e3 => ⟨?_, ?_⟩⟩
    · rw [snoc_run hx, ← ea]; exact e2
    · rw [snoc_run hx, ← eb]; exact e3
  · obtain ⟨ea, eb⟩ := hI
    rw [List.take_length] at ea eb
    have ea := ea.trans b1f
    have eb := eb.trans b2f
    refine ⟨fun _ => ⟨cm, low2⟩, ⟨ea, eb⟩, by omega, by omega, b3, kB, fun best ebe => ?_⟩
    subst ebe
    refine ⟨by omega, b4l, fun top eto => ?_⟩
    have eto : top = topR h w := eto
    subst eto
    have ts := small_P b4s
    refine ⟨by omega, fun x hx => ⟨cMul_lg (small_P (sm x hx)).1 ts.2.1 (by omega) (by omega) (by omega), cMul_lg ts.1 (small_P (sm x hx)).2.1 (by omega) (by omega) (by omega)⟩, B5 h mh w mw, List.length_pos_iff.mpr sne, sne, b61, List.length_pos_iff.mpr sne, by show h ≤ 61; omega, by show w ≤ 61; omega, cMul_nat pr.1 pr.2.1 (by omega) (by omega) (by omega), by show h + w ≤ 61; omega, ⟨?_, (Lg.nat pr.2.2).mono (by omega), by have := hfac_pos (h + w); show (0 : Int) < ((hfac (h + w) : Nat) : Int); omega⟩, b62, fun whole3 e3 => ⟨kT, ?_⟩⟩
    · refine Lg.mono (n := 800) (Lg.nat ?_) (by omega)
      rw [show (800 : Nat) = 400 + 400 by rfl, Nat.pow_add]
      exact Nat.mul_lt_mul'' pr.1 pr.2.1
    subst e3
    have q1 := lrt_eq (C1 h mh w mw)
    have q2 := lrt_eq (C1 w mw h mh)
    obtain ⟨c2r, c2f⟩ := C2 h mh w mw
    rw [q1, q2]
    refine ⟨fun i a => a = (((LTq h w).take i).map fun x => x.2).foldl F_law_plus (0, 1), rfl, fun i x hx a ea => ?_, fun a ea => ?_⟩
    · have ea : a = (((LTq h w).take i).map fun x => x.2).foldl F_law_plus (0, 1) := ea
      have r1 := run_map c2r hx
      rw [← ea] at r1
      refine ⟨⟨small_L r1.1, small_L r1.2⟩, fun a2 e2 => ?_⟩
      show a2 = _
      rw [snoc_run hx, ← ea]; exact e2
    · have ea : a = (((LTq h w).take (LTq h w).length).map fun x => x.2).foldl F_law_plus (0, 1) := ea
      rw [List.take_length] at ea
      exact ⟨fun _ => ⟨kT, kT'⟩, ea.trans c2f, C3 h mh w mw⟩
end W
namespace V
open PySem L2 G W
local instance : _root_.G.Wo := ⟨fun _ => 0⟩
theorem hv : ∀ ns : List Int, ns.length ≤ 63 → ∃ tp', retR (b_law (some (.scr ns) :: some .tape :: List.replicate 13 none) [.scr ns, .int 0, .int 5333, .int 0]) = .ok (.bl true) tp' := fun ns hns => W.snd_law W.ok_law ns hns
end V
set_option maxHeartbeats 0
namespace Hd
open PySem PySem.Spec PyProof.Rows L2
theorem facts {P : Program} {w : World} {K : PySem.W.Frag} {h : Heap} {mg : Str → Option Value} {f : Addr} (X : K.In h) (hG : h.Ns mainGlobals mg) (hfa : mg ("law" : Str) = some (.ref f)) (c : He.SaysD fa fn K) :
    ∃ fd : FuncData, (∀ (s : Shared) (v : Value), BindsTo s fd ⟨[v], []⟩ [("_law_script", v)]) ∧ ∀ base : Heap, K.In base → base.Ns mainGlobals mg → FnOk P w K mg base CX0 67 f fd ["_law_script"] (_root_.G.spLaw K) := by
  obtain ⟨fd0, F0⟩ := c.def_ 0 (d := d_is_int) rfl
  obtain ⟨fd1, F1⟩ := c.def_ 1 (d := d_is_in) rfl
  obtain ⟨fd2, F2⟩ := c.def_ 2 (d := d_need_number) rfl
  obtain ⟨fd3, F3⟩ := c.def_ 3 (d := d_product_to) rfl
  obtain ⟨fd4, F4⟩ := c.def_ 4 (d := d_common) rfl
  obtain ⟨fd5, F5⟩ := c.def_ 5 (d := d_lowered) rfl
  obtain ⟨fd6, F6⟩ := c.def_ 6 (d := d_need_board) rfl
  obtain ⟨fd7, F7⟩ := c.def_ 7 (d := d_long_run_tally) rfl
  obtain ⟨fd8, F8⟩ := c.def_ 8 (d := d_splits) rfl
  obtain ⟨fd9, F9⟩ := c.def_ 9 (d := d_chosen) rfl
  obtain ⟨fd10, F10⟩ := c.def_ 10 (d := d_need_small) rfl
  obtain ⟨fd11, F11⟩ := c.def_ 11 (d := d_black_left) rfl
  obtain ⟨fd12, F12⟩ := c.def_ 12 (d := d_tally_of) rfl
  obtain ⟨fd13, F13⟩ := c.def_ 13 (d := d_black_tally) rfl
  obtain ⟨fd14, F14⟩ := c.def_ 14 (d := d_count_free_black) rfl
  obtain ⟨fd15, F15⟩ := c.def_ 15 (d := d_mean_free_black) rfl
  obtain ⟨fd16, F16⟩ := c.def_ 16 (d := d_run_left) rfl
  obtain ⟨fd17, F17⟩ := c.def_ 17 (d := d_orders_number) rfl
  obtain ⟨fd18, F18⟩ := c.def_ 18 (d := d_long_run_black) rfl
  obtain ⟨fd19, F19⟩ := c.def_ 19 (d := d_likeliest_black) rfl
  obtain ⟨fd20, F20⟩ := c.def_ 20 (d := d_ways_left) rfl
  obtain ⟨fd21, F21⟩ := c.def_ 21 (d := d_free_number_of) rfl
  obtain ⟨fd22, F22⟩ := c.def_ 22 (d := d_need_sides) rfl
  obtain ⟨fd23, F23⟩ := c.def_ 23 (d := d_count_free) rfl
  obtain ⟨fd24, F24⟩ := c.def_ 24 (d := d_law_taken) rfl
  obtain ⟨fd25, F25⟩ := c.def_ 25 (d := d_law_product) rfl
  obtain ⟨fd26, F26⟩ := c.def_ 26 (d := d_law_common) rfl
  obtain ⟨fd27, F27⟩ := c.def_ 27 (d := d_law_lowered) rfl
  obtain ⟨fd28, F28⟩ := c.def_ 28 (d := d_law_plus) rfl
  obtain ⟨fd29, F29⟩ := c.def_ 29 (d := d_law) rfl
  letI : _root_.G.Wo := ⟨fun k => NestedKey.hash w k⟩
  have T : W.Tx w K mg := {
    hw := fun _ => rfl,
    abs := He.free_ok X hG (c.fact 30 (f := .free "abs") rfl),
    bool := He.free_ok X hG (c.fact 31 (f := .free "bool") rfl),
    int := He.free_ok X hG (c.fact 32 (f := .free "int") rfl),
    isinstance := He.free_ok X hG (c.fact 33 (f := .free "isinstance") rfl),
    len := He.free_ok X hG (c.fact 34 (f := .free "len") rfl),
    range := He.free_ok X hG (c.fact 35 (f := .free "range") rfl),
    sorted := He.free_ok X hG (c.fact 36 (f := .free "sorted") rfl),
    sum := He.free_ok X hG (c.fact 37 (f := .free "sum") rfl),
    tuple := He.free_ok X hG (c.fact 38 (f := .free "tuple") rfl),
    MOST_SIDE_boards := He.int_ok X hG (c.fact 39 (f := .int "MOST_SIDE_boards" 30) rfl),
    MOST_SIDE_tallies := He.int_ok X hG (c.fact 40 (f := .int "MOST_SIDE_tallies" 8) rfl),
    f_is_int := ⟨_, _, F0, He.glo_ok X hG (c.fact 0 (f := .glo "is_int") rfl)⟩,
    f_is_in := ⟨_, _, F1, He.glo_ok X hG (c.fact 1 (f := .glo "is_in") rfl)⟩,
    f_need_number := ⟨_, _, F2, He.glo_ok X hG (c.fact 2 (f := .glo "need_number") rfl)⟩,
    f_product_to := ⟨_, _, F3, He.glo_ok X hG (c.fact 3 (f := .glo "product_to") rfl)⟩,
    f_common := ⟨_, _, F4, He.glo_ok X hG (c.fact 4 (f := .glo "common") rfl)⟩,
    f_lowered := ⟨_, _, F5, He.glo_ok X hG (c.fact 5 (f := .glo "lowered") rfl)⟩,
    f_need_board := ⟨_, _, F6, He.glo_ok X hG (c.fact 6 (f := .glo "need_board") rfl)⟩,
    f_long_run_tally := ⟨_, _, F7, He.glo_ok X hG (c.fact 7 (f := .glo "long_run_tally") rfl)⟩,
    f_splits := ⟨_, _, F8, He.glo_ok X hG (c.fact 8 (f := .glo "splits") rfl)⟩,
    f_chosen := ⟨_, _, F9, He.glo_ok X hG (c.fact 9 (f := .glo "chosen") rfl)⟩,
    f_need_small := ⟨_, _, F10, He.glo_ok X hG (c.fact 10 (f := .glo "need_small") rfl)⟩,
    f_black_left := ⟨_, _, F11, He.glo_ok X hG (c.fact 11 (f := .glo "black_left") rfl)⟩,
    f_tally_of := ⟨_, _, F12, He.glo_ok X hG (c.fact 12 (f := .glo "tally_of") rfl)⟩,
    f_black_tally := ⟨_, _, F13, He.glo_ok X hG (c.fact 13 (f := .glo "black_tally") rfl)⟩,
    f_count_free_black := ⟨_, _, F14, He.glo_ok X hG (c.fact 14 (f := .glo "count_free_black") rfl)⟩,
    f_mean_free_black := ⟨_, _, F15, He.glo_ok X hG (c.fact 15 (f := .glo "mean_free_black") rfl)⟩,
    f_run_left := ⟨_, _, F16, He.glo_ok X hG (c.fact 16 (f := .glo "run_left") rfl)⟩,
    f_orders_number := ⟨_, _, F17, He.glo_ok X hG (c.fact 17 (f := .glo "orders_number") rfl)⟩,
    f_long_run_black := ⟨_, _, F18, He.glo_ok X hG (c.fact 18 (f := .glo "long_run_black") rfl)⟩,
    f_likeliest_black := ⟨_, _, F19, He.glo_ok X hG (c.fact 19 (f := .glo "likeliest_black") rfl)⟩,
    f_ways_left := ⟨_, _, F20, He.glo_ok X hG (c.fact 20 (f := .glo "ways_left") rfl)⟩,
    f_free_number_of := ⟨_, _, F21, He.glo_ok X hG (c.fact 21 (f := .glo "free_number_of") rfl)⟩,
    f_need_sides := ⟨_, _, F22, He.glo_ok X hG (c.fact 22 (f := .glo "need_sides") rfl)⟩,
    f_count_free := ⟨_, _, F23, He.glo_ok X hG (c.fact 23 (f := .glo "count_free") rfl)⟩,
    f_law_taken := ⟨_, _, F24, He.glo_ok X hG (c.fact 24 (f := .glo "_law_taken") rfl)⟩,
    f_law_product := ⟨_, _, F25, He.glo_ok X hG (c.fact 25 (f := .glo "_law_product") rfl)⟩,
    f_law_common := ⟨_, _, F26, He.glo_ok X hG (c.fact 26 (f := .glo "_law_common") rfl)⟩,
    f_law_lowered := ⟨_, _, F27, He.glo_ok X hG (c.fact 27 (f := .glo "_law_lowered") rfl)⟩,
    f_law_plus := ⟨_, _, F28, He.glo_ok X hG (c.fact 28 (f := .glo "_law_plus") rfl)⟩ }
  have e := hfa.symm.trans (He.glo_ok X hG (c.fact 29 (f := .glo "law") rfl))
  cases e
  have b := FunD.bindsA (ps := ["_law_script"]) F29 fun _ _ _ _ _ _ us hl => match us, hl with | [_], _ => rfl
  exact ⟨fd29, fun s v => b s [v] rfl, fun base _ _ => _root_.G.fn_law (k := 66) (N := ["_law_high", "_law_wide", "_law_told", "_law_turned", "_law_black", "_law_many", "_law_whole", "_law_mean", "_law_shares", "_law_share", "_law_best", "_law_top", "_law_size"]) F29 W.sc_law (by first | exact Or.inl rfl | exact Or.inr rfl) (by first | exact Or.inl rfl | exact Or.inr rfl) (by decide +kernel) (by decide +kernel) (m := W.b_law) (fun r cdv A outer s H E hr => W.law_body T r cdv A outer s H E hr) _root_.V.hv⟩
end Hd
open PySem PySem.W PySem.Calls PyProof.Rows
theorem PySem.Challenge.cw_linepainters_k33_great_black_numbers_holds : PySem.Challenge.rw_linepainters_k33_great_black_numbers.Holds := by
  w_on; o_law
  refine HandSHeadRun.head_any (r := OpenLaw.row PySem.Challenge.rw_linepainters_k33_great_black_numbers) (q := view (OpenLaw.row PySem.Challenge.rw_linepainters_k33_great_black_numbers).prog [41]) (H := Hd.hk) (ob := Hd.ob) (M := 8000) (loose := Hd.nms) (d := HandSHeadRun.topDef (OpenLaw.row PySem.Challenge.rw_linepainters_k33_great_black_numbers).prog 41) (kwd := []) Hd.ob_eq
    (by kernel_rfl) (fun s => by kernel_rfl) Hd.run (by kernel_rfl) (by kernel_rfl) (by kernel_rfl) (by rfl) (by first | assumption | decide +kernel) (by decide +kernel) ⟨rfl, rfl, rfl, rfl, rfl, by decide +kernel⟩ ?hw ?hc
  case hw => w_witness2
  case hc =>
    refine L2.walk_ofE (l := PySem.Challenge.rw_linepainters_k33_great_black_numbers) (n := 63) (k := 67) (x := "_law_script") (CX := L2.CX0) rfl (by decide) (by kernel_rfl) ⟨rfl, by decide, by decide⟩ ?F (fun _ _ _ _ z => z)
    intro w mg fa h Y hG hmg0
    obtain ⟨K, KX, c⟩ := Y
    have hmg : mg ("law" : PySem.Str) = some (.ref fa) := by
      have e : (HandSHeadRun.topDef (OpenLaw.row PySem.Challenge.rw_linepainters_k33_great_black_numbers).prog 41).name = ("law" : PySem.Str) := by kernel_rfl
      rw [← e]
      exact hmg0
    obtain ⟨fd, hb, hF⟩ := Hd.facts (P := (PySem.Challenge.rw_linepainters_k33_great_black_numbers).prog) (w := w) KX hG hmg c
    exact ⟨K, fd, _root_.G.spLaw K, KX, hb, fun H a ns hl hh hS => ⟨a, ns, rfl, hS, hl, fun _ => rfl⟩, hF⟩
