import PyProof.Rows.All
import Wide.All
import OpenK.AllK
import Wide.FinOn
import KE.KStateDown
import Lean
import HandS.Base
import HandS.Call
import HandS.Ends
import HandS.More
import HandS.Words
import HandS.WordsExc
import HandS.Defaults
import HandS.Head0
import HandS.Head1
import HandS.Head2
import HandS.HeadEnd
import HandS.HeadHook1
import HandS.HeadHook2
import KE.DataEq
import HandS.ForMost
import HandS.Exc
import HandS.Walk
import HandS.TupAny
import HandS.TupMul
import HandS.IsInst
import HandS.Wide
import HandS.StrMore
import HandS.TupLe
import HandS.Style
import HandS.Conv
import KE.GoesEnum
import HandS.SortInts
import HandS.Zip
import PyProof.WalksMore
import HandS.DictComp
import KE.KSortTupG
import HandS.Star
import HandS.Text
import PySem.Challenge.RW_linepainters_k83_great_means
set_option Elab.async false
set_option linter.all false
set_option maxRecDepth 100000
set_option maxHeartbeats 1000000
/-! G0: pure data, its place in the heap, the world's growth. -/
namespace G
open PySem PySem.Spec PyProof.Rows L2

/-- pure data -/
inductive D where
  | non
  | bl (b : Bool)
  | int (i : Int)
  | str (s : Str)
  | tup (xs : List D)
  | lst (xs : List D)
  | dic (kvs : List (D × D))
  | dct (kvs : List (D × D))
  | scr (ns : List Int)
  | tape
  | fn (n : Str)
  | ty (n : String)
  deriving Inhabited

mutual
def D.pd : D → PyData
  | .non => .none
  | .bl b => .bool b
  | .int i => .int i
  | .str s => .str s
  | .tup xs => .tuple (pdAll xs)
  | .lst xs => .list (pdAll xs)
  | .scr ns => .list (ns.map PyData.int)
  | .dic _ => .dict []
  | .dct _ => .dict []
  | .tape => .dict []
  | .fn _ => .dict []
  | .ty _ => .dict []
def pdAll : List D → List PyData
  | [] => []
  | x :: xs => x.pd :: pdAll xs
end
theorem pdAll_map (xs : List D) : pdAll xs = xs.map D.pd := by
  induction xs with
  | nil => rfl
  | cons x xs ih => simp only [pdAll, List.map_cons, ih]

def keyD : Key → D
  | .inl i => .int i
  | .inr x => .str x
def keyT (ks : List Key) : D := .tup (ks.map keyD)

section
variable (K : PySem.W.Frag) (mg : Str → Option Value) (r : Addr)
mutual
/-- the value v stands for the data d, all its objects in Hs -/
inductive RepD (Hs : Hp) : V → D → Prop
  | non : RepD Hs .non .non
  | bl (b : Bool) : RepD Hs (.bl b) (.bl b)
  | int (i : Int) : RepD Hs (.int i) (.int i)
  | str (s : Str) : RepD Hs (.str s) (.str s)
  | tup {p : Addr} {vs : List V} {ds : List D} : Hs p = some (.tup vs) → RepDs Hs vs ds → RepD Hs (.ref p) (.tup ds)
  | lst {p : Addr} {vs : List V} {ds : List D} : Hs p = some (.lst vs) → RepDs Hs vs ds → RepD Hs (.ref p) (.lst ds)
  | dicK {p : Addr} {kvs : List (Key × V)} {ds : List (D × D)} : Hs p = some (.dK kvs) → RepP Hs (kvs.map fun q => (keyD q.1, q.2)) ds → RepD Hs (.ref p) (.dic ds)
  | dicT {p : Addr} {kvs : List (List Key × V)} {ds : List (D × D)} : Hs p = some (.dT kvs) → RepP Hs (kvs.map fun q => (keyT q.1, q.2)) ds → RepD Hs (.ref p) (.dct ds)
  | scr {p : Addr} {ns : List Int} : SqL K Hs p (ns.map V.int) → RepD Hs (.ref p) (.scr ns)
  | tape : RepD Hs (.ref r) .tape
  | fn {f : Addr} {n : Str} : mg n = some (.ref f) → RepD Hs (.ref f) (.fn n)
  | ty (n : String) : RepD Hs (.ty n) (.ty n)
inductive RepDs (Hs : Hp) : List V → List D → Prop
  | nil : RepDs Hs [] []
  | cons {v : V} {vs : List V} {d : D} {ds : List D} : RepD Hs v d → RepDs Hs vs ds → RepDs Hs (v :: vs) (d :: ds)
inductive RepP (Hs : Hp) : List (D × V) → List (D × D) → Prop
  | nil : RepP Hs [] []
  | cons {k : D} {v : V} {vs : List (D × V)} {d : D} {ds : List (D × D)} : RepD Hs v d → RepP Hs vs ds → RepP Hs ((k, v) :: vs) ((k, d) :: ds)
end
end

section
variable {K : PySem.W.Frag} {mg : Str → Option Value} {r : Addr} {Hs Hs' Hs1 Hs2 H H' H1 H2 : Hp}
mutual
theorem RepD.mono (e : Same Hs Hs') : ∀ {v : V} {d : D}, RepD K mg r Hs v d → RepD K mg r Hs' v d
  | _, _, .non => .non
  | _, _, .bl b => .bl b
  | _, _, .int i => .int i
  | _, _, .str s => .str s
  | _, _, .tup h q => .tup (e _ _ h) (RepDs.mono e q)
  | _, _, .lst h q => .lst (e _ _ h) (RepDs.mono e q)
  | _, _, .dicK h q => .dicK (e _ _ h) (RepP.mono e q)
  | _, _, .dicT h q => .dicT (e _ _ h) (RepP.mono e q)
  | _, _, .scr h => .scr (Same.seq e h)
  | _, _, .tape => .tape
  | _, _, .fn h => .fn h
  | _, _, .ty n => .ty n
theorem RepDs.mono (e : Same Hs Hs') : ∀ {vs : List V} {ds : List D}, RepDs K mg r Hs vs ds → RepDs K mg r Hs' vs ds
  | _, _, .nil => .nil
  | _, _, .cons h q => .cons (RepD.mono e h) (RepDs.mono e q)
theorem RepP.mono (e : Same Hs Hs') : ∀ {vs : List (D × V)} {ds : List (D × D)}, RepP K mg r Hs vs ds → RepP K mg r Hs' vs ds
  | _, _, .nil => .nil
  | _, _, .cons h q => .cons (RepD.mono e h) (RepP.mono e q)
end

theorem RepDs.length : ∀ {vs : List V} {ds : List D}, RepDs K mg r Hs vs ds → vs.length = ds.length
  | _, _, .nil => rfl
  | _, _, .cons _ q => by simp only [List.length_cons, RepDs.length q]
theorem RepDs.get : ∀ {vs : List V} {ds : List D} {i : Nat} {v : V}, RepDs K mg r Hs vs ds → vs[i]? = some v → ∃ d, ds[i]? = some d ∧ RepD K mg r Hs v d
  | _, _, _, _, .nil, e => by simp at e
  | _, _, 0, _, .cons h _, e => by simp at e; subst e; exact ⟨_, rfl, h⟩
  | _, _, i + 1, _, .cons _ q, e => by
    obtain ⟨d, h1, h2⟩ := RepDs.get (i := i) q (by simpa using e)
    exact ⟨d, by simpa using h1, h2⟩
theorem RepDs.get' : ∀ {vs : List V} {ds : List D} {i : Nat} {d : D}, RepDs K mg r Hs vs ds → ds[i]? = some d → ∃ v, vs[i]? = some v ∧ RepD K mg r Hs v d
  | _, _, _, _, .nil, e => by simp at e
  | _, _, 0, _, .cons h _, e => by simp at e; subst e; exact ⟨_, rfl, h⟩
  | _, _, i + 1, _, .cons _ q, e => by
    obtain ⟨d, h1, h2⟩ := RepDs.get' (i := i) q (by simpa using e)
    exact ⟨d, by simpa using h1, h2⟩
theorem RepDs.append : ∀ {vs ws : List V} {ds es : List D}, RepDs K mg r Hs vs ds → RepDs K mg r Hs ws es → RepDs K mg r Hs (vs ++ ws) (ds ++ es)
  | _, _, _, _, .nil, q => q
  | _, _, _, _, .cons h p, q => .cons h (RepDs.append p q)
theorem RepDs.drop : ∀ {vs : List V} {ds : List D} (n : Nat), RepDs K mg r Hs vs ds → RepDs K mg r Hs (vs.drop n) (ds.drop n)
  | _, _, 0, q => q
  | _, _, _ + 1, .nil => .nil
  | _, _, n + 1, .cons _ q => RepDs.drop n q
theorem RepDs.take : ∀ {vs : List V} {ds : List D} (n : Nat), RepDs K mg r Hs vs ds → RepDs K mg r Hs (vs.take n) (ds.take n)
  | _, _, 0, _ => .nil
  | _, _, _ + 1, .nil => .nil
  | _, _, n + 1, .cons h q => .cons h (RepDs.take n q)
theorem RepDs.set : ∀ {vs : List V} {ds : List D} {v : V} {d : D} (n : Nat), RepDs K mg r Hs vs ds → RepD K mg r Hs v d → RepDs K mg r Hs (vs.set n v) (ds.set n d)
  | _, _, _, _, _, .nil, _ => .nil
  | _, _, _, _, 0, .cons _ q, h => .cons h q
  | _, _, _, _, n + 1, .cons g q, h => .cons g (RepDs.set n q h)
theorem RepDs.eraseIdx : ∀ {vs : List V} {ds : List D} (n : Nat), RepDs K mg r Hs vs ds → RepDs K mg r Hs (vs.eraseIdx n) (ds.eraseIdx n)
  | _, _, _, .nil => .nil
  | _, _, 0, .cons _ q => q
  | _, _, n + 1, .cons g q => .cons g (RepDs.eraseIdx n q)
theorem RepDs.dropLast : ∀ {vs : List V} {ds : List D}, RepDs K mg r Hs vs ds → RepDs K mg r Hs vs.dropLast ds.dropLast := by
  intro vs ds h
  rw [List.dropLast_eq_take, List.dropLast_eq_take, h.length]
  exact h.take _
theorem RepDs.reverse {vs : List V} {ds : List D} (h : RepDs K mg r Hs vs ds) : RepDs K mg r Hs vs.reverse ds.reverse := by
  induction vs generalizing ds with
  | nil => cases h; exact .nil
  | cons v vs ih =>
    cases h with
    | cons a b => rw [List.reverse_cons, List.reverse_cons]; exact (ih b).append (.cons a .nil)
theorem RepDs.ints : ∀ (ns : List Int), RepDs K mg r Hs (ns.map V.int) (ns.map D.int)
  | [] => .nil
  | n :: ns => .cons (.int n) (RepDs.ints ns)
theorem RepDs.ints_of : ∀ {ns : List Int} {vs : List V}, RepDs K mg r Hs vs (ns.map D.int) → vs = ns.map V.int
  | [], _, .nil => rfl
  | n :: ns, _, .cons h q => by cases h; rw [RepDs.ints_of q]; rfl
theorem RepDs.strs_of : ∀ {ns : List Str} {vs : List V}, RepDs K mg r Hs vs (ns.map D.str) → vs = ns.map V.str
  | [], _, .nil => rfl
  | n :: ns, _, .cons h q => by cases h; rw [RepDs.strs_of q]; rfl
theorem RepDs.bls_of : ∀ {ns : List Bool} {vs : List V}, RepDs K mg r Hs vs (ns.map D.bl) → vs = ns.map V.bl
  | [], _, .nil => rfl
  | n :: ns, _, .cons h q => by cases h; rw [RepDs.bls_of q]; rfl

theorem same_new {H : Hp} {p : Addr} {o : HO} (h : H p = none) : Same H (upd H p o) := fun a u e => by
  rw [upd_ne (ne_of_none e h)]
  exact e
end

/-! ### the world -/
section
variable (K : PySem.W.Frag) (mg : Str → Option Value) (r : Addr)
/-- what stands still, the heap, the tape at r -/
structure Wd (Hs H : Hp) (tp : List D) : Prop where
  sub : Same Hs H
  tn : Hs r = none
  tH : ∃ vs, H r = some (.lst vs) ∧ RepDs K mg r Hs vs tp
structure Grow (Hs H Hs' H' : Hp) : Prop where
  keep : ∀ b o, H b = some o → b ≠ r → H' b = some o
  ex : Same Hs Hs'
  new : ∀ b o, b ≠ r → Hs' b = some o → Hs b = some o ∨ H b = none
end
section
variable {K : PySem.W.Frag} {mg : Str → Option Value} {r : Addr} {Hs Hs' Hs1 Hs2 H H' H1 H2 : Hp} {tp tp' : List D}
theorem Grow.refl (Hs H : Hp) : Grow r Hs H Hs H := ⟨fun _ _ e _ => e, Same.refl _, fun _ _ _ e => .inl e⟩
theorem Grow.trans (a : Grow r Hs H Hs1 H1) (b : Grow r Hs1 H1 Hs2 H2) : Grow r Hs H Hs2 H2 where
  keep := fun c o e n => b.keep c o (a.keep c o e n) n
  ex := a.ex.trans b.ex
  new := fun c o n e => by
    rcases b.new c o n e with q | q
    · exact a.new c o n q
    · refine .inr ?_
      cases z : H c with
      | none => rfl
      | some u => rw [a.keep c u z n] at q; cases q
theorem Wd.ne {p : Addr} {o : HO} (w : Wd K mg r Hs H tp) (h : Hs p = some o) : p ≠ r := fun e => by
  rw [e, w.tn] at h; cases h
theorem Wd.fresh {p : Addr} (w : Wd K mg r Hs H tp) (h : H p = none) : Hs p = none ∧ p ≠ r := by
  refine ⟨w.sub.free h, fun e => ?_⟩
  obtain ⟨vs, q, _⟩ := w.tH
  rw [e, q] at h; cases h
/-- a new object that stands still -/
theorem Wd.alloc {p : Addr} {o : HO} (w : Wd K mg r Hs H tp) (h : H p = none) : Grow r Hs H (upd Hs p o) (upd H p o) ∧ Wd K mg r (upd Hs p o) (upd H p o) tp := by
  obtain ⟨hs, ne⟩ := w.fresh h
  refine ⟨⟨fun b u e _ => same_new h b u e, same_new hs, fun b u n e => ?_⟩, ⟨fun b u e => ?_, ?_, ?_⟩⟩
  · by_cases q : b = p
    · subst q; exact .inr h
    · rw [upd_ne q] at e; exact .inl e
  · by_cases q : b = p
    · subst q; rw [upd_same] at e ⊢; exact e
    · rw [upd_ne q] at e ⊢; exact w.sub b u e
  · rw [upd_ne ne.symm]; exact w.tn
  · obtain ⟨vs, q, z⟩ := w.tH
    exact ⟨vs, by rw [upd_ne ne.symm]; exact q, z.mono (same_new hs)⟩
/-- a new object that does not stand still (yet) -/
theorem Wd.lay {p : Addr} {o : HO} (w : Wd K mg r Hs H tp) (h : H p = none) : Grow r Hs H Hs (upd H p o) ∧ Wd K mg r Hs (upd H p o) tp := by
  obtain ⟨hs, ne⟩ := w.fresh h
  refine ⟨⟨fun b u e _ => same_new h b u e, Same.refl _, fun b u n e => .inl e⟩, ⟨fun b u e => same_new h b u (w.sub b u e), w.tn, ?_⟩⟩
  obtain ⟨vs, q, z⟩ := w.tH
  exact ⟨vs, by rw [upd_ne ne.symm]; exact q, z⟩
/-- an object that is not in Hs is written -/
theorem Wd.write {p : Addr} {o : HO} (w : Wd K mg r Hs H tp) (h : Hs p = none) (ne : p ≠ r) : Wd K mg r Hs (upd H p o) tp := by
  refine ⟨fun b u e => ?_, w.tn, ?_⟩
  · rw [upd_ne (ne_of_none e h)]; exact w.sub b u e
  · obtain ⟨vs, q, z⟩ := w.tH
    exact ⟨vs, by rw [upd_ne ne.symm]; exact q, z⟩
end

/-! ### results -/
inductive RE (α : Type) where
  | ok (a : α) (tp : List D)
  | exn (c : Str) (fs : List (Str × D)) (tp : List D)
  | stuck
def RE.bind {α β : Type} (x : RE α) (k : α → List D → RE β) : RE β := match x with
  | .ok a tp => k a tp
  | .exn c fs tp => .exn c fs tp
  | .stuck => .stuck
@[simp] theorem RE.bind_ok {α β : Type} (a : α) (tp : List D) (k : α → List D → RE β) : (RE.ok a tp).bind k = k a tp := rfl
@[simp] theorem RE.bind_exn {α β : Type} (c : Str) (fs : List (Str × D)) (tp : List D) (k : α → List D → RE β) : (RE.exn c fs tp : RE α).bind k = .exn c fs tp := rfl
@[simp] theorem RE.bind_stuck {α β : Type} (k : α → List D → RE β) : (RE.stuck : RE α).bind k = .stuck := rfl
def RE.of {α : Type} (o : Option α) (tp : List D) : RE α := match o with
  | some a => .ok a tp
  | none => .stuck
@[simp] theorem RE.of_some {α : Type} (a : α) (tp : List D) : RE.of (some a) tp = .ok a tp := rfl
@[simp] theorem RE.of_none {α : Type} (tp : List D) : (RE.of (none : Option α) tp) = .stuck := rfl

section
variable (K : PySem.W.Frag) (mg : Str → Option Value) (r : Addr)
/-- the dict of an exception: its fields -/
def ExD (Hs : Hp) (fs : List (Str × D)) (dx : Option Addr) : Prop :=
  (fs = [] ∧ dx = none) ∨ ∃ a gs, dx = some a ∧ Hs a = some (.xd gs) ∧ ∀ f, match fs.lookup f with
    | some d => ∃ v, gs.lookup f = some v ∧ RepD K mg r Hs v d
    | none => gs.lookup f = none
def Post {β α : Type} (Rp : Hp → Hp → β → α → Prop) (E : XK) (Hs H : Hp) (res : RE α) (Q : β → Hp → Prop) : Prop := match res with
  | .ok d tp' => ∀ v Hs' H', Grow r Hs H Hs' H' → Wd K mg r Hs' H' tp' → Rp Hs' H' v d → Q v H'
  | .exn c fs tp' => ∀ cv dx Hs' H', Grow r Hs H Hs' H' → Wd K mg r Hs' H' tp' → mg c = some cv → ExD K mg r Hs' fs dx → E cv dx H'
  | .stuck => False
end
section
variable {K : PySem.W.Frag} {mg : Str → Option Value} {r : Addr} {Hs Hs' Hs1 Hs2 H H' H1 H2 : Hp} {tp tp' : List D} {α β γ δ : Type} {R1 : Hp → Hp → β → α → Prop} {R2 : Hp → Hp → δ → γ → Prop} {E : XK}
theorem Post.shift {res : RE α} {Q : β → Hp → Prop} (g : Grow r Hs H Hs1 H1) (h : Post K mg r R1 E Hs H res Q) : Post K mg r R1 E Hs1 H1 res Q := by
  cases res with
  | ok d tp' => exact fun v Hs' H' g' w q => h v Hs' H' (g.trans g') w q
  | exn c fs tp' => exact fun cv dx Hs' H' g' w m x => h cv dx Hs' H' (g.trans g') w m x
  | stuck => exact h
theorem Post.imp {res : RE α} {Q Q' : β → Hp → Prop} (h : Post K mg r R1 E Hs H res Q) (k : ∀ v H', Q v H' → Q' v H') : Post K mg r R1 E Hs H res Q' := by
  cases res with
  | ok d tp' => exact fun v Hs' H' g' w q => k _ _ (h v Hs' H' g' w q)
  | exn c fs tp' => exact h
  | stuck => exact h
/-- one thing, then another -/
theorem Post.bind {res : RE α} {k : α → List D → RE γ} {Q : δ → Hp → Prop} {Q1 : β → Hp → Prop} (h : Post K mg r R2 E Hs H (res.bind k) Q)
    (step : ∀ v Hs1 H1 d tp1, res = .ok d tp1 → Grow r Hs H Hs1 H1 → Wd K mg r Hs1 H1 tp1 → R1 Hs1 H1 v d → Post K mg r R2 E Hs1 H1 (k d tp1) Q → Q1 v H1) : Post K mg r R1 E Hs H res Q1 := by
  cases res with
  | ok d tp' => exact fun v Hs' H' g' w q => step v Hs' H' d tp' rfl g' w q (Post.shift g' h)
  | exn c fs tp' => exact h
  | stuck => exact h
theorem Post.ok_of {o : Option α} {Q : β → Hp → Prop} (h : Post K mg r R1 E Hs H (RE.of o tp) Q) : ∃ d, o = some d ∧ ∀ v Hs' H', Grow r Hs H Hs' H' → Wd K mg r Hs' H' tp → R1 Hs' H' v d → Q v H' := by
  cases o with
  | none => exact h.elim
  | some d => exact ⟨d, rfl, h⟩
end
end G

set_option maxHeartbeats 1000000
/-! G1: the names' values, the judgements over data, base rules. -/
namespace G
open PySem PySem.Spec PyProof.Rows L2

abbrev DEnv := List (Option D)
abbrev SE (α : Type) := DEnv → List D → RE α

section
variable (K : PySem.W.Frag) (mg : Str → Option Value) (r : Addr)
/-- the object at p (its own slot's alone) holds d, its items stand still -/
def OwnAt (Hs H : Hp) (p : Addr) : D → Prop
  | .lst ds => ∃ vs, H p = some (.lst vs) ∧ RepDs K mg r Hs vs ds
  | .dic ds => ∃ kvs : List (Key × V), H p = some (.dK kvs) ∧ RepP K mg r Hs (kvs.map fun q => (keyD q.1, q.2)) ds
  | .dct ds => ∃ kvs : List (List Key × V), H p = some (.dT kvs) ∧ RepP K mg r Hs (kvs.map fun q => (keyT q.1, q.2)) ds
  | _ => False
/-- as RepD; the topmost object may be one that changes -/
def RepT (Hs H : Hp) (v : V) (d : D) : Prop := RepD K mg r Hs v d ∨ ∃ p, v = .ref p ∧ p ≠ r ∧ OwnAt K mg r Hs H p d
structure Rel (O : List Nat) (Hs0 H0 Hs H : Hp) (σ : L2.St) (env : DEnv) (tp : List D) : Prop where
  wd : Wd K mg r Hs H tp
  gr : Grow r Hs0 H0 Hs H
  len : σ.length = env.length
  vars : ∀ i d, env[i]? = some (some d) → i ∉ O → ∃ v, σ[i]? = some (some v) ∧ RepD K mg r Hs v d
  own : ∀ i, i ∈ O → ∃ d p, env[i]? = some (some d) ∧ σ[i]? = some (some (.ref p)) ∧ Hs p = none ∧ H0 p = none ∧ p ≠ r ∧ OwnAt K mg r Hs H p d
  dis : ∀ i j p, i ∈ O → j ∈ O → σ[i]? = some (some (.ref p)) → σ[j]? = some (some (.ref p)) → i = j
end
section
variable {K : PySem.W.Frag} {mg : Str → Option Value} {r : Addr} {Hs0 H0 Hs Hs' H H' : Hp} {O : List Nat} {σ : L2.St} {env : DEnv} {tp tp' : List D} {p : Addr} {d : D} {v : V}
theorem RepP.mono' (e : Same Hs Hs') {a : List (D × V)} {b : List (D × D)} (h : RepP K mg r Hs a b) : RepP K mg r Hs' a b := RepP.mono e h
theorem OwnAt.grow (h : OwnAt K mg r Hs H p d) (e : Same Hs Hs') (k : ∀ o, H p = some o → H' p = some o) : OwnAt K mg r Hs' H' p d := by
  cases d with
  | lst ds => obtain ⟨vs, a, b⟩ := h; exact ⟨vs, k _ a, b.mono e⟩
  | dic ds => obtain ⟨kvs, a, b⟩ := h; exact ⟨kvs, k _ a, RepP.mono e b⟩
  | dct ds => obtain ⟨kvs, a, b⟩ := h; exact ⟨kvs, k _ a, RepP.mono e b⟩
  | _ => exact h.elim
theorem OwnAt.there (h : OwnAt K mg r Hs H p d) : ∃ o, H p = some o := by
  cases d with
  | lst ds => obtain ⟨vs, a, b⟩ := h; exact ⟨_, a⟩
  | dic ds => obtain ⟨kvs, a, b⟩ := h; exact ⟨_, a⟩
  | dct ds => obtain ⟨kvs, a, b⟩ := h; exact ⟨_, a⟩
  | _ => exact h.elim
/-- an owned object comes to stand still -/
theorem OwnAt.rep (h : OwnAt K mg r Hs H p d) (e : Same Hs Hs') (k : ∀ o, H p = some o → Hs' p = some o) : RepD K mg r Hs' (.ref p) d := by
  cases d with
  | lst ds => obtain ⟨vs, a, b⟩ := h; exact .lst (k _ a) (b.mono e)
  | dic ds => obtain ⟨kvs, a, b⟩ := h; exact .dicK (k _ a) (RepP.mono e b)
  | dct ds => obtain ⟨kvs, a, b⟩ := h; exact .dicT (k _ a) (RepP.mono e b)
  | _ => exact h.elim
theorem RepT.grow (h : RepT K mg r Hs H v d) (g : Grow r Hs H Hs' H') : RepT K mg r Hs' H' v d := by
  rcases h with h | ⟨p, e, n, h⟩
  · exact .inl (h.mono g.ex)
  · exact .inr ⟨p, e, n, h.grow g.ex fun o q => g.keep p o q n⟩
theorem RepD.top (h : RepD K mg r Hs v d) : RepT K mg r Hs H v d := .inl h
theorem Rel.grow (R : Rel K mg r O Hs0 H0 Hs H σ env tp) (g : Grow r Hs H Hs' H') (w : Wd K mg r Hs' H' tp') : Rel K mg r O Hs0 H0 Hs' H' σ env tp' where
  wd := w
  gr := R.gr.trans g
  len := R.len
  vars := fun i d e n => by
    obtain ⟨v, a, b⟩ := R.vars i d e n
    exact ⟨v, a, b.mono g.ex⟩
  own := fun i hi => by
    obtain ⟨d, p, a, b, c, c0, n, o⟩ := R.own i hi
    refine ⟨d, p, a, b, ?_, c0, n, o.grow g.ex fun u q => g.keep p u q n⟩
    cases z : Hs' p with
    | none => rfl
    | some u =>
      rcases g.new p u n z with q | q
      · rw [c] at q; cases q
      · obtain ⟨u', q'⟩ := o.there
        rw [q] at q'; cases q'
  dis := R.dis
end

/-! ### judgements -/
section
variable (K : PySem.W.Frag) (mg : Str → Option Value) (r : Addr) (X : Cx) (O : List Nat) (E : XK)
abbrev PostE : Hp → Hp → RE D → VK → Prop := Post K mg r (fun Hs _ v d => RepD K mg r Hs v d) E
abbrev PostO : Hp → Hp → RE D → VK → Prop := Post K mg r (fun Hs H v d => RepT K mg r Hs H v d) E
abbrev PostB : Hp → Hp → RE Bool → (Bool → Hp → Prop) → Prop := Post K mg r (fun _ _ (a b : Bool) => a = b) E
abbrev PostA : Hp → Hp → RE (List D) → (List V → Hp → Prop) → Prop := Post K mg r (fun Hs _ v d => RepDs K mg r Hs v d) E
abbrev PostAO : Hp → Hp → RE (List D) → (List V → Hp → Prop) → Prop := Post K mg r (fun Hs H v d => Paired (RepT K mg r Hs H) v d) E
/-- the expression e gives what m says -/
structure GE (e : Expr) (t : TE) (m : SE D) : Prop where
  pe : PE X e t
  snd : ∀ Hs0 H0 Hs H σ env tp Q, Rel K mg r O Hs0 H0 Hs H σ env tp → PostE K mg r E Hs H (m env tp) Q → t σ H Q
/-- as GE, the value may be a slot's own object -/
structure GO (e : Expr) (t : TE) (m : SE D) : Prop where
  pe : PE X e t
  snd : ∀ Hs0 H0 Hs H σ env tp Q, Rel K mg r O Hs0 H0 Hs H σ env tp → PostO K mg r E Hs H (m env tp) Q → t σ H Q
structure GT (e : Expr) (t : TT) (m : SE Bool) : Prop where
  pe : PT X e t
  snd : ∀ Hs0 H0 Hs H σ env tp Q, Rel K mg r O Hs0 H0 Hs H σ env tp → PostB K mg r E Hs H (m env tp) Q → t σ H Q
structure GW (e : Expr) (t : TT) (m : SE Bool) : Prop where
  pe : PW X e t
  snd : ∀ Hs0 H0 Hs H σ env tp Q, Rel K mg r O Hs0 H0 Hs H σ env tp → PostB K mg r E Hs H (m env tp) Q → t σ H Q
structure GA (es : List Expr) (t : TA) (m : SE (List D)) : Prop where
  pe : PA X es t
  snd : ∀ Hs0 H0 Hs H σ env tp Q, Rel K mg r O Hs0 H0 Hs H σ env tp → PostA K mg r E Hs H (m env tp) Q → t σ H Q
structure GAO (es : List Expr) (t : TA) (m : SE (List D)) : Prop where
  pe : PA X es t
  snd : ∀ Hs0 H0 Hs H σ env tp Q, Rel K mg r O Hs0 H0 Hs H σ env tp → PostAO K mg r E Hs H (m env tp) Q → t σ H Q
end

section
variable {K : PySem.W.Frag} {mg : Str → Option Value} {r : Addr} {X : Cx} {O : List Nat} {E : XK} {e a b c : Expr} {es : List Expr} {pos : Pos} {t ta tb tc : TE} {tt tu : TT} {ts : TA}

theorem GE.go {m : SE D} (h : GE K mg r X O E e t m) : GO K mg r X O E e t m := by
  obtain ⟨ht, hs⟩ := h
  refine ⟨ht, fun Hs0 H0 Hs H σ env tp Q R P => hs _ _ _ _ _ _ _ _ R ?_⟩
  unfold PostO at P
  cases q : m env tp with
  | ok d tp' =>
    rw [q] at P
    exact fun v Hs' H' g w x => P v Hs' H' g w (.inl x)
  | exn c fs tp' => rw [q] at P; exact P
  | stuck => rw [q] at P; exact P

/-! names and constants -/
def vE (i : Nat) : SE D := fun env tp => match env[i]? with
  | some (some d) => .ok d tp
  | _ => .stuck
def cE (d : D) : SE D := fun _ tp => .ok d tp
theorem ge_var (i : Nat) {x : Str} (hO : i ∉ O := by decide) (hN : X.N[i]? = some x := by rfl) (hv : Vis X.env.scope x := by first | exact Or.inl rfl | exact Or.inr (Or.inl rfl) | exact Or.inr (Or.inr rfl)) (hd : (x == ("__debug__" : Str)) = false := by decide)
    (hcd : (x == ("__classdict__" : Str)) = false := by decide) : GE K mg r X O E (.Name x pos) (tVar i) (vE i) := by
  refine ⟨pe_var hN hv hd hcd, fun Hs0 H0 Hs H σ env tp Q R P => ?_⟩
  unfold vE at P
  split at P
  · rename_i d q
    obtain ⟨v, h1, h2⟩ := R.vars i d q hO
    exact ⟨v, h1, P v Hs H (Grow.refl _ _) R.wd h2⟩
  · exact P.elim
theorem go_own (i : Nat) {x : Str} (hO : i ∈ O := by decide) (hN : X.N[i]? = some x := by rfl) (hv : Vis X.env.scope x := by first | exact Or.inl rfl | exact Or.inr (Or.inl rfl) | exact Or.inr (Or.inr rfl)) (hd : (x == ("__debug__" : Str)) = false := by decide)
    (hcd : (x == ("__classdict__" : Str)) = false := by decide) : GO K mg r X O E (.Name x pos) (tVar i) (vE i) := by
  refine ⟨pe_var hN hv hd hcd, fun Hs0 H0 Hs H σ env tp Q R P => ?_⟩
  obtain ⟨d, p, h1, h2, h3, h4, h5, h6⟩ := R.own i hO
  unfold vE at P
  rw [h1] at P
  exact ⟨_, h2, P _ Hs H (Grow.refl _ _) R.wd (.inr ⟨p, rfl, h5, h6⟩)⟩
theorem ge_c {e : Expr} {v : V} {d : D} (h : PE X e (tC v)) (hr : ∀ Hs, RepD K mg r Hs v d) : GE K mg r X O E e (tC v) (cE d) :=
  ⟨h, fun Hs0 H0 Hs H σ env tp Q R P => P v Hs H (Grow.refl _ _) R.wd (hr Hs)⟩
theorem ge_int {i j pos} : GE K mg r X O E (.Constant (.int i) j pos) (tC (.int i)) (cE (.int i)) := ge_c pe_int fun _ => .int i
theorem ge_bl {i j pos} : GE K mg r X O E (.Constant (.bool i) j pos) (tC (.bl i)) (cE (.bl i)) := ge_c pe_bl fun _ => .bl i
theorem ge_non {j pos} : GE K mg r X O E (.Constant .none j pos) (tC .non) (cE .non) := ge_c pe_non fun _ => .non
theorem ge_str {i j pos} : GE K mg r X O E (.Constant (.str i) j pos) (tC (.str i)) (cE (.str i)) := ge_c pe_str fun _ => .str i
theorem ge_gint {x : Str} {i : Int} (hm : ∃ t, X.mg x = some (.int i t)) (hg : Gl X x := by rfl) (hd : (x == ("__debug__" : Str)) = false := by decide) : GE K mg r X O E (.Name x pos) (tC (.int i)) (cE (.int i)) := by
  obtain ⟨t, hm⟩ := hm
  exact ge_c (v := .int i) (pe_glob hg hm ⟨t, rfl⟩ hd) fun _ => .int i
theorem ge_gstr {x : Str} {i : Str} (hm : ∃ t, X.mg x = some (.str i t)) (hg : Gl X x := by rfl) (hd : (x == ("__debug__" : Str)) = false := by decide) : GE K mg r X O E (.Name x pos) (tC (.str i)) (cE (.str i)) := by
  obtain ⟨t, hm⟩ := hm
  exact ge_c (v := .str i) (pe_glob hg hm ⟨t, rfl⟩ hd) fun _ => .str i
theorem ge_gfn {x : Str} {f : Addr} (hm : X.mg x = some (.ref f)) (hmg : X.mg = mg := by rfl) (hg : Gl X x := by rfl) (hd : (x == ("__debug__" : Str)) = false := by decide) : GE K mg r X O E (.Name x pos) (tC (.ref f)) (cE (.fn x)) :=
  ge_c (v := .ref f) (pe_glob hg hm rfl hd) fun _ => .fn (hmg ▸ hm)

/-! argument lists -/
def nilA : SE (List D) := fun _ tp => .ok [] tp
def consA (m : SE D) (ms : SE (List D)) : SE (List D) := fun env tp => (m env tp).bind fun d tp1 => (ms env tp1).bind fun ds tp2 => .ok (d :: ds) tp2
theorem ga_nil : GA K mg r X O E [] tNil nilA := ⟨pa_nil, fun Hs0 H0 Hs H σ env tp Q R P => P [] Hs H (Grow.refl _ _) R.wd .nil⟩
theorem gao_nil : GAO K mg r X O E [] tNil nilA := ⟨pa_nil, fun Hs0 H0 Hs H σ env tp Q R P => P [] Hs H (Grow.refl _ _) R.wd .nil⟩
theorem ga_cons {m : SE D} {ms : SE (List D)} (h : GE K mg r X O E e t m) (hs : GA K mg r X O E es ts ms) (hst : starEach (e :: es) X.env = (false, eval e X.env) :: starEach es X.env := by rfl) : GA K mg r X O E (e :: es) (tCons t ts) (consA m ms) := by
  obtain ⟨ht, h1⟩ := h
  obtain ⟨hts, h2⟩ := hs
  refine ⟨pa_cons ht hts hst, fun Hs0 H0 Hs H σ env tp Q R P => ?_⟩
  refine h1 _ _ _ _ _ _ _ _ R (Post.bind P fun v Hs1 H1 d tp1 _ g w rv P1 => ?_)
  refine h2 _ _ _ _ _ _ _ _ (R.grow g w) (Post.bind P1 fun vs Hs2 H2 ds tp2 _ g2 w2 rs P2 => ?_)
  exact P2 _ Hs2 H2 (Grow.refl _ _) w2 (.cons (rv.mono g2.ex) rs)
theorem paired_grow {Hs H Hs' H' : Hp} (g : Grow r Hs H Hs' H') {vs : List V} {ds : List D} (h : Paired (RepT K mg r Hs H) vs ds) : Paired (RepT K mg r Hs' H') vs ds := Paired.mapP h fun _ _ q => q.grow g
theorem gao_cons {m : SE D} {ms : SE (List D)} (h : GO K mg r X O E e t m) (hs : GAO K mg r X O E es ts ms) (hst : starEach (e :: es) X.env = (false, eval e X.env) :: starEach es X.env := by rfl) : GAO K mg r X O E (e :: es) (tCons t ts) (consA m ms) := by
  obtain ⟨ht, h1⟩ := h
  obtain ⟨hts, h2⟩ := hs
  refine ⟨pa_cons ht hts hst, fun Hs0 H0 Hs H σ env tp Q R P => ?_⟩
  refine h1 _ _ _ _ _ _ _ _ R (Post.bind P fun v Hs1 H1 d tp1 _ g w rv P1 => ?_)
  refine h2 _ _ _ _ _ _ _ _ (R.grow g w) (Post.bind P1 fun vs Hs2 H2 ds tp2 _ g2 w2 rs P2 => ?_)
  exact P2 _ Hs2 H2 (Grow.refl _ _) w2 (.cons (rv.grow g2) rs)

/-! a fresh object that may still change -/
def Fresh (K : PySem.W.Frag) (mg : Str → Option Value) (r : Addr) (Hb : Hp) (Hs H : Hp) (v : V) (d : D) : Prop := ∃ p, v = .ref p ∧ Hb p = none ∧ Hs p = none ∧ p ≠ r ∧ OwnAt K mg r Hs H p d
structure GF (K : PySem.W.Frag) (mg : Str → Option Value) (r : Addr) (X : Cx) (O : List Nat) (E : XK) (e : Expr) (t : TE) (m : SE D) : Prop where
  pe : PE X e t
  snd : ∀ Hs0 H0 Hs H σ env tp Q, Rel K mg r O Hs0 H0 Hs H σ env tp → Post K mg r (Fresh K mg r H) E Hs H (m env tp) Q → t σ H Q
/-- it comes to stand still -/
theorem freeze_fresh {Hb Hs H : Hp} {tp : List D} {v : V} {d : D} (w : Wd K mg r Hs H tp) (h : Fresh K mg r Hb Hs H v d) : ∃ Hs', Same Hs Hs' ∧ Wd K mg r Hs' H tp ∧ RepD K mg r Hs' v d ∧ (∀ b o, Hs' b = some o → Hs b = some o ∨ Hb b = none) := by
  obtain ⟨p, rfl, hb, hs, ne, oa⟩ := h
  obtain ⟨o, ho⟩ := oa.there
  have e : Same Hs (upd Hs p o) := same_new hs
  refine ⟨upd Hs p o, e, ⟨fun b u q => ?_, by rw [upd_ne ne.symm]; exact w.tn, ?_⟩, oa.rep e (fun u q => ?_), fun b u q => ?_⟩
  · by_cases z : b = p
    · subst z; rw [upd_same] at q; rw [← q]; exact ho
    · rw [upd_ne z] at q; exact w.sub b u q
  · obtain ⟨vs, a, b⟩ := w.tH
    exact ⟨vs, a, b.mono e⟩
  · rw [ho] at q; cases q; exact upd_same
  · by_cases z : b = p
    · subst z; exact .inr hb
    · rw [upd_ne z] at q; exact .inl q
theorem GF.ge {m : SE D} (h : GF K mg r X O E e t m) : GE K mg r X O E e t m := by
  obtain ⟨ht, hs⟩ := h
  refine ⟨ht, fun Hs0 H0 Hs H σ env tp Q R P => hs _ _ _ _ _ _ _ _ R ?_⟩
  unfold PostE at P
  cases q : m env tp with
  | ok d tp' =>
    rw [q] at P
    intro v Hs' H' g w x
    obtain ⟨Hs2, e, w2, rv, nw⟩ := freeze_fresh w x
    refine P v Hs2 H' ⟨g.keep, g.ex.trans e, fun b o n z => ?_⟩ w2 rv
    rcases nw b o z with z | z
    · exact g.new b o n z
    · exact .inr z
  | exn c fs tp' => rw [q] at P; exact P
  | stuck => rw [q] at P; exact P

/-! displays -/
def tupE (ms : SE (List D)) : SE D := fun env tp => (ms env tp).bind fun ds tp1 => if ds.length ≤ sizeLine then .ok (.tup ds) tp1 else .stuck
def lstE (ms : SE (List D)) : SE D := fun env tp => (ms env tp).bind fun ds tp1 => if ds.length ≤ sizeLine then .ok (.lst ds) tp1 else .stuck
theorem ge_tup {ms : SE (List D)} {x1} (hs : GA K mg r X O E es ts ms) : GE K mg r X O E (.Tuple es x1 pos) (tTup ts) (tupE ms) := by
  obtain ⟨hts, h2⟩ := hs
  refine ⟨pe_tup hts, fun Hs0 H0 Hs H σ env tp Q R P => ?_⟩
  refine h2 _ _ _ _ _ _ _ _ R (Post.bind P fun vs Hs1 H1 ds tp1 _ g w rs P1 => ?_)
  by_cases q : ds.length ≤ sizeLine
  · rw [if_pos q] at P1
    refine ⟨by rw [rs.length]; exact q, fun p hp => ?_⟩
    obtain ⟨g2, w2⟩ := w.alloc (o := .tup vs) hp
    exact P1 _ _ _ g2 w2 (.tup upd_same (rs.mono g2.ex))
  · rw [if_neg q] at P1; exact P1.elim
/-- what a new object at p gives to a wish of a fresh one -/
theorem fresh_new {Hs H Hs1 H1 : Hp} {p : Addr} {o : HO} {tp : List D} {d : D} (g : Grow r Hs H Hs1 H1) (w : Wd K mg r Hs1 H1 tp) (hp : H1 p = none) (ho : OwnAt K mg r Hs1 (upd H1 p o) p d) :
    Grow r Hs H Hs1 (upd H1 p o) ∧ Wd K mg r Hs1 (upd H1 p o) tp ∧ Fresh K mg r H Hs1 (upd H1 p o) (.ref p) d := by
  obtain ⟨g2, w2⟩ := w.lay (o := o) hp
  obtain ⟨f1, f2⟩ := w.fresh hp
  refine ⟨g.trans g2, w2, p, rfl, ?_, f1, f2, ho⟩
  cases z : H p with
  | none => rfl
  | some u => rw [g.keep p u z f2] at hp; cases hp
theorem gf_lst {ms : SE (List D)} (hs : GA K mg r X O E es ts ms) : GF K mg r X O E (.List es pos) (tLst ts) (lstE ms) := by
  obtain ⟨hts, h2⟩ := hs
  refine ⟨pe_lst hts, fun Hs0 H0 Hs H σ env tp Q R P => ?_⟩
  unfold lstE at P
  refine h2 _ _ _ _ _ _ _ _ R ?_
  cases q : ms env tp with
  | ok ds tp1 =>
    rw [q] at P
    intro vs Hs1 H1 g w rs
    by_cases q : ds.length ≤ sizeLine
    · simp only [RE.bind_ok, if_pos q] at P
      refine ⟨by rw [rs.length]; exact q, fun p hp => ?_⟩
      obtain ⟨a, b, c⟩ := fresh_new (o := .lst vs) (d := .lst ds) g w hp ⟨vs, upd_same, rs⟩
      exact P _ _ _ a b c
    · simp only [RE.bind_ok, if_neg q] at P; exact P.elim
  | exn c fs tp1 => rw [q] at P; exact P
  | stuck => rw [q] at P; exact P
theorem ge_lst {ms : SE (List D)} (hs : GA K mg r X O E es ts ms) : GE K mg r X O E (.List es pos) (tLst ts) (lstE ms) := (gf_lst hs).ge

/-! operators, by what they do to data -/
def OpS (K : PySem.W.Frag) (mg : Str → Option Value) (r : Addr) (R : R2) (f : D → D → Option D) : Prop := ∀ Hs H tp x y d e z Q, Wd K mg r Hs H tp → RepT K mg r Hs H x d → RepT K mg r Hs H y e → f d e = some z →
  (∀ v Hs' H', Grow r Hs H Hs' H' → Wd K mg r Hs' H' tp → RepD K mg r Hs' v z → Q v H') → R x y H Q
def binE (f : D → D → Option D) (ma mb : SE D) : SE D := fun env tp => (ma env tp).bind fun d tp1 => (mb env tp1).bind fun e tp2 => RE.of (f d e) tp2
theorem bin_sound {R : R2} {f : D → D → Option D} {ma mb : SE D} {ta tb : TE} (hf : OpS K mg r R f) (h1 : ∀ Hs0 H0 Hs H σ env tp Q, Rel K mg r O Hs0 H0 Hs H σ env tp → PostO K mg r E Hs H (ma env tp) Q → ta σ H Q)
    (h2 : ∀ Hs0 H0 Hs H σ env tp Q, Rel K mg r O Hs0 H0 Hs H σ env tp → PostO K mg r E Hs H (mb env tp) Q → tb σ H Q) :
    ∀ Hs0 H0 Hs H σ env tp Q, Rel K mg r O Hs0 H0 Hs H σ env tp → PostE K mg r E Hs H (binE f ma mb env tp) Q → tOp R ta tb σ H Q := by
  intro Hs0 H0 Hs H σ env tp Q Rl P
  refine h1 _ _ _ _ _ _ _ _ Rl (Post.bind P fun v Hs1 H1 d tp1 _ g w rv P1 => ?_)
  refine h2 _ _ _ _ _ _ _ _ (Rl.grow g w) (Post.bind P1 fun u Hs2 H2 e tp2 _ g2 w2 ru P2 => ?_)
  obtain ⟨z, hz, k⟩ := Post.ok_of P2
  exact hf _ _ _ _ _ _ _ _ _ w2 (rv.grow g2) ru hz k
theorem ge_op {op : Operator} {R : R2} {f : D → D → Option D} {ma mb : SE D} (ho : OpR X (binaryOp op) R) (hf : OpS K mg r R f) (ha : GO K mg r X O E a ta ma) (hb : GO K mg r X O E b tb mb) : GE K mg r X O E (.BinOp a op b pos) (tOp R ta tb) (binE f ma mb) :=
  ⟨pe_op ho ha.pe hb.pe, bin_sound hf ha.snd hb.snd⟩
theorem ge_cmp {op : CmpOp} {R : R2} {f : D → D → Option D} {ma mb : SE D} (ho : OpR X (compareOp op) R) (hf : OpS K mg r R f) (ha : GO K mg r X O E a ta ma) (hb : GO K mg r X O E b tb mb) (hm : behindInMarks op b = false) : GE K mg r X O E (.Compare a [op] [b] pos) (tOp R ta tb) (binE f ma mb) :=
  ⟨pe_cmpR ho ha.pe hb.pe hm, bin_sound hf ha.snd hb.snd⟩
/-- two rules for one operator: f is told by the one or the other -/
theorem OpS.or {R R' : R2} {f f1 f2 : D → D → Option D} (h : OpS K mg r R f1) (h' : OpS K mg r R' f2) (hf : ∀ d e z, f d e = some z → f1 d e = some z ∨ f2 d e = some z) : OpS K mg r (fun x y H Q => R x y H Q ∨ R' x y H Q) f := by
  intro Hs H tp x y d e z Q w rx ry hz k
  rcases hf d e z hz with q | q
  · exact .inl (h Hs H tp x y d e z Q w rx ry q k)
  · exact .inr (h' Hs H tp x y d e z Q w rx ry q k)
/-! a chain of two comparisons -/
def chainE (f g : D → D → Option D) (ma mb mc : SE D) : SE D := fun env tp => (ma env tp).bind fun d tp1 => (mb env tp1).bind fun e tp2 => match f d e with
  | some (.bl true) => (mc env tp2).bind fun c tp3 => RE.of (g e c) tp3
  | some (.bl false) => .ok (.bl false) tp2
  | _ => .stuck

theorem chain_sound {R R' : R2} {f g : D → D → Option D} {ma mb mc : SE D} (hf : OpS K mg r R f) (hg : OpS K mg r R' g) (ha : GO K mg r X O E a ta ma) (hb : GO K mg r X O E b tb mb) (hc : GO K mg r X O E c tc mc) :
    ∀ Hs0 H0 Hs H σ env tp Q, Rel K mg r O Hs0 H0 Hs H σ env tp → PostE K mg r E Hs H (chainE f g ma mb mc env tp) Q → tChain R R' ta tb tc σ H Q := by
  intro Hs0 H0 Hs H σ env tp Q Rl P
  refine ha.snd _ _ _ _ _ _ _ _ Rl (Post.bind P fun v Hs1 H1 d tp1 _ g1 w rv P1 => ?_)
  refine hb.snd _ _ _ _ _ _ _ _ (Rl.grow g1 w) (Post.bind P1 fun u Hs2 H2 e tp2 _ g2 w2 ru P2 => ?_)
  cases q : f d e with
  | none => rw [q] at P2; exact P2.elim
  | some z =>
    rw [q] at P2
    refine hf _ _ _ _ _ _ _ _ _ w2 (rv.grow g2) ru q fun y Hs3 H3 g3 w3 ry => ?_
    have P3 := Post.shift g3 P2
    cases z with
    | bl k =>
      cases ry
      refine ⟨k, rfl, ?_⟩
      cases k with
      | false => exact iteF (P3 _ Hs3 H3 (Grow.refl _ _) w3 (.bl _))
      | true =>
        refine iteT (hc.snd _ _ _ _ _ _ _ _ (Rl.grow ((g1.trans g2).trans g3) w3) (Post.bind P3 fun x Hs4 H4 c tp4 _ g4 w4 rx P4 => ?_))
        obtain ⟨z, hz, k⟩ := Post.ok_of P4
        exact hg _ _ _ _ _ _ _ _ _ w4 ((ru.grow g3).grow g4) rx hz k
    | _ => exact P3.elim
theorem ge_chain {op op' : CmpOp} {R R' : R2} {f g : D → D → Option D} {ma mb mc : SE D} (ho : OpR X (compareOp op) R) (ho' : OpR X (compareOp op') R') (hf : OpS K mg r R f) (hg : OpS K mg r R' g) (ha : GO K mg r X O E a ta ma) (hb : GO K mg r X O E b tb mb) (hc : GO K mg r X O E c tc mc)
    (hm : lastMarks [op, op'] [b, c] = false := by with_unfolding_all rfl) : GE K mg r X O E (.Compare a [op, op'] [b, c] pos) (tChain R R' ta tb tc) (chainE f g ma mb mc) :=
  ⟨pe_chain ho ho' ha.pe hb.pe hc.pe hm, chain_sound hf hg ha hb hc⟩
/-! a subscript -/
theorem ge_ix {R : R2} {f : D → D → Option D} {ma mb : SE D} (ho : IxR X R) (hf : OpS K mg r R f) (ha : GO K mg r X O E a ta ma) (hb : GO K mg r X O E b tb mb) (hs : PlainIx b := by exact fun _ _ => rfl) : GE K mg r X O E (.Subscript a b pos) (tOp R ta tb) (binE f ma mb) :=
  ⟨pe_ix ho ha.pe hb.pe hs, bin_sound hf ha.snd hb.snd⟩

/-! one-place -/
def UnS (K : PySem.W.Frag) (mg : Str → Option Value) (r : Addr) (R : V → Hp → VK → Prop) (f : D → Option D) : Prop := ∀ Hs H tp x d z Q, Wd K mg r Hs H tp → RepT K mg r Hs H x d → f d = some z →
  (∀ v Hs' H', Grow r Hs H Hs' H' → Wd K mg r Hs' H' tp → RepD K mg r Hs' v z → Q v H') → R x H Q
def unE (f : D → Option D) (ma : SE D) : SE D := fun env tp => (ma env tp).bind fun d tp1 => RE.of (f d) tp1
theorem ge_un {op : UnaryOp} {R : V → Hp → VK → Prop} {f : D → Option D} {ma : SE D} (ho : UnR X (unaryOp op) R) (hf : UnS K mg r R f) (ha : GO K mg r X O E a ta ma) : GE K mg r X O E (.UnaryOp op a pos) (tUn R ta) (unE f ma) := by
  refine ⟨pe_un ho ha.pe, fun Hs0 H0 Hs H σ env tp Q Rl P => ?_⟩
  refine ha.snd _ _ _ _ _ _ _ _ Rl (Post.bind P fun v Hs1 H1 d tp1 _ g w rv P1 => ?_)
  obtain ⟨z, hz, k⟩ := Post.ok_of P1
  exact hf _ _ _ _ _ _ _ w rv hz k

/-! calls of built-ins -/
def CallS (K : PySem.W.Frag) (mg : Str → Option Value) (r : Addr) (R : List V → Hp → VK → Prop) (f : List D → Option D) : Prop := ∀ Hs H tp xs ds z Q, Wd K mg r Hs H tp → Paired (RepT K mg r Hs H) xs ds → f ds = some z →
  (∀ v Hs' H', Grow r Hs H Hs' H' → Wd K mg r Hs' H' tp → RepD K mg r Hs' v z → Q v H') → R xs H Q
def callB (f : List D → Option D) (ms : SE (List D)) : SE D := fun env tp => (ms env tp).bind fun ds tp1 => RE.of (f ds) tp1
theorem callB_sound {R : List V → Hp → VK → Prop} {f : List D → Option D} {ms : SE (List D)} (hf : CallS K mg r R f) (h2 : ∀ Hs0 H0 Hs H σ env tp Q, Rel K mg r O Hs0 H0 Hs H σ env tp → PostAO K mg r E Hs H (ms env tp) Q → ts σ H Q) :
    ∀ Hs0 H0 Hs H σ env tp Q, Rel K mg r O Hs0 H0 Hs H σ env tp → PostE K mg r E Hs H (callB f ms env tp) Q → tCB R ts σ H Q := by
  intro Hs0 H0 Hs H σ env tp Q Rl P
  refine h2 _ _ _ _ _ _ _ _ Rl (Post.bind P fun v Hs1 H1 d tp1 _ g w rv P1 => ?_)
  obtain ⟨z, hz, k⟩ := Post.ok_of P1
  exact hf _ _ _ _ _ _ _ w rv hz k
theorem ge_callB {x : Str} {id : String} {p : Pos} {R : List V → Hp → VK → Prop} {f : List D → Option D} {ms : SE (List D)} (hc : CallR X (.builtin id) R) (hf : CallS K mg r R f) (hm : X.mg x = none) (ha : GAO K mg r X O E (e :: es) ts ms) (hg : Gl X x := by rfl)
    (hv : bootBuiltins x = some (.builtin id) := by decide +kernel) (hn : x ≠ "__name__" := by decide) (hdb : (x == ("__debug__" : Str)) = false := by decide)
    (he : starEach (e :: es) X.env = (false, eval e X.env) :: starEach es X.env := by rfl) (hpl : (backTo pos (starEach es X.env)).any (·.1) = false := by rfl) : GE K mg r X O E (.Call (.Name x p) (e :: es) [] pos) (tCB R ts) (callB f ms) :=
  ⟨pe_callB hc hg hm hv ha.pe hn hdb he hpl, callB_sound hf ha.snd⟩
theorem ge_callTy {x : Str} {T : String} {p : Pos} {R : List V → Hp → VK → Prop} {f : List D → Option D} {ms : SE (List D)} (hc : CallR X (.type T) R) (hf : CallS K mg r R f) (hm : X.mg x = none) (ha : GAO K mg r X O E (e :: es) ts ms) (hg : Gl X x := by rfl)
    (hv : bootBuiltins x = some (.type T) := by decide +kernel) (hn : x ≠ "__name__" := by decide) (hdb : (x == ("__debug__" : Str)) = false := by decide)
    (he : starEach (e :: es) X.env = (false, eval e X.env) :: starEach es X.env := by rfl) (hpl : (backTo pos (starEach es X.env)).any (·.1) = false := by rfl) : GE K mg r X O E (.Call (.Name x p) (e :: es) [] pos) (tCB R ts) (callB f ms) :=
  ⟨pe_callTy hc hg hm hv ha.pe hn hdb he hpl, callB_sound hf ha.snd⟩
theorem CallS.or {R R' : List V → Hp → VK → Prop} {f f1 f2 : List D → Option D} (h : CallS K mg r R f1) (h' : CallS K mg r R' f2) (hf : ∀ d z, f d = some z → f1 d = some z ∨ f2 d = some z) : CallS K mg r (fun x H Q => R x H Q ∨ R' x H Q) f := by
  intro Hs H tp xs ds z Q w rx hz k
  rcases hf ds z hz with q | q
  · exact .inl (h Hs H tp xs ds z Q w rx q k)
  · exact .inr (h' Hs H tp xs ds z Q w rx q k)

/-! tests -/
def isB : D → Option Bool
  | .bl b => some b
  | _ => none
def boolE (m : SE D) : SE Bool := fun env tp => (m env tp).bind fun d tp1 => RE.of (isB d) tp1
def truD : D → Option Bool
  | .non => some false
  | .bl b => some b
  | .int i => some (i != 0)
  | .lst xs => some (!xs.isEmpty)
  | .tup xs => some (!xs.isEmpty)
  | _ => none
theorem repT_bl {Hs H : Hp} {v : V} {b : Bool} (h : RepT K mg r Hs H v (.bl b)) : v = .bl b := by
  rcases h with h | ⟨p, _, _, h⟩
  · cases h; rfl
  · exact h.elim
theorem repT_int {Hs H : Hp} {v : V} {b : Int} (h : RepT K mg r Hs H v (.int b)) : v = .int b := by
  rcases h with h | ⟨p, _, _, h⟩
  · cases h; rfl
  · exact h.elim
theorem repT_str {Hs H : Hp} {v : V} {b : Str} (h : RepT K mg r Hs H v (.str b)) : v = .str b := by
  rcases h with h | ⟨p, _, _, h⟩
  · cases h; rfl
  · exact h.elim
theorem repT_non {Hs H : Hp} {v : V} (h : RepT K mg r Hs H v .non) : v = .non := by
  rcases h with h | ⟨p, _, _, h⟩
  · cases h; rfl
  · exact h.elim
theorem repT_lst {Hs H : Hp} {tp : List D} {v : V} {ds : List D} (w : Wd K mg r Hs H tp) (h : RepT K mg r Hs H v (.lst ds)) : ∃ p vs, v = .ref p ∧ H p = some (.lst vs) ∧ RepDs K mg r Hs vs ds := by
  rcases h with h | ⟨p, e, _, vs, a, b⟩
  · cases h with
    | lst a b => exact ⟨_, _, rfl, w.sub _ _ a, b⟩
  · exact ⟨p, vs, e, a, b⟩
theorem repT_tup {Hs H : Hp} {tp : List D} {v : V} {ds : List D} (w : Wd K mg r Hs H tp) (h : RepT K mg r Hs H v (.tup ds)) : ∃ p vs, v = .ref p ∧ Hs p = some (.tup vs) ∧ H p = some (.tup vs) ∧ RepDs K mg r Hs vs ds := by
  rcases h with h | ⟨p, e, _, a⟩
  · cases h with
    | tup a b => exact ⟨_, _, rfl, a, w.sub _ _ a, b⟩
  · exact a.elim
theorem repT_scr {Hs H : Hp} {tp : List D} {v : V} {ns : List Int} (w : Wd K mg r Hs H tp) (h : RepT K mg r Hs H v (.scr ns)) : ∃ p, v = .ref p ∧ SqL K H p (ns.map V.int) := by
  rcases h with h | ⟨p, e, _, a⟩
  · cases h with
    | scr a => exact ⟨_, rfl, Same.seq w.sub a⟩
  · exact a.elim
theorem repT_tape {Hs H : Hp} {v : V} (h : RepT K mg r Hs H v .tape) : v = .ref r := by
  rcases h with h | ⟨p, e, _, a⟩
  · cases h; rfl
  · exact a.elim

theorem boolE_sound {t : TE} {m : SE D} (h1 : ∀ Hs0 H0 Hs H σ env tp Q, Rel K mg r O Hs0 H0 Hs H σ env tp → PostE K mg r E Hs H (m env tp) Q → t σ H Q) :
    ∀ Hs0 H0 Hs H σ env tp Q, Rel K mg r O Hs0 H0 Hs H σ env tp → PostB K mg r E Hs H (boolE m env tp) Q → t σ H (fun x H1 => ∃ c, x = .bl c ∧ Q c H1) := by
  intro Hs0 H0 Hs H σ env tp Q Rl P
  refine h1 _ _ _ _ _ _ _ _ Rl (Post.bind P fun v Hs1 H1 d tp1 _ g w rv P1 => ?_)
  obtain ⟨z, hz, k⟩ := Post.ok_of P1
  cases d with
  | bl b =>
    cases hz; cases rv
    exact ⟨_, rfl, k _ Hs1 H1 (Grow.refl _ _) w rfl⟩
  | _ => cases hz
theorem gt_val {m : SE D} (h : GE K mg r X O E e t m) (he : ∀ whole, isTrue e X.env whole = (do let v ← whole; standAt e.pos; holding [v] (truthy v)) := by intro _; rfl) : GT K mg r X O E e (tB t) (boolE m) :=
  ⟨pt_val h.pe he, boolE_sound h.snd⟩
theorem gt_cmp {op : CmpOp} {R : R2} {f : D → D → Option D} {ma mb : SE D} (ho : OpR X (compareOp op) R) (hf : OpS K mg r R f) (ha : GO K mg r X O E a ta ma) (hb : GO K mg r X O E b tb mb) (hm : behindInMarks op b = false) : GT K mg r X O E (.Compare a [op] [b] pos) (tTest (tOp R ta tb)) (boolE (binE f ma mb)) :=
  ⟨pt_cmpR ho ha.pe hb.pe hm, boolE_sound (bin_sound hf ha.snd hb.snd)⟩
theorem gt_chain {op op' : CmpOp} {R R' : R2} {f g : D → D → Option D} {ma mb mc : SE D} (ho : OpR X (compareOp op) R) (ho' : OpR X (compareOp op') R') (hf : OpS K mg r R f) (hg : OpS K mg r R' g) (ha : GO K mg r X O E a ta ma) (hb : GO K mg r X O E b tb mb) (hc : GO K mg r X O E c tc mc)
    (hm : lastMarks [op, op'] [b, c] = false := by with_unfolding_all rfl) : GT K mg r X O E (.Compare a [op, op'] [b, c] pos) (tTest (tChain R R' ta tb tc)) (boolE (chainE f g ma mb mc)) :=
  ⟨pt_chain ho ho' ha.pe hb.pe hc.pe hm, boolE_sound (chain_sound hf hg ha hb hc)⟩
/-- a test by truth -/
def truE (m : SE D) : SE Bool := fun env tp => (m env tp).bind fun d tp1 => RE.of (truD d) tp1
theorem gt_truth {m : SE D} (h : GO K mg r X O E e t m) (hK : X.K = K := by rfl) (he : ∀ whole, isTrue e X.env whole = (do let v ← whole; standAt e.pos; holding [v] (truthy v)) := by intro _; rfl) : GT K mg r X O E e (fun σ H Q => t σ H fun x H' => ∃ k, TruV K x H' k ∧ Q k H') (truE m) := by
  subst hK
  refine ⟨pt_truth h.pe he, fun Hs0 H0 Hs H σ env tp Q Rl P => ?_⟩
  refine h.snd _ _ _ _ _ _ _ _ Rl (Post.bind P fun v Hs1 H1 d tp1 _ g w rv P1 => ?_)
  obtain ⟨z, hz, k⟩ := Post.ok_of P1
  refine ⟨z, ?_, k _ Hs1 H1 (Grow.refl _ _) w rfl⟩
  cases d with
  | non => cases hz; rw [repT_non rv]; first | rfl | exact rfl
  | bl b => cases hz; rw [repT_bl rv]; first | rfl | exact rfl
  | int b => cases hz; rw [repT_int rv]; first | rfl | exact rfl
  | lst ds =>
    cases hz
    obtain ⟨p, vs, rfl, a, b⟩ := repT_lst w rv
    refine .inl ⟨vs, .of a, ?_⟩
    cases b <;> rfl
  | tup ds =>
    cases hz
    obtain ⟨p, vs, rfl, _, a, b⟩ := repT_tup w rv
    refine .inr (.inl ⟨vs, .of a, ?_⟩)
    cases b <;> rfl
  | _ => cases hz
def notT (m : SE Bool) : SE Bool := fun env tp => (m env tp).bind fun b tp1 => .ok (!b) tp1
def andT (m n : SE Bool) : SE Bool := fun env tp => (m env tp).bind fun b tp1 => if b = true then n env tp1 else .ok false tp1
def orT (m n : SE Bool) : SE Bool := fun env tp => (m env tp).bind fun b tp1 => if b = true then .ok true tp1 else n env tp1
theorem gt_not {m : SE Bool} (h : GT K mg r X O E e tt m) : GT K mg r X O E (.UnaryOp .Not e pos) (tNot tt) (notT m) := by
  refine ⟨pt_not h.pe, fun Hs0 H0 Hs H σ env tp Q Rl P => ?_⟩
  refine h.snd _ _ _ _ _ _ _ _ Rl (Post.bind P fun v Hs1 H1 d tp1 _ g w rv P1 => ?_)
  exact P1 _ Hs1 H1 (Grow.refl _ _) w (by rw [rv])
theorem GW.gt {m : SE Bool} (h : GW K mg r X O E e tt m) : GT K mg r X O E e tt m := ⟨h.pe.pt, h.snd⟩
theorem gw_and1 {m : SE Bool} (h : GT K mg r X O E e tt m) : GW K mg r X O E (.BoolOp .And [e] pos) tt m := ⟨pw_and1 h.pe, h.snd⟩
theorem gw_or1 {m : SE Bool} (h : GT K mg r X O E e tt m) : GW K mg r X O E (.BoolOp .Or [e] pos) tt m := ⟨pw_or1 h.pe, h.snd⟩
theorem gw_and {m n : SE Bool} (h : GT K mg r X O E e tt m) (hb : GW K mg r X O E (.BoolOp .And (b :: es) pos) tu n) : GW K mg r X O E (.BoolOp .And (e :: b :: es) pos) (tAnd tt tu) (andT m n) := by
  refine ⟨pw_and h.pe hb.pe, fun Hs0 H0 Hs H σ env tp Q Rl P => ?_⟩
  refine h.snd _ _ _ _ _ _ _ _ Rl (Post.bind P fun v Hs1 H1 d tp1 _ g w rv P1 => ?_)
  subst rv
  cases v with
  | true => exact iteT (hb.snd _ _ _ _ _ _ _ _ (Rl.grow g w) P1)
  | false => exact iteF (P1 _ Hs1 H1 (Grow.refl _ _) w rfl)
theorem gw_or {m n : SE Bool} (h : GT K mg r X O E e tt m) (hb : GW K mg r X O E (.BoolOp .Or (b :: es) pos) tu n) : GW K mg r X O E (.BoolOp .Or (e :: b :: es) pos) (tOr tt tu) (orT m n) := by
  refine ⟨pw_or h.pe hb.pe, fun Hs0 H0 Hs H σ env tp Q Rl P => ?_⟩
  refine h.snd _ _ _ _ _ _ _ _ Rl (Post.bind P fun v Hs1 H1 d tp1 _ g w rv P1 => ?_)
  subst rv
  cases v with
  | false => exact iteF (hb.snd _ _ _ _ _ _ _ _ (Rl.grow g w) P1)
  | true => exact iteT (P1 _ Hs1 H1 (Grow.refl _ _) w rfl)

/-! and, or, not as values -/
def notE (m : SE D) : SE D := fun env tp => (m env tp).bind fun d tp1 => RE.of ((isB d).map fun b => .bl (!b)) tp1
def andE (m n : SE D) : SE D := fun env tp => (m env tp).bind fun d tp1 => match d with
  | .bl true => n env tp1
  | .bl false => .ok (.bl false) tp1
  | _ => .stuck
def orE (m n : SE D) : SE D := fun env tp => (m env tp).bind fun d tp1 => match d with
  | .bl false => n env tp1
  | .bl true => .ok (.bl true) tp1
  | _ => .stuck
theorem ge_one {op} {m : SE D} (h : GE K mg r X O E e t m) : GE K mg r X O E (.BoolOp op [e] pos) t m := ⟨pe_one h.pe, h.snd⟩
theorem ge_not {m : SE D} (h : GE K mg r X O E e t m) : GE K mg r X O E (.UnaryOp .Not e pos) (tNotV t) (notE m) := by
  refine ⟨pe_not h.pe, fun Hs0 H0 Hs H σ env tp Q Rl P => ?_⟩
  refine h.snd _ _ _ _ _ _ _ _ Rl (Post.bind P fun v Hs1 H1 d tp1 _ g w rv P1 => ?_)
  obtain ⟨z, hz, k⟩ := Post.ok_of P1
  cases d with
  | bl b =>
    cases hz; cases rv
    exact ⟨_, rfl, k _ Hs1 H1 (Grow.refl _ _) w (.bl _)⟩
  | _ => cases hz
theorem ge_and {m n : SE D} (h : GE K mg r X O E e ta m) (hb : GE K mg r X O E (.BoolOp .And (b :: es) pos) tb n) : GE K mg r X O E (.BoolOp .And (e :: b :: es) pos) (tAndV ta tb) (andE m n) := by
  refine ⟨pe_and h.pe hb.pe, fun Hs0 H0 Hs H σ env tp Q Rl P => ?_⟩
  refine h.snd _ _ _ _ _ _ _ _ Rl (Post.bind P fun v Hs1 H1 d tp1 _ g w rv P1 => ?_)
  cases d with
  | bl c =>
    cases rv
    refine ⟨c, rfl, ?_⟩
    cases c with
    | true => exact iteT (hb.snd _ _ _ _ _ _ _ _ (Rl.grow g w) P1)
    | false => exact iteF (P1 _ Hs1 H1 (Grow.refl _ _) w (.bl _))
  | _ => exact P1.elim
theorem ge_or {m n : SE D} (h : GE K mg r X O E e ta m) (hb : GE K mg r X O E (.BoolOp .Or (b :: es) pos) tb n) : GE K mg r X O E (.BoolOp .Or (e :: b :: es) pos) (tOrV ta tb) (orE m n) := by
  refine ⟨pe_or h.pe hb.pe, fun Hs0 H0 Hs H σ env tp Q Rl P => ?_⟩
  refine h.snd _ _ _ _ _ _ _ _ Rl (Post.bind P fun v Hs1 H1 d tp1 _ g w rv P1 => ?_)
  cases d with
  | bl c =>
    cases rv
    refine ⟨c, rfl, ?_⟩
    cases c with
    | false => exact iteF (hb.snd _ _ _ _ _ _ _ _ (Rl.grow g w) P1)
    | true => exact iteT (P1 _ Hs1 H1 (Grow.refl _ _) w (.bl _))
  | _ => exact P1.elim
def ifE (c : SE Bool) (m n : SE D) : SE D := fun env tp => (c env tp).bind fun b tp1 => if b = true then m env tp1 else n env tp1
theorem ge_ifExp {mc : SE Bool} {m n : SE D} (hc : GT K mg r X O E c tt mc) (ha : GE K mg r X O E a ta m) (hb : GE K mg r X O E b tb n) : GE K mg r X O E (.IfExp c a b pos) (tIf tt ta tb) (ifE mc m n) := by
  refine ⟨pe_ifExp hc.pe ha.pe hb.pe, fun Hs0 H0 Hs H σ env tp Q Rl P => ?_⟩
  refine hc.snd _ _ _ _ _ _ _ _ Rl (Post.bind P fun v Hs1 H1 d tp1 _ g w rv P1 => ?_)
  subst rv
  cases v with
  | true => exact iteT (ha.snd _ _ _ _ _ _ _ _ (Rl.grow g w) P1)
  | false => exact iteF (hb.snd _ _ _ _ _ _ _ _ (Rl.grow g w) P1)
end
end G

set_option maxHeartbeats 1000000
/-! G2: operators and built-ins over data. -/
namespace G
open PySem PySem.Spec PyProof.Rows L2
section
variable {r : Addr} {X : Cx} {K : PySem.W.Frag} {mg : Str → Option Value} {Hs H : Hp} {tp : List D}

/-! ### + -/
def addD : D → D → Option D
  | .int i, .int j => some (.int (i + j))
  | .str a, .str b => if a.length + b.length ≤ sizeLine then some (.str (a ++ b)) else none
  | .tup a, .tup b => if a.length + b.length ≤ sizeLine then some (.tup (a ++ b)) else none
  | .lst a, .lst b => if a.length + b.length ≤ sizeLine then some (.lst (a ++ b)) else none
  | _, _ => none
abbrev rAddD (K : PySem.W.Frag) : R2 := fun x y H Q => (∃ i j, x = .int i ∧ y = .int j ∧ Q (.int (i + j)) H) ∨ (∃ i j, x = .str i ∧ y = .str j ∧ i.length + j.length ≤ sizeLine ∧ Q (.str (i ++ j)) H) ∨ rCatA K x y H Q ∨ rCat x y H Q
theorem opr_add : OpR X (binaryOp .Add) (rAddD X.K) := op_add.or (op_add_str.or (op_catA.or op_cat))
theorem ops_add : OpS K mg r (rAddD K) addD := by
  intro Hs H tp x y d e z Q w rx ry hz k
  unfold addD at hz
  split at hz
  · cases hz
    exact .inl ⟨_, _, repT_int rx, repT_int ry, k _ _ _ (Grow.refl _ _) w (.int _)⟩
  · split at hz
    · rename_i c
      cases hz
      exact .inr (.inl ⟨_, _, repT_str rx, repT_str ry, c, k _ _ _ (Grow.refl _ _) w (.str _)⟩)
    · cases hz
  · split at hz
    · rename_i c
      cases hz
      obtain ⟨p, vs, rfl, h1, h1', h2⟩ := repT_tup w rx
      obtain ⟨q, us, rfl, g1, g1', g2⟩ := repT_tup w ry
      refine .inr (.inr (.inl ⟨p, q, vs, us, rfl, rfl, .of h1', .of g1', by rw [h2.length, g2.length]; exact c, fun e => ?_, fun _ e => ?_, fun _ _ a ha => ?_⟩))
      · subst e; cases h2
        exact k _ _ _ (Grow.refl _ _) w (.tup g1 g2)
      · subst e; cases g2
        rw [List.append_nil] at k
        exact k _ _ _ (Grow.refl _ _) w (.tup h1 h2)
      · obtain ⟨g, w'⟩ := w.alloc (o := .tup (vs ++ us)) ha
        exact k _ _ _ g w' (.tup upd_same ((h2.append g2).mono g.ex))
    · cases hz
  · split at hz
    · rename_i c
      cases hz
      obtain ⟨p, vs, rfl, h1, h2⟩ := repT_lst w rx
      obtain ⟨q, us, rfl, g1, g2⟩ := repT_lst w ry
      refine .inr (.inr (.inr ⟨p, q, vs, us, rfl, rfl, h1, g1, by rw [h2.length, g2.length]; exact c, fun a ha => ?_⟩))
      obtain ⟨g, w'⟩ := w.alloc (o := .lst (vs ++ us)) ha
      exact k _ _ _ g w' (.lst upd_same ((h2.append g2).mono g.ex))
    · cases hz
  · cases hz

/-! ### int operators -/
def subD : D → D → Option D
  | .int i, .int j => some (.int (i - j))
  | _, _ => none
theorem ops_sub : OpS K mg r (rI0 fun i j => .int (i - j)) subD := by
  intro Hs H tp x y d e z Q w rx ry hz k
  unfold subD at hz
  split at hz
  · cases hz
    exact ⟨_, _, repT_int rx, repT_int ry, k _ _ _ (Grow.refl _ _) w (.int _)⟩
  · cases hz
def cDiv (j : Int) : Bool := decide (0 < j) && decide (j.natAbs.log2 < 9000)
def fdivD : D → D → Option D
  | .int i, .int j => if cDiv j then some (.int (i / j)) else none
  | _, _ => none
theorem ops_fdiv : OpS K mg r (rI CDivW fun i j => .int (i / j)) fdivD := by
  intro Hs H tp x y d e z Q w rx ry hz k
  unfold fdivD at hz
  split at hz
  · split at hz
    · rename_i c
      cases hz
      have c := Bool.and_eq_true_iff.mp c
      exact ⟨_, _, repT_int rx, repT_int ry, ⟨of_decide_eq_true c.1, of_decide_eq_true c.2⟩, k _ _ _ (Grow.refl _ _) w (.int _)⟩
    · cases hz
  · cases hz
def modD : D → D → Option D
  | .int i, .int j => if 0 < j then some (.int (i % j)) else none
  | _, _ => none
theorem ops_mod : OpS K mg r (rI (fun _ j => 0 < j) fun i j => .int (i % j)) modD := by
  intro Hs H tp x y d e z Q w rx ry hz k
  unfold modD at hz
  split at hz
  · split at hz
    · rename_i c
      cases hz
      exact ⟨_, _, repT_int rx, repT_int ry, c, k _ _ _ (Grow.refl _ _) w (.int _)⟩
    · cases hz
  · cases hz
def cPow (i j : Int) : Bool := decide (0 ≤ j) && (decide (j ≤ 1000000) && decide (i.natAbs < 2 ^ 64))
theorem cPow_ok {i j : Int} (h : cPow i j = true) : CPow i j := by
  have h := Bool.and_eq_true_iff.mp h
  have h2 := Bool.and_eq_true_iff.mp h.2
  exact ⟨of_decide_eq_true h.1, of_decide_eq_true h2.1, of_decide_eq_true h2.2⟩
def powD : D → D → Option D
  | .int i, .int j => if cPow i j then some (.int (i ^ j.toNat)) else none
  | _, _ => none
theorem ops_pow : OpS K mg r (rI CPow fun i j => .int (i ^ j.toNat)) powD := by
  intro Hs H tp x y d e z Q w rx ry hz k
  unfold powD at hz
  split at hz
  · split at hz
    · rename_i c
      cases hz
      exact ⟨_, _, repT_int rx, repT_int ry, cPow_ok c, k _ _ _ (Grow.refl _ _) w (.int _)⟩
    · cases hz
  · cases hz
def shlD : D → D → Option D
  | .int i, .int j => if cPow i j then some (.int (i * 2 ^ j.toNat)) else none
  | _, _ => none
theorem ops_shl : OpS K mg r (rI CPow fun i j => .int (i * 2 ^ j.toNat)) shlD := by
  intro Hs H tp x y d e z Q w rx ry hz k
  unfold shlD at hz
  split at hz
  · split at hz
    · rename_i c
      cases hz
      exact ⟨_, _, repT_int rx, repT_int ry, cPow_ok c, k _ _ _ (Grow.refl _ _) w (.int _)⟩
    · cases hz
  · cases hz
def shrD : D → D → Option D
  | .int i, .int j => if 0 ≤ j then some (.int (i / 2 ^ j.toNat)) else none
  | _, _ => none
theorem ops_shr : OpS K mg r (rI (fun _ j => 0 ≤ j) fun i j => .int (i / 2 ^ j.toNat)) shrD := by
  intro Hs H tp x y d e z Q w rx ry hz k
  unfold shrD at hz
  split at hz
  · split at hz
    · rename_i c
      cases hz
      exact ⟨_, _, repT_int rx, repT_int ry, c, k _ _ _ (Grow.refl _ _) w (.int _)⟩
    · cases hz
  · cases hz
def bandD : D → D → Option D
  | .int i, .int j => some (.int (Builtin.bitAnd i j))
  | _, _ => none
theorem ops_band : OpS K mg r (rI0 fun i j => .int (Builtin.bitAnd i j)) bandD := by
  intro Hs H tp x y d e z Q w rx ry hz k
  unfold bandD at hz
  split at hz
  · cases hz
    exact ⟨_, _, repT_int rx, repT_int ry, k _ _ _ (Grow.refl _ _) w (.int _)⟩
  · cases hz
def negD : D → Option D
  | .int i => some (.int (-i))
  | _ => none
theorem uns_neg : UnS K mg r (rU fun i => .int (-i)) negD := by
  intro Hs H tp x d z Q w rx hz k
  unfold negD at hz
  split at hz
  · cases hz
    exact ⟨_, repT_int rx, k _ _ _ (Grow.refl _ _) w (.int _)⟩
  · cases hz

/-! ### * -/
theorem mulOk_small {x : Str} {n : Int} (h0 : 0 ≤ n) (h : (x.length : Int) * n ≤ 16777216) (h1 : n ≤ 16777216) : MulOk x n := by
  have hm : x.length * n.toNat ≤ 16777216 := by
    obtain ⟨k, rfl⟩ := Int.eq_ofNat_of_zero_le h0
    have : ((x.length * k : Nat) : Int) ≤ 16777216 := by rw [Int.natCast_mul]; exact h
    rw [Int.toNat_natCast]; omega
  refine ⟨by simp only [Bool.or_eq_false_iff, decide_eq_false_iff_not]; omega, fun a b => ?_, fun a b => ?_⟩
  · have h2 : (x.length : Int) ≤ (2 ^ 63 - 1) / n := (Int.le_ediv_iff_mul_le (by omega)).mpr (by omega)
    omega
  · unfold Builtin.Str.tooLong; simp only [decide_eq_false_iff_not]; rw [sizeLine_eq]; omega
theorem op_mul_str : OpR X (binaryOp .Mult) (fun x y H Q => ∃ (a : Str) (n : Int), x = .str a ∧ y = .int n ∧ 0 ≤ n ∧ (a.length : Int) * n ≤ 16777216 ∧ n ≤ 16777216 ∧ Q (.str (Txt.mul a n)) H) := by
  intro pins s σ H x y v u Q I rx ry h
  obtain ⟨a, n, rfl, rfl, h0, h1, h2, q⟩ := h
  obtain ⟨t, rfl⟩ := rx
  obtain ⟨t', rfl⟩ := ry
  exact SB.mul (mulOk_small h0 h1 h2) fun t2 k => ⟨.str _, H, I.tok _, ⟨_, rfl⟩, q⟩
def cMul (i j : Int) : Bool := decide (i.natAbs.log2 + j.natAbs.log2 < 1000000)
def cRep (n : Nat) (k : Int) : Bool := decide (0 ≤ k) && (decide ((n : Int) * k ≤ 16777216) && decide (k ≤ 16777216))
theorem cRep_ok {n : Nat} {k : Int} (h : cRep n k = true) : 0 ≤ k ∧ (n : Int) * k ≤ 16777216 ∧ k ≤ 16777216 := by
  have h := Bool.and_eq_true_iff.mp h
  have h2 := Bool.and_eq_true_iff.mp h.2
  exact ⟨of_decide_eq_true h.1, of_decide_eq_true h2.1, of_decide_eq_true h2.2⟩
/-! a tuple times 1 is the tuple -/
theorem tuple_mul1 (l : Addr) (items : Array Value) (n : Nat) (dd : Option Addr) (sl : Array (Option Value)) (u : Tok) :
    Meets (Builtin.«tuple.__mul__» ⟨[.ref l, .int 1 u], []⟩) (fun _ R s => s.heap.get? l = some { cls := .type "tuple", dict := dd, data := .seq items n, slots := sl } ∧
      R (.ok (.ret (Value.ref l))) s) :=
  .of_wp fun prog w A R s h => by
    obtain ⟨hp, g, d, tk, os⟩ := s
    obtain ⟨hl, h⟩ := h
    have f1 := AutoSeq1.idx_int
    have c1 : (items.isEmpty || (1 : Int) == 1) = true := by simp
    have c0 : (decide ((1 : Int) < -(2 ^ 63)) || decide ((1 : Int) ≥ 2 ^ 63)) = false := by decide
    wp_walk using wpAny_loadPart' hl
    exact ⟨_, rfl, h⟩
def rRepT1 (K : PySem.W.Frag) : R2 := fun x y H Q => ∃ l xs, x = .ref l ∧ y = .int 1 ∧ SqT K H l xs ∧ Q (.ref l) H
theorem op_repT1 {X : Cx} : OpR X (binaryOp .Mult) (rRepT1 X.K) := by
  intro pins s σ H x y v u Q I rx ry h
  obtain ⟨l, xs, rfl, rfl, hT, q⟩ := h
  cases rx
  obtain ⟨t, rfl⟩ := ry
  obtain ⟨its, r, ⟨⟨cls, dd, data, sl⟩, ho, hc, n, hd⟩, hs⟩ := I.tuple hT
  simp only at hc hd
  subst hc hd
  refine wpAny_binaryOp_repeat_ref (T := "tuple") (U := "int") (by decide) ⟨_, ho, rfl⟩ (fun s' => typeIs_int s' 1 t) noFill_tuple_mul F.fills_int_mul F.slot_int_rmul repeat_tuple F.slot_int_index.lookup
    (call_meets F.slot_int_rmul (typeIs_int s 1 t) F.entry_int_rmul (F.args_int_rmul_2 _ _) (int_rmul_tuple 1 t l its.toArray n dd sl)
      ⟨ho, rfl, ⟨_, ho, rfl⟩, call_meets F.slot_tuple_mul ⟨_, ho, rfl⟩ F.entry_tuple_mul (F.args_tuple_mul_2 _ _) (tuple_mul1 l its.toArray n dd sl t) ⟨ho, ?_⟩⟩)
  exact ⟨.ref l, H, I, rfl, q⟩
def cRepT (n : Nat) (k : Int) : Bool := decide (0 < n) && (decide (n ≤ 1000) && (decide (1 ≤ k) && decide (k ≤ 1000)))
theorem cRepT_ok {n : Nat} {k : Int} (h : cRepT n k = true) : 0 < n ∧ n ≤ 1000 ∧ 1 ≤ k ∧ k ≤ 1000 := by
  have h := Bool.and_eq_true_iff.mp h
  have h2 := Bool.and_eq_true_iff.mp h.2
  have h3 := Bool.and_eq_true_iff.mp h2.2
  exact ⟨of_decide_eq_true h.1, of_decide_eq_true h2.1, of_decide_eq_true h3.1, of_decide_eq_true h3.2⟩
def mulD : D → D → Option D
  | .int i, .int j => if cMul i j then some (.int (i * j)) else none
  | .str a, .int n => if cRep a.length n then some (.str (Txt.mul a n)) else none
  | .lst a, .int n => if cRep a.length n then some (.lst (List.replicate n.toNat a).flatten) else none
  | .tup a, .int n => if cRepT a.length n then some (.tup (List.replicate n.toNat a).flatten) else none
  | _, _ => none
abbrev rMulD (K : PySem.W.Frag) : R2 := fun x y H Q => (∃ i j, x = .int i ∧ y = .int j ∧ CMulW i j ∧ Q (.int (i * j)) H) ∨ (∃ (a : Str) (n : Int), x = .str a ∧ y = .int n ∧ 0 ≤ n ∧ (a.length : Int) * n ≤ 16777216 ∧ n ≤ 16777216 ∧ Q (.str (Txt.mul a n)) H) ∨ rRep x y H Q ∨ rRepT K x y H Q ∨ rRepT1 K x y H Q
theorem opr_mul : OpR X (binaryOp .Mult) (rMulD X.K) := op_mulW.or (op_mul_str.or (op_rep.or (op_repT.or op_repT1)))
theorem RepDs.rep {vs : List V} {ds : List D} (h : RepDs K mg r Hs vs ds) : ∀ n : Nat, RepDs K mg r Hs (List.replicate n vs).flatten (List.replicate n ds).flatten
  | 0 => .nil
  | n + 1 => by
    rw [List.replicate_succ, List.replicate_succ, List.flatten_cons, List.flatten_cons]
    exact h.append (RepDs.rep h n)
theorem ops_mul : OpS K mg r (rMulD K) mulD := by
  intro Hs H tp x y d e z Q w rx ry hz k
  unfold mulD at hz
  split at hz
  · split at hz
    · rename_i c
      cases hz
      exact .inl ⟨_, _, repT_int rx, repT_int ry, (show _ < _ from of_decide_eq_true c), k _ _ _ (Grow.refl _ _) w (.int _)⟩
    · cases hz
  · split at hz
    · rename_i c
      cases hz
      have c := cRep_ok c
      exact .inr (.inl ⟨_, _, repT_str rx, repT_int ry, c.1, c.2.1, c.2.2, k _ _ _ (Grow.refl _ _) w (.str _)⟩)
    · cases hz
  · split at hz
    · rename_i a n c
      cases hz
      have c := cRep_ok c
      obtain ⟨p, vs, rfl, h1, h2⟩ := repT_lst w rx
      rw [repT_int ry]
      refine .inr (.inr (.inl ⟨p, n, vs, rfl, rfl, h1, by omega, by omega, ?_, fun q hq => ?_⟩))
      · rw [h2.length, sizeLine_eq]
        have : ((a.length * n.toNat : Nat) : Int) ≤ 16777216 := by
          rw [Int.natCast_mul, Int.toNat_of_nonneg c.1]; exact c.2.1
        omega
      · obtain ⟨g, w'⟩ := w.alloc (o := .lst (List.replicate n.toNat vs).flatten) hq
        exact k _ _ _ g w' (.lst upd_same ((h2.rep _).mono g.ex))
    · cases hz
  · split at hz
    · rename_i a n c
      cases hz
      have c := cRepT_ok c
      obtain ⟨p, vs, rfl, h0, h1, h2⟩ := repT_tup w rx
      rw [repT_int ry]
      have lv : vs.length = a.length := h2.length
      by_cases n1 : n = 1
      · subst n1
        refine .inr (.inr (.inr (.inr ⟨p, vs, rfl, rfl, .of h1, k _ _ _ (Grow.refl _ _) w (.tup h0 ?_)⟩)))
        have e : (List.replicate (Int.toNat 1) a).flatten = a := by show (List.replicate 1 a).flatten = a; simp
        rw [e]; exact h2
      · refine .inr (.inr (.inr (.inl ⟨p, n, vs, rfl, rfl, .of h1, ?_, by omega, by omega, by omega, fun q hq => ?_⟩)))
        · intro e; subst e; simp at lv; omega
        · obtain ⟨g, w'⟩ := w.alloc (o := .tup (List.replicate n.toNat vs).flatten) hq
          exact k _ _ _ g w' (.tup upd_same ((h2.rep _).mono g.ex))
    · cases hz
  · cases hz

/-! ### order -/
def ltD : D → D → Option D
  | .int i, .int j => some (.bl (decide (i < j)))
  | .str i, .str j => some (.bl (decide (i.cps.toList < j.cps.toList)))
  | _, _ => none
theorem ops_lt : OpS K mg r (fun x y H Q => (∃ i j, x = .int i ∧ y = .int j ∧ Q (.bl (decide (i < j))) H) ∨ (∃ i j, x = .str i ∧ y = .str j ∧ Q (.bl (decide (i.cps.toList < j.cps.toList))) H)) ltD := by
  intro Hs H tp x y d e z Q w rx ry hz k
  unfold ltD at hz
  split at hz
  · cases hz
    exact .inl ⟨_, _, repT_int rx, repT_int ry, k _ _ _ (Grow.refl _ _) w (.bl _)⟩
  · cases hz
    exact .inr ⟨_, _, repT_str rx, repT_str ry, k _ _ _ (Grow.refl _ _) w (.bl _)⟩
  · cases hz
theorem opr_lt : OpR X (compareOp .Lt) (fun x y H Q => (∃ i j, x = .int i ∧ y = .int j ∧ Q (.bl (decide (i < j))) H) ∨ (∃ i j, x = .str i ∧ y = .str j ∧ Q (.bl (decide (i.cps.toList < j.cps.toList))) H)) := op_lt.or op_lt_str
def leD : D → D → Option D
  | .int i, .int j => some (.bl (decide (i ≤ j)))
  | _, _ => none
def gtD : D → D → Option D
  | .int i, .int j => some (.bl (decide (j < i)))
  | _, _ => none
def geD : D → D → Option D
  | .int i, .int j => some (.bl (decide (j ≤ i)))
  | _, _ => none
theorem ops_le : OpS K mg r (rI0 fun i j => .bl (decide (i ≤ j))) leD := by
  intro Hs H tp x y d e z Q w rx ry hz k
  unfold leD at hz
  split at hz
  · cases hz
    exact ⟨_, _, repT_int rx, repT_int ry, k _ _ _ (Grow.refl _ _) w (.bl _)⟩
  · cases hz
theorem ops_gt : OpS K mg r (rI0 fun i j => .bl (decide (j < i))) gtD := by
  intro Hs H tp x y d e z Q w rx ry hz k
  unfold gtD at hz
  split at hz
  · cases hz
    exact ⟨_, _, repT_int rx, repT_int ry, k _ _ _ (Grow.refl _ _) w (.bl _)⟩
  · cases hz
theorem ops_ge : OpS K mg r (rI0 fun i j => .bl (decide (j ≤ i))) geD := by
  intro Hs H tp x y d e z Q w rx ry hz k
  unfold geD at hz
  split at hz
  · cases hz
    exact ⟨_, _, repT_int rx, repT_int ry, k _ _ _ (Grow.refl _ _) w (.bl _)⟩
  · cases hz

/-! ### == in -/
theorem plainAll_int : ∀ ns : List Int, PyData.plainAll (ns.map PyData.int) = true
  | [] => rfl
  | n :: ns => by simp only [List.map_cons, PyData.plainAll, PyData.plain, Bool.true_and]; exact plainAll_int ns
theorem dpAll_ints {H : Hp} : ∀ ns : List Int, DpAll K H (ns.map V.int) (ns.map PyData.int)
  | [] => .nil
  | n :: ns => .cons (.int n) (dpAll_ints ns)
mutual
theorem RepD.dp (w : Same Hs H) : ∀ {v : V} {d : D}, RepD K mg r Hs v d → d.pd.plain = true → Dp K H v d.pd
  | _, _, .non, _ => .non
  | _, _, .bl b, _ => .bl b
  | _, _, .int i, _ => .int i
  | _, _, .str s, _ => .str s
  | _, _, .tup (ds := ds) h q, p => .tup (.of (w _ _ h)) (RepDs.dp w q (by simpa only [D.pd, PyData.plain] using p))
  | _, _, .lst (ds := ds) h q, p => .lst (.of (w _ _ h)) (RepDs.dp w q (by simpa only [D.pd, PyData.plain] using p))
  | _, _, .scr (ns := ns) h, _ => .lst (Same.seq w h) (dpAll_ints ns)
  | _, _, .dicK _ _, p => by simp only [D.pd, PyData.plain] at p; cases p
  | _, _, .dicT _ _, p => by simp only [D.pd, PyData.plain] at p; cases p
  | _, _, .tape, p => by simp only [D.pd, PyData.plain] at p; cases p
  | _, _, .fn _, p => by simp only [D.pd, PyData.plain] at p; cases p
  | _, _, .ty _, p => by simp only [D.pd, PyData.plain] at p; cases p
theorem RepDs.dp (w : Same Hs H) : ∀ {vs : List V} {ds : List D}, RepDs K mg r Hs vs ds → PyData.plainAll (pdAll ds) = true → DpAll K H vs (pdAll ds)
  | _, _, .nil, _ => .nil
  | _, _, .cons h q, p => by
    simp only [pdAll, PyData.plainAll, Bool.and_eq_true] at p
    exact .cons (RepD.dp w h p.1) (RepDs.dp w q p.2)
end
theorem RepT.dp {v : V} {d : D} (w : Wd K mg r Hs H tp) (h : RepT K mg r Hs H v d) (p : d.pd.plain = true) : Dp K H v d.pd := by
  rcases h with h | ⟨a, rfl, _, h⟩
  · exact RepD.dp w.sub h p
  · cases d with
    | lst ds =>
      obtain ⟨vs, h1, h2⟩ := h
      exact .lst (.of h1) (RepDs.dp w.sub h2 (by simpa only [D.pd, PyData.plain] using p))
    | dic ds => simp only [D.pd, PyData.plain] at p; cases p
    | dct ds => simp only [D.pd, PyData.plain] at p; cases p
    | _ => exact h.elim
/-- may be compared -/
def D.okq (d : D) : Bool := d.pd.plain && decide (d.pd.depth ≤ 60)
theorem okq_ok {d : D} (h : d.okq = true) : d.pd.plain = true ∧ d.pd.depth ≤ 60 := by
  have h := Bool.and_eq_true_iff.mp h
  exact ⟨h.1, of_decide_eq_true h.2⟩
def eqD (d e : D) : Option D := if d.okq && e.okq then some (.bl (PyData.eqv d.pd e.pd)) else none
def neD (d e : D) : Option D := if d.okq && e.okq then some (.bl (!PyData.eqv d.pd e.pd)) else none
def rEqP (K : PySem.W.Frag) : R2 := fun x y H Q => ∃ d e, Dp K H x d ∧ Dp K H y e ∧ d.plain = true ∧ e.plain = true ∧ d.depth ≤ 60 ∧ Q (.bl (PyData.eqv d e)) H
def rNeP (K : PySem.W.Frag) : R2 := fun x y H Q => ∃ d e, Dp K H x d ∧ Dp K H y e ∧ d.plain = true ∧ e.plain = true ∧ d.depth ≤ 60 ∧ Q (.bl (!PyData.eqv d e)) H
theorem op_eqP (hu : X.A.units + 64 < cLine) : OpR X (compareOp .Eq) (rEqP X.K) := by
  intro pins s σ H x y v u Q I rx ry h
  obtain ⟨d, e, hd, he, sd, se, dd, q⟩ := h
  obtain ⟨as, r1⟩ := Dp.reads I d x v hd rx
  obtain ⟨bs, r2⟩ := Dp.reads I e y u he ry
  have : min d.depth e.depth ≤ d.depth := Nat.min_le_left _ _
  exact SeqAt.eq_plain r1 r2 sd se (by omega) ⟨.bl _, H, I, rfl, q⟩
theorem op_neP (hu : X.A.units + 64 < cLine) : OpR X (compareOp .NotEq) (rNeP X.K) := by
  intro pins s σ H x y v u Q I rx ry h
  obtain ⟨d, e, hd, he, sd, se, dd, q⟩ := h
  obtain ⟨as, r1⟩ := Dp.reads I d x v hd rx
  obtain ⟨bs, r2⟩ := Dp.reads I e y u he ry
  have : min d.depth e.depth ≤ d.depth := Nat.min_le_left _ _
  exact SeqAt.ne_plain r1 r2 sd se (by omega) ⟨.bl _, H, I, rfl, q⟩
theorem ops_eq : OpS K mg r (rEqP K) eqD := by
  intro Hs H tp x y d e z Q w rx ry hz k
  unfold eqD at hz
  split at hz
  · rename_i c
    cases hz
    have c := Bool.and_eq_true_iff.mp c
    have c1 := okq_ok c.1
    have c2 := okq_ok c.2
    exact ⟨d.pd, e.pd, rx.dp w c1.1, ry.dp w c2.1, c1.1, c2.1, c1.2, k _ _ _ (Grow.refl _ _) w (.bl _)⟩
  · cases hz
theorem ops_ne : OpS K mg r (rNeP K) neD := by
  intro Hs H tp x y d e z Q w rx ry hz k
  unfold neD at hz
  split at hz
  · rename_i c
    cases hz
    have c := Bool.and_eq_true_iff.mp c
    have c1 := okq_ok c.1
    have c2 := okq_ok c.2
    exact ⟨d.pd, e.pd, rx.dp w c1.1, ry.dp w c2.1, c1.1, c2.1, c1.2, k _ _ _ (Grow.refl _ _) w (.bl _)⟩
  · cases hz
/-- x in a list | tuple -/
def itemsD : D → Option (List D)
  | .lst xs => some xs
  | .tup xs => some xs
  | _ => none
def memD (d : D) (xs : List D) : Bool := xs.any fun z => PyData.eqv z.pd d.pd
def inD (d e : D) : Option D := (itemsD e).bind fun xs => if d.okq && e.okq then some (.bl (memD d xs)) else none
def notInD (d e : D) : Option D := (itemsD e).bind fun xs => if d.okq && e.okq then some (.bl (!memD d xs)) else none
def rInP (K : PySem.W.Frag) (neg : Bool) : R2 := fun x y H Q => ∃ d ds, Dp K H x d ∧ (Dp K H y (.list ds) ∨ Dp K H y (.tuple ds)) ∧ d.plain = true ∧ PyData.plainAll ds = true ∧ d.depth ≤ 60 ∧ Q (.bl (if neg then !(ds.any fun z => PyData.eqv z d) else ds.any fun z => PyData.eqv z d)) H
theorem op_inP (hu : X.A.units + 64 < cLine) : OpR X (compareOp .In) (rInP X.K false) := by
  intro pins s σ H x y v u Q I rx ry h
  obtain ⟨d, ds, hd, he, sd, se, dd, q⟩ := h
  obtain ⟨as, r1⟩ := Dp.reads I d x v hd rx
  have hm : min (PyData.depthAll ds) d.depth ≤ d.depth := Nat.min_le_right _ _
  rcases he with he | he
  · obtain ⟨bs, r2⟩ := Dp.reads I _ y u he ry
    exact SeqAt.in_list_data r2 r1 se sd (by omega) ⟨.bl _, H, I, rfl, q⟩
  · obtain ⟨bs, r2⟩ := Dp.reads I _ y u he ry
    exact SeqAt.in_tuple_data r2 r1 se sd (by omega) ⟨.bl _, H, I, rfl, q⟩
theorem op_notInP (hu : X.A.units + 64 < cLine) : OpR X (compareOp .NotIn) (rInP X.K true) := by
  intro pins s σ H x y v u Q I rx ry h
  obtain ⟨d, ds, hd, he, sd, se, dd, q⟩ := h
  obtain ⟨as, r1⟩ := Dp.reads I d x v hd rx
  have hm : min (PyData.depthAll ds) d.depth ≤ d.depth := Nat.min_le_right _ _
  rcases he with he | he
  · obtain ⟨bs, r2⟩ := Dp.reads I _ y u he ry
    exact SeqAt.notIn_list_data r2 r1 se sd (by omega) ⟨.bl _, H, I, rfl, q⟩
  · obtain ⟨bs, r2⟩ := Dp.reads I _ y u he ry
    exact SeqAt.notIn_tuple_data r2 r1 se sd (by omega) ⟨.bl _, H, I, rfl, q⟩
theorem any_pd (d : D) (xs : List D) : ((pdAll xs).any fun z => PyData.eqv z d.pd) = memD d xs := by
  unfold memD
  rw [pdAll_map, List.any_map]
  rfl
theorem in_core {neg : Bool} {Hs H tp x y d e} {Q : VK} {xs : List D} (w : Wd K mg r Hs H tp) (rx : RepT K mg r Hs H x d) (ry : RepT K mg r Hs H y e) (hi : itemsD e = some xs) (hc : (d.okq && e.okq) = true)
    (k : Q (V.bl (if neg then !memD d xs else memD d xs)) H) : rInP K neg x y H Q := by
  have c := Bool.and_eq_true_iff.mp hc
  have c1 := okq_ok c.1
  have c2 := okq_ok c.2
  have hy := ry.dp w c2.1
  refine ⟨d.pd, pdAll xs, rx.dp w c1.1, ?_, c1.1, ?_, c1.2, by rw [any_pd]; exact k⟩
  · cases e with
    | lst es => cases hi; exact .inl hy
    | tup es => cases hi; exact .inr hy
    | _ => cases hi
  · cases e with
    | lst es => cases hi; simpa only [D.pd, PyData.plain] using c2.1
    | tup es => cases hi; simpa only [D.pd, PyData.plain] using c2.1
    | _ => cases hi
theorem ops_in : OpS K mg r (rInP K false) inD := by
  intro Hs H tp x y d e z Q w rx ry hz k
  unfold inD at hz
  obtain ⟨xs, h1, h2⟩ := Option.bind_eq_some_iff.mp hz
  split at h2
  · rename_i c
    cases h2
    exact in_core w rx ry h1 c (k _ _ _ (Grow.refl _ _) w (.bl _))
  · cases h2
theorem ops_notIn : OpS K mg r (rInP K true) notInD := by
  intro Hs H tp x y d e z Q w rx ry hz k
  unfold notInD at hz
  obtain ⟨xs, h1, h2⟩ := Option.bind_eq_some_iff.mp hz
  split at h2
  · rename_i c
    cases h2
    exact in_core w rx ry h1 c (k _ _ _ (Grow.refl _ _) w (.bl _))
  · cases h2
/-! is None; is True -/
def isNoneD (d e : D) : Option D := match d, e with
  | .non, .non => some (.bl true)
  | .bl a, .bl b => some (.bl (decide (a = b)))
  | _, .non => some (.bl false)
  | _, _ => none
def isNotNoneD (d e : D) : Option D := match d, e with
  | .non, .non => some (.bl false)
  | .bl a, .bl b => some (.bl (!decide (a = b)))
  | _, .non => some (.bl true)
  | _, _ => none
theorem repT_ne_non {v : V} {d : D} (h : RepT K mg r Hs H v d) (n : d ≠ .non) : decide (v = .non) = false := by
  refine decide_eq_false fun e => ?_
  subst e
  rcases h with h | ⟨p, e, _⟩
  · cases h; exact n rfl
  · cases e
theorem ops_is : OpS K mg r (fun x y H Q => (y = .non ∧ Q (.bl (decide (x = .non))) H) ∨ ∃ a b, x = .bl a ∧ y = .bl b ∧ Q (.bl (decide (a = b))) H) isNoneD := by
  intro Hs H tp x y d e z Q w rx ry hz k
  unfold isNoneD at hz
  split at hz
  · cases hz
    rw [repT_non rx, repT_non ry]
    exact .inl ⟨rfl, k _ _ _ (Grow.refl _ _) w (.bl _)⟩
  · cases hz
    rw [repT_bl rx, repT_bl ry]
    exact .inr ⟨_, _, rfl, rfl, k _ _ _ (Grow.refl _ _) w (.bl _)⟩
  · cases hz
    refine .inl ⟨repT_non ry, ?_⟩
    rw [repT_ne_non rx (by intro e; subst e; simp_all)]
    exact k _ _ _ (Grow.refl _ _) w (.bl _)
  · cases hz
theorem ops_isNot : OpS K mg r (fun x y H Q => (y = .non ∧ Q (.bl (!decide (x = .non))) H) ∨ ∃ a b, x = .bl a ∧ y = .bl b ∧ Q (.bl (!decide (a = b))) H) isNotNoneD := by
  intro Hs H tp x y d e z Q w rx ry hz k
  unfold isNotNoneD at hz
  split at hz
  · cases hz
    rw [repT_non rx, repT_non ry]
    exact .inl ⟨rfl, k _ _ _ (Grow.refl _ _) w (.bl _)⟩
  · cases hz
    rw [repT_bl rx, repT_bl ry]
    exact .inr ⟨_, _, rfl, rfl, k _ _ _ (Grow.refl _ _) w (.bl _)⟩
  · cases hz
    refine .inl ⟨repT_non ry, ?_⟩
    rw [repT_ne_non rx (by intro e; subst e; simp_all)]
    exact k _ _ _ (Grow.refl _ _) w (.bl _)
  · cases hz
theorem opr_is : OpR X (compareOp .Is) (fun x y H Q => (y = .non ∧ Q (.bl (decide (x = .non))) H) ∨ ∃ a b, x = .bl a ∧ y = .bl b ∧ Q (.bl (decide (a = b))) H) := op_isN.or op_is_bl
theorem opr_isNot : OpR X (compareOp .IsNot) (fun x y H Q => (y = .non ∧ Q (.bl (!decide (x = .non))) H) ∨ ∃ a b, x = .bl a ∧ y = .bl b ∧ Q (.bl (!decide (a = b))) H) := op_notN.or op_isnot_bl

/-! ### items and slices -/
def ixD : D → D → Option D
  | .lst xs, .int i => atI xs i
  | .tup xs, .int i => atI xs i
  | .scr ns, .int i => (atI ns i).map .int
  | .str s, .int i => if s.length ≤ sizeLine then (atI s.cps.toList i).map fun c => .str ⟨#[c]⟩ else none
  | _, _ => none
theorem atI_rep {vs : List V} {ds : List D} {i : Int} {d : D} (h : RepDs K mg r Hs vs ds) (e : atI ds i = some d) : ∃ v, atI vs i = some v ∧ RepD K mg r Hs v d := by
  unfold atI at e ⊢
  rw [h.length]
  obtain ⟨j, h1, h2⟩ := Option.bind_eq_some_iff.mp e
  obtain ⟨v, h3, h4⟩ := h.get' h2
  exact ⟨v, by rw [h1]; exact h3, h4⟩
theorem atI_map {α β : Type} (f : α → β) (xs : List α) (i : Int) : atI (xs.map f) i = (atI xs i).map f := by
  unfold atI
  rw [List.length_map]
  cases ixN xs.length i with
  | none => rfl
  | some j => simp
theorem ops_ix : OpS K mg r (rIx K) ixD := by
  intro Hs H tp x y d e z Q w rx ry hz k
  unfold ixD at hz
  split at hz
  · obtain ⟨p, vs, rfl, h1, h2⟩ := repT_lst w rx
    obtain ⟨v, h3, h4⟩ := atI_rep h2 hz
    exact .inl ⟨p, vs, _, v, rfl, repT_int ry, .of h1, h3, k _ _ _ (Grow.refl _ _) w h4⟩
  · obtain ⟨p, vs, rfl, _, h1, h2⟩ := repT_tup w rx
    obtain ⟨v, h3, h4⟩ := atI_rep h2 hz
    exact .inr (.inl ⟨p, vs, _, v, rfl, repT_int ry, .of h1, h3, k _ _ _ (Grow.refl _ _) w h4⟩)
  · obtain ⟨p, rfl, h1⟩ := repT_scr w rx
    obtain ⟨n, h2, h3⟩ := Option.map_eq_some_iff.mp hz
    subst h3
    exact .inl ⟨p, _, _, _, rfl, repT_int ry, h1, by rw [atI_map, h2]; rfl, k _ _ _ (Grow.refl _ _) w (.int _)⟩
  · split at hz
    · rename_i c
      obtain ⟨n, h2, h3⟩ := Option.map_eq_some_iff.mp hz
      subst h3
      exact .inr (.inr ⟨_, _, _, repT_str rx, repT_int ry, c, h2, k _ _ _ (Grow.refl _ _) w (.str _)⟩)
    · cases hz
  · cases hz

/-- a slice's part -/
def optI (m : Option (SE D)) : SE (Option Int) := fun env tp => match m with
  | none => .ok none tp
  | some m => (m env tp).bind fun d tp1 => match d with
    | .int i => .ok (some i) tp1
    | _ => .stuck
structure GP (K : PySem.W.Frag) (mg : Str → Option Value) (r : Addr) (X : Cx) (O : List Nat) (E : XK) (e : Option Expr) (t : TO) (m : SE (Option Int)) : Prop where
  pe : PO X e t
  snd : ∀ Hs0 H0 Hs H σ env tp Q, Rel K mg r O Hs0 H0 Hs H σ env tp → Post K mg r (fun _ _ (a b : Option Int) => a = b) E Hs H (m env tp) Q → t σ H Q
variable {O : List Nat} {E : XK}
theorem gp_none : GP K mg r X O E none tNoPart (optI none) := ⟨po_none, fun Hs0 H0 Hs H σ env tp Q R P => P _ Hs H (Grow.refl _ _) R.wd rfl⟩
theorem gp_some {e : Expr} {t : TE} {m : SE D} (h : GE K mg r X O E e t m) : GP K mg r X O E (some e) (tPart t) (optI (some m)) := by
  refine ⟨po_some h.pe, fun Hs0 H0 Hs H σ env tp Q Rl P => ?_⟩
  refine h.snd _ _ _ _ _ _ _ _ Rl (Post.bind P fun v Hs1 H1 d tp1 _ g w rv P1 => ?_)
  cases d with
  | int i => cases rv; exact ⟨i, rfl, P1 _ Hs1 H1 (Grow.refl _ _) w rfl⟩
  | _ => exact P1.elim
def cutD {α : Type} (xs : List α) (lo hi : Option Int) : List α := (xs.drop (HT.sIx xs.length 0 lo)).take (HT.sIx xs.length xs.length hi - HT.sIx xs.length 0 lo)
def sliceD (d : D) (lo hi : Option Int) : Option D := match d with
  | .lst xs => some (.lst (cutD xs lo hi))
  | .tup xs => some (.tup (cutD xs lo hi))
  | .str s => if s.length ≤ sizeLine then some (.str (cutS s lo hi)) else none
  | _ => none
def sliceE (m : SE D) (ml mh : SE (Option Int)) : SE D := fun env tp => (m env tp).bind fun d tp1 => (ml env tp1).bind fun lo tp2 => (mh env tp2).bind fun hi tp3 => RE.of (sliceD d lo hi) tp3
theorem cut_rep {vs : List V} {ds : List D} (h : RepDs K mg r Hs vs ds) (lo hi : Option Int) : RepDs K mg r Hs (cutV vs lo hi) (cutD ds lo hi) := by
  unfold cutV cutD
  rw [h.length]
  exact (h.drop _).take _
theorem cut_whole {vs : List V} {lo hi : Option Int} (h : HT.sIx vs.length 0 lo = 0 ∧ HT.sIx vs.length vs.length hi = vs.length) : cutV vs lo hi = vs := by
  unfold cutV
  rw [h.1, h.2]
  simp
abbrev rSlD (K : PySem.W.Frag) : V → Option Int → Option Int → Hp → VK → Prop := fun x lo hi H Q => rSlL K x lo hi H Q ∨ rSlA K x lo hi H Q ∨ rSlS x lo hi H Q
theorem ge_slice {e : Expr} {lo hi : Option Expr} {p2 pos : Pos} {t : TE} {tl th : TO} {m : SE D} {ml mh : SE (Option Int)} (h : GO K mg r X O E e t m) (hl : GP K mg r X O E lo tl ml) (hh : GP K mg r X O E hi th mh) (hK : X.K = K := by rfl) : GE K mg r X O E (.Subscript e (.Slice lo hi none p2) pos) (tSl (rSlD K) t tl th) (sliceE m ml mh) := by
  subst hK
  refine ⟨pe_slice (sl_list.or (sl_tupA.or sl_str)) h.pe hl.pe hh.pe, fun Hs0 H0 Hs H σ env tp Q Rl P => ?_⟩
  refine h.snd _ _ _ _ _ _ _ _ Rl (Post.bind P fun v Hs1 H1 d tp1 _ g w rv P1 => ?_)
  refine hl.snd _ _ _ _ _ _ _ _ (Rl.grow g w) (Post.bind P1 fun l Hs2 H2 l' tp2 _ g2 w2 el P2 => ?_)
  refine hh.snd _ _ _ _ _ _ _ _ (Rl.grow (g.trans g2) w2) (Post.bind P2 fun u Hs3 H3 u' tp3 _ g3 w3 eu P3 => ?_)
  subst el eu
  obtain ⟨z, hz, k⟩ := Post.ok_of P3
  have rv := rv.grow (g2.trans g3)
  unfold sliceD at hz
  split at hz
  · cases hz
    obtain ⟨p, vs, rfl, h1, h2⟩ := repT_lst w3 rv
    refine .inl ⟨p, vs, rfl, .of h1, fun q hq => ?_⟩
    obtain ⟨g', w'⟩ := w3.alloc (o := .lst (cutV vs l u)) hq
    exact k _ _ _ g' w' (.lst upd_same ((cut_rep h2 l u).mono g'.ex))
  · cases hz
    obtain ⟨p, vs, rfl, h0, h1, h2⟩ := repT_tup w3 rv
    refine .inr (.inl ⟨p, vs, rfl, .of h1, fun e => ?_, fun _ q hq => ?_⟩)
    · have h4 := cut_rep h2 l u
      rw [cut_whole e] at h4
      exact k _ _ _ (Grow.refl _ _) w3 (.tup h0 h4)
    · obtain ⟨g', w'⟩ := w3.alloc (o := .tup (cutV vs l u)) hq
      exact k _ _ _ g' w' (.tup upd_same ((cut_rep h2 l u).mono g'.ex))
  · split at hz
    · rename_i c
      cases hz
      exact .inr (.inr ⟨_, repT_str rv, c, k _ _ _ (Grow.refl _ _) w3 (.str _)⟩)
    · cases hz
  · cases hz

/-! ### built-ins -/
theorem paired1 {α β : Type} {F : α → β → Prop} {xs : List α} {y : β} (h : Paired F xs [y]) : ∃ x, xs = [x] ∧ F x y := by
  cases h with
  | cons a b => cases b; exact ⟨_, rfl, a⟩
theorem paired2 {α β : Type} {F : α → β → Prop} {xs : List α} {y y' : β} (h : Paired F xs [y, y']) : ∃ x x', xs = [x, x'] ∧ F x y ∧ F x' y' := by
  cases h with
  | cons a b =>
    obtain ⟨x', rfl, h⟩ := paired1 b
    exact ⟨_, _, rfl, a, h⟩
theorem RepP.length : ∀ {vs : List (D × V)} {ds : List (D × D)}, RepP K mg r Hs vs ds → vs.length = ds.length
  | _, _, .nil => rfl
  | _, _, .cons _ q => by simp only [List.length_cons, RepP.length q]
def lenD : List D → Option D
  | [.lst xs] => some (.int xs.length)
  | [.tup xs] => some (.int xs.length)
  | [.scr xs] => some (.int xs.length)
  | [.str s] => if s.length ≤ sizeLine then some (.int s.length) else none
  | _ => none
theorem cs_len : CallS K mg r (fun xs H Q => (∃ p ys, xs = [.ref p] ∧ (SqL K H p ys ∨ SqT K H p ys) ∧ Q (.int ys.length) H) ∨ ∃ z, xs = [.str z] ∧ z.length ≤ sizeLine ∧ Q (.int z.length) H) lenD := by
  intro Hs H tp xs ds z Q w rx hz k
  unfold lenD at hz
  split at hz
  · cases hz
    obtain ⟨x, rfl, h⟩ := paired1 rx
    obtain ⟨p, vs, rfl, h1, h2⟩ := repT_lst w h
    refine .inl ⟨p, vs, rfl, .inl (.of h1), ?_⟩
    rw [h2.length]
    exact k _ _ _ (Grow.refl _ _) w (.int _)
  · cases hz
    obtain ⟨x, rfl, h⟩ := paired1 rx
    obtain ⟨p, vs, rfl, _, h1, h2⟩ := repT_tup w h
    refine .inl ⟨p, vs, rfl, .inr (.of h1), ?_⟩
    rw [h2.length]
    exact k _ _ _ (Grow.refl _ _) w (.int _)
  · cases hz
    obtain ⟨x, rfl, h⟩ := paired1 rx
    obtain ⟨p, rfl, h1⟩ := repT_scr w h
    refine .inl ⟨p, _, rfl, .inl h1, ?_⟩
    rw [List.length_map]
    exact k _ _ _ (Grow.refl _ _) w (.int _)
  · split at hz
    · rename_i c
      cases hz
      obtain ⟨x, rfl, h⟩ := paired1 rx
      exact .inr ⟨_, by rw [repT_str h], c, k _ _ _ (Grow.refl _ _) w (.int _)⟩
    · cases hz
  · cases hz
theorem cr_len : CallR X (.builtin "len") (fun xs H Q => (∃ p ys, xs = [.ref p] ∧ (SqL X.K H p ys ∨ SqT X.K H p ys) ∧ Q (.int ys.length) H) ∨ ∃ z, xs = [.str z] ∧ z.length ≤ sizeLine ∧ Q (.int z.length) H) := call_len_seq.or call_len_str
def intD : List D → Option D
  | [.int i] => some (.int i)
  | [.bl b] => some (.int (if b then 1 else 0))
  | _ => none
theorem cs_int : CallS K mg r (fun xs H Q => (∃ i, xs = [.int i] ∧ Q (.int i) H) ∨ ∃ k, xs = [.bl k] ∧ Q (.int (if k then 1 else 0)) H) intD := by
  intro Hs H tp xs ds z Q w rx hz k
  unfold intD at hz
  split at hz
  · cases hz
    obtain ⟨x, rfl, h⟩ := paired1 rx
    exact .inl ⟨_, by rw [repT_int h], k _ _ _ (Grow.refl _ _) w (.int _)⟩
  · cases hz
    obtain ⟨x, rfl, h⟩ := paired1 rx
    exact .inr ⟨_, by rw [repT_bl h], k _ _ _ (Grow.refl _ _) w (.int _)⟩
  · cases hz
def tupleD : List D → Option D
  | [.lst xs] => some (.tup xs)
  | [.tup xs] => some (.tup xs)
  | _ => none
theorem cs_tuple : CallS K mg r (fun xs H Q => ∃ p ys, xs = [.ref p] ∧ ((SqL K H p ys ∧ ∀ l, H l = none → Q (.ref l) (upd H l (.tup ys))) ∨ (SqT K H p ys ∧ Q (.ref p) H))) tupleD := by
  intro Hs H tp xs ds z Q w rx hz k
  unfold tupleD at hz
  split at hz
  · cases hz
    obtain ⟨x, rfl, h⟩ := paired1 rx
    obtain ⟨p, vs, rfl, h1, h2⟩ := repT_lst w h
    refine ⟨p, vs, rfl, .inl ⟨.of h1, fun q hq => ?_⟩⟩
    obtain ⟨g', w'⟩ := w.alloc (o := .tup vs) hq
    exact k _ _ _ g' w' (.tup upd_same (h2.mono g'.ex))
  · cases hz
    obtain ⟨x, rfl, h⟩ := paired1 rx
    obtain ⟨p, vs, rfl, h0, h1, h2⟩ := repT_tup w h
    exact ⟨p, vs, rfl, .inr ⟨.of h1, k _ _ _ (Grow.refl _ _) w (.tup h0 h2)⟩⟩
  · cases hz
def listD : List D → Option D
  | [.lst xs] => some (.lst xs)
  | [.tup xs] => some (.lst xs)
  | [.scr ns] => some (.lst (ns.map .int))
  | _ => none
theorem cs_list : CallS K mg r (fun xs H Q => ∃ p ys, xs = [.ref p] ∧ (SqL K H p ys ∨ SqT K H p ys) ∧ ∀ l, H l = none → Q (.ref l) (upd H l (.lst ys))) listD := by
  intro Hs H tp xs ds z Q w rx hz k
  unfold listD at hz
  split at hz
  · cases hz
    obtain ⟨x, rfl, h⟩ := paired1 rx
    obtain ⟨p, vs, rfl, h1, h2⟩ := repT_lst w h
    refine ⟨p, vs, rfl, .inl (.of h1), fun q hq => ?_⟩
    obtain ⟨g', w'⟩ := w.alloc (o := .lst vs) hq
    exact k _ _ _ g' w' (.lst upd_same (h2.mono g'.ex))
  · cases hz
    obtain ⟨x, rfl, h⟩ := paired1 rx
    obtain ⟨p, vs, rfl, h0, h1, h2⟩ := repT_tup w h
    refine ⟨p, vs, rfl, .inr (.of h1), fun q hq => ?_⟩
    obtain ⟨g', w'⟩ := w.alloc (o := .lst vs) hq
    exact k _ _ _ g' w' (.lst upd_same (h2.mono g'.ex))
  · cases hz
    obtain ⟨x, rfl, h⟩ := paired1 rx
    obtain ⟨p, rfl, h1⟩ := repT_scr w h
    refine ⟨p, _, rfl, .inl h1, fun q hq => ?_⟩
    obtain ⟨g', w'⟩ := w.alloc (o := .lst (List.map V.int _)) hq
    exact k _ _ _ g' w' (.lst upd_same (RepDs.ints _))
  · cases hz
def unB : List D → Option (List Bool)
  | [] => some []
  | .bl b :: r => (unB r).map (b :: ·)
  | _ => none
def unI : List D → Option (List Int)
  | [] => some []
  | .int b :: r => (unI r).map (b :: ·)
  | _ => none
def unS : List D → Option (List Str)
  | [] => some []
  | .str b :: r => (unS r).map (b :: ·)
  | _ => none
theorem unB_ok : ∀ {ds : List D} {bs : List Bool}, unB ds = some bs → ds = bs.map .bl
  | [], _, h => by cases h; rfl
  | d :: ds, bs, h => by
    cases d with
    | bl b =>
      obtain ⟨cs, h1, h2⟩ := Option.map_eq_some_iff.mp (show (unB ds).map (b :: ·) = some bs from h)
      subst h2
      rw [unB_ok h1]; rfl
    | _ => cases h
theorem unI_ok : ∀ {ds : List D} {bs : List Int}, unI ds = some bs → ds = bs.map .int
  | [], _, h => by cases h; rfl
  | d :: ds, bs, h => by
    cases d with
    | int b =>
      obtain ⟨cs, h1, h2⟩ := Option.map_eq_some_iff.mp (show (unI ds).map (b :: ·) = some bs from h)
      subst h2
      rw [unI_ok h1]; rfl
    | _ => cases h
theorem unS_ok : ∀ {ds : List D} {bs : List Str}, unS ds = some bs → ds = bs.map .str
  | [], _, h => by cases h; rfl
  | d :: ds, bs, h => by
    cases d with
    | str b =>
      obtain ⟨cs, h1, h2⟩ := Option.map_eq_some_iff.mp (show (unS ds).map (b :: ·) = some bs from h)
      subst h2
      rw [unS_ok h1]; rfl
    | _ => cases h
@[simp] theorem unB_map : ∀ bs : List Bool, unB (bs.map .bl) = some bs
  | [] => rfl
  | b :: bs => by show (unB (bs.map .bl)).map (b :: ·) = _; rw [unB_map bs]; rfl
@[simp] theorem unI_map : ∀ bs : List Int, unI (bs.map .int) = some bs
  | [] => rfl
  | b :: bs => by show (unI (bs.map .int)).map (b :: ·) = _; rw [unI_map bs]; rfl
@[simp] theorem unS_map : ∀ bs : List Str, unS (bs.map .str) = some bs
  | [] => rfl
  | b :: bs => by show (unS (bs.map .str)).map (b :: ·) = _; rw [unS_map bs]; rfl
def allD : List D → Option D
  | [.lst xs] => (unB xs).map fun bs => .bl (bs.all id)
  | _ => none
def anyD : List D → Option D
  | [.lst xs] => (unB xs).map fun bs => .bl (bs.any id)
  | _ => none
def sumD : List D → Option D
  | [.lst xs] => (unI xs).map fun bs => .int bs.sum
  | _ => none
theorem lst_typed {α : Type} {f : α → D} {g : α → V} (hfg : ∀ {Hs : Hp} {ns : List α} {vs : List V}, RepDs K mg r Hs vs (ns.map f) → vs = ns.map g) {v : V} {ns : List α} (w : Wd K mg r Hs H tp) (h : RepT K mg r Hs H v (.lst (ns.map f))) : ∃ p, v = .ref p ∧ H p = some (.lst (ns.map g)) := by
  obtain ⟨p, vs, rfl, h1, h2⟩ := repT_lst w h
  rw [hfg h2] at h1
  exact ⟨p, rfl, h1⟩
theorem cs_all : CallS K mg r (rAll K) allD := by
  intro Hs H tp xs ds z Q w rx hz k
  unfold allD at hz
  split at hz
  · obtain ⟨bs, h1, h2⟩ := Option.map_eq_some_iff.mp hz
    subst h2
    obtain ⟨x, rfl, h⟩ := paired1 rx
    rw [unB_ok h1] at h
    obtain ⟨p, rfl, h3⟩ := lst_typed RepDs.bls_of w h
    exact ⟨p, bs, rfl, .of h3, k _ _ _ (Grow.refl _ _) w (.bl _)⟩
  · cases hz
theorem cs_any : CallS K mg r (rAny K) anyD := by
  intro Hs H tp xs ds z Q w rx hz k
  unfold anyD at hz
  split at hz
  · obtain ⟨bs, h1, h2⟩ := Option.map_eq_some_iff.mp hz
    subst h2
    obtain ⟨x, rfl, h⟩ := paired1 rx
    rw [unB_ok h1] at h
    obtain ⟨p, rfl, h3⟩ := lst_typed RepDs.bls_of w h
    exact ⟨p, bs, rfl, .of h3, k _ _ _ (Grow.refl _ _) w (.bl _)⟩
  · cases hz
theorem cs_sum : CallS K mg r (rSum K) sumD := by
  intro Hs H tp xs ds z Q w rx hz k
  unfold sumD at hz
  split at hz
  · obtain ⟨bs, h1, h2⟩ := Option.map_eq_some_iff.mp hz
    subst h2
    obtain ⟨x, rfl, h⟩ := paired1 rx
    rw [unI_ok h1] at h
    obtain ⟨p, rfl, h3⟩ := lst_typed RepDs.ints_of w h
    exact ⟨p, bs, rfl, .of h3, k _ _ _ (Grow.refl _ _) w (.int _)⟩
  · cases hz

/-! isinstance -/
def tyN : D → Option String
  | .non => some "NoneType"
  | .bl _ => some "bool"
  | .int _ => some "int"
  | .str _ => some "str"
  | .tup _ => some "tuple"
  | .lst _ => some "list"
  | .dic _ => some "dict"
  | .dct _ => some "dict"
  | _ => none
def unT : List D → Option (List String)
  | [] => some []
  | .ty n :: r => (unT r).map (n :: ·)
  | _ => none
theorem unT_ok : ∀ {ds : List D} {bs : List String}, unT ds = some bs → ds = bs.map .ty
  | [], _, h => by cases h; rfl
  | d :: ds, bs, h => by
    cases d with
    | ty b =>
      obtain ⟨cs, h1, h2⟩ := Option.map_eq_some_iff.mp (show (unT ds).map (b :: ·) = some bs from h)
      subst h2
      rw [unT_ok h1]; rfl
    | _ => cases h
theorem RepDs.tys_of : ∀ {ns : List String} {vs : List V}, RepDs K mg r Hs vs (ns.map D.ty) → vs = ns.map V.ty
  | [], _, .nil => rfl
  | n :: ns, _, .cons h q => by cases h; rw [RepDs.tys_of q]; rfl
def kitBs (a : String) : List String → Option Bool
  | [] => some false
  | b :: bs => match kitB a b, kitBs a bs with
    | some true, some _ => some true
    | some false, some c => some c
    | _, _ => none
theorem kitBs_ok {a : String} : ∀ {bs : List String} {c : Bool}, kitBs a bs = some c → PySem.W.kitAny K (.type a) (bs.map Value.type) = some c
  | [], c, h => by cases h; exact kitAny_nil
  | b :: bs, c, h => by
    have h : (match kitB a b, kitBs a bs with
      | some true, some _ => some true
      | some false, some c => some c
      | _, _ => none) = some c := h
    cases e1 : kitB a b with
    | none => rw [e1] at h; cases h
    | some x =>
      cases e2 : kitBs a bs with
      | none => rw [e1, e2] at h; cases x <;> cases h
      | some y =>
        rw [e1, e2] at h
        refine kitAny_cons (b := x) (kit_ty e1) (fun hb => ?_) (fun hb => ?_)
        · subst hb; cases h; exact kitBs_ok e2
        · subst hb; cases h; rfl
def isiD : List D → Option D
  | [d, .ty n] => (tyN d).bind fun t => (kitB t n).map .bl
  | [d, .tup ds] => (tyN d).bind fun t => (unT ds).bind fun ns => (kitBs t ns).map .bl
  | _ => none
theorem tyx_of {v : V} {d : D} {t : String} (w : Wd K mg r Hs H tp) (h : RepT K mg r Hs H v d) (e : tyN d = some t) : TyX K H v (.type t) := by
  cases d with
  | non => cases e; rw [repT_non h]; exact .base .non
  | bl b => cases e; rw [repT_bl h]; exact .base (.bl _)
  | int b => cases e; rw [repT_int h]; exact .base (.int _)
  | str b => cases e; rw [repT_str h]; exact .base (.str _)
  | tup ds => cases e; obtain ⟨p, vs, rfl, _, h1, h2⟩ := repT_tup w h; exact .base (.tup h1)
  | lst ds => cases e; obtain ⟨p, vs, rfl, h1, h2⟩ := repT_lst w h; exact .base (.lst h1)
  | dic ds =>
    cases e
    rcases h with h | ⟨p, rfl, _, ⟨kvs, h1, _⟩⟩
    · cases h with
      | dicK h1 _ => exact .base (.dK (w.sub _ _ h1))
    · exact .base (.dK h1)
  | dct ds =>
    cases e
    rcases h with h | ⟨p, rfl, _, ⟨kvs, h1, _⟩⟩
    · cases h with
      | dicT h1 _ => exact .base (.dT (w.sub _ _ h1))
    · exact .base (.dT h1)
  | _ => cases e
theorem cls_all : ∀ ns : List String, Paired ClsV (ns.map V.ty) (ns.map Value.type)
  | [] => .nil
  | n :: ns => .cons (.ty n) (cls_all ns)
theorem cs_isi : CallS K mg r (fun x H Q => rIsi K x H Q ∨ rIsiT K x H Q) isiD := by
  intro Hs H tp xs ds z Q w rx hz k
  unfold isiD at hz
  split at hz
  · obtain ⟨t, h1, h2⟩ := Option.bind_eq_some_iff.mp hz
    obtain ⟨b, h3, h4⟩ := Option.map_eq_some_iff.mp h2
    subst h4
    obtain ⟨x, x', rfl, r1, r2⟩ := paired2 rx
    rcases r2 with r2 | ⟨_, _, _, r2⟩
    · cases r2
      exact .inl ⟨x, _, _, _, b, rfl, .ty _, tyx_of w r1 h1, kit_ty h3, k _ _ _ (Grow.refl _ _) w (.bl _)⟩
    · exact r2.elim
  · obtain ⟨t, h1, h2⟩ := Option.bind_eq_some_iff.mp hz
    obtain ⟨ns, h3, h4⟩ := Option.bind_eq_some_iff.mp h2
    obtain ⟨b, h5, h6⟩ := Option.map_eq_some_iff.mp h4
    subst h6
    obtain ⟨x, x', rfl, r1, r2⟩ := paired2 rx
    obtain ⟨p, vs, rfl, _, g1, g2⟩ := repT_tup w r2
    rw [unT_ok h3] at g2
    rw [RepDs.tys_of g2] at g1
    exact .inr ⟨x, p, _, _, _, b, rfl, g1, cls_all ns, tyx_of w r1 h1, kitBs_ok h5, k _ _ _ (Grow.refl _ _) w (.bl _)⟩
  · cases hz
theorem cr_isi : CallR X (.builtin "isinstance") (fun x H Q => rIsi X.K x H Q ∨ rIsiT X.K x H Q) := call_isi.or call_isiT
theorem ge_ty {x : Str} {T : String} {pos : Pos} (hm : X.mg x = none) (hv : bootBuiltins x = some (.type T) := by decide +kernel) (hg : Gl X x := by rfl) (hn : x ≠ "__name__" := by decide) (hd : (x == ("__debug__" : Str)) = false := by decide) : GE K mg r X O E (.Name x pos) (tC (.ty T)) (cE (.ty T)) :=
  ge_c (v := .ty T) (pe_bltn hg hm hv rfl hn hd) fun _ => .ty T

/-! ### the terms by names -/
variable {a b c : Expr} {pos : Pos} {ta tb tc : TE} {ma mb mc : SE D}
theorem ge_add (ha : GO K mg r X O E a ta ma) (hb : GO K mg r X O E b tb mb) (hK : X.K = K := by rfl) : GE K mg r X O E (.BinOp a .Add b pos) (tOp (rAddD K) ta tb) (binE addD ma mb) := by subst hK; exact ge_op opr_add ops_add ha hb
theorem ge_sub (ha : GO K mg r X O E a ta ma) (hb : GO K mg r X O E b tb mb) : GE K mg r X O E (.BinOp a .Sub b pos) (tOp (rI0 fun i j => .int (i - j)) ta tb) (binE subD ma mb) := ge_op op_sub ops_sub ha hb
theorem ge_mul (ha : GO K mg r X O E a ta ma) (hb : GO K mg r X O E b tb mb) (hK : X.K = K := by rfl) : GE K mg r X O E (.BinOp a .Mult b pos) (tOp (rMulD K) ta tb) (binE mulD ma mb) := by subst hK; exact ge_op opr_mul ops_mul ha hb
theorem ge_fdiv (ha : GO K mg r X O E a ta ma) (hb : GO K mg r X O E b tb mb) : GE K mg r X O E (.BinOp a .FloorDiv b pos) (tOp (rI CDivW fun i j => .int (i / j)) ta tb) (binE fdivD ma mb) := ge_op op_fdivW ops_fdiv ha hb
theorem ge_mod (ha : GO K mg r X O E a ta ma) (hb : GO K mg r X O E b tb mb) : GE K mg r X O E (.BinOp a .Mod b pos) (tOp (rI (fun _ j => 0 < j) fun i j => .int (i % j)) ta tb) (binE modD ma mb) := ge_op op_mod ops_mod ha hb
theorem ge_pow (ha : GO K mg r X O E a ta ma) (hb : GO K mg r X O E b tb mb) : GE K mg r X O E (.BinOp a .Pow b pos) (tOp (rI CPow fun i j => .int (i ^ j.toNat)) ta tb) (binE powD ma mb) := ge_op op_pow ops_pow ha hb
theorem ge_shl (ha : GO K mg r X O E a ta ma) (hb : GO K mg r X O E b tb mb) : GE K mg r X O E (.BinOp a .LShift b pos) (tOp (rI CPow fun i j => .int (i * 2 ^ j.toNat)) ta tb) (binE shlD ma mb) := ge_op op_shl ops_shl ha hb
theorem ge_shr (ha : GO K mg r X O E a ta ma) (hb : GO K mg r X O E b tb mb) : GE K mg r X O E (.BinOp a .RShift b pos) (tOp (rI (fun _ j => 0 ≤ j) fun i j => .int (i / 2 ^ j.toNat)) ta tb) (binE shrD ma mb) := ge_op op_shr ops_shr ha hb
theorem ge_band (ha : GO K mg r X O E a ta ma) (hb : GO K mg r X O E b tb mb) : GE K mg r X O E (.BinOp a .BitAnd b pos) (tOp (rI0 fun i j => .int (Builtin.bitAnd i j)) ta tb) (binE bandD ma mb) := ge_op op_and ops_band ha hb
theorem ge_neg (ha : GO K mg r X O E a ta ma) : GE K mg r X O E (.UnaryOp .USub a pos) (tUn (rU fun i => .int (-i)) ta) (unE negD ma) := ge_un un_neg uns_neg ha
abbrev rLtD : R2 := fun x y H Q => (∃ i j, x = .int i ∧ y = .int j ∧ Q (.bl (decide (i < j))) H) ∨ (∃ i j, x = .str i ∧ y = .str j ∧ Q (.bl (decide (i.cps.toList < j.cps.toList))) H)
abbrev rLeD : R2 := rI0 fun i j => .bl (decide (i ≤ j))
abbrev rGtD : R2 := rI0 fun i j => .bl (decide (j < i))
abbrev rGeD : R2 := rI0 fun i j => .bl (decide (j ≤ i))
theorem ge_lt (ha : GO K mg r X O E a ta ma) (hb : GO K mg r X O E b tb mb) : GE K mg r X O E (.Compare a [.Lt] [b] pos) (tOp rLtD ta tb) (binE ltD ma mb) := ge_cmp opr_lt ops_lt ha hb (nomark _)
theorem ge_le (ha : GO K mg r X O E a ta ma) (hb : GO K mg r X O E b tb mb) : GE K mg r X O E (.Compare a [.LtE] [b] pos) (tOp rLeD ta tb) (binE leD ma mb) := ge_cmp op_le ops_le ha hb (nomark _)
theorem ge_gt (ha : GO K mg r X O E a ta ma) (hb : GO K mg r X O E b tb mb) : GE K mg r X O E (.Compare a [.Gt] [b] pos) (tOp rGtD ta tb) (binE gtD ma mb) := ge_cmp op_gt ops_gt ha hb (nomark _)
theorem ge_ge (ha : GO K mg r X O E a ta ma) (hb : GO K mg r X O E b tb mb) : GE K mg r X O E (.Compare a [.GtE] [b] pos) (tOp rGeD ta tb) (binE geD ma mb) := ge_cmp op_ge ops_ge ha hb (nomark _)
theorem ge_eq (hu : X.A.units + 64 < cLine) (ha : GO K mg r X O E a ta ma) (hb : GO K mg r X O E b tb mb) (hK : X.K = K := by rfl) : GE K mg r X O E (.Compare a [.Eq] [b] pos) (tOp (rEqP K) ta tb) (binE eqD ma mb) := by subst hK; exact ge_cmp (op_eqP hu) ops_eq ha hb (nomark _)
theorem ge_ne (hu : X.A.units + 64 < cLine) (ha : GO K mg r X O E a ta ma) (hb : GO K mg r X O E b tb mb) (hK : X.K = K := by rfl) : GE K mg r X O E (.Compare a [.NotEq] [b] pos) (tOp (rNeP K) ta tb) (binE neD ma mb) := by subst hK; exact ge_cmp (op_neP hu) ops_ne ha hb (nomark _)
theorem ge_in (hu : X.A.units + 64 < cLine) (ha : GO K mg r X O E a ta ma) (hb : GO K mg r X O E b tb mb) (hm : behindInMarks .In b = false := by rfl) (hK : X.K = K := by rfl) : GE K mg r X O E (.Compare a [.In] [b] pos) (tOp (rInP K false) ta tb) (binE inD ma mb) := by subst hK; exact ge_cmp (op_inP hu) ops_in ha hb hm
theorem ge_notIn (hu : X.A.units + 64 < cLine) (ha : GO K mg r X O E a ta ma) (hb : GO K mg r X O E b tb mb) (hm : behindInMarks .NotIn b = false := by rfl) (hK : X.K = K := by rfl) : GE K mg r X O E (.Compare a [.NotIn] [b] pos) (tOp (rInP K true) ta tb) (binE notInD ma mb) := by subst hK; exact ge_cmp (op_notInP hu) ops_notIn ha hb hm
abbrev rIsD : R2 := fun x y H Q => (y = .non ∧ Q (.bl (decide (x = .non))) H) ∨ ∃ a b, x = .bl a ∧ y = .bl b ∧ Q (.bl (decide (a = b))) H
abbrev rIsNotD : R2 := fun x y H Q => (y = .non ∧ Q (.bl (!decide (x = .non))) H) ∨ ∃ a b, x = .bl a ∧ y = .bl b ∧ Q (.bl (!decide (a = b))) H
theorem ge_is (ha : GO K mg r X O E a ta ma) (hb : GO K mg r X O E b tb mb) : GE K mg r X O E (.Compare a [.Is] [b] pos) (tOp rIsD ta tb) (binE isNoneD ma mb) := ge_cmp opr_is ops_is ha hb (nomark _)
theorem ge_isNot (ha : GO K mg r X O E a ta ma) (hb : GO K mg r X O E b tb mb) : GE K mg r X O E (.Compare a [.IsNot] [b] pos) (tOp rIsNotD ta tb) (binE isNotNoneD ma mb) := ge_cmp opr_isNot ops_isNot ha hb (nomark _)
theorem ge_sub1 (ha : GO K mg r X O E a ta ma) (hb : GO K mg r X O E b tb mb) (hs : PlainIx b := by exact fun _ _ => rfl) (hK : X.K = K := by rfl) : GE K mg r X O E (.Subscript a b pos) (tOp (rIx K) ta tb) (binE ixD ma mb) := by subst hK; exact ge_ix ix_seq ops_ix ha hb hs
variable {ts : TA} {ms : SE (List D)} {p : Pos} {es : List Expr} {e : Expr}
abbrev rLenD (K : PySem.W.Frag) : List V → Hp → VK → Prop := fun xs H Q => (∃ p ys, xs = [.ref p] ∧ (SqL K H p ys ∨ SqT K H p ys) ∧ Q (.int ys.length) H) ∨ ∃ z, xs = [.str z] ∧ z.length ≤ sizeLine ∧ Q (.int z.length) H
theorem ge_len (hm : X.mg "len" = none) (ha : GAO K mg r X O E [e] ts ms) (hg : Gl X "len" := by rfl) (he : starEach [e] X.env = (false, eval e X.env) :: starEach [] X.env := by rfl) (hpl : (backTo pos (starEach [] X.env)).any (·.1) = false := by rfl) (hK : X.K = K := by rfl) : GE K mg r X O E (.Call (.Name "len" p) [e] [] pos) (tCB (rLenD K) ts) (callB lenD ms) := by
  subst hK; exact ge_callB (R := rLenD X.K) cr_len cs_len hm ha hg PySem.boot_len (by decide) (by decide) he hpl
abbrev rIntD : List V → Hp → VK → Prop := fun xs H Q => (∃ i, xs = [.int i] ∧ Q (.int i) H) ∨ ∃ k, xs = [.bl k] ∧ Q (.int (if k then 1 else 0)) H
theorem ge_int1 (hm : X.mg "int" = none) (ha : GAO K mg r X O E [e] ts ms) (hg : Gl X "int" := by rfl) (he : starEach [e] X.env = (false, eval e X.env) :: starEach [] X.env := by rfl) (hpl : (backTo pos (starEach [] X.env)).any (·.1) = false := by rfl) : GE K mg r X O E (.Call (.Name "int" p) [e] [] pos) (tCB rIntD ts) (callB intD ms) :=
  ge_callTy (R := rIntD) call_int1 cs_int hm ha hg (by decide +kernel) (by decide) (by decide) he hpl
abbrev rTupleD (K : PySem.W.Frag) : List V → Hp → VK → Prop := fun xs H Q => ∃ p ys, xs = [.ref p] ∧ ((SqL K H p ys ∧ ∀ l, H l = none → Q (.ref l) (upd H l (.tup ys))) ∨ (SqT K H p ys ∧ Q (.ref p) H))
theorem ge_tuple (hm : X.mg "tuple" = none) (ha : GAO K mg r X O E [e] ts ms) (hg : Gl X "tuple" := by rfl) (he : starEach [e] X.env = (false, eval e X.env) :: starEach [] X.env := by rfl) (hpl : (backTo pos (starEach [] X.env)).any (·.1) = false := by rfl) (hK : X.K = K := by rfl) : GE K mg r X O E (.Call (.Name "tuple" p) [e] [] pos) (tCB (rTupleD K) ts) (callB tupleD ms) := by
  subst hK; exact ge_callTy (R := rTupleD X.K) call_tuple_of cs_tuple hm ha hg (by decide +kernel) (by decide) (by decide) he hpl
abbrev rListD1 (K : PySem.W.Frag) : List V → Hp → VK → Prop := fun xs H Q => ∃ p ys, xs = [.ref p] ∧ (SqL K H p ys ∨ SqT K H p ys) ∧ ∀ l, H l = none → Q (.ref l) (upd H l (.lst ys))
theorem ge_list1 (hm : X.mg "list" = none) (ha : GAO K mg r X O E [e] ts ms) (hg : Gl X "list" := by rfl) (he : starEach [e] X.env = (false, eval e X.env) :: starEach [] X.env := by rfl) (hpl : (backTo pos (starEach [] X.env)).any (·.1) = false := by rfl) (hK : X.K = K := by rfl) : GE K mg r X O E (.Call (.Name "list" p) [e] [] pos) (tCB (rListD1 K) ts) (callB listD ms) := by
  subst hK; exact ge_callTy (R := rListD1 X.K) call_list_of cs_list hm ha hg (by decide +kernel) (by decide) (by decide) he hpl
theorem ge_all (hc : X.calm = true) (hm : X.mg "all" = none) (ha : GAO K mg r X O E [e] ts ms) (hg : Gl X "all" := by rfl) (he : starEach [e] X.env = (false, eval e X.env) :: starEach [] X.env := by rfl) (hpl : (backTo pos (starEach [] X.env)).any (·.1) = false := by rfl) (hK : X.K = K := by rfl) : GE K mg r X O E (.Call (.Name "all" p) [e] [] pos) (tCB (rAll K) ts) (callB allD ms) := by
  subst hK; exact ge_callB (cr_all hc) cs_all hm ha hg (by decide +kernel) (by decide) (by decide) he hpl
theorem ge_any (hc : X.calm = true) (hm : X.mg "any" = none) (ha : GAO K mg r X O E [e] ts ms) (hg : Gl X "any" := by rfl) (he : starEach [e] X.env = (false, eval e X.env) :: starEach [] X.env := by rfl) (hpl : (backTo pos (starEach [] X.env)).any (·.1) = false := by rfl) (hK : X.K = K := by rfl) : GE K mg r X O E (.Call (.Name "any" p) [e] [] pos) (tCB (rAny K) ts) (callB anyD ms) := by
  subst hK; exact ge_callB (cr_any hc) cs_any hm ha hg (by decide +kernel) (by decide) (by decide) he hpl
theorem ge_sum (hc : X.calm = true) (hm : X.mg "sum" = none) (ha : GAO K mg r X O E [e] ts ms) (hg : Gl X "sum" := by rfl) (he : starEach [e] X.env = (false, eval e X.env) :: starEach [] X.env := by rfl) (hpl : (backTo pos (starEach [] X.env)).any (·.1) = false := by rfl) (hK : X.K = K := by rfl) : GE K mg r X O E (.Call (.Name "sum" p) [e] [] pos) (tCB (rSum K) ts) (callB sumD ms) := by
  subst hK; exact ge_callB (cr_sum hc) cs_sum hm ha hg (by decide +kernel) (by decide) (by decide) he hpl
abbrev rIsiD (K : PySem.W.Frag) : List V → Hp → VK → Prop := fun x H Q => rIsi K x H Q ∨ rIsiT K x H Q
theorem ge_isi {e2 : Expr} (hm : X.mg "isinstance" = none) (ha : GAO K mg r X O E [e, e2] ts ms) (hg : Gl X "isinstance" := by rfl) (he : starEach [e, e2] X.env = (false, eval e X.env) :: starEach [e2] X.env := by rfl) (hpl : (backTo pos (starEach [e2] X.env)).any (·.1) = false := by rfl) (hK : X.K = K := by rfl) : GE K mg r X O E (.Call (.Name "isinstance" p) [e, e2] [] pos) (tCB (rIsiD K) ts) (callB isiD ms) := by
  subst hK; exact ge_callB (R := rIsiD X.K) cr_isi cs_isi hm ha hg (by decide +kernel) (by decide) (by decide) he hpl
end
end G

set_option maxHeartbeats 1000000
/-! G3: statements, loops, comprehensions, defs over data. -/
namespace G
open PySem PySem.Spec PyProof.Rows L2

inductive RS where
  | nx (env : DEnv) (tp : List D)
  | rt (d : D) (tp : List D)
  | bk (env : DEnv) (tp : List D)
  | ct (env : DEnv) (tp : List D)
  | exn (c : Str) (fs : List (Str × D)) (tp : List D)
  | stuck
abbrev SS := DEnv → List D → RS
def RE.bindS {α : Type} (x : RE α) (k : α → List D → RS) : RS := match x with
  | .ok a tp => k a tp
  | .exn c fs tp => .exn c fs tp
  | .stuck => .stuck
@[simp] theorem RE.bindS_ok {α : Type} (a : α) (tp : List D) (k : α → List D → RS) : (RE.ok a tp).bindS k = k a tp := rfl
@[simp] theorem RE.bindS_exn {α : Type} (c : Str) (fs : List (Str × D)) (tp : List D) (k : α → List D → RS) : (RE.exn c fs tp : RE α).bindS k = .exn c fs tp := rfl
@[simp] theorem RE.bindS_stuck {α : Type} (k : α → List D → RS) : (RE.stuck : RE α).bindS k = .stuck := rfl

/-! ### what the world's parts bear -/
section
variable {K : PySem.W.Frag} {mg : Str → Option Value} {r : Addr} {Hs0 H0 Hs Hs' H H' : Hp} {O O' : List Nat} {σ : L2.St} {env : DEnv} {tp tp' : List D} {p : Addr} {d : D} {v : V}
theorem get_set {α : Type} {xs : List (Option α)} {i j : Nat} {v : α} {w : α} (h : (xs.set i (some v))[j]? = some (some w)) : (j = i ∧ v = w ∧ i < xs.length) ∨ (j ≠ i ∧ xs[j]? = some (some w)) := by
  by_cases q : j = i
  · subst q
    rw [List.getElem?_set] at h
    simp only [if_true] at h
    split at h
    · cases h; exact .inl ⟨rfl, rfl, by assumption⟩
    · cases h
  · rw [List.getElem?_set_ne (Ne.symm q)] at h
    exact .inr ⟨q, h⟩
theorem set_get {α : Type} {xs : List (Option α)} {i : Nat} {v : α} (h : i < xs.length) : (xs.set i (some v))[i]? = some (some v) := by
  rw [List.getElem?_set_self h]
theorem set_gne {α : Type} {xs : List (Option α)} {i j : Nat} {v : Option α} (h : j ≠ i) : (xs.set i v)[j]? = xs[j]? := List.getElem?_set_ne (Ne.symm h)
/-- some owned objects come to stand still -/
theorem Rel.freeze (R : Rel K mg r O Hs0 H0 Hs H σ env tp) (h : ∀ i ∈ O', i ∈ O) : ∃ Hs', Same Hs Hs' ∧ Rel K mg r O' Hs0 H0 Hs' H σ env tp := by
  classical
  let fz : Addr → Prop := fun b => ∃ i, i ∈ O ∧ i ∉ O' ∧ σ[i]? = some (some (.ref b))
  let Hs' : Hp := fun b => if fz b then H b else Hs b
  have fzn : ∀ b, fz b → Hs b = none ∧ H0 b = none ∧ b ≠ r := fun b ⟨i, h1, _, h3⟩ => by
    obtain ⟨d, p, _, b2, c, c0, n, _⟩ := R.own i h1
    rw [h3] at b2; cases b2
    exact ⟨c, c0, n⟩
  have e : Same Hs Hs' := fun b o q => by
    show (if fz b then H b else Hs b) = some o
    by_cases z : fz b
    · rw [(fzn b z).1] at q; cases q
    · rw [if_neg z]; exact q
  have sub : Same Hs' H := fun b o q => by
    have q : (if fz b then H b else Hs b) = some o := q
    by_cases z : fz b
    · rw [if_pos z] at q; exact q
    · rw [if_neg z] at q; exact R.wd.sub b o q
  have tn : Hs' r = none := by
    show (if fz r then H r else Hs r) = none
    rw [if_neg fun z => (fzn r z).2.2 rfl]; exact R.wd.tn
  refine ⟨Hs', e, ⟨⟨sub, tn, ?_⟩, ⟨R.gr.keep, R.gr.ex.trans e, fun b o n q => ?_⟩, R.len, fun i d a n => ?_, fun i hi => ?_, fun i j p hi hj a b => R.dis i j p (h i hi) (h j hj) a b⟩⟩
  · obtain ⟨vs, a, b⟩ := R.wd.tH
    exact ⟨vs, a, b.mono e⟩
  · have q : (if fz b then H b else Hs b) = some o := q
    by_cases z : fz b
    · exact .inr (fzn b z).2.1
    · rw [if_neg z] at q; exact R.gr.new b o n q
  · by_cases m : i ∈ O
    · obtain ⟨d', p, b1, b2, c, c0, ne, oa⟩ := R.own i m
      rw [a] at b1; cases b1
      refine ⟨_, b2, oa.rep e fun o q => ?_⟩
      show (if fz p then H p else Hs p) = some o
      rw [if_pos ⟨i, m, n, b2⟩]; exact q
    · obtain ⟨v, b1, b2⟩ := R.vars i d a m
      exact ⟨v, b1, b2.mono e⟩
  · obtain ⟨d', p, b1, b2, c, c0, ne, oa⟩ := R.own i (h i hi)
    refine ⟨d', p, b1, b2, ?_, c0, ne, oa.grow e fun o q => q⟩
    show (if fz p then H p else Hs p) = none
    rw [if_neg]
    · exact c
    · rintro ⟨j, hj, hj', q⟩
      have := R.dis i j p (h i hi) hj b2 q
      subst this
      exact hj' hi
/-- a name gets a value that stands still -/
theorem Rel.set (R : Rel K mg r O Hs0 H0 Hs H σ env tp) (i : Nat) (hr : RepD K mg r Hs v d) : Rel K mg r (O.filter (· != i)) Hs0 H0 Hs H (σ.set i (some v)) (env.set i (some d)) tp where
  wd := R.wd
  gr := R.gr
  len := by rw [List.length_set, List.length_set]; exact R.len
  vars := fun j e a n => by
    rcases get_set a with ⟨rfl, rfl, hl⟩ | ⟨ne, a⟩
    · exact ⟨v, set_get (by rw [R.len]; exact hl), hr⟩
    · have n' : j ∉ O := fun m => n (List.mem_filter.mpr ⟨m, by simpa using ne⟩)
      obtain ⟨w, b1, b2⟩ := R.vars j e a n'
      exact ⟨w, by rw [set_gne ne]; exact b1, b2⟩
  own := fun j hj => by
    obtain ⟨m, ne⟩ := List.mem_filter.mp hj
    have ne : j ≠ i := by simpa using ne
    obtain ⟨d', p, b1, b2, c⟩ := R.own j m
    exact ⟨d', p, by rw [set_gne ne]; exact b1, by rw [set_gne ne]; exact b2, c⟩
  dis := fun j l p hj hl a b => by
    obtain ⟨m, ne⟩ := List.mem_filter.mp hj
    obtain ⟨m', ne'⟩ := List.mem_filter.mp hl
    rw [set_gne (by simpa using ne)] at a
    rw [set_gne (by simpa using ne')] at b
    exact R.dis j l p m m' a b
/-- a name gets a fresh object -/
theorem Rel.setF (R : Rel K mg r O Hs0 H0 Hs H σ env tp) (i : Nat) (hi : i < env.length) (h0 : H0 p = none) (hs : Hs p = none) (ne : p ≠ r) (ho : OwnAt K mg r Hs H p d) (hd : ∀ j ∈ O, σ[j]? ≠ some (some (.ref p))) :
    Rel K mg r (i :: O.filter (· != i)) Hs0 H0 Hs H (σ.set i (some (.ref p))) (env.set i (some d)) tp where
  wd := R.wd
  gr := R.gr
  len := by rw [List.length_set, List.length_set]; exact R.len
  vars := fun j e a n => by
    rcases get_set a with ⟨rfl, rfl, hl⟩ | ⟨ne, a⟩
    · exact absurd List.mem_cons_self n
    · have n' : j ∉ O := fun m => n (List.mem_cons_of_mem _ (List.mem_filter.mpr ⟨m, by simpa using ne⟩))
      obtain ⟨w, b1, b2⟩ := R.vars j e a n'
      exact ⟨w, by rw [set_gne ne]; exact b1, b2⟩
  own := fun j hj => by
    rcases List.mem_cons.mp hj with rfl | hj
    · exact ⟨d, p, set_get hi, set_get (by rw [R.len]; exact hi), hs, h0, ne, ho⟩
    · obtain ⟨m, ne⟩ := List.mem_filter.mp hj
      have ne : j ≠ i := by simpa using ne
      obtain ⟨d', p, b1, b2, c⟩ := R.own j m
      exact ⟨d', p, by rw [set_gne ne]; exact b1, by rw [set_gne ne]; exact b2, c⟩
  dis := fun j l q hj hl a b => by
    rcases List.mem_cons.mp hj with rfl | hj
    · rcases List.mem_cons.mp hl with rfl | hl
      · rfl
      · obtain ⟨m', ne'⟩ := List.mem_filter.mp hl
        rw [set_gne (by simpa using ne')] at b
        rw [set_get (by rw [R.len]; exact hi)] at a
        cases a
        exact absurd b (hd l m')
    · obtain ⟨m, ne⟩ := List.mem_filter.mp hj
      rw [set_gne (by simpa using ne)] at a
      rcases List.mem_cons.mp hl with rfl | hl
      · rw [set_get (by rw [R.len]; exact hi)] at b
        cases b
        exact absurd a (hd j m)
      · obtain ⟨m', ne'⟩ := List.mem_filter.mp hl
        rw [set_gne (by simpa using ne')] at b
        exact R.dis j l q m m' a b
/-- an owned object is changed -/
theorem Rel.write {o : HO} {i : Nat} (R : Rel K mg r O Hs0 H0 Hs H σ env tp) (hi : i ∈ O) (hp : σ[i]? = some (some (.ref p))) (ho : OwnAt K mg r Hs (upd H p o) p d) : Rel K mg r O Hs0 H0 Hs (upd H p o) σ (env.set i (some d)) tp := by
  obtain ⟨d0, p0, b1, b2, c, c0, ne, oa⟩ := R.own i hi
  rw [hp] at b2; cases b2
  have hl : i < env.length := by
    rcases Nat.lt_or_ge i env.length with q | q
    · exact q
    · rw [List.getElem?_eq_none q] at b1; cases b1
  refine ⟨R.wd.write c ne, ⟨fun b u q n => ?_, R.gr.ex, R.gr.new⟩, by rw [List.length_set]; exact R.len, fun j e a n => ?_, fun j hj => ?_, R.dis⟩
  · rw [upd_ne (ne_of_none q c0)]; exact R.gr.keep b u q n
  · rcases get_set a with ⟨rfl, rfl, _⟩ | ⟨_, a⟩
    · exact absurd hi n
    · exact R.vars j e a n
  · by_cases q : j = i
    · subst q
      exact ⟨d, p, set_get hl, hp, c, c0, ne, ho⟩
    · obtain ⟨d', p', e1, e2, f, f0, fn, fo⟩ := R.own j hj
      have np : p' ≠ p := fun z => q (by subst z; exact R.dis j i p' hj hi e2 hp)
      exact ⟨d', p', by rw [set_gne q]; exact e1, e2, f, f0, fn, fo.grow (Same.refl _) fun u z => by rw [upd_ne np]; exact z⟩
/-- the tape is written -/
theorem Rel.tape {vs : List V} {j : Nat} (R : Rel K mg r O Hs0 H0 Hs H σ env tp) (h : H r = some (.lst vs)) (hv : RepDs K mg r Hs vs tp) (hr : RepD K mg r Hs v d) : Rel K mg r O Hs0 H0 Hs (upd H r (.lst (vs.set j v))) σ env (tp.set j d) := by
  refine ⟨⟨fun b u q => ?_, R.wd.tn, ⟨_, upd_same, hv.set j hr⟩⟩, ⟨fun b u q n => ?_, R.gr.ex, R.gr.new⟩, R.len, R.vars, fun i hi => ?_, R.dis⟩
  · rw [upd_ne (ne_of_none q R.wd.tn)]; exact R.wd.sub b u q
  · rw [upd_ne n]; exact R.gr.keep b u q n
  · obtain ⟨d', p, b1, b2, c, c0, ne, oa⟩ := R.own i hi
    exact ⟨d', p, b1, b2, c, c0, ne, oa.grow (Same.refl _) fun u z => by rw [upd_ne ne]; exact z⟩
theorem Wd.tape_eq {vs : List V} (w : Wd K mg r Hs H tp) (h : H r = some (.lst vs)) : RepDs K mg r Hs vs tp := by
  obtain ⟨vs', a, b⟩ := w.tH
  rw [h] at a; cases a; exact b
end

/-! ### judgements for statements -/
section
variable (K : PySem.W.Frag) (mg : Str → Option Value) (r : Addr) (X : Cx) (E : XK) (O On Ol : List Nat)
def PostS (Hs0 H0 Hs : Hp) (res : RS) (D : Ends) : Prop := match res with
  | .nx env' tp' => ∀ σ' Hs' H', Same Hs Hs' → Rel K mg r On Hs0 H0 Hs' H' σ' env' tp' → D.nx σ' H'
  | .rt d tp' => ∀ v Hs' H', Grow r Hs0 H0 Hs' H' → Wd K mg r Hs' H' tp' → RepD K mg r Hs' v d → D.rt v H'
  | .bk env' tp' => ∀ σ' Hs' H', Same Hs Hs' → Rel K mg r Ol Hs0 H0 Hs' H' σ' env' tp' → D.bk σ' H'
  | .ct env' tp' => ∀ σ' Hs' H', Same Hs Hs' → Rel K mg r Ol Hs0 H0 Hs' H' σ' env' tp' → D.ct σ' H'
  | .exn c fs tp' => ∀ cv dx Hs' H', Grow r Hs0 H0 Hs' H' → Wd K mg r Hs' H' tp' → mg c = some cv → ExD K mg r Hs' fs dx → E cv dx H'
  | .stuck => False
structure GS (st : Stmt) (t : TS) (m : SS) : Prop where
  pe : PS X st t
  snd : ∀ Hs0 H0 Hs H σ env tp D, Rel K mg r O Hs0 H0 Hs H σ env tp → PostS K mg r E On Ol Hs0 H0 Hs (m env tp) D → t D σ H
structure GSs (st : List Stmt) (t : TS) (m : SS) : Prop where
  pe : PSs X st t
  snd : ∀ Hs0 H0 Hs H σ env tp D, Rel K mg r O Hs0 H0 Hs H σ env tp → PostS K mg r E On Ol Hs0 H0 Hs (m env tp) D → t D σ H
end

section
variable {K : PySem.W.Frag} {mg : Str → Option Value} {r : Addr} {X : Cx} {E : XK} {O O1 On Ol : List Nat} {e a b : Expr} {es : List Expr} {pos : Pos} {t ta tb : TE} {tt : TT} {ts : TA} {s1 : Stmt} {ss : List Stmt} {u u1 u2 : TS}
theorem PostS.shift {Hs0 H0 Hs Hs1 : Hp} {res : RS} {D : Ends} (e : Same Hs Hs1) (h : PostS K mg r E On Ol Hs0 H0 Hs res D) : PostS K mg r E On Ol Hs0 H0 Hs1 res D := by
  cases res with
  | nx env tp => exact fun σ Hs' H' e' R => h σ Hs' H' (e.trans e') R
  | bk env tp => exact fun σ Hs' H' e' R => h σ Hs' H' (e.trans e') R
  | ct env tp => exact fun σ Hs' H' e' R => h σ Hs' H' (e.trans e') R
  | _ => exact h
/-- an expression's value, then the rest of a statement -/
theorem PostS.bind {β α : Type} {R1 : Hp → Hp → β → α → Prop} {Hs0 H0 Hs H : Hp} {σ : L2.St} {env : DEnv} {tp : List D} {res : RE α} {k : α → List D → RS} {D : Ends} {Q1 : β → Hp → Prop} (R : Rel K mg r O Hs0 H0 Hs H σ env tp) (h : PostS K mg r E On Ol Hs0 H0 Hs (res.bindS k) D)
    (step : ∀ v Hs1 H1 d tp1, res = .ok d tp1 → Grow r Hs H Hs1 H1 → Wd K mg r Hs1 H1 tp1 → Rel K mg r O Hs0 H0 Hs1 H1 σ env tp1 → R1 Hs1 H1 v d → PostS K mg r E On Ol Hs0 H0 Hs1 (k d tp1) D → Q1 v H1) : Post K mg r R1 E Hs H res Q1 := by
  cases res with
  | ok d tp1 => exact fun v Hs1 H1 g w q => step v Hs1 H1 d tp1 rfl g w (R.grow g w) q (PostS.shift g.ex h)
  | exn c fs tp1 => exact fun cv dx Hs1 H1 g w m x => h cv dx Hs1 H1 (R.gr.trans g) w m x
  | stuck => exact h
theorem PostS.weak {On' : List Nat} {Hs0 H0 Hs : Hp} {res : RS} {D : Ends} (h : PostS K mg r E On' Ol Hs0 H0 Hs res D) (hO : ∀ i ∈ On', i ∈ On) : PostS K mg r E On Ol Hs0 H0 Hs res D := by
  cases res with
  | nx env tp =>
    intro σ Hs1 H e1 R
    obtain ⟨Hs', e, R'⟩ := R.freeze hO
    exact h σ Hs' H (e1.trans e) R'
  | _ => exact h
/-- ahead of it some owned objects come to stand still -/
theorem GS.pre {O' : List Nat} {m : SS} (hO : ∀ i ∈ O', i ∈ O) (h : GS K mg r X E O' On Ol s1 u m) : GS K mg r X E O On Ol s1 u m :=
  ⟨h.pe, fun Hs0 H0 Hs H σ env tp D R P => by
    obtain ⟨Hs', e, R'⟩ := R.freeze hO
    exact h.snd _ _ _ _ _ _ _ _ R' (P.shift e)⟩
theorem GSs.pre {O' : List Nat} {m : SS} (hO : ∀ i ∈ O', i ∈ O) (h : GSs K mg r X E O' On Ol ss u m) : GSs K mg r X E O On Ol ss u m :=
  ⟨h.pe, fun Hs0 H0 Hs H σ env tp D R P => by
    obtain ⟨Hs', e, R'⟩ := R.freeze hO
    exact h.snd _ _ _ _ _ _ _ _ R' (P.shift e)⟩
/-- behind it -/
theorem GS.post {On' : List Nat} {m : SS} (hO : ∀ i ∈ On', i ∈ On) (h : GS K mg r X E O On Ol s1 u m) : GS K mg r X E O On' Ol s1 u m :=
  ⟨h.pe, fun Hs0 H0 Hs H σ env tp D R P => h.snd _ _ _ _ _ _ _ _ R (P.weak hO)⟩
theorem GSs.post {On' : List Nat} {m : SS} (hO : ∀ i ∈ On', i ∈ On) (h : GSs K mg r X E O On Ol ss u m) : GSs K mg r X E O On' Ol ss u m :=
  ⟨h.pe, fun Hs0 H0 Hs H σ env tp D R P => h.snd _ _ _ _ _ _ _ _ R (P.weak hO)⟩

/-! blocks -/
def skipS : SS := fun env tp => .nx env tp
def seqS (m n : SS) : SS := fun env tp => match m env tp with
  | .nx e tp1 => n e tp1
  | x => x
theorem gss_nil : GSs K mg r X E O O Ol [] tNext skipS := ⟨pss_nil, fun Hs0 H0 Hs H σ env tp D R P => P _ _ _ (Same.refl _) R⟩
theorem gss_cons {m n : SS} (h1 : GS K mg r X E O O1 Ol s1 u1 m) (h2 : GSs K mg r X E O1 On Ol ss u2 n) : GSs K mg r X E O On Ol (s1 :: ss) (tSeq u1 u2) (seqS m n) := by
  refine ⟨pss_cons h1.pe h2.pe, fun Hs0 H0 Hs H σ env tp D R P => ?_⟩
  refine h1.snd _ _ _ _ _ _ _ _ R ?_
  unfold seqS at P
  cases q : m env tp with
  | nx e tp1 => rw [q] at P; exact fun σ' Hs' H' e' R' => h2.snd _ _ _ _ _ _ _ _ R' (P.shift e')
  | rt d tp1 => rw [q] at P; exact P
  | bk e tp1 => rw [q] at P; exact P
  | ct e tp1 => rw [q] at P; exact P
  | exn c fs tp1 => rw [q] at P; exact P
  | stuck => rw [q] at P; exact P
theorem gss_one {m : SS} (h1 : GS K mg r X E O On Ol s1 u1 m) : GSs K mg r X E O On Ol [s1] u1 m := ⟨pss_one h1.pe, h1.snd⟩

/-! simple statements -/
def setS (i : Nat) (m : SE D) : SS := fun env tp => (m env tp).bindS fun d tp1 => .nx (env.set i (some d)) tp1
def retS (m : SE D) : SS := fun env tp => (m env tp).bindS fun d tp1 => .rt d tp1
def dropS (m : SE D) : SS := fun env tp => (m env tp).bindS fun _ tp1 => .nx env tp1
def ifS (c : SE Bool) (m n : SS) : SS := fun env tp => (c env tp).bindS fun b tp1 => if b = true then m env tp1 else n env tp1
theorem setS_sound {m : SE D} (i : Nat) (h : ∀ Hs0 H0 Hs H σ env tp Q, Rel K mg r O Hs0 H0 Hs H σ env tp → PostE K mg r E Hs H (m env tp) Q → t σ H Q) :
    ∀ Hs0 H0 Hs H σ env tp D, Rel K mg r O Hs0 H0 Hs H σ env tp → PostS K mg r E (O.filter (· != i)) Ol Hs0 H0 Hs (setS i m env tp) D → tAsg t (gName i) D σ H := by
  intro Hs0 H0 Hs H σ env tp D R P
  exact h _ _ _ _ _ _ _ _ R (PostS.bind R P fun v Hs1 H1 d tp1 _ g w R1 rv P1 => P1 _ _ _ (Same.refl _) (R1.set i rv))
def setFS (i : Nat) (m : SE D) : SS := fun env tp => (m env tp).bindS fun d tp1 => if i < env.length then .nx (env.set i (some d)) tp1 else .stuck
theorem Rel.new_ne {Hs0 H0 Hs H : Hp} {σ : L2.St} {env : DEnv} {tp : List D} {p : Addr} (R : Rel K mg r O Hs0 H0 Hs H σ env tp) (h1 : H p = none) (h3 : p ≠ r) : H0 p = none ∧ ∀ j ∈ O, σ[j]? ≠ some (some (.ref p)) := by
  refine ⟨?_, fun j hj q => ?_⟩
  · cases z : H0 p with
    | none => rfl
    | some o => rw [R.gr.keep p o z h3] at h1; cases h1
  · obtain ⟨d', p', b1, b2, c, c0, ne, oa⟩ := R.own j hj
    rw [q] at b2; cases b2
    obtain ⟨o, ho⟩ := oa.there
    rw [ho] at h1; cases h1
theorem setF_sound {m : SE D} (i : Nat) (h : ∀ Hs0 H0 Hs H σ env tp Q, Rel K mg r O Hs0 H0 Hs H σ env tp → Post K mg r (Fresh K mg r H) E Hs H (m env tp) Q → t σ H Q) :
    ∀ Hs0 H0 Hs H σ env tp D, Rel K mg r O Hs0 H0 Hs H σ env tp → PostS K mg r E (i :: O.filter (· != i)) Ol Hs0 H0 Hs (setFS i m env tp) D → tAsg t (gName i) D σ H := by
  intro Hs0 H0 Hs H σ env tp D R P
  refine h _ _ _ _ _ _ _ _ R (PostS.bind R P fun v Hs1 H1 d tp1 _ g w R1 rv P1 => ?_)
  obtain ⟨p, rfl, h1, h2, h3, h4⟩ := rv
  split at P1
  · rename_i hl
    obtain ⟨n1, n2⟩ := R.new_ne h1 h3
    exact P1 _ _ _ (Same.refl _) (R1.setF i hl n1 h2 h3 h4 n2)
  · exact P1.elim
theorem gs_set {m : SE D} (i : Nat) {x : Str} {pos' : Pos} (hN : X.N.Nodup) (h : GE K mg r X O E e t m) (hi : X.N[i]? = some x := by rfl) (hx : Loc X.env.scope x := by first | exact Or.inl rfl | exact Or.inr rfl) (hs : swapsWith e (some (.Name x pos')) pos.line X.env = pure false := by rfl)
    (hf : X.fn x = true ∨ X.env.scope.names.lookup x = some .local := by first | exact .inl rfl | exact .inr rfl) : GS K mg r X E O (O.filter (· != i)) Ol (.Assign [.Name x pos'] e pos) (tAsg t (gName i)) (setS i m) :=
  ⟨ps_set hN hi hx h.pe hs hf, setS_sound i h.snd⟩
theorem gs_setF {m : SE D} (i : Nat) {x : Str} {pos' : Pos} (hN : X.N.Nodup) (h : GF K mg r X O E e t m) (hi : X.N[i]? = some x := by rfl) (hx : Loc X.env.scope x := by first | exact Or.inl rfl | exact Or.inr rfl) (hs : swapsWith e (some (.Name x pos')) pos.line X.env = pure false := by rfl)
    (hf : X.fn x = true ∨ X.env.scope.names.lookup x = some .local := by first | exact .inl rfl | exact .inr rfl) : GS K mg r X E O (i :: O.filter (· != i)) Ol (.Assign [.Name x pos'] e pos) (tAsg t (gName i)) (setFS i m) :=
  ⟨ps_set hN hi hx h.pe hs hf, setF_sound i h.snd⟩
theorem gs_ret {m : SE D} (h : GE K mg r X O E e t m) : GS K mg r X E O On Ol (.Return (some e) pos) (tRet t) (retS m) :=
  ⟨ps_ret h.pe, fun Hs0 H0 Hs H σ env tp D R P => h.snd _ _ _ _ _ _ _ _ R (PostS.bind R P fun v Hs1 H1 d tp1 _ g w R1 rv P1 => P1 v Hs1 H1 R1.gr w rv)⟩
/-- a slot's own object is handed back -/
theorem gs_retO (i : Nat) {x : Str} (hO : i ∈ O) (hN : X.N[i]? = some x := by rfl) {p2 : Pos} (hv : Vis X.env.scope x := by first | exact Or.inl rfl | exact Or.inr (Or.inl rfl) | exact Or.inr (Or.inr rfl)) (hd : (x == ("__debug__" : Str)) = false := by decide)
    (hcd : (x == ("__classdict__" : Str)) = false := by decide) : GS K mg r X E O On Ol (.Return (some (.Name x p2)) pos) (tRet (tVar i)) (retS (vE i)) :=
  GS.pre (O' := []) (fun _ h => nomatch h) (gs_ret (ge_var i (by simp) hN hv hd hcd))
theorem gs_retN : GS K mg r X E O On Ol (.Return none pos) tRetN (fun _ tp => .rt .non tp) :=
  ⟨ps_retN, fun Hs0 H0 Hs H σ env tp D R P => P _ _ _ R.gr R.wd .non⟩
theorem gs_drop {m : SE D} (h : GE K mg r X O E e t m) (hs : swapsWith e none pos.line X.env = pure false := by rfl) : GS K mg r X E O O Ol (.Expr e pos) (tDrop t) (dropS m) :=
  ⟨ps_expr h.pe hs, fun Hs0 H0 Hs H σ env tp D R P => h.snd _ _ _ _ _ _ _ _ R (PostS.bind R P fun v Hs1 H1 d tp1 _ g w R1 rv P1 => P1 _ _ _ (Same.refl _) R1)⟩
theorem gs_pass : GS K mg r X E O O Ol (.Pass pos) tNext skipS := ⟨ps_pass, fun Hs0 H0 Hs H σ env tp D R P => P _ _ _ (Same.refl _) R⟩
theorem gs_break (hO : ∀ i ∈ Ol, i ∈ O) : GS K mg r X E O On Ol (.Break pos) tBreak (fun env tp => .bk env tp) :=
  GS.pre hO ⟨ps_break, fun Hs0 H0 Hs H σ env tp D R P => P _ _ _ (Same.refl _) R⟩
theorem gs_continue (hO : ∀ i ∈ Ol, i ∈ O) : GS K mg r X E O On Ol (.Continue pos) tCont (fun env tp => .ct env tp) :=
  GS.pre hO ⟨ps_continue, fun Hs0 H0 Hs H σ env tp D R P => P _ _ _ (Same.refl _) R⟩
theorem gs_never : GS K mg r X E O On Ol s1 tNever (fun _ _ => .stuck) := ⟨ps_never, fun Hs0 H0 Hs H σ env tp D R P => P⟩
theorem gs_if {mc : SE Bool} {m n : SS} {bs : List Stmt} (hc : GT K mg r X O E e tt mc) (h1 : GSs K mg r X E O On Ol ss u1 m) (h2 : GSs K mg r X E O On Ol bs u2 n) : GS K mg r X E O On Ol (.If e ss bs pos) (tIfS tt u1 u2) (ifS mc m n) := by
  refine ⟨ps_if hc.pe h1.pe h2.pe, fun Hs0 H0 Hs H σ env tp D R P => ?_⟩
  refine hc.snd _ _ _ _ _ _ _ _ R (PostS.bind R P fun v Hs1 H1 d tp1 _ g w R1 rv P1 => ?_)
  subst rv
  cases v with
  | true => exact iteT (h1.snd _ _ _ _ _ _ _ _ R1 P1)
  | false => exact iteF (h2.snd _ _ _ _ _ _ _ _ R1 P1)

/-! a list of one's own grows -/
def appS (i : Nat) (m : SE D) : SS := fun env tp => match env[i]? with
  | some (some (.lst ds)) => (m env tp).bindS fun d tp1 => if ds.length < sizeLine then .nx (env.set i (some (.lst (ds ++ [d])))) tp1 else .stuck
  | _ => .stuck
theorem gs_append {m : SE D} (i : Nat) {x : Str} {p1 p2 p3 : Pos} (hO : i ∈ O) (h : GE K mg r X O E e t m) (hK : X.K = K := by rfl) (hN : X.N[i]? = some x := by rfl) (hv : Vis X.env.scope x := by first | exact Or.inl rfl | exact Or.inr (Or.inl rfl) | exact Or.inr (Or.inr rfl)) (hd : (x == ("__debug__" : Str)) = false := by decide)
    (hcd : (x == ("__classdict__" : Str)) = false := by decide)
    (hbase : attributeBase (.Name x p1) "append" X.env (eval (.Name x p1) X.env) = eval (.Name x p1) X.env := by rfl)
    (hfew : ((backTo p3 (starEach [e] X.env)).all (fun x => !x.1) && (backToKw p3 (keywordEach [] X.env)).all (fun x => x.1.isSome) && decide ([e].length + ([] : List Keyword).length + (if ([] : List Keyword).isEmpty then 0 else 1) < 30)) = true := by rfl)
    (hline : (p2.endLine == p3.line) = true := by rfl) (hs : starEach [e] X.env = (false, eval e X.env) :: starEach [] X.env := by rfl) (hplain : (backTo p3 (starEach [] X.env)).any (·.1) = false := by rfl)
    (hsw : swapsWith (.Call (.Attribute (.Name x p1) "append" p2) [e] [] p3) none pos.line X.env = pure false := by rfl) :
    GS K mg r X E O O Ol (.Expr (.Call (.Attribute (.Name x p1) "append" p2) [e] [] p3) pos) (tDrop (tBM K "list" rAppend (tVar i) (tCons t tNil))) (appS i m) := by
  subst hK
  refine ⟨ps_expr (pe_bm PySem.F.plainAttrs_list PySem.F.slot_list_append PySem.F.type_list_append mt_append (pe_var hN hv hd hcd) (pa_cons h.pe pa_nil hs) hbase hfew hline hs hplain) hsw, fun Hs0 H0 Hs H σ env tp D R P => ?_⟩
  obtain ⟨d0, p, b1, b2, c, c0, ne, oa⟩ := R.own i hO
  unfold appS at P
  rw [b1] at P
  cases d0 with
  | lst ds =>
    obtain ⟨vs0, k1, _⟩ := oa
    refine ⟨_, b2, .inl ⟨rfl, vs0, .of k1⟩, ?_⟩
    refine h.snd _ _ _ _ _ _ _ _ R (PostS.bind R P fun v Hs1 H1 d tp1 _ g w R1 rv P1 => ?_)
    obtain ⟨d1, p1, e1, e2, f, f0, fn, fo⟩ := R1.own i hO
    rw [b2] at e2; cases e2
    rw [b1] at e1; cases e1
    obtain ⟨vs, h1, h2⟩ := fo
    split at P1
    · rename_i hz
      refine ⟨p, vs, v, rfl, rfl, h1, by rw [h2.length]; exact hz, ?_⟩
      exact P1 _ _ _ (Same.refl _) (R1.write hO b2 ⟨_, upd_same, h2.append (.cons rv .nil)⟩)
    · exact P1.elim
  | _ => exact P.elim
/-! the tape -/
def tixE (ma mb : SE D) : SE D := fun env tp => (ma env tp).bind fun d tp1 => match d with
  | .tape => (mb env tp1).bind fun e tp2 => match e with
    | .int i => RE.of (atI tp2 i) tp2
    | _ => .stuck
  | _ => .stuck
theorem ge_tix {ma mb : SE D} (ha : GO K mg r X O E a ta ma) (hb : GO K mg r X O E b tb mb) (hs : PlainIx b := by exact fun _ _ => rfl) (hK : X.K = K := by rfl) : GE K mg r X O E (.Subscript a b pos) (tOp (rIx K) ta tb) (tixE ma mb) := by
  subst hK
  refine ⟨pe_ix ix_seq ha.pe hb.pe hs, fun Hs0 H0 Hs H σ env tp Q R P => ?_⟩
  refine ha.snd _ _ _ _ _ _ _ _ R (Post.bind P fun v Hs1 H1 d tp1 _ g w rv P1 => ?_)
  cases d with
  | tape =>
    refine hb.snd _ _ _ _ _ _ _ _ (R.grow g w) (Post.bind P1 fun u Hs2 H2 e tp2 _ g2 w2 ru P2 => ?_)
    cases e with
    | int i =>
      obtain ⟨z, hz, k⟩ := Post.ok_of P2
      obtain ⟨vs, h1, h2⟩ := w2.tH
      obtain ⟨y, h3, h4⟩ := atI_rep h2 hz
      exact .inl ⟨r, vs, i, y, repT_tape rv, repT_int ru, .of h1, h3, k _ _ _ (Grow.refl _ _) w2 h4⟩
    | _ => exact P2.elim
  | _ => exact P1.elim
def tsetS (j : Nat) (ma mi m : SE D) : SS := fun env tp => (m env tp).bindS fun d tp1 => (ma env tp1).bindS fun o tp2 => (mi env tp2).bindS fun i tp3 => match o, i with
  | .tape, .int k => if ixN tp3.length k = some j then .nx env (tp3.set j d) else .stuck
  | _, _ => .stuck
theorem gs_tset {ma mi m : SE D} (j : Nat) {p1 : Pos} (h : GE K mg r X O E e t m) (ha : GO K mg r X O E a ta ma) (hb : GO K mg r X O E b tb mi)
    (hg : ∀ v, assign (.Subscript a b p1) X.env v = (do
      let ov ← holding [v] (eval a X.env)
      let iv ← holding [v, ov] (eval b X.env)
      standAt p1
      holding [v, ov, iv] (setItem ov iv v)
      release [v, ov, iv] []) := by intro _; rfl)
    (hs : swapsWithSole [.Subscript a b p1] e pos.line X.env = pure false := by rfl) (hw : swappedStores [.Subscript a b p1] e X.env = pure none := by rfl)
    (h1 : (assignEach [.Subscript a b p1] X.env).map (·.2) = [assign (.Subscript a b p1) X.env] := by rfl) :
    GS K mg r X E O O Ol (.Assign [.Subscript a b p1] e pos) (tAsg t (gSub ta tb rSetL)) (tsetS j ma mi m) := by
  refine ⟨ps_asg h.pe (pg_sub ha.pe hb.pe set_list hg) hs hw h1, fun Hs0 H0 Hs H σ env tp D R P => ?_⟩
  refine h.snd _ _ _ _ _ _ _ _ R (PostS.bind R P fun v Hs1 H1 d tp1 _ g w R1 rv P1 => ?_)
  refine ha.snd _ _ _ _ _ _ _ _ R1 (PostS.bind R1 P1 fun o Hs2 H2 od tp2 _ g2 w2 R2 ro P2 => ?_)
  refine hb.snd _ _ _ _ _ _ _ _ R2 (PostS.bind R2 P2 fun i Hs3 H3 id tp3 _ g3 w3 R3 ri P3 => ?_)
  split at P3
  · split at P3
    · rename_i q
      obtain ⟨vs, h1, h2⟩ := w3.tH
      refine ⟨r, vs, _, j, repT_tape ro, repT_int ri, h1, by rw [h2.length]; exact q, ?_⟩
      exact P3 _ _ _ (Same.refl _) (R3.tape h1 h2 (rv.mono (g2.ex.trans g3.ex)))
    · exact P3.elim
  · exact P3.elim

/-! targets -/
def setAll {α : Type} : List (Option α) → List Nat → List α → List (Option α)
  | s, i :: is, v :: vs => setAll (s.set i (some v)) is vs
  | s, _, _ => s
/-- the target of a loop: the slots that are set -/
structure GG (K : PySem.W.Frag) (mg : Str → Option Value) (r : Addr) (X : Cx) (tg : Expr) (g : TG) (is : List Nat) (f : D → Option (List D)) : Prop where
  pe : PG X tg g
  snd : ∀ v d ds Hs H tp σ (Q : L2.St → Hp → Prop), Wd K mg r Hs H tp → RepD K mg r Hs v d → f d = some ds → (∀ vs, RepDs K mg r Hs vs ds → vs.length = is.length → Q (setAll σ is vs) H) → g v σ H Q
def t1 : D → Option (List D) := fun d => some [d]
def tN (n : Nat) : D → Option (List D)
  | .tup ds => if ds.length = n then some ds else none
  | _ => none
theorem gg_name (i : Nat) {x : Str} (hN : X.N.Nodup) (hi : X.N[i]? = some x := by rfl) (hx : Loc X.env.scope x := by first | exact Or.inl rfl | exact Or.inr rfl) (hf : X.fn x = true ∨ X.env.scope.names.lookup x = some .local := by first | exact .inl rfl | exact .inr rfl) :
    GG K mg r X (.Name x pos) (gName i) [i] t1 :=
  ⟨pg_name hN hi hx hf, fun v d ds Hs H tp σ Q w rv hf q => by
    cases hf
    exact q [v] (.cons rv .nil) rfl⟩
structure GGs (K : PySem.W.Frag) (mg : Str → Option Value) (r : Addr) (X : Cx) (tg : List Expr) (g : TGs) (is : List Nat) : Prop where
  pe : PGs X tg g
  snd : ∀ vs σ H (Q : L2.St → Hp → Prop), vs.length = is.length → Q (setAll σ is vs) H → g vs σ H Q
theorem ggs_nil : GGs K mg r X [] gNil [] := ⟨pgs_nil, fun vs σ H Q hl q => by
  cases vs with
  | nil => exact ⟨rfl, q⟩
  | cons _ _ => cases hl⟩
theorem ggs_cons (i : Nat) {is : List Nat} {x : Str} {g : TGs} (hN : X.N.Nodup) (h : GGs K mg r X es g is) (hi : X.N[i]? = some x := by rfl) (hx : Loc X.env.scope x := by first | exact Or.inl rfl | exact Or.inr rfl) (hf : X.fn x = true ∨ X.env.scope.names.lookup x = some .local := by first | exact .inl rfl | exact .inr rfl)
    (hs : (assignEach (.Name x pos :: es) X.env).map (·.2) = assign (.Name x pos) X.env :: (assignEach es X.env).map (·.2) := by rfl) : GGs K mg r X (.Name x pos :: es) (gCons (gName i) g) (i :: is) :=
  ⟨pgs_cons (pg_name hN hi hx hf) h.pe hs, fun vs σ H Q hl q => by
    cases vs with
    | nil => cases hl
    | cons v vs => exact ⟨v, vs, rfl, h.snd vs _ H Q (by simpa using hl) q⟩⟩
theorem gg_tup {is : List Nat} {g : TGs} {k : Nat} {n : Nat} (hc : X.calm = true) (h : GGs K mg r X es g is) (hn : is.length = n) (hK : X.K = K := by rfl) (hn1 : (assignEach es X.env).length = n := by rfl) (hst : (assignEach es X.env).findIdx? (·.1) = none := by rfl) : GG K mg r X (.Tuple es k pos) (gTup K n g) is (tN n) := by
  subst hK
  refine ⟨pg_tup hc h.pe hn1 hst, fun v d ds Hs H tp σ Q w rv hf q => ?_⟩
  cases d with
  | tup xs =>
    have hf : (if xs.length = n then some xs else none) = some ds := hf
    split at hf
    · rename_i hl
      cases hf
      cases rv with
      | tup h1 h2 => exact ⟨_, _, rfl, .of (w.sub _ _ h1), by rw [h2.length]; exact hl, h.snd _ σ H Q (by rw [h2.length, hn]; exact hl) (q _ h2 (by rw [h2.length, hn]; exact hl))⟩
    · cases hf
  | _ => cases hf
theorem setAll_length {α : Type} : ∀ {is : List Nat} {s : List (Option α)} {vs : List α}, (setAll s is vs).length = s.length
  | [], _, _ => by unfold setAll; rfl
  | i :: is, s, [] => by unfold setAll; rfl
  | i :: is, s, v :: vs => by show (setAll (s.set i (some v)) is vs).length = _; rw [setAll_length, List.length_set]
theorem filt_id {O : List Nat} {i : Nat} (h : i ∉ O) : O.filter (· != i) = O := List.filter_eq_self.mpr fun a ha => by
  have : a ≠ i := fun e => h (e ▸ ha)
  simpa using this
theorem rel_setAll {Hs0 H0 Hs H : Hp} {tp : List D} : ∀ (is : List Nat) (σ : L2.St) (env : DEnv) (vs : List V) (ds : List D), Rel K mg r O Hs0 H0 Hs H σ env tp → (∀ i ∈ is, i ∉ O) → RepDs K mg r Hs vs ds → vs.length = is.length → Rel K mg r O Hs0 H0 Hs H (setAll σ is vs) (setAll env is ds) tp
  | [], σ, env, vs, ds, R, _, h, hl => by
    cases vs with
    | nil => cases h; exact R
    | cons _ _ => cases hl
  | i :: is, σ, env, vs, ds, R, hn, h, hl => by
    cases h with
    | nil => cases hl
    | cons h1 h2 =>
      have R1 := R.set i h1
      rw [filt_id (hn i List.mem_cons_self)] at R1
      exact rel_setAll is _ _ _ _ R1 (fun j hj => hn j (List.mem_cons_of_mem _ hj)) h2 (by simpa using hl)

/-! what is walked -/
def WalksD (K : PySem.W.Frag) (mg : Str → Option Value) (r : Addr) (J : It) (Hs1 : Hp) (items : List D) : Prop :=
  ∃ (Gd : Hp → Prop) (Y : Nat → Hp → V → Hp → Prop), Walk J items.length Gd Y ∧ (∀ Hs H, Same Hs1 Hs → Same Hs H → Gd H) ∧
    ∀ i Hs H tp x H', i < items.length → Same Hs1 Hs → Wd K mg r Hs H tp → Y i H x H' → ∃ Hs' d, Grow r Hs H Hs' H' ∧ Wd K mg r Hs' H' tp ∧ items[i]? = some d ∧ RepD K mg r Hs' x d
structure GI (K : PySem.W.Frag) (mg : Str → Option Value) (r : Addr) (X : Cx) (O : List Nat) (E : XK) (tg : Expr) (e : Expr) (wi : TI) (m : SE (List D)) : Prop where
  pe : PI X tg e wi
  snd : ∀ Hs0 H0 Hs H σ env tp Q, Rel K mg r O Hs0 H0 Hs H σ env tp → Post K mg r (fun Hs _ J items => WalksD K mg r J Hs items) E Hs H (m env tp) Q → wi σ H Q
theorem pi_or {tg : Expr} {w1 w2 : TI} (h1 : PI X tg e w1) (h2 : PI X tg e w2) : PI X tg e (fun σ H R => w1 σ H R ∨ w2 σ H R) :=
  ⟨fun pins s σ H R I h => h.elim (h1.run pins s σ H R I) (h2.run pins s σ H R I)⟩
/-- the items of a list, a tuple, a text -/
def seqD : D → Option (List D)
  | .lst xs => some xs
  | .tup xs => some xs
  | .scr ns => some (ns.map .int)
  | .str s => some (s.cps.toList.map fun c => .str ⟨#[c]⟩)
  | _ => none
def seqI (m : SE D) : SE (List D) := fun env tp => (m env tp).bind fun d tp1 => RE.of (seqD d) tp1
abbrev iSeq (K : PySem.W.Frag) (t : TE) : TI := fun σ H R => iList K t σ H R ∨ iTup K t σ H R ∨ iStr t σ H R
theorem walks_list {K : PySem.W.Frag} {mg : Str → Option Value} {r : Addr} {Hs : Hp} {a : Addr} {vs : List V} {ds : List D} (h : SqL K Hs a vs) (hr : RepDs K mg r Hs vs ds) : WalksD K mg r (Itl K a) Hs ds := by
  refine ⟨_, _, by rw [← hr.length]; exact walk_list (K := K) (a := a) (xs := vs), fun Hs2 H e1 e2 => Same.seq e2 (Same.seq e1 h), fun i Hs2 H tp x H' hi e w y => ?_⟩
  obtain ⟨rfl, y⟩ := y
  obtain ⟨d, h1, h2⟩ := hr.get y
  exact ⟨Hs2, d, Grow.refl _ _, w, h1, h2.mono e⟩
theorem sqt_mono {K : PySem.W.Frag} {H H' : Hp} {a : Addr} {xs : List V} (e : Same H H') (h : SqT K H a xs) : SqT K H' a xs := by
  rcases h with (h | ⟨o, h⟩) | h
  · exact .inl (.inl (e _ _ h))
  · exact .inl (.inr ⟨o, e _ _ h⟩)
  · exact .inr h
theorem walks_tup {K : PySem.W.Frag} {mg : Str → Option Value} {r : Addr} {Hs : Hp} {a : Addr} {vs : List V} {ds : List D} (h : SqT K Hs a vs) (hr : RepDs K mg r Hs vs ds) : WalksD K mg r (Itt K a) Hs ds := by
  refine ⟨_, _, by rw [← hr.length]; exact walk_tup (K := K) (a := a) (xs := vs), fun Hs2 H e1 e2 => sqt_mono e2 (sqt_mono e1 h), fun i Hs2 H tp x H' hi e w y => ?_⟩
  obtain ⟨rfl, y⟩ := y
  obtain ⟨d, h1, h2⟩ := hr.get y
  exact ⟨Hs2, d, Grow.refl _ _, w, h1, h2.mono e⟩
theorem walks_str {K : PySem.W.Frag} {mg : Str → Option Value} {r : Addr} {Hs : Hp} {z : Str} : WalksD K mg r (Its z) Hs (z.cps.toList.map fun c => .str ⟨#[c]⟩) := by
  refine ⟨_, _, by rw [List.length_map, Array.length_toList]; exact walk_str (z := z), fun Hs2 H e1 e2 => trivial, fun i Hs2 H tp x H' hi e w y => ?_⟩
  obtain ⟨rfl, c, y, rfl⟩ := y
  refine ⟨Hs2, .str ⟨#[c]⟩, Grow.refl _ _, w, ?_, .str _⟩
  rw [List.getElem?_map, Array.getElem?_toList, y]
  rfl
theorem gi_seq {tg : Expr} {m : SE D} (h : GE K mg r X O E e t m) (hK : X.K = K := by rfl) : GI K mg r X O E tg e (iSeq K t) (seqI m) := by
  subst hK
  refine ⟨pi_or (pi_list h.pe) (pi_or (pi_tup h.pe) (pi_str h.pe)), fun Hs0 H0 Hs H σ env tp Q R P => ?_⟩
  unfold seqI at P
  cases q : m env tp with
  | stuck => rw [q] at P; exact P.elim
  | exn c fs tp1 =>
    rw [q] at P
    refine .inl (h.snd _ _ _ _ _ _ _ _ R ?_)
    rw [q]; exact P
  | ok d tp1 =>
    rw [q] at P
    obtain ⟨items, hz, k⟩ := Post.ok_of (show Post X.K mg r (fun Hs _ J items => WalksD X.K mg r J Hs items) E Hs H (RE.of (seqD d) tp1) Q from P)
    cases d with
    | lst xs =>
      cases hz
      refine .inl (h.snd _ _ _ _ _ _ _ _ R ?_)
      rw [q]
      intro v Hs1 H1 g w rv
      cases rv with
      | lst h1 h2 => exact ⟨_, rfl, ⟨_, .of (w.sub _ _ h1)⟩, k _ Hs1 H1 g w (walks_list (.of h1) h2)⟩
    | scr ns =>
      cases hz
      refine .inl (h.snd _ _ _ _ _ _ _ _ R ?_)
      rw [q]
      intro v Hs1 H1 g w rv
      cases rv with
      | scr h1 => exact ⟨_, rfl, ⟨_, Same.seq w.sub h1⟩, k _ Hs1 H1 g w (walks_list h1 (RepDs.ints ns))⟩
    | tup xs =>
      cases hz
      refine .inr (.inl (h.snd _ _ _ _ _ _ _ _ R ?_))
      rw [q]
      intro v Hs1 H1 g w rv
      cases rv with
      | tup h1 h2 => exact ⟨_, rfl, ⟨_, .of (w.sub _ _ h1)⟩, k _ Hs1 H1 g w (walks_tup (.of h1) h2)⟩
    | str s =>
      cases hz
      refine .inr (.inr (h.snd _ _ _ _ _ _ _ _ R ?_))
      rw [q]
      intro v Hs1 H1 g w rv
      cases rv
      exact ⟨_, rfl, k _ Hs1 H1 g w walks_str⟩
    | _ => cases hz
/-- range -/
def cRg (i : Int) : Bool := decide (-(2 ^ 62) ≤ i) && decide (i < 2 ^ 62)
theorem cRg_ok {i : Int} (h : cRg i = true) : -(2 ^ 62) ≤ i ∧ i < 2 ^ 62 := by
  have h := Bool.and_eq_true_iff.mp h
  exact ⟨of_decide_eq_true h.1, of_decide_eq_true h.2⟩
def rangeL (lo hi : Int) : List D := (List.range (hi - lo).toNat).map fun (i : Nat) => .int (lo + i)
def range1D : List D → Option (List D)
  | [.int j] => if cRg j then some (rangeL 0 j) else none
  | _ => none
def range2D : List D → Option (List D)
  | [.int i, .int j] => if cRg i && cRg j then some (rangeL i j) else none
  | _ => none
def rangeI (f : List D → Option (List D)) (ms : SE (List D)) : SE (List D) := fun env tp => (ms env tp).bind fun ds tp1 => RE.of (f ds) tp1
theorem walks_range {K : PySem.W.Frag} {mg : Str → Option Value} {r : Addr} {Hs : Hp} {lo hi : Int} : WalksD K mg r (Itr lo (hi - lo).toNat) Hs (rangeL lo hi) := by
  have hl : (rangeL lo hi).length = (hi - lo).toNat := by unfold rangeL; rw [List.length_map, List.length_range]
  refine ⟨_, _, by rw [hl]; exact walk_range, fun Hs2 H e1 e2 => trivial, fun i Hs2 H tp x H' hi e w y => ?_⟩
  obtain ⟨rfl, rfl⟩ := y
  refine ⟨Hs2, .int (lo + i), Grow.refl _ _, w, ?_, .int _⟩
  rw [hl] at hi
  unfold rangeL
  rw [List.getElem?_map, List.getElem?_range hi]
  rfl
theorem gi_range1 {tg : Expr} {m : SE (List D)} {p : Pos} (hm : X.mg "range" = none) (h : GAO K mg r X O E [e] ts m) (hg : Gl X "range" := by rfl) (hs : starEach [e] X.env = [(false, eval e X.env)] := by rfl) : GI K mg r X O E tg (.Call (.Name "range" p) [e] [] pos) (iRng1 ts) (rangeI range1D m) := by
  refine ⟨pi_range1 hg hm h.pe hs, fun Hs0 H0 Hs H σ env tp Q R P => ?_⟩
  refine h.snd _ _ _ _ _ _ _ _ R (Post.bind P fun vs Hs1 H1 ds tp1 _ g w rv P1 => ?_)
  obtain ⟨items, hz, k⟩ := Post.ok_of P1
  unfold range1D at hz
  split at hz
  · split at hz
    · rename_i c
      cases hz
      obtain ⟨x, rfl, h1⟩ := paired1 rv
      have c := cRg_ok c
      refine ⟨_, by rw [repT_int h1], c.1, c.2, ?_⟩
      refine k _ Hs1 H1 (Grow.refl _ _) w ?_
      have q := fun j => walks_range (K := K) (mg := mg) (r := r) (Hs := Hs1) (lo := 0) (hi := j)
      simp only [Int.sub_zero] at q
      exact q _
    · cases hz
  · cases hz
theorem gi_range2 {tg e2 : Expr} {m : SE (List D)} {p : Pos} (hm : X.mg "range" = none) (h : GAO K mg r X O E [e, e2] ts m) (hg : Gl X "range" := by rfl) (hs : starEach [e, e2] X.env = [(false, eval e X.env), (false, eval e2 X.env)] := by rfl) (hs2 : starEach [e2] X.env = [(false, eval e2 X.env)] := by rfl) :
    GI K mg r X O E tg (.Call (.Name "range" p) [e, e2] [] pos) (iRng2 ts) (rangeI range2D m) := by
  refine ⟨pi_range2 hg hm h.pe hs hs2, fun Hs0 H0 Hs H σ env tp Q R P => ?_⟩
  refine h.snd _ _ _ _ _ _ _ _ R (Post.bind P fun vs Hs1 H1 ds tp1 _ g w rv P1 => ?_)
  obtain ⟨items, hz, k⟩ := Post.ok_of P1
  unfold range2D at hz
  split at hz
  · split at hz
    · rename_i c
      cases hz
      obtain ⟨x, x', rfl, h1, h2⟩ := paired2 rv
      have c := Bool.and_eq_true_iff.mp c
      have c1 := cRg_ok c.1
      have c2 := cRg_ok c.2
      exact ⟨_, _, by rw [repT_int h1, repT_int h2], ⟨c1.1, c1.2, c2.1, c2.2⟩, k _ Hs1 H1 (Grow.refl _ _) w walks_range⟩
    · cases hz
  · cases hz

/-! for -/
def forL (tgt : D → Option (List D)) (is : List Nat) (body : SS) : List D → SS
  | [], env, tp => .nx env tp
  | d :: ds, env, tp => match tgt d with
    | some es => (match body (setAll env is es) tp with
      | .nx e t => forL tgt is body ds e t
      | .ct e t => forL tgt is body ds e t
      | .bk e t => .nx e t
      | x => x)
    | none => .stuck
def forS (mi : SE (List D)) (tgt : D → Option (List D)) (is : List Nat) (body : SS) : SS := fun env tp => (mi env tp).bindS fun items tp1 => forL tgt is body items env tp1
theorem gs_for {tg : Expr} {mi : SE (List D)} {wi : TI} {g : TG} {is : List Nat} {tgt : D → Option (List D)} {body : SS} (hp : PassesOwn (model X.prog X.w) X.A X.env X.xe) (hc : X.calm = true) (hi : GI K mg r X O E tg e wi mi) (hg : GG K mg r X tg g is tgt) (hb : GSs K mg r X E O O O ss u body) (hO : ∀ i ∈ is, i ∉ O)
    (hlen : ∀ d ds, tgt d = some ds → ds.length = is.length) (hs : ∀ x, foldedSetIterable e X.env x = pure x := by intro _; rfl) : GS K mg r X E O O Ol (.For tg e ss [] pos) (tFor wi g u) (forS mi tgt is body) := by
  refine ⟨ps_for hp hc hi.pe hg.pe hb.pe hs, fun Hs0 H0 Hs H σ env tp D R P => ?_⟩
  refine hi.snd _ _ _ _ _ _ _ _ R (PostS.bind R P fun J Hs1 H1 items tp1 _ gg w R1 wd P1 => ?_)
  obtain ⟨Gd, Y, wk, hG, hY⟩ := wd
  refine for_it wk (fun i σ H => ∃ Hs env tp, Rel K mg r O Hs0 H0 Hs H σ env tp ∧ Same Hs1 Hs ∧ PostS K mg r E O Ol Hs0 H0 Hs (forL tgt is body (items.drop i) env tp) D) ⟨Hs1, env, tp1, R1, Same.refl _, P1⟩ (fun i σ H _ ⟨Hs2, _, _, R2, e2, _⟩ => hG Hs2 H e2 R2.wd.sub) (fun i x σ H H' hi ⟨Hs2, env2, tp2, R2, e2, P2⟩ y => ?_) (fun σ H ⟨Hs2, env2, tp2, R2, e2, P2⟩ => ?_)
  · obtain ⟨Hs3, d, g3, w3, hd, rd⟩ := hY i Hs2 H tp2 x H' hi e2 R2.wd y
    rw [List.drop_eq_getElem_cons hi] at P2
    have hd' : items[i] = d := by rw [List.getElem?_eq_getElem hi] at hd; exact Option.some.inj hd
    rw [hd'] at P2
    unfold forL at P2
    cases q : tgt d with
    | none => rw [q] at P2; exact P2.elim
    | some es =>
      rw [q] at P2
      simp only at P2
      refine hg.snd x d es Hs3 H' tp2 σ _ w3 rd q fun vs rs hl => ?_
      have R3 := rel_setAll is _ _ _ _ (R2.grow g3 w3) hO rs hl
      refine hb.snd _ _ _ _ _ _ _ _ R3 ?_
      have P2 := P2.shift g3.ex
      have e3 := e2.trans g3.ex
      have again : ∀ {e t}, PostS K mg r E O Ol Hs0 H0 Hs3 (forL tgt is body (items.drop (i + 1)) e t) D → ∀ σ' Hs' H', Same Hs3 Hs' → Rel K mg r O Hs0 H0 Hs' H' σ' e t → ∃ Hs env tp, Rel K mg r O Hs0 H0 Hs H' σ' env tp ∧ Same Hs1 Hs ∧ PostS K mg r E O Ol Hs0 H0 Hs (forL tgt is body (items.drop (i + 1)) env tp) D := fun P σ' Hs' H' e4 R' => ⟨Hs', _, _, R', e3.trans e4, P.shift e4⟩
      cases q2 : body (setAll env2 is es) tp2 with
      | nx e t => rw [q2] at P2; exact again P2
      | ct e t => rw [q2] at P2; exact again P2
      | bk e t => rw [q2] at P2; exact P2
      | rt d t => rw [q2] at P2; exact P2
      | exn c fs t => rw [q2] at P2; exact P2
      | stuck => rw [q2] at P2; exact P2
  · rw [List.drop_length] at P2
    exact P2 _ _ _ (Same.refl _) R2
end
end G

set_option maxHeartbeats 1000000
/-! G4: comprehensions, while, defs and calls, several targets, methods. -/
namespace G
open PySem PySem.Spec PyProof.Rows L2
section
variable {K : PySem.W.Frag} {mg : Str → Option Value} {r : Addr} {X : Cx} {E : XK} {O O1 On Ol : List Nat} {e a b : Expr} {es : List Expr} {pos : Pos} {t ta tb : TE} {tt : TT} {ts : TA} {s1 : Stmt} {ss : List Stmt} {u u1 u2 : TS}

/-! ### while -/
def whileF (c : SE Bool) (body : SS) : Nat → SS
  | 0, _, _ => .stuck
  | n + 1, env, tp => (c env tp).bindS fun b tp1 => if b = true then (match body env tp1 with
      | .nx e t => whileF c body n e t
      | .ct e t => whileF c body n e t
      | .bk e t => .nx e t
      | x => x)
    else .nx env tp1
def whileS (n : Nat) (c : SE Bool) (body : SS) : SS := whileF c body n
theorem gs_while (n : Nat) {mc : SE Bool} {body : SS} (hp : PassesOwn (model X.prog X.w) X.A X.env X.xe) (hc : GT K mg r X O E e tt mc) (hb : GSs K mg r X E O O O ss u body) : GS K mg r X E O O Ol (.While e ss [] pos) (tWhile tt u) (whileS n mc body) := by
  refine ⟨ps_while hp hc.pe hb.pe, fun Hs0 H0 Hs H σ env tp D R P => ?_⟩
  refine ⟨fun m σ H => ∃ Hs env tp, Rel K mg r O Hs0 H0 Hs H σ env tp ∧ PostS K mg r E O Ol Hs0 H0 Hs (whileF mc body m env tp) D, ⟨n, Hs, env, tp, R, P⟩, ?_⟩
  rintro m σ1 H1 ⟨Hs1, env1, tp1, R1, P1⟩
  cases m with
  | zero => exact P1.elim
  | succ m =>
    unfold whileF at P1
    refine hc.snd _ _ _ _ _ _ _ _ R1 (PostS.bind R1 P1 fun v Hs2 H2 d tp2 _ g w R2 rv P2 => ?_)
    subst rv
    cases v with
    | false => exact iteF (P2 _ _ _ (Same.refl _) R2)
    | true =>
      refine iteT ⟨fun σ H => ∃ Hs env tp, Rel K mg r O Hs0 H0 Hs H σ env tp ∧ PostS K mg r E O Ol Hs0 H0 Hs (whileF mc body m env tp) D, fun σ' H' q => ⟨m, Nat.lt_succ_self m, q⟩, ?_⟩
      rw [if_pos rfl] at P2
      refine hb.snd _ _ _ _ _ _ _ _ R2 ?_
      have again : ∀ {e t}, PostS K mg r E O Ol Hs0 H0 Hs2 (whileF mc body m e t) D → ∀ σ' Hs' H', Same Hs2 Hs' → Rel K mg r O Hs0 H0 Hs' H' σ' e t → ∃ Hs env tp, Rel K mg r O Hs0 H0 Hs H' σ' env tp ∧ PostS K mg r E O Ol Hs0 H0 Hs (whileF mc body m env tp) D := fun P σ' Hs' H' e4 R' => ⟨Hs', _, _, R', P.shift e4⟩
      cases q2 : body env1 tp2 with
      | nx e t => rw [q2] at P2; exact again P2
      | ct e t => rw [q2] at P2; exact again P2
      | bk e t => rw [q2] at P2; exact P2
      | rt d t => rw [q2] at P2; exact P2
      | exn c fs t => rw [q2] at P2; exact P2
      | stuck => rw [q2] at P2; exact P2

/-! ### comprehensions -/
def wipeE {α : Type} (σ : List (Option α)) : List Nat → List (Option α)
  | [] => σ
  | v :: vs => (wipeE σ vs).set v none
theorem wipe_eq (σ : L2.St) : ∀ vs : List Nat, wipe σ vs = wipeE σ vs
  | [] => rfl
  | v :: vs => by unfold wipe wipeE; rw [wipe_eq σ vs]
theorem Rel.unset {Hs0 H0 Hs H : Hp} {σ : L2.St} {env : DEnv} {tp : List D} (R : Rel K mg r O Hs0 H0 Hs H σ env tp) (i : Nat) (hi : i ∉ O) : Rel K mg r O Hs0 H0 Hs H (σ.set i none) (env.set i none) tp where
  wd := R.wd
  gr := R.gr
  len := by rw [List.length_set, List.length_set]; exact R.len
  vars := fun j d a n => by
    have ne : j ≠ i := fun q => by
      subst q
      rw [List.getElem?_set] at a
      simp only [if_true] at a
      split at a <;> cases a
    rw [set_gne ne] at a ⊢
    exact R.vars j d a n
  own := fun j hj => by
    have ne : j ≠ i := fun q => hi (q ▸ hj)
    rw [set_gne ne, set_gne ne]
    exact R.own j hj
  dis := fun j l p hj hl a b => by
    rw [set_gne (by rintro rfl; exact hi hj)] at a
    rw [set_gne (by rintro rfl; exact hi hl)] at b
    exact R.dis j l p hj hl a b
theorem Rel.wiped {Hs0 H0 Hs H : Hp} {σ : L2.St} {env : DEnv} {tp : List D} (R : Rel K mg r O Hs0 H0 Hs H σ env tp) : ∀ vs : List Nat, (∀ i ∈ vs, i ∉ O) → Rel K mg r O Hs0 H0 Hs H (wipeE σ vs) (wipeE env vs) tp
  | [], _ => R
  | v :: vs, h => (Rel.wiped R vs fun i hi => h i (List.mem_cons_of_mem _ hi)).unset v (h v List.mem_cons_self)
theorem wipe_get {α : Type} {σ : List (Option α)} {i : Nat} : ∀ {vs : List Nat}, i ∉ vs → (wipeE σ vs)[i]? = σ[i]?
  | [], _ => rfl
  | v :: vs, h => by
    unfold wipeE
    rw [set_gne (by rintro rfl; exact h List.mem_cons_self), wipe_get fun q => h (List.mem_cons_of_mem _ q)]
theorem wipe_len {α : Type} {σ : List (Option α)} : ∀ {vs : List Nat}, (wipeE σ vs).length = σ.length
  | [] => rfl
  | v :: vs => by unfold wipeE; rw [List.length_set, wipe_len]
theorem wipe_none {α : Type} {σ : List (Option α)} {i : Nat} : ∀ {vs : List Nat}, i ∈ vs → (wipeE σ vs)[i]? = some none ∨ (wipeE σ vs)[i]? = none
  | v :: vs, h => by
    unfold wipeE
    by_cases q : i = v
    · subst q
      rw [List.getElem?_set]
      simp only [if_true]
      split
      · exact .inl rfl
      · exact .inr rfl
    · rw [set_gne q]
      rcases List.mem_cons.mp h with z | z
      · exact absurd z q
      · exact wipe_none z
theorem wipe_set {α : Type} {σ : List (Option α)} {i : Nat} {v : Option α} {vs : List Nat} (h : i ∈ vs) : wipeE (σ.set i v) vs = wipeE σ vs := by
  apply List.ext_getElem?
  intro j
  by_cases hj : j ∈ vs
  · have l1 : (wipeE (σ.set i v) vs).length = (wipeE σ vs).length := by rw [wipe_len, wipe_len, List.length_set]
    rcases Nat.lt_or_ge j (wipeE σ vs).length with q | q
    · rcases wipe_none (σ := σ.set i v) hj with a | a
      · rcases wipe_none (σ := σ) hj with b | b
        · rw [a, b]
        · rw [List.getElem?_eq_none_iff] at b; omega
      · rw [List.getElem?_eq_none_iff] at a; omega
    · rw [List.getElem?_eq_none q, List.getElem?_eq_none (by omega)]
  · rw [wipe_get hj, wipe_get hj, set_gne (by rintro rfl; exact hj h)]
theorem wipe_wipe {α : Type} {σ : List (Option α)} {vs : List Nat} : ∀ ws : List Nat, (∀ i ∈ ws, i ∈ vs) → wipeE (wipeE σ ws) vs = wipeE σ vs
  | [], _ => rfl
  | w :: ws, h => by
    show wipeE ((wipeE σ ws).set w none) vs = _
    rw [wipe_set (h w List.mem_cons_self), wipe_wipe ws fun i hi => h i (List.mem_cons_of_mem _ hi)]
theorem wipe_setAll {α : Type} {vs : List Nat} : ∀ (is : List Nat) (σ : List (Option α)) (ws : List α), (∀ i ∈ is, i ∈ vs) → wipeE (setAll σ is ws) vs = wipeE σ vs
  | [], σ, ws, _ => by unfold setAll; rfl
  | i :: is, σ, [], _ => by unfold setAll; rfl
  | i :: is, σ, w :: ws, h => by
    show wipeE (setAll (σ.set i (some w)) is ws) vs = _
    rw [wipe_setAll is _ ws fun j hj => h j (List.mem_cons_of_mem _ hj), wipe_set (h i List.mem_cons_self)]

/-- the items that a comprehension makes -/
def compL (f : D → List D → RE (Option D)) : List D → List D → RE (List D)
  | [], tp => .ok [] tp
  | d :: ds, tp => match f d tp with
    | .ok o tp1 => (match compL f ds tp1 with
      | .ok xs tp2 => .ok (o.toList ++ xs) tp2
      | _ => .stuck)
    | _ => .stuck
def yesT : SE Bool := fun _ tp => .ok true tp
def compTurn1 (tgt : D → Option (List D)) (is : List Nat) (c : SE Bool) (m : SE D) (env : DEnv) (d : D) (tp : List D) : RE (Option D) := match tgt d with
  | some ds => (c (setAll env is ds) tp).bind fun b tp1 => if b = true then (m (setAll env is ds) tp1).bind fun x tp2 => .ok (some x) tp2 else .ok none tp1
  | none => .stuck
def compE (mi : SE (List D)) (vs : List Nat) (tgt : D → Option (List D)) (is : List Nat) (c : SE Bool) (m : SE D) : SE D := fun env tp => (mi env tp).bind fun items tp1 =>
  if items.length ≤ sizeLine then (match compL (compTurn1 tgt is c m (wipeE env vs)) items tp1 with
    | .ok xs tp2 => .ok (.lst xs) tp2
    | _ => .stuck) else .stuck
/-- a clause's tests -/
structure GTs (K : PySem.W.Frag) (mg : Str → Option Value) (r : Addr) (X : Cx) (O : List Nat) (E : XK) (es : List Expr) (t : TT) (m : SE Bool) : Prop where
  pe : PTs X es t
  snd : ∀ Hs0 H0 Hs H σ env tp Q, Rel K mg r O Hs0 H0 Hs H σ env tp → PostB K mg r E Hs H (m env tp) Q → t σ H Q
theorem gts_nil : GTs K mg r X O E [] tYes yesT := ⟨pts_nil, fun Hs0 H0 Hs H σ env tp Q R P => P true Hs H (Grow.refl _ _) R.wd rfl⟩
theorem gts_one {m : SE Bool} (h : GT K mg r X O E e tt m) : GTs K mg r X O E [e] tt m := ⟨pts_one h.pe, h.snd⟩

theorem compL_cons {f : D → List D → RE (Option D)} {d : D} {ds : List D} {tp tpE : List D} {xs : List D} (h : compL f (d :: ds) tp = .ok xs tpE) : ∃ o tp1 xs', f d tp = .ok o tp1 ∧ compL f ds tp1 = .ok xs' tpE ∧ xs = o.toList ++ xs' := by
  unfold compL at h
  cases q : f d tp with
  | ok o tp1 =>
    rw [q] at h
    simp only at h
    cases q2 : compL f ds tp1 with
    | ok xs' tp2 =>
      rw [q2] at h
      simp only [RE.ok.injEq] at h
      exact ⟨o, tp1, xs', rfl, by rw [q2, h.2], h.1.symm⟩
    | _ => rw [q2] at h; cases h
  | _ => rw [q] at h; cases h
theorem Rel.other {Hs0 H0 Hs H : Hp} {σ : L2.St} {env : DEnv} {tp : List D} {p : Addr} {o : HO} (R : Rel K mg r O Hs0 H0 Hs H σ env tp) (hs : Hs p = none) (h0 : H0 p = none) (ne : p ≠ r) (hO : ∀ j ∈ O, σ[j]? ≠ some (some (.ref p))) : Rel K mg r O Hs0 H0 Hs (upd H p o) σ env tp := by
  refine ⟨R.wd.write hs ne, ⟨fun b u q n => ?_, R.gr.ex, R.gr.new⟩, R.len, R.vars, fun j hj => ?_, R.dis⟩
  · rw [upd_ne (ne_of_none q h0)]; exact R.gr.keep b u q n
  · obtain ⟨d', p', b1, b2, c, c0, n, oa⟩ := R.own j hj
    have np : p' ≠ p := fun z => hO j hj (z ▸ b2)
    exact ⟨d', p', b1, b2, c, c0, n, oa.grow (Same.refl _) fun u z => by rw [upd_ne np]; exact z⟩
theorem Grow.other {Hs H Hs' H' : Hp} {p : Addr} {o : HO} (g : Grow r Hs H Hs' H') (h : H p = none) : Grow r Hs H Hs' (upd H' p o) :=
  ⟨fun b u q n => by rw [upd_ne (ne_of_none q h)]; exact g.keep b u q n, g.ex, g.new⟩
theorem Grow.no {Hs H Hs' H' : Hp} {p : Addr} {o : HO} (g : Grow r Hs H Hs' H') (hs : Hs p = none) (h : H p = some o) (ne : p ≠ r) : Hs' p = none := by
  cases z : Hs' p with
  | none => rfl
  | some u =>
    rcases g.new p u ne z with q | q
    · rw [hs] at q; cases q
    · rw [h] at q; cases q
theorem comp_sound {wi : TI} {g : TG} {te : TE} {is vs : List Nat} {tgt : D → Option (List D)} {mi : SE (List D)} {c : SE Bool} {m : SE D}
    (hi : ∀ Hs0 H0 Hs H σ env tp Q, Rel K mg r O Hs0 H0 Hs H σ env tp → Post K mg r (fun Hs _ J items => WalksD K mg r J Hs items) E Hs H (mi env tp) Q → wi σ H Q)
    (hg : ∀ v d ds Hs H tp σ (Q : L2.St → Hp → Prop), Wd K mg r Hs H tp → RepD K mg r Hs v d → tgt d = some ds → (∀ vs, RepDs K mg r Hs vs ds → vs.length = is.length → Q (setAll σ is vs) H) → g v σ H Q)
    (ht : ∀ Hs0 H0 Hs H σ env tp Q, Rel K mg r O Hs0 H0 Hs H σ env tp → PostB K mg r E0 Hs H (c env tp) Q → tt σ H Q)
    (he : ∀ Hs0 H0 Hs H σ env tp Q, Rel K mg r O Hs0 H0 Hs H σ env tp → PostE K mg r E0 Hs H (m env tp) Q → te σ H Q)
    (hvs : ∀ i ∈ vs, i ∉ O) (his : ∀ i ∈ is, i ∈ vs) :
    ∀ Hs0 H0 Hs H σ env tp Q, Rel K mg r O Hs0 H0 Hs H σ env tp → Post K mg r (Fresh K mg r H) E Hs H (compE mi vs tgt is c m env tp) Q → tLc wi g tt te vs σ H Q := by
  intro Hs0 H0 Hs H σ env tp Q R P
  refine hi _ _ _ _ _ _ _ _ R ?_
  unfold compE at P
  cases q : mi env tp with
  | stuck => rw [q] at P; exact P.elim
  | exn cc fs tp1 => rw [q] at P; exact P
  | ok items tp1 =>
    rw [q] at P
    intro J Hs1 H1 g1 w1 wd Dl hD
    simp only [RE.bind_ok] at P
    by_cases hz : items.length ≤ sizeLine
    case neg => rw [if_neg hz] at P; exact P.elim
    rw [if_pos hz] at P
    cases q2 : compL (compTurn1 tgt is c m (wipeE env vs)) items tp1 with
    | stuck => rw [q2] at P; exact P.elim
    | exn cc fs tp2 => rw [q2] at P; exact P.elim
    | ok all tpE =>
      rw [q2] at P
      have P : ∀ v Hs' H', Grow r Hs H Hs' H' → Wd K mg r Hs' H' tpE → Fresh K mg r H Hs' H' v (.lst all) → Q v H' := P
      obtain ⟨Gd, Y, wk, hG, hY⟩ := wd
      have R1 := R.grow g1 w1
      obtain ⟨fD, neD⟩ := w1.fresh hD
      have h0D : H Dl = none := by
        cases z : H Dl with
        | none => rfl
        | some u => rw [g1.keep Dl u z neD] at hD; cases hD
      have Rw := R1.wiped vs hvs
      obtain ⟨gl, wl⟩ := w1.lay (o := .lst []) hD
      obtain ⟨n1, n2⟩ := R.new_ne h0D neD
      have n3 : ∀ j ∈ O, (wipeE σ vs)[j]? ≠ some (some (.ref Dl)) := fun j hj z => n2 j hj (by rw [← z, wipe_get fun q => hvs j q hj])
      have hisO : ∀ i ∈ is, i ∉ O := fun i hi => hvs i (his i hi)
      refine lc_it wk (Qd := fun H' => Q (.ref Dl) H') (fun i H' => ∃ Hs2 vsL dsL tp xs, Rel K mg r O Hs0 H0 Hs2 H' (wipeE σ vs) (wipeE env vs) tp ∧ Same Hs1 Hs2 ∧ Grow r Hs H Hs2 H' ∧ Hs2 Dl = none ∧ H' Dl = some (.lst vsL) ∧ RepDs K mg r Hs2 vsL dsL ∧ dsL.length ≤ i ∧
        compL (compTurn1 tgt is c m (wipeE env vs)) (items.drop i) tp = .ok xs tpE ∧ dsL ++ xs = all) ⟨Hs1, [], [], tp1, all, Rw.grow gl wl, Same.refl _, g1.trans gl, fD, upd_same, .nil, Nat.le_refl _, q2, rfl⟩ ?_ ?_ ?_
      · rintro i H' _ ⟨Hs2, vsL, dsL, tp2, xs, R2, e2, _⟩
        exact hG Hs2 H' e2 R2.wd.sub
      · rintro i x H2 H3 hi2 ⟨Hs2, vsL, dsL, tp2, xs, R2, e2, g2, f2, hD2, rs2, hl2, hc2, ha2⟩ y
        obtain ⟨Hs3, d, g3, w3, hd, rd⟩ := hY i Hs2 H2 tp2 x H3 hi2 e2 R2.wd y
        rw [List.drop_eq_getElem_cons hi2] at hc2
        have hd' : items[i] = d := by rw [List.getElem?_eq_getElem hi2] at hd; exact Option.some.inj hd
        rw [hd'] at hc2
        obtain ⟨o, tp3, xs', hf, hrest, hxs⟩ := compL_cons hc2
        unfold compTurn1 at hf
        cases qt : tgt d with
        | none => rw [qt] at hf; cases hf
        | some es =>
          rw [qt] at hf
          simp only at hf
          rw [wipe_eq]
          refine hg x d es Hs3 H3 tp2 _ _ w3 rd qt fun ws rs hl => ⟨by rw [wipe_eq, wipe_setAll is _ _ his, wipe_wipe vs fun _ h => h], ?_⟩
          have R3 := rel_setAll is _ _ _ _ (R2.grow g3 w3) hisO rs hl
          have f3 := g3.no f2 hD2 neD
          have hD3 := g3.keep Dl _ hD2 neD
          refine ht _ _ _ _ _ _ _ _ R3 ?_
          cases qb : c (setAll (wipeE env vs) is es) tp2 with
          | stuck => rw [qb] at hf; cases hf
          | exn cc fs tp4 => rw [qb] at hf; cases hf
          | ok b tpb =>
            rw [qb] at hf
            simp only [RE.bind_ok] at hf
            intro v Hs4 H4 g4 w4 ev
            subst ev
            have f4 := g4.no f3 hD3 neD
            have hD4 := g4.keep Dl _ hD3 neD
            cases v with
            | false =>
              rw [if_neg Bool.false_ne_true] at hf
              simp only [RE.ok.injEq] at hf
              obtain ⟨ho, htp⟩ := hf
              subst ho htp
              refine iteF ⟨Hs4, vsL, dsL, tpb, xs', R2.grow (g3.trans g4) w4, e2.trans (g3.ex.trans g4.ex), g2.trans (g3.trans g4), f4, hD4, rs2.mono (g3.ex.trans g4.ex), by omega, hrest, ?_⟩
              rw [← ha2, hxs]; rfl
            | true =>
              rw [if_pos rfl] at hf
              refine iteT (he _ _ _ _ _ _ _ _ (R3.grow g4 w4) ?_)
              cases qm : m (setAll (wipeE env vs) is es) tpb with
              | stuck => rw [qm] at hf; cases hf
              | exn cc fs tp4 => rw [qm] at hf; cases hf
              | ok z tpz =>
                rw [qm] at hf
                simp only [RE.bind_ok, RE.ok.injEq] at hf
                obtain ⟨ho, htp⟩ := hf
                subst ho htp
                intro y5 Hs5 H5 g5 w5 ry
                have f5 := g5.no f4 hD4 neD
                have hD5 := g5.keep Dl _ hD4 neD
                have e5 := g3.ex.trans (g4.ex.trans g5.ex)
                refine ⟨vsL, hD5, by rw [rs2.length]; omega, Hs5, vsL ++ [y5], dsL ++ [z], tpz, xs', ?_, e2.trans e5, ?_, f5, upd_same, (rs2.mono e5).append (.cons ry .nil), by rw [List.length_append, List.length_singleton]; omega, hrest, ?_⟩
                · exact (R2.grow (g3.trans (g4.trans g5)) w5).other f5 n1 neD n3
                · exact (g2.trans (g3.trans (g4.trans g5))).other h0D
                · rw [← ha2, hxs, List.append_assoc]; rfl
      · rintro H2 ⟨Hs2, vsL, dsL, tp2, xs, R2, e2, g2, f2, hD2, rs2, hl2, hc2, ha2⟩
        rw [List.drop_length] at hc2
        unfold compL at hc2
        simp only [RE.ok.injEq] at hc2
        obtain ⟨hx, htp⟩ := hc2
        subst hx htp
        rw [List.append_nil] at ha2
        subst ha2
        exact P _ Hs2 H2 g2 R2.wd ⟨Dl, rfl, h0D, f2, neD, vsL, hD2, rs2⟩

/-- a list comprehension (one clause) -/
theorem gf_lc {elt tg iter : Expr} {ifs : List Expr} {scope : Scope} {own : List (Str × Nat)} {wi : TI} {g : TG} {te : TE} {is : List Nat} {tgt : D → Option (List D)} {mi : SE (List D)} {c : SE Bool} {m : SE D} (hc : X.calm = true) (hN : X.N.Nodup) (hi : GI K mg r X O E tg iter wi mi) (ok : BlkOk X.N X.env.scope scope own)
    (hg : ∀ (s : Shared) (H : Hp) (C : Addr) (cl : List (Str × Addr)) (fp : List Addr), GG K mg r (X.blk s H scope (compEnvC scope cl C X.env) fp) tg g is tgt)
    (ht : ∀ (s : Shared) (H : Hp) (C : Addr) (cl : List (Str × Addr)) (fp : List Addr), GTs K mg r (X.blk s H scope (compEnvC scope cl C X.env) fp) O E0 ifs tt c)
    (he : ∀ (s : Shared) (H : Hp) (C : Addr) (cl : List (Str × Addr)) (fp : List Addr), GE K mg r (X.blk s H scope (compEnvC scope cl C X.env) fp) O E0 elt te m)
    (hvs : ∀ i ∈ own.map (·.2), i ∉ O) (his : ∀ i ∈ is, i ∈ own.map (·.2)) (hs : ∀ x, foldedSetIterable iter X.env x = pure x := by intro _; rfl) :
    GF K mg r X O E (.ListComp elt [⟨tg, iter, ifs, 0⟩] scope pos) (tLc wi g tt te (own.map (·.2))) (compE mi (own.map (·.2)) tgt is c m) :=
  ⟨pe_lc hc hN hi.pe ok (fun s H C cl fp => (hg s H C cl fp).pe) (fun s H C cl fp => (ht s H C cl fp).pe) (fun s H C cl fp => (he s H C cl fp).pe) hs,
    comp_sound hi.snd (hg X.s_0 X.H_0 0 [] []).snd (ht X.s_0 X.H_0 0 [] []).snd (he X.s_0 X.H_0 0 [] []).snd hvs his⟩
/-- name = [..] on one line, the name a local -/
theorem lc_stmt {i : Nat} {y : Str} {py : Pos} {elt tg iter : Expr} {ifs : List Expr} {scope : Scope} {own : List (Str × Nat)} {pos spos : Pos} {wi : TI} {g : TG} {te : TE} {is : List Nat} {tgt : D → Option (List D)} {mi : SE (List D)} {c : SE Bool} {m : SE D} (hc : X.calm = true) (hN : X.N.Nodup) (hi : GI K mg r X O E tg iter wi mi) (ok : BlkOk X.N X.env.scope scope own)
    (hg : ∀ (s : Shared) (H : Hp) (C : Addr) (cl : List (Str × Addr)) (fp : List Addr), GG K mg r (X.blk s H scope (compEnvC scope cl C X.env) fp) tg g is tgt)
    (ht : ∀ (s : Shared) (H : Hp) (C : Addr) (cl : List (Str × Addr)) (fp : List Addr), GTs K mg r (X.blk s H scope (compEnvC scope cl C X.env) fp) O E0 ifs tt c)
    (he : ∀ (s : Shared) (H : Hp) (C : Addr) (cl : List (Str × Addr)) (fp : List Addr), GE K mg r (X.blk s H scope (compEnvC scope cl C X.env) fp) O E0 elt te m)
    (hvs : ∀ i ∈ own.map (·.2), i ∉ O) (his : ∀ i ∈ is, i ∈ own.map (·.2)) (hy : X.N[i]? = some y := by rfl) (hyl : X.env.scope.names.lookup y = some .local := by rfl)
    (hsw : swapsWith (.ListComp elt [⟨tg, iter, ifs, 0⟩] scope pos) (some (.Name y py)) spos.line X.env = pure true := by exact sw_true rfl rfl rfl (by decide +kernel)) (hs : ∀ x, foldedSetIterable iter X.env x = pure x := by intro _; rfl) :
    PS X (.Assign [.Name y py] (.ListComp elt [⟨tg, iter, ifs, 0⟩] scope pos) spos) (tAsg (tLc wi g tt te (own.map (·.2))) (gName i)) ∧
    ∀ Hs0 H0 Hs H σ env tp Q, Rel K mg r O Hs0 H0 Hs H σ env tp → Post K mg r (Fresh K mg r H) E Hs H (compE mi (own.map (·.2)) tgt is c m env tp) Q → tLc wi g tt te (own.map (·.2)) σ H Q :=
  ⟨ps_setLc hc hN hy hyl hsw hi.pe ok (fun s H C cl fp => (hg s H C cl fp).pe) (fun s H C cl fp => (ht s H C cl fp).pe) (fun s H C cl fp => (he s H C cl fp).pe) hs,
    comp_sound hi.snd (hg X.s_0 X.H_0 0 [] []).snd (ht X.s_0 X.H_0 0 [] []).snd (he X.s_0 X.H_0 0 [] []).snd hvs his⟩
theorem ge_of_gf {m : SE D} (h : ∀ Hs0 H0 Hs H σ env tp Q, Rel K mg r O Hs0 H0 Hs H σ env tp → Post K mg r (Fresh K mg r H) E Hs H (m env tp) Q → t σ H Q) : ∀ Hs0 H0 Hs H σ env tp Q, Rel K mg r O Hs0 H0 Hs H σ env tp → PostE K mg r E Hs H (m env tp) Q → t σ H Q := by
  intro Hs0 H0 Hs H σ env tp Q R P
  refine h _ _ _ _ _ _ _ _ R ?_
  unfold PostE at P
  cases q : m env tp with
  | ok d tp' =>
    rw [q] at P
    intro v Hs' H' g w x
    obtain ⟨Hs2, e, w2, rv, nw⟩ := freeze_fresh w x
    refine P v Hs2 H' ⟨g.keep, g.ex.trans e, fun b o n z => ?_⟩ w2 rv
    rcases nw b o z with z | z
    · exact g.new b o n z
    · exact .inr z
  | exn c fs tp' => rw [q] at P; exact P
  | stuck => rw [q] at P; exact P
theorem gs_setLc {i : Nat} {st : Stmt} {m : SE D} (h : PS X st (tAsg t (gName i)) ∧ ∀ Hs0 H0 Hs H σ env tp Q, Rel K mg r O Hs0 H0 Hs H σ env tp → Post K mg r (Fresh K mg r H) E Hs H (m env tp) Q → t σ H Q) : GS K mg r X E O (O.filter (· != i)) Ol st (tAsg t (gName i)) (setS i m) :=
  ⟨h.1, setS_sound i (ge_of_gf h.2)⟩
theorem gs_setLcF {i : Nat} {st : Stmt} {m : SE D} (h : PS X st (tAsg t (gName i)) ∧ ∀ Hs0 H0 Hs H σ env tp Q, Rel K mg r O Hs0 H0 Hs H σ env tp → Post K mg r (Fresh K mg r H) E Hs H (m env tp) Q → t σ H Q) : GS K mg r X E O (i :: O.filter (· != i)) Ol st (tAsg t (gName i)) (setFS i m) :=
  ⟨h.1, setF_sound i h.2⟩

/-! ### defs and calls -/
def spOf (K : PySem.W.Frag) (mg : Str → Option Value) (r : Addr) (n : Nat) (m : List D → List D → RE D) : Sp := fun vs H Q E => ∃ Hs ds tp, vs.length = n ∧ Wd K mg r Hs H tp ∧ RepDs K mg r Hs vs ds ∧ PostE K mg r E Hs H (m ds tp) Q
structure DefOk (P : Program) (w : World) (K : PySem.W.Frag) (mg : Str → Option Value) (base : Heap) (CX : CXT) (r : Addr) (x : Str) (k n : Nat) (m : List D → List D → RE D) : Prop where
  ex : ∃ f fd ps, FnOk P w K mg base CX k f fd ps (spOf K mg r n m) ∧ mg x = some (.ref f) ∧ PySem.W.keepIn K (.ref f) = true ∧ Binds K fd ps []
def callE (n : Nat) (m : List D → List D → RE D) (ms : SE (List D)) : SE D := fun env tp => (ms env tp).bind fun ds tp1 => if ds.length = n then m ds tp1 else .stuck
theorem call_sound {n : Nat} {m : List D → List D → RE D} {ms : SE (List D)} (h : ∀ Hs0 H0 Hs H σ env tp Q, Rel K mg r O Hs0 H0 Hs H σ env tp → PostA K mg r E Hs H (ms env tp) Q → ts σ H Q) :
    ∀ Hs0 H0 Hs H σ env tp Q, Rel K mg r O Hs0 H0 Hs H σ env tp → PostE K mg r E Hs H (callE n m ms env tp) Q → tCall (spOf K mg r n m) [] E ts σ H Q := by
  intro Hs0 H0 Hs H σ env tp Q R P
  refine h _ _ _ _ _ _ _ _ R (Post.bind P fun vs Hs1 H1 ds tp1 _ g w rs P1 => ?_)
  split at P1
  · rename_i hl
    exact ⟨Hs1, ds, tp1, by rw [List.append_nil, rs.length]; exact hl, w, by rw [List.append_nil]; exact rs, P1⟩
  · exact P1.elim
theorem ge_call {CX : CXT} {x : Str} {k n : Nat} {m : List D → List D → RE D} {ms : SE (List D)} {p : Pos} (dk : DefOk X.prog X.w X.K X.mg X.base CX r x k n m) (hr : Room k X.A) (hx : Passes CX X E) (ha : GA K mg r X O E (e :: es) ts ms) (hK : X.K = K := by rfl) (hmg : X.mg = mg := by rfl) (hg : Gl X x := by rfl)
    (hdb : (x == ("__debug__" : Str)) = false := by decide) (he : starEach (e :: es) X.env = (false, eval e X.env) :: starEach es X.env := by rfl) (hpl : (backTo pos (starEach es X.env)).any (·.1) = false := by rfl) :
    GE K mg r X O E (.Call (.Name x p) (e :: es) [] pos) (tCall (spOf K mg r n m) [] E ts) (callE n m ms) := by
  subst hK hmg
  obtain ⟨f, fd, ps, F, hm, hk, hb⟩ := dk.ex
  exact ⟨pe_call F hr hg hm hk hb .nil hx ha.pe hdb he hpl, call_sound ha.snd⟩
/-- a body's result as a def's -/
def retR : RS → RE D
  | .rt d tp => .ok d tp
  | .nx _ tp => .ok .non tp
  | _ => .stuck
def defD (N : Nat) (body : SS) : List D → List D → RE D := fun ds tp => retR (body (ds.map some ++ List.replicate (N - ds.length) none) tp)
theorem rel_start {Hs H : Hp} {tp : List D} {N : List Str} {vs : List V} {ds : List D} (w : Wd K mg r Hs H tp) (rs : RepDs K mg r Hs vs ds) : Rel K mg r [] Hs H Hs H (L2.start N vs) (ds.map some ++ List.replicate (N.length - ds.length) none) tp where
  wd := w
  gr := Grow.refl _ _
  len := by unfold L2.start; rw [List.length_append, List.length_append, List.length_map, List.length_map, List.length_replicate, List.length_replicate, rs.length]
  vars := fun i d a _ => by
    have hi : i < ds.length := by
      rcases Nat.lt_or_ge i ds.length with q | q
      · exact q
      · rw [List.getElem?_append_right (by rw [List.length_map]; exact q), List.getElem?_replicate] at a
        split at a <;> cases a
    rw [List.getElem?_append_left (by rw [List.length_map]; exact hi), List.getElem?_map] at a
    obtain ⟨d', h1, h2⟩ := Option.map_eq_some_iff.mp a
    cases h2
    obtain ⟨v, h3, h4⟩ := rs.get' h1
    refine ⟨v, ?_, h4⟩
    unfold L2.start
    rw [List.getElem?_append_left (by rw [List.length_map, rs.length]; exact hi), List.getElem?_map, h3]
    rfl
  own := fun i hi => nomatch hi
  dis := fun i j p hi => nomatch hi
section
variable {P : Program} {w : World} {base : Heap}
theorem fn_def {x qual : Str} {params : Arguments} {body : List Stmt} {scope : Scope} {f : Addr} {fd : FuncData} {N ps : List Str} {k : Nat} {m : SS} (F : FunD K x qual params body scope [] [] f fd) (S : FnScope N ps scope) (hm : mg x = some (.ref f))
    (hb : ∀ (kV doc pm : Value) (an : Option Addr) (cdv ct : Value) (us : List Value), us.length = ps.length → bindArgs (PySem.W.fnOf x qual params body scope .none kV doc pm an cdv ct) ⟨us, []⟩ = pure (ps.zip us))
    (h : ∀ (cdv : Value) (A : Around) (outer : List Env) (s : Shared) (H : Hp) (E : XK), Room k (A.deeper (envOfC qual scope s.heap.objs.size f cdv)) → ∃ On u, GSs K mg r (cxOf CX0 P w K mg base N qual scope f cdv A outer s H E).nox E0 [] On [] body u m) :
    DefOk P w K mg base CX0 r x (k + 1) ps.length (defD N.length m) := by
  refine ⟨f, fd, ps, F.ok S (fun vs H Q E q => ?_) (fun cdv A outer s H vs Q E hr q => ?_), hm, F.kp, F.bindsN hb⟩
  · obtain ⟨_, _, _, h1, _⟩ := q
    exact h1
  · obtain ⟨Hs, ds, tp, hl, wd, rs, P1⟩ := q
    obtain ⟨On, u, hG⟩ := h cdv A outer s H E hr
    refine ⟨u, hG.pe.nox, hG.snd _ _ _ _ _ _ _ _ (rel_start wd rs) ?_⟩
    unfold defD at P1
    cases q : m (ds.map some ++ List.replicate (N.length - ds.length) none) tp with
    | rt d tp' =>
      rw [q] at P1
      exact fun v Hs' H' g w rv => P1 v Hs' H' g w rv
    | nx env' tp' =>
      rw [q] at P1
      exact fun σ' Hs' H' e R => P1 .non Hs' H' R.gr R.wd .non
    | bk env' tp' => rw [q] at P1; exact P1.elim
    | ct env' tp' => rw [q] at P1; exact P1.elim
    | exn c fs tp' => rw [q] at P1; exact P1.elim
    | stuck => rw [q] at P1; exact P1.elim
/-- the law: its first statement makes the tape -/
def spLaw (K : PySem.W.Frag) : Sp := fun vs H Q _ => ∃ (a : Addr) (ns : List Int), vs = [.ref a] ∧ SqL K H a (ns.map V.int) ∧ ns.length ≤ 63 ∧ ∀ H', Q (.bl true) H'
theorem fn_law {x qual : Str} {params : Arguments} {body : List Stmt} {scope : Scope} {f : Addr} {fd : FuncData} {N : List Str} {k : Nat} {sx rx : Str} {p1 p2 p3 p4 p5 p6 p7 : Pos} {k0 k1 k2 : Nat} {c : Int} {m : SS}
    (F : FunD K x qual params (.Assign [.Name rx p1] (.List [.Name sx p2, .Constant (.int 0) k0 p3, .Constant (.int c) k1 p4, .Constant (.int 0) k2 p5] p6) p7 :: body) scope [] [] f fd) (S : FnScope (sx :: rx :: N) [sx] scope) (hlx : scope.names.lookup sx = some .local ∨ scope.names.lookup sx = some .cell) (hlr : scope.names.lookup rx = some .local ∨ scope.names.lookup rx = some .cell)
    (hd : (sx == ("__debug__" : Str)) = false := by decide) (hcd : (sx == ("__classdict__" : Str)) = false := by decide)
    (h : ∀ (r : Addr) (cdv : Value) (A : Around) (outer : List Env) (s : Shared) (H : Hp) (E : XK), Room k (A.deeper (envOfC qual scope s.heap.objs.size f cdv)) → ∃ On u, GSs K mg r (cxOf CX0 P w K mg base (sx :: rx :: N) qual scope f cdv A outer s H E).nox E0 [] On [] body u m)
    (hv : ∀ ns : List Int, ns.length ≤ 63 → ∃ tp', retR (m (some (.scr ns) :: some .tape :: List.replicate N.length none) [.scr ns, .int 0, .int c, .int 0]) = .ok (.bl true) tp') :
    FnOk P w K mg base CX0 (k + 1) f fd [sx] (spLaw K) := by
  refine F.ok S (fun vs H Q E q => ?_) (fun cdv A outer s H vs Q E hr q => ?_)
  · obtain ⟨a, ns, rfl, _⟩ := q
    rfl
  · obtain ⟨a, ns, rfl, hS, hlen, kq⟩ := q
    have vs1 : Vis scope sx := hlx.elim .inl fun q => .inr (.inl q)
    refine ⟨tSeq (tAsg (tLst (tCons (tVar 0) (tCons (tC (.int 0)) (tCons (tC (.int c)) (tCons (tC (.int 0)) tNil))))) (gName 1)) (fun D σ H1 => ∃ p, H p = none ∧ H1 = upd H p (.lst [.ref a, .int 0, .int c, .int 0]) ∧ σ = some (.ref a) :: some (.ref p) :: List.replicate N.length none ∧ ∀ v H', v = .bl true → D.rt v H'), ?_, ?_⟩
    · refine PSs.nox (pss_cons (ps_set (i := 1) S.nd rfl hlr (pe_lst (pa_cons (pe_var (i := 0) rfl vs1 hd hcd) (pa_cons pe_int (pa_cons pe_int (pa_cons pe_int pa_nil)))))) ?_)
      refine ⟨fun pins s2 σ H1 D I q => ?_⟩
      obtain ⟨p, hp, rfl, rfl, hq⟩ := q
      obtain ⟨On, u, hG⟩ := h p cdv A outer s H E hr
      refine hG.pe.run pins s2 _ _ D I (hG.snd H (upd H p (.lst [.ref a, .int 0, .int c, .int 0])) H _ _ (some (.scr ns) :: some .tape :: List.replicate N.length none) [.scr ns, .int 0, .int c, .int 0] _ ⟨⟨same_new hp, hp, _, upd_same, ?_⟩, Grow.refl _ _, ?_, ?_, (fun i hi => nomatch hi), (fun i j p hi => nomatch hi)⟩ ?_)
      · exact .cons (.scr hS) (.cons (.int 0) (.cons (.int c) (.cons (.int 0) .nil)))
      · simp
      · intro i d hi _
        match i, hi with
        | 0, hi => cases hi; exact ⟨_, rfl, .scr hS⟩
        | 1, hi => cases hi; exact ⟨_, rfl, .tape⟩
        | i + 2, hi =>
          rw [List.getElem?_cons_succ, List.getElem?_cons_succ, List.getElem?_replicate] at hi
          split at hi <;> cases hi
      · obtain ⟨tp', e⟩ := hv ns hlen
        cases q : m (some (.scr ns) :: some .tape :: List.replicate N.length none) [.scr ns, .int 0, .int c, .int 0] with
        | rt d tp2 =>
          rw [q] at e
          cases e
          intro v Hs' H' g w rv
          cases rv
          exact hq _ _ rfl
        | nx env' tp2 => rw [q] at e; cases e
        | bk env' tp' => rw [q] at e; cases e
        | ct env' tp' => rw [q] at e; cases e
        | exn c fs tp' => rw [q] at e; cases e
        | stuck => rw [q] at e; cases e
    · refine ⟨_, rfl, by show 4 ≤ sizeLine; rw [sizeLine_eq]; decide, fun p hp => ⟨p, hp, rfl, ?_, fun v H' ev => ev ▸ kq H'⟩⟩
      show List.set (L2.start (sx :: rx :: N) [.ref a]) 1 (some (.ref p)) = _
      unfold L2.start
      simp [List.replicate_succ]
end
end
end G

set_option maxHeartbeats 1000000
/-! G5: several targets, methods, a pop into an append. -/
namespace G
open PySem PySem.Spec PyProof.Rows L2
section
variable {K : PySem.W.Frag} {mg : Str → Option Value} {r : Addr} {X : Cx} {E : XK} {O O1 On Ol : List Nat} {e a b c : Expr} {es : List Expr} {pos : Pos} {t ta tb : TE} {tt : TT} {ts : TA} {s1 : Stmt} {ss : List Stmt} {u u1 u2 : TS}

/-! ### several values, some of them fresh -/
inductive RepK (K : PySem.W.Frag) (mg : Str → Option Value) (r : Addr) (Hs H : Hp) : List Bool → List V → List D → List Addr → Prop
  | nil : RepK K mg r Hs H [] [] [] []
  | st {v : V} {d : D} {ks : List Bool} {vs : List V} {ds : List D} {ps : List Addr} : RepD K mg r Hs v d → RepK K mg r Hs H ks vs ds ps → RepK K mg r Hs H (false :: ks) (v :: vs) (d :: ds) ps
  | fr {p : Addr} {d : D} {ks : List Bool} {vs : List V} {ds : List D} {ps : List Addr} : Hs p = none → p ≠ r → OwnAt K mg r Hs H p d → RepK K mg r Hs H ks vs ds ps → RepK K mg r Hs H (true :: ks) (.ref p :: vs) (d :: ds) (p :: ps)
theorem RepK.len {Hs H : Hp} : ∀ {ks : List Bool} {vs : List V} {ds : List D} {ps : List Addr}, RepK K mg r Hs H ks vs ds ps → vs.length = ks.length ∧ ds.length = ks.length
  | _, _, _, _, .nil => ⟨rfl, rfl⟩
  | _, _, _, _, .st _ q => by simp only [List.length_cons, q.len.1, q.len.2, and_self]
  | _, _, _, _, .fr _ _ _ q => by simp only [List.length_cons, q.len.1, q.len.2, and_self]
/-- the tuple that holds them (or any other object of no one's) is laid -/
theorem RepK.lay {Hs H : Hp} {q : Addr} {o : HO} (hq : H q = none) : ∀ {ks : List Bool} {vs : List V} {ds : List D} {ps : List Addr}, RepK K mg r Hs H ks vs ds ps → RepK K mg r Hs (upd H q o) ks vs ds ps
  | _, _, _, _, .nil => .nil
  | _, _, _, _, .st h k => .st h (RepK.lay hq k)
  | _, _, _, _, .fr h n oa k => .fr h n (oa.grow (Same.refl _) fun u z => by rw [upd_ne (ne_of_none z hq)]; exact z) (RepK.lay hq k)
structure GAK (K : PySem.W.Frag) (mg : Str → Option Value) (r : Addr) (X : Cx) (O : List Nat) (E : XK) (es : List Expr) (t : TA) (ks : List Bool) (m : SE (List D)) : Prop where
  pe : PA X es t
  snd : ∀ Hs0 H0 Hs H σ env tp Q, Rel K mg r O Hs0 H0 Hs H σ env tp → Post K mg r (fun Hs' H' vs ds => ∃ ps, RepK K mg r Hs' H' ks vs ds ps ∧ ps.Nodup ∧ ∀ p ∈ ps, H p = none) E Hs H (m env tp) Q → t σ H Q
theorem gak_nil : GAK K mg r X O E [] tNil [] nilA := ⟨pa_nil, fun Hs0 H0 Hs H σ env tp Q R P => P [] Hs H (Grow.refl _ _) R.wd ⟨[], .nil, List.nodup_nil, fun _ h => nomatch h⟩⟩
theorem free_back {Hs H Hs' H' : Hp} {p : Addr} (g : Grow r Hs H Hs' H') (h : H' p = none) (ne : p ≠ r) : H p = none := by
  cases z : H p with
  | none => rfl
  | some u => rw [g.keep p u z ne] at h; cases h
theorem RepK.ner {Hs H : Hp} : ∀ {ks : List Bool} {vs : List V} {ds : List D} {ps : List Addr}, RepK K mg r Hs H ks vs ds ps → ∀ p ∈ ps, p ≠ r
  | _, _, _, _, .nil, _, h => nomatch h
  | _, _, _, _, .st _ k, p, h => RepK.ner k p h
  | _, _, _, _, .fr _ n _ k, p, h => by
    rcases List.mem_cons.mp h with rfl | h
    · exact n
    · exact RepK.ner k p h
theorem gak_st {ks : List Bool} {m : SE D} {ms : SE (List D)} (h : GE K mg r X O E e t m) (hs : GAK K mg r X O E es ts ks ms) (hst : starEach (e :: es) X.env = (false, eval e X.env) :: starEach es X.env := by rfl) : GAK K mg r X O E (e :: es) (tCons t ts) (false :: ks) (consA m ms) := by
  refine ⟨pa_cons h.pe hs.pe hst, fun Hs0 H0 Hs H σ env tp Q R P => ?_⟩
  refine h.snd _ _ _ _ _ _ _ _ R ?_
  unfold consA at P
  cases q : m env tp with
  | stuck => rw [q] at P; exact P
  | exn c fs tp1 => rw [q] at P; exact P
  | ok d tp1 =>
    rw [q] at P
    intro v Hs1 H1 g w rv
    refine hs.snd _ _ _ _ _ _ _ _ (R.grow g w) ?_
    simp only [RE.bind_ok] at P
    cases q2 : ms env tp1 with
    | stuck => rw [q2] at P; exact P
    | exn c fs tp2 => rw [q2] at P; exact Post.shift g P
    | ok ds tp2 =>
      rw [q2] at P
      rintro vs Hs2 H2 g2 w2 ⟨ps, hk, nd, fr⟩
      exact P _ Hs2 H2 (g.trans g2) w2 ⟨ps, .st (rv.mono g2.ex) hk, nd, fun p hp => free_back g (fr p hp) (hk.ner p hp)⟩
theorem gak_fr {ks : List Bool} {m : SE D} {ms : SE (List D)} (h : GF K mg r X O E e t m) (hs : GAK K mg r X O E es ts ks ms) (hst : starEach (e :: es) X.env = (false, eval e X.env) :: starEach es X.env := by rfl) : GAK K mg r X O E (e :: es) (tCons t ts) (true :: ks) (consA m ms) := by
  refine ⟨pa_cons h.pe hs.pe hst, fun Hs0 H0 Hs H σ env tp Q R P => ?_⟩
  refine h.snd _ _ _ _ _ _ _ _ R ?_
  unfold consA at P
  cases q : m env tp with
  | stuck => rw [q] at P; exact P
  | exn c fs tp1 => rw [q] at P; exact P
  | ok d tp1 =>
    rw [q] at P
    rintro v Hs1 H1 g w ⟨p, rfl, hb, hp, ne, oa⟩
    refine hs.snd _ _ _ _ _ _ _ _ (R.grow g w) ?_
    simp only [RE.bind_ok] at P
    cases q2 : ms env tp1 with
    | stuck => rw [q2] at P; exact P
    | exn c fs tp2 => rw [q2] at P; exact Post.shift g P
    | ok ds tp2 =>
      rw [q2] at P
      rintro vs Hs2 H2 g2 w2 ⟨ps, hk, nd, fr⟩
      obtain ⟨o, ho⟩ := oa.there
      refine P _ Hs2 H2 (g.trans g2) w2 ⟨p :: ps, .fr (g2.no hp ho ne) ne (oa.grow g2.ex fun u z => g2.keep p u z ne) hk, List.nodup_cons.mpr ⟨fun m => ?_, nd⟩, fun p' hp' => ?_⟩
      · have := fr p m; rw [ho] at this; cases this
      · rcases List.mem_cons.mp hp' with rfl | hp'
        · exact hb
        · exact free_back g (fr p' hp') (hk.ner p' hp')
/-- who owns behind it -/
def ownAll : List Nat → List Nat → List Bool → List Nat
  | O, i :: is, k :: ks => ownAll (if k = true then i :: O.filter (· != i) else O.filter (· != i)) is ks
  | O, _, _ => O
theorem repK_setAll {Hs0 H0 Hs H : Hp} {tp : List D} : ∀ (is : List Nat) (ks : List Bool) (O : List Nat) (σ : L2.St) (env : DEnv) (vs : List V) (ds : List D) (ps : List Addr), Rel K mg r O Hs0 H0 Hs H σ env tp → RepK K mg r Hs H ks vs ds ps → ps.Nodup → (∀ p ∈ ps, H0 p = none ∧ ∀ j ∈ O, σ[j]? ≠ some (some (.ref p))) → is.length = ks.length → (∀ i ∈ is, i < env.length) →
    Rel K mg r (ownAll O is ks) Hs0 H0 Hs H (setAll σ is vs) (setAll env is ds) tp
  | [], ks, O, σ, env, vs, ds, ps, R, hk, _, _, hl, _ => by
    cases ks with
    | nil => cases hk; exact R
    | cons _ _ => cases hl
  | i :: is, [], O, σ, env, vs, ds, ps, R, hk, _, _, hl, _ => by cases hl
  | i :: is, k :: ks, O, σ, env, vs, ds, ps, R, hk, nd, hp, hl, hi => by
    cases hk with
    | st h1 h2 =>
      refine repK_setAll is ks _ _ _ _ _ ps (R.set i h1) h2 nd (fun p q => ⟨(hp p q).1, fun j hj => ?_⟩) (by simpa using hl) fun j hj => by rw [List.length_set]; exact hi j (List.mem_cons_of_mem _ hj)
      obtain ⟨m, ne⟩ := List.mem_filter.mp hj
      rw [set_gne (by simpa using ne)]
      exact (hp p q).2 j m
    | @fr p d ks vs ds ps h1 n oa h2 =>
      obtain ⟨np, nd'⟩ := List.nodup_cons.mp nd
      have hp0 := hp p List.mem_cons_self
      refine repK_setAll is ks _ _ _ _ _ ps (R.setF i (hi i List.mem_cons_self) hp0.1 h1 n oa hp0.2) h2 nd' (fun p' q => ⟨(hp p' (List.mem_cons_of_mem _ q)).1, fun j hj z => ?_⟩) (by simpa using hl) fun j hj => by rw [List.length_set]; exact hi j (List.mem_cons_of_mem _ hj)
      rcases List.mem_cons.mp hj with rfl | hj
      · rcases get_set z with ⟨_, e, _⟩ | ⟨ne, _⟩
        · cases e; exact np q
        · exact ne rfl
      · obtain ⟨m, ne⟩ := List.mem_filter.mp hj
        rw [set_gne (by simpa using ne)] at z
        exact (hp p' (List.mem_cons_of_mem _ q)).2 j m z
def parS (is : List Nat) (ms : SE (List D)) : SS := fun env tp => (ms env tp).bindS fun ds tp1 => if is.all (fun i => decide (i < env.length)) = true then .nx (setAll env is ds) tp1 else .stuck
theorem par_sound {is : List Nat} {ks : List Bool} {ms : SE (List D)} {k : L2.Ends → L2.St → Hp → List V → Hp → Prop} (hl : is.length = ks.length) (h : ∀ Hs0 H0 Hs H σ env tp Q, Rel K mg r O Hs0 H0 Hs H σ env tp → Post K mg r (fun Hs' H' vs ds => ∃ ps, RepK K mg r Hs' H' ks vs ds ps ∧ ps.Nodup ∧ ∀ p ∈ ps, H p = none) E Hs H (ms env tp) Q → ts σ H Q)
    (hk : ∀ D σ vs Hs H tp ds ps, Wd K mg r Hs H tp → RepK K mg r Hs H ks vs ds ps → (∀ H', (H' = H ∨ ∃ q o, H q = none ∧ H' = upd H q o) → D.nx (setAll σ is vs) H') → k D σ H vs H) :
    ∀ Hs0 H0 Hs H σ env tp D, Rel K mg r O Hs0 H0 Hs H σ env tp → PostS K mg r E (ownAll O is ks) Ol Hs0 H0 Hs (parS is ms env tp) D → ts σ H (fun vs H1 => k D σ H1 vs H1) := by
  intro Hs0 H0 Hs H σ env tp D R P
  refine h _ _ _ _ _ _ _ _ R (PostS.bind R P fun vs Hs1 H1 ds tp1 _ g w R1 rv P1 => ?_)
  obtain ⟨ps, hrk, nd, fr⟩ := rv
  split at P1
  · rename_i hi
    have hi : ∀ i ∈ is, i < env.length := fun i m => of_decide_eq_true (List.all_eq_true.mp hi i m)
    have hfr : ∀ p ∈ ps, H0 p = none ∧ ∀ j ∈ O, σ[j]? ≠ some (some (.ref p)) := fun p hp => R.new_ne (fr p hp) (hrk.ner p hp)
    refine hk D σ vs Hs1 H1 tp1 ds ps w hrk fun H' hH' => ?_
    rcases hH' with rfl | ⟨q, o, hq, rfl⟩
    · exact P1 _ _ _ (Same.refl _) (repK_setAll is ks _ _ _ _ _ ps R1 hrk nd hfr hl hi)
    · obtain ⟨g2, w2⟩ := w.lay (o := o) hq
      exact P1 _ _ _ (Same.refl _) (repK_setAll is ks _ _ _ _ _ ps (R1.grow g2 w2) (hrk.lay hq) nd hfr hl hi)
  · exact P1.elim
/-- a, b = x, y (two local names) -/
theorem gs_par2 (i j : Nat) {ks : List Bool} {x y : Str} {ms : SE (List D)} {px py pt : Pos} {kt k2 pt2} (hN : X.N.Nodup) (ha : GAK K mg r X O E [a, b] ts ks ms) (hks : ks.length = 2 := by rfl) (hc : X.calm = true := by rfl) (hi : X.N[i]? = some x := by rfl) (hj : X.N[j]? = some y := by rfl) (hij : i ≠ j := by decide)
    (hx : X.env.scope.names.lookup x = some .local := by rfl) (hy : X.env.scope.names.lookup y = some .local := by rfl)
    (hw : swappedStores [.Tuple [.Name x px, .Name y py] kt pt] (.Tuple [a, b] k2 pt2) X.env = pure (some [x, y]) := by rfl)
    (hs : swapsWithSole [.Tuple [.Name x px, .Name y py] kt pt] (.Tuple [a, b] k2 pt2) pos.line X.env = pure false := by rfl) :
    GS K mg r X E O (ownAll O [i, j] ks) Ol (.Assign [.Tuple [.Name x px, .Name y py] kt pt] (.Tuple [a, b] k2 pt2) pos) (tPar i j ts) (parS [i, j] ms) := by
  refine ⟨ps_par hc hN hi hj hij hx hy ha.pe hw hs, ?_⟩
  refine par_sound (k := fun D σ _ vs H1 => ∃ v w, vs = [v, w] ∧ D.nx ((σ.set i (some v)).set j (some w)) H1) (by rw [hks]; rfl) ha.snd ?_
  intro D σ vs Hs H tp ds ps _ hrk q
  have hl := hrk.len.1
  rw [hks] at hl
  match vs, hl with
  | [v, w], _ => exact ⟨v, w, rfl, q H (.inl rfl)⟩
/-- a, b, c = x, y, z (three local names) -/
theorem gs_par3 (i j l : Nat) {ks : List Bool} {x y z : Str} {ms : SE (List D)} {px py pz pt : Pos} {kt k2 pt2} (hN : X.N.Nodup) (ha : GAK K mg r X O E [a, b, c] ts ks ms) (hks : ks.length = 3 := by rfl) (hc : X.calm = true := by rfl) (hi : X.N[i]? = some x := by rfl) (hj : X.N[j]? = some y := by rfl) (hl : X.N[l]? = some z := by rfl) (hij : i ≠ j := by decide) (hil : i ≠ l := by decide) (hjl : j ≠ l := by decide)
    (hx : X.env.scope.names.lookup x = some .local := by rfl) (hy : X.env.scope.names.lookup y = some .local := by rfl) (hz : X.env.scope.names.lookup z = some .local := by rfl)
    (hw : swappedStores [.Tuple [.Name x px, .Name y py, .Name z pz] kt pt] (.Tuple [a, b, c] k2 pt2) X.env = pure (some [x, y, z]) := by rfl)
    (hs : swapsWithSole [.Tuple [.Name x px, .Name y py, .Name z pz] kt pt] (.Tuple [a, b, c] k2 pt2) pos.line X.env = pure false := by rfl) :
    GS K mg r X E O (ownAll O [i, j, l] ks) Ol (.Assign [.Tuple [.Name x px, .Name y py, .Name z pz] kt pt] (.Tuple [a, b, c] k2 pt2) pos) (tPar3 i j l ts) (parS [i, j, l] ms) := by
  refine ⟨ps_par3 hc hN hi hj hl hij hil hjl hx hy hz ha.pe hw hs, ?_⟩
  refine par_sound (k := fun D σ _ vs H1 => ∃ u v w, vs = [u, v, w] ∧ D.nx (((σ.set i (some u)).set j (some v)).set l (some w)) H1) (by rw [hks]; rfl) ha.snd ?_
  intro D σ vs Hs H tp ds ps _ hrk q
  have hl := hrk.len.1
  rw [hks] at hl
  match vs, hl with
  | [u, v, w], _ => exact ⟨u, v, w, rfl, q H (.inl rfl)⟩
/-- the plain way: a tuple is made and unpacked -/
theorem gs_tup {is : List Nat} {n : Nat} {ks : List Bool} {ms : SE (List D)} {tgs : List Expr} {g : TGs} {pt pt2 : Pos} {kt k2} (ha : GAK K mg r X O E es ts ks ms) (hg : GGs K mg r X tgs g is) (hl : is.length = ks.length := by rfl) (hn : is.length = n := by rfl) (hz : n ≤ sizeLine := by decide) (hc : X.calm = true := by rfl) (hK : X.K = K := by rfl) (hn1 : (assignEach tgs X.env).length = n := by rfl) (hst : (assignEach tgs X.env).findIdx? (·.1) = none := by rfl)
    (hs : swapsWithSole [.Tuple tgs kt pt] (.Tuple es k2 pt2) pos.line X.env = pure false := by rfl) (hw : swappedStores [.Tuple tgs kt pt] (.Tuple es k2 pt2) X.env = pure none := by rfl) (h1 : (assignEach [.Tuple tgs kt pt] X.env).map (·.2) = [assign (.Tuple tgs kt pt) X.env] := by rfl) :
    GS K mg r X E O (ownAll O is ks) Ol (.Assign [.Tuple tgs kt pt] (.Tuple es k2 pt2) pos) (tAsg (tTup ts) (gTup K n g)) (parS is ms) := by
  subst hK
  refine ⟨ps_asg (pe_tup ha.pe) (pg_tup hc hg.pe hn1 hst) hs hw h1, ?_⟩
  refine par_sound (k := fun D σ _ vs H1 => vs.length ≤ sizeLine ∧ ∀ p, H1 p = none → gTup X.K n g (.ref p) σ (upd H1 p (.tup vs)) D.nx) hl ha.snd ?_
  intro D σ vs Hs H tp ds ps _ hrk q
  have hv : vs.length = n := by rw [hrk.len.1, ← hl, hn]
  refine ⟨by rw [hv]; exact hz, fun p hp => ⟨p, vs, rfl, .of upd_same, hv, hg.snd vs σ _ _ (by rw [hv, hn]) (q _ (.inr ⟨p, _, hp, rfl⟩))⟩⟩
/-- a value that is a tuple is unpacked -/
def unpS (n : Nat) (is : List Nat) (m : SE D) : SS := fun env tp => (m env tp).bindS fun d tp1 => match tN n d with
  | some ds => .nx (setAll env is ds) tp1
  | none => .stuck
theorem gs_unp {is : List Nat} {n : Nat} {m : SE D} {tgs : List Expr} {g : TGs} {pt : Pos} {kt} (h : GE K mg r X O E e t m) (hg : GGs K mg r X tgs g is) (hO : ∀ i ∈ is, i ∉ O) (hn : is.length = n := by rfl) (hc : X.calm = true := by rfl) (hK : X.K = K := by rfl) (hn1 : (assignEach tgs X.env).length = n := by rfl) (hst : (assignEach tgs X.env).findIdx? (·.1) = none := by rfl)
    (hs : swapsWithSole [.Tuple tgs kt pt] e pos.line X.env = pure false := by rfl) (hw : swappedStores [.Tuple tgs kt pt] e X.env = pure none := by rfl) (h1 : (assignEach [.Tuple tgs kt pt] X.env).map (·.2) = [assign (.Tuple tgs kt pt) X.env] := by rfl) :
    GS K mg r X E O O Ol (.Assign [.Tuple tgs kt pt] e pos) (tAsg t (gTup K n g)) (unpS n is m) := by
  have gg := gg_tup (mg := mg) (r := r) (X := X) (pos := pt) (k := kt) hc hg hn hK hn1 hst
  refine ⟨ps_asg h.pe gg.pe hs hw h1, fun Hs0 H0 Hs H σ env tp D R P => ?_⟩
  refine h.snd _ _ _ _ _ _ _ _ R (PostS.bind R P fun v Hs1 H1 d tp1 _ g w R1 rv P1 => ?_)
  cases q : tN n d with
  | none => rw [q] at P1; exact P1.elim
  | some ds =>
    rw [q] at P1
    exact gg.snd v d ds Hs1 H1 tp1 σ _ w rv q fun vs rs hl => P1 _ _ _ (Same.refl _) (rel_setAll is _ _ _ _ R1 hO rs hl)

/-! ### methods of one argument -/
def methE (p : D → Bool) (f : D → D → Option D) (ma mb : SE D) : SE D := fun env tp => (ma env tp).bind fun d tp1 => if p d = true then (mb env tp1).bind fun e tp2 => RE.of (f d e) tp2 else .stuck
def isStrD : D → Bool
  | .str _ => true
  | _ => false
def isLstD : D → Bool
  | .lst _ => true
  | _ => false
theorem ty_str {Hs H : Hp} {tp : List D} {v : V} {d : D} (w : Wd K mg r Hs H tp) (h : RepT K mg r Hs H v d) (p : isStrD d = true) : tyV K "str" v H := by
  cases d with
  | str z => rw [repT_str h]; rfl
  | _ => cases p
theorem ty_lst {Hs H : Hp} {tp : List D} {v : V} {d : D} (w : Wd K mg r Hs H tp) (h : RepT K mg r Hs H v d) (p : isLstD d = true) : tyV K "list" v H := by
  cases d with
  | lst z =>
    obtain ⟨p, vs, rfl, k1, k2⟩ := repT_lst w h
    exact .inl ⟨rfl, vs, .of k1⟩
  | _ => cases p
def MethS (K : PySem.W.Frag) (mg : Str → Option Value) (r : Addr) (R : V → List V → Hp → VK → Prop) (f : D → D → Option D) : Prop := ∀ Hs H tp x y d e z Q, Wd K mg r Hs H tp → RepT K mg r Hs H x d → RepT K mg r Hs H y e → f d e = some z →
  (∀ v Hs' H', Grow r Hs H Hs' H' → Wd K mg r Hs' H' tp → RepD K mg r Hs' v z → Q v H') → R x [y] H Q
theorem ge_m1 {T id : String} {name : Str} {R : V → List V → Hp → VK → Prop} {f : D → D → Option D} {p : D → Bool} {ma mb : SE D} {p1 : Pos} (pa : PlainAttrs T) (slot : Slot T name id) (hty : typeOf (.builtin id) = pure (.type "method_descriptor")) (hm : MtR X id R)
    (hp : ∀ Hs H tp v d, Wd K mg r Hs H tp → RepT K mg r Hs H v d → p d = true → tyV K T v H) (hf : MethS K mg r R f) (ha : GO K mg r X O E a ta ma) (hb : GO K mg r X O E b tb mb) (hK : X.K = K := by rfl)
    (hbase : attributeBase a name X.env (eval a X.env) = eval a X.env := by rfl)
    (hfew : ((backTo pos (starEach [b] X.env)).all (fun x => !x.1) && (backToKw pos (keywordEach [] X.env)).all (fun x => x.1.isSome) && decide ([b].length + ([] : List Keyword).length + (if ([] : List Keyword).isEmpty then 0 else 1) < 30)) = true := by rfl)
    (hline : (p1.endLine == pos.line) = true := by rfl) (hs : starEach [b] X.env = (false, eval b X.env) :: starEach [] X.env := by rfl) (hplain : (backTo pos (starEach [] X.env)).any (·.1) = false := by rfl) :
    GE K mg r X O E (.Call (.Attribute a name p1) [b] [] pos) (tBM K T R ta (tCons tb tNil)) (methE p f ma mb) := by
  subst hK
  refine ⟨pe_bm pa slot hty hm ha.pe (pa_cons hb.pe pa_nil hs) hbase hfew hline hs hplain, fun Hs0 H0 Hs H σ env tp Q Rl P => ?_⟩
  refine ha.snd _ _ _ _ _ _ _ _ Rl (Post.bind P fun v Hs1 H1 d tp1 _ g w rv P1 => ?_)
  split at P1
  · rename_i hpd
    refine ⟨hp _ _ _ _ _ w rv hpd, ?_⟩
    refine hb.snd _ _ _ _ _ _ _ _ (Rl.grow g w) (Post.bind P1 fun y Hs2 H2 e tp2 _ g2 w2 ry P2 => ?_)
    obtain ⟨z, hz, k⟩ := Post.ok_of P2
    exact hf _ _ _ _ _ _ _ _ _ w2 (rv.grow g2) ry hz k
  · exact P1.elim
def joinD (d e : D) : Option D := match d with
  | .str a => (itemsD e).bind fun xs => (unS xs).bind fun ys => if (ys.map (·.length)).sum + ys.length * a.length ≤ 16777216 then some (.str (Txt.join a ys)) else none
  | _ => none
abbrev rJoin (K : PySem.W.Frag) : V → List V → Hp → VK → Prop := fun x xs H Q => ∃ a p, ∃ ys : List Str, x = .str a ∧ xs = [.ref p] ∧ (SqL K H p (ys.map V.str) ∨ SqT K H p (ys.map V.str)) ∧ (ys.map (·.length)).sum + ys.length * a.length ≤ 16777216 ∧ Q (.str (Txt.join a ys)) H
theorem ms_join : MethS K mg r (rJoin K) joinD := by
  intro Hs H tp x y d e z Q w rx ry hz k
  unfold joinD at hz
  split at hz
  · obtain ⟨xs, h1, h2⟩ := Option.bind_eq_some_iff.mp hz
    obtain ⟨ys, h3, h4⟩ := Option.bind_eq_some_iff.mp h2
    split at h4
    · rename_i hg
      cases h4
      rw [unS_ok h3] at h1
      rw [repT_str rx]
      cases e with
      | lst es =>
        cases h1
        obtain ⟨p, vs, rfl, k1, k2⟩ := repT_lst w ry
        rw [RepDs.strs_of k2] at k1
        exact ⟨_, p, ys, rfl, rfl, .inl (.of k1), hg, k _ _ _ (Grow.refl _ _) w (.str _)⟩
      | tup es =>
        cases h1
        obtain ⟨p, vs, rfl, _, k1, k2⟩ := repT_tup w ry
        rw [RepDs.strs_of k2] at k1
        exact ⟨_, p, ys, rfl, rfl, .inr (.of k1), hg, k _ _ _ (Grow.refl _ _) w (.str _)⟩
      | _ => cases h1
    · cases h4
  · cases hz
theorem ge_join {ma mb : SE D} {p1 : Pos} (ha : GO K mg r X O E a ta ma) (hb : GO K mg r X O E b tb mb) (hK : X.K = K := by rfl)
    (hbase : attributeBase a "join" X.env (eval a X.env) = eval a X.env := by rfl)
    (hfew : ((backTo pos (starEach [b] X.env)).all (fun x => !x.1) && (backToKw pos (keywordEach [] X.env)).all (fun x => x.1.isSome) && decide ([b].length + ([] : List Keyword).length + (if ([] : List Keyword).isEmpty then 0 else 1) < 30)) = true := by rfl)
    (hline : (p1.endLine == pos.line) = true := by rfl) (hs : starEach [b] X.env = (false, eval b X.env) :: starEach [] X.env := by rfl) (hplain : (backTo pos (starEach [] X.env)).any (·.1) = false := by rfl) :
    GE K mg r X O E (.Call (.Attribute a "join" p1) [b] [] pos) (tBM K "str" (rJoin K) ta (tCons tb tNil)) (methE isStrD joinD ma mb) := by
  subst hK
  exact ge_m1 PySem.F.plainAttrs_str PySem.F.slot_str_join PySem.F.type_str_join mt_join (fun _ _ _ _ _ => ty_str) ms_join ha hb rfl hbase hfew hline hs hplain
/-! ### xs.append(ys.pop(i)), both lists the slots' own -/
def appPopS (i j : Nat) (m : SE D) : SS := fun env tp => match env[i]?, env[j]? with
  | some (some (.lst ds)), some (some (.lst es)) => (m env tp).bindS fun k tp1 => match k with
    | .int q => if (decide (-(2 ^ 63) ≤ q) && (decide (q < 2 ^ 63) && decide (ds.length < sizeLine))) = true then (match ixN es.length q with
      | some c => (match es[c]? with
        | some y => .nx ((env.set j (some (.lst (es.eraseIdx c)))).set i (some (.lst (ds ++ [y])))) tp1
        | none => .stuck)
      | none => .stuck) else .stuck
    | _ => .stuck
  | _, _ => .stuck
theorem gs_appPop {m : SE D} (i j : Nat) {x y : Str} {p1 p2 p3 p4 p5 p6 : Pos} (hi : i ∈ O) (hj : j ∈ O) (hij : i ≠ j) (h : GE K mg r X O E e t m) (hK : X.K = K := by rfl) (hN : X.N[i]? = some x := by rfl) (hNy : X.N[j]? = some y := by rfl)
    (hv : Vis X.env.scope x := by first | exact Or.inl rfl | exact Or.inr (Or.inl rfl) | exact Or.inr (Or.inr rfl)) (hvy : Vis X.env.scope y := by first | exact Or.inl rfl | exact Or.inr (Or.inl rfl) | exact Or.inr (Or.inr rfl)) (hd : (x == ("__debug__" : Str)) = false := by decide) (hcd : (x == ("__classdict__" : Str)) = false := by decide)
    (hdy : (y == ("__debug__" : Str)) = false := by decide) (hcdy : (y == ("__classdict__" : Str)) = false := by decide)
    (hb1 : attributeBase (.Name x p1) "append" X.env (eval (.Name x p1) X.env) = eval (.Name x p1) X.env := by rfl)
    (hf1 : ((backTo p3 (starEach [Expr.Call (.Attribute (.Name y p4) "pop" p5) [e] [] p6] X.env)).all (fun x => !x.1) && (backToKw p3 (keywordEach [] X.env)).all (fun x => x.1.isSome) && decide ([Expr.Call (.Attribute (.Name y p4) "pop" p5) [e] [] p6].length + ([] : List Keyword).length + (if ([] : List Keyword).isEmpty then 0 else 1) < 30)) = true := by rfl)
    (hl1 : (p2.endLine == p3.line) = true := by rfl) (hs1 : starEach [Expr.Call (.Attribute (.Name y p4) "pop" p5) [e] [] p6] X.env = (false, eval (Expr.Call (.Attribute (.Name y p4) "pop" p5) [e] [] p6) X.env) :: starEach [] X.env := by rfl) (hpl1 : (backTo p3 (starEach [] X.env)).any (·.1) = false := by rfl)
    (hb2 : attributeBase (.Name y p4) "pop" X.env (eval (.Name y p4) X.env) = eval (.Name y p4) X.env := by rfl)
    (hf2 : ((backTo p6 (starEach [e] X.env)).all (fun x => !x.1) && (backToKw p6 (keywordEach [] X.env)).all (fun x => x.1.isSome) && decide ([e].length + ([] : List Keyword).length + (if ([] : List Keyword).isEmpty then 0 else 1) < 30)) = true := by rfl)
    (hl2 : (p5.endLine == p6.line) = true := by rfl) (hs2 : starEach [e] X.env = (false, eval e X.env) :: starEach [] X.env := by rfl) (hpl2 : (backTo p6 (starEach [] X.env)).any (·.1) = false := by rfl)
    (hsw : swapsWith (.Call (.Attribute (.Name x p1) "append" p2) [.Call (.Attribute (.Name y p4) "pop" p5) [e] [] p6] [] p3) none pos.line X.env = pure false := by rfl) :
    GS K mg r X E O O Ol (.Expr (.Call (.Attribute (.Name x p1) "append" p2) [.Call (.Attribute (.Name y p4) "pop" p5) [e] [] p6] [] p3) pos) (tDrop (tBM K "list" rAppend (tVar i) (tCons (tBM K "list" rPopAt (tVar j) (tCons t tNil)) tNil))) (appPopS i j m) := by
  subst hK
  refine ⟨ps_expr (pe_bm PySem.F.plainAttrs_list PySem.F.slot_list_append PySem.F.type_list_append mt_append (pe_var hN hv hd hcd)
    (pa_cons (pe_bm PySem.F.plainAttrs_list PySem.F.slot_list_pop PySem.F.type_list_pop mt_popAt (pe_var hNy hvy hdy hcdy) (pa_cons h.pe pa_nil hs2) hb2 hf2 hl2 hs2 hpl2) pa_nil hs1) hb1 hf1 hl1 hs1 hpl1) hsw, fun Hs0 H0 Hs H σ env tp D R P => ?_⟩
  obtain ⟨d0, p, b1, b2, c, c0, ne, oa⟩ := R.own i hi
  obtain ⟨d0', p', b1', b2', c', c0', ne', oa'⟩ := R.own j hj
  unfold appPopS at P
  rw [b1, b1'] at P
  split at P
  · rename_i ds es q1 q2
    cases q1; cases q2
    obtain ⟨vs0, k1, _⟩ := oa
    obtain ⟨vs0', k1', _⟩ := oa'
    refine ⟨_, b2, .inl ⟨rfl, vs0, .of k1⟩, ?_⟩
    refine ⟨_, b2', .inl ⟨rfl, vs0', .of k1'⟩, ?_⟩
    refine h.snd _ _ _ _ _ _ _ _ R (PostS.bind R P fun v Hs1 H1 d tp1 _ g w R1 rv P1 => ?_)
    cases d with
    | int q =>
      cases rv
      obtain ⟨d1, p1, e1, e2, f, f0, fn, fo⟩ := R1.own i hi
      rw [b2] at e2; cases e2
      rw [b1] at e1; cases e1
      obtain ⟨vs, h1, h2⟩ := fo
      obtain ⟨d1', p1', e1', e2', f', f0', fn', fo'⟩ := R1.own j hj
      rw [b2'] at e2'; cases e2'
      rw [b1'] at e1'; cases e1'
      obtain ⟨us, h1', h2'⟩ := fo'
      have P1 : PostS X.K mg r E O Ol Hs0 H0 Hs1 (if (decide (-(2 ^ 63) ≤ q) && (decide (q < 2 ^ 63) && decide (ds.length < sizeLine))) = true then (match ixN es.length q with
        | some c => (match es[c]? with
          | some y => .nx ((env.set j (some (.lst (es.eraseIdx c)))).set i (some (.lst (ds ++ [y])))) tp1
          | none => .stuck)
        | none => .stuck) else .stuck) D := P1
      split at P1
      · rename_i hc
        have hc := Bool.and_eq_true_iff.mp hc
        have hc2 := Bool.and_eq_true_iff.mp hc.2
        cases qx : ixN es.length q with
        | none => rw [qx] at P1; exact P1.elim
        | some cc =>
          rw [qx] at P1
          simp only at P1
          cases qy : es[cc]? with
          | none => rw [qy] at P1; exact P1.elim
          | some yd =>
            rw [qy] at P1
            obtain ⟨yv, hy1, hy2⟩ := h2'.get' qy
            rw [← h2'.length] at qx
            refine ⟨p', us, q, cc, yv, rfl, rfl, h1', of_decide_eq_true hc.1, of_decide_eq_true hc2.1, (ixN_seq qx).1, hy1, ?_⟩
            have np : p ≠ p' := fun z => hij (R.dis i j p hi hj b2 (z ▸ b2'))
            refine ⟨p, vs, yv, rfl, rfl, by rw [upd_ne np]; exact h1, by rw [h2.length]; exact of_decide_eq_true hc2.2, ?_⟩
            have W1 := R1.write (d := .lst (es.eraseIdx cc)) (o := .lst (us.eraseIdx cc)) hj b2' ⟨_, upd_same, h2'.eraseIdx cc⟩
            exact P1 _ _ _ (Same.refl _) (W1.write hi b2 ⟨_, upd_same, h2.append (.cons hy2 .nil)⟩)
      · exact P1.elim
    | _ => exact P1.elim
  · exact P.elim
end
end G
namespace G
open PySem PySem.Spec PyProof.Rows L2
section
variable {K : PySem.W.Frag} {mg : Str → Option Value} {r : Addr} {X : Cx} {E : XK} {O O1 On Ol : List Nat} {e a b c : Expr} {es : List Expr} {pos p : Pos} {t ta tb tc : TE} {tt : TT} {ts : TA} {ma mb mc : SE D} {ms : SE (List D)}
/-! ### tests by names -/
theorem gt_eq (hu : X.A.units + 64 < cLine) (ha : GO K mg r X O E a ta ma) (hb : GO K mg r X O E b tb mb) (hK : X.K = K := by rfl) : GT K mg r X O E (.Compare a [.Eq] [b] pos) (tTest (tOp (rEqP K) ta tb)) (boolE (binE eqD ma mb)) := by subst hK; exact gt_cmp (op_eqP hu) ops_eq ha hb (nomark _)
theorem gt_ne (hu : X.A.units + 64 < cLine) (ha : GO K mg r X O E a ta ma) (hb : GO K mg r X O E b tb mb) (hK : X.K = K := by rfl) : GT K mg r X O E (.Compare a [.NotEq] [b] pos) (tTest (tOp (rNeP K) ta tb)) (boolE (binE neD ma mb)) := by subst hK; exact gt_cmp (op_neP hu) ops_ne ha hb (nomark _)
theorem gt_in (hu : X.A.units + 64 < cLine) (ha : GO K mg r X O E a ta ma) (hb : GO K mg r X O E b tb mb) (hm : behindInMarks .In b = false := by rfl) (hK : X.K = K := by rfl) : GT K mg r X O E (.Compare a [.In] [b] pos) (tTest (tOp (rInP K false) ta tb)) (boolE (binE inD ma mb)) := by subst hK; exact gt_cmp (op_inP hu) ops_in ha hb hm
theorem gt_notIn (hu : X.A.units + 64 < cLine) (ha : GO K mg r X O E a ta ma) (hb : GO K mg r X O E b tb mb) (hm : behindInMarks .NotIn b = false := by rfl) (hK : X.K = K := by rfl) : GT K mg r X O E (.Compare a [.NotIn] [b] pos) (tTest (tOp (rInP K true) ta tb)) (boolE (binE notInD ma mb)) := by subst hK; exact gt_cmp (op_notInP hu) ops_notIn ha hb hm
theorem gt_lt (ha : GO K mg r X O E a ta ma) (hb : GO K mg r X O E b tb mb) : GT K mg r X O E (.Compare a [.Lt] [b] pos) (tTest (tOp rLtD ta tb)) (boolE (binE ltD ma mb)) := gt_cmp opr_lt ops_lt ha hb (nomark _)
theorem gt_le (ha : GO K mg r X O E a ta ma) (hb : GO K mg r X O E b tb mb) : GT K mg r X O E (.Compare a [.LtE] [b] pos) (tTest (tOp rLeD ta tb)) (boolE (binE leD ma mb)) := gt_cmp op_le ops_le ha hb (nomark _)
theorem gt_gt (ha : GO K mg r X O E a ta ma) (hb : GO K mg r X O E b tb mb) : GT K mg r X O E (.Compare a [.Gt] [b] pos) (tTest (tOp rGtD ta tb)) (boolE (binE gtD ma mb)) := gt_cmp op_gt ops_gt ha hb (nomark _)
theorem gt_ge (ha : GO K mg r X O E a ta ma) (hb : GO K mg r X O E b tb mb) : GT K mg r X O E (.Compare a [.GtE] [b] pos) (tTest (tOp rGeD ta tb)) (boolE (binE geD ma mb)) := gt_cmp op_ge ops_ge ha hb (nomark _)
theorem gt_is (ha : GO K mg r X O E a ta ma) (hb : GO K mg r X O E b tb mb) : GT K mg r X O E (.Compare a [.Is] [b] pos) (tTest (tOp rIsD ta tb)) (boolE (binE isNoneD ma mb)) := gt_cmp opr_is ops_is ha hb (nomark _)
theorem gt_isNot (ha : GO K mg r X O E a ta ma) (hb : GO K mg r X O E b tb mb) : GT K mg r X O E (.Compare a [.IsNot] [b] pos) (tTest (tOp rIsNotD ta tb)) (boolE (binE isNotNoneD ma mb)) := gt_cmp opr_isNot ops_isNot ha hb (nomark _)
theorem gt_leLe (ha : GO K mg r X O E a ta ma) (hb : GO K mg r X O E b tb mb) (hc : GO K mg r X O E c tc mc) (hm : lastMarks [.LtE, .LtE] [b, c] = false := by with_unfolding_all rfl) : GT K mg r X O E (.Compare a [.LtE, .LtE] [b, c] pos) (tTest (tChain rLeD rLeD ta tb tc)) (boolE (chainE leD leD ma mb mc)) := gt_chain op_le op_le ops_le ops_le ha hb hc hm
theorem ge_leLe (ha : GO K mg r X O E a ta ma) (hb : GO K mg r X O E b tb mb) (hc : GO K mg r X O E c tc mc) (hm : lastMarks [.LtE, .LtE] [b, c] = false := by with_unfolding_all rfl) : GE K mg r X O E (.Compare a [.LtE, .LtE] [b, c] pos) (tChain rLeD rLeD ta tb tc) (chainE leD leD ma mb mc) := ge_chain op_le op_le ops_le ops_le ha hb hc hm
theorem gt_leLt (ha : GO K mg r X O E a ta ma) (hb : GO K mg r X O E b tb mb) (hc : GO K mg r X O E c tc mc) (hm : lastMarks [.LtE, .Lt] [b, c] = false := by with_unfolding_all rfl) : GT K mg r X O E (.Compare a [.LtE, .Lt] [b, c] pos) (tTest (tChain rLeD rLtD ta tb tc)) (boolE (chainE leD ltD ma mb mc)) := gt_chain op_le opr_lt ops_le ops_lt ha hb hc hm
theorem ge_leLt (ha : GO K mg r X O E a ta ma) (hb : GO K mg r X O E b tb mb) (hc : GO K mg r X O E c tc mc) (hm : lastMarks [.LtE, .Lt] [b, c] = false := by with_unfolding_all rfl) : GE K mg r X O E (.Compare a [.LtE, .Lt] [b, c] pos) (tChain rLeD rLtD ta tb tc) (chainE leD ltD ma mb mc) := ge_chain op_le opr_lt ops_le ops_lt ha hb hc hm
/-! ### list(..) fresh -/
theorem gf_list1 (hm : X.mg "list" = none) (ha : GAO K mg r X O E [e] ts ms) (hg : Gl X "list" := by rfl) (he : starEach [e] X.env = (false, eval e X.env) :: starEach [] X.env := by rfl) (hpl : (backTo pos (starEach [] X.env)).any (·.1) = false := by rfl) (hK : X.K = K := by rfl) : GF K mg r X O E (.Call (.Name "list" p) [e] [] pos) (tCB (rListD1 K) ts) (callB listD ms) := by
  subst hK
  refine ⟨pe_callTy (r := rListD1 X.K) call_list_of hg hm (by decide +kernel) ha.pe (by decide) (by decide) he hpl, fun Hs0 H0 Hs H σ env tp Q Rl P => ?_⟩
  refine ha.snd _ _ _ _ _ _ _ _ Rl ?_
  unfold callB at P
  cases q : ms env tp with
  | stuck => rw [q] at P; exact P
  | exn cc fs tp1 => rw [q] at P; exact P
  | ok ds tp1 =>
    rw [q] at P
    intro xs Hs1 H1 g w rx
    obtain ⟨z, hz, k⟩ := Post.ok_of (show Post X.K mg r (Fresh X.K mg r H) E Hs H (RE.of (listD ds) tp1) Q from P)
    unfold listD at hz
    split at hz
    · cases hz
      obtain ⟨x, rfl, h⟩ := paired1 rx
      obtain ⟨p, vs, rfl, h1, h2⟩ := repT_lst w h
      refine ⟨p, vs, rfl, .inl (.of h1), fun q hq => ?_⟩
      obtain ⟨a, b, c⟩ := fresh_new (o := .lst vs) (d := .lst _) g w hq ⟨vs, upd_same, h2⟩
      exact k _ _ _ a b c
    · cases hz
      obtain ⟨x, rfl, h⟩ := paired1 rx
      obtain ⟨p, vs, rfl, h0, h1, h2⟩ := repT_tup w h
      refine ⟨p, vs, rfl, .inr (.of h1), fun q hq => ?_⟩
      obtain ⟨a, b, c⟩ := fresh_new (o := .lst vs) (d := .lst _) g w hq ⟨vs, upd_same, h2⟩
      exact k _ _ _ a b c
    · cases hz
      obtain ⟨x, rfl, h⟩ := paired1 rx
      obtain ⟨p, rfl, h1⟩ := repT_scr w h
      refine ⟨p, _, rfl, .inl h1, fun q hq => ?_⟩
      obtain ⟨a, b, c⟩ := fresh_new (o := .lst (List.map V.int _)) (d := .lst _) g w hq ⟨_, upd_same, RepDs.ints _⟩
      exact k _ _ _ a b c
    · cases hz
/-! ### list(range(..)), tuple(range(..)) -/
def cRgOk (a b : Int) : Bool := cRg a && (cRg b && decide ((b - a).toNat ≤ 16777216))
theorem cRgOk_ok {a b : Int} (h : cRgOk a b = true) : RgOk a b := by
  have h := Bool.and_eq_true_iff.mp h
  have h2 := Bool.and_eq_true_iff.mp h.2
  have h1 := cRg_ok h.1
  have h3 := cRg_ok h2.1
  have h4 := of_decide_eq_true h2.2
  exact ⟨h1.1, h1.2, h3.1, h3.2, h4⟩
theorem reps_range {Hs : Hp} (a b : Int) : RepDs K mg r Hs (rgV a b) (rangeL a b) := by
  unfold rgV rangeL
  induction (List.range (b - a).toNat) with
  | nil => exact .nil
  | cons x xs ih => exact .cons (.int _) ih
def rg1E (k : List D → D) (ma : SE D) : SE D := fun env tp => (ma env tp).bind fun d tp1 => match d with
  | .int n => if cRgOk 0 n = true then .ok (k (rangeL 0 n)) tp1 else .stuck
  | _ => .stuck
def rg2E (k : List D → D) (ma mb : SE D) : SE D := fun env tp => (ma env tp).bind fun d tp1 => (mb env tp1).bind fun e tp2 => match d, e with
  | .int m, .int n => if cRgOk m n = true then .ok (k (rangeL m n)) tp2 else .stuck
  | _, _ => .stuck
theorem gf_listRg1 {pa pb : Pos} (hm : X.mg "list" = none) (hm2 : X.mg "range" = none) (ha : GO K mg r X O E a ta ma) (hc : X.calm = true := by rfl) (hg : Gl X "list" := by rfl) (hg2 : Gl X "range" := by rfl) (na : starEach [a] X.env = (false, eval a X.env) :: starEach [] X.env := by rfl) (nb : starEach [Expr.Call (.Name "range" pa) [a] [] pb] X.env = (false, eval (Expr.Call (.Name "range" pa) [a] [] pb) X.env) :: starEach [] X.env := by rfl) :
    GF K mg r X O E (.Call (.Name "list" p) [.Call (.Name "range" pa) [a] [] pb] [] pos) (tLstRg (tRg1 ta)) (rg1E .lst ma) := by
  refine ⟨pe_listRg hc hg hm (prg_1 hg2 hm2 ha.pe na) nb, fun Hs0 H0 Hs H σ env tp Q Rl P => ?_⟩
  refine ha.snd _ _ _ _ _ _ _ _ Rl ?_
  unfold rg1E at P
  cases q : ma env tp with
  | stuck => rw [q] at P; exact P
  | exn cc fs tp1 => rw [q] at P; exact P
  | ok d tp1 =>
    rw [q] at P
    intro x Hs1 H1 g w rx
    simp only [RE.bind_ok] at P
    cases d with
    | int n =>
      have P : Post K mg r (Fresh K mg r H) E Hs H (if cRgOk 0 n = true then .ok (.lst (rangeL 0 n)) tp1 else .stuck) Q := P
      split at P
      · rename_i c
        refine ⟨n, repT_int rx, cRgOk_ok c, fun q hq => ?_⟩
        obtain ⟨a, b, c⟩ := fresh_new (o := .lst (rgV 0 n)) (d := .lst _) g w hq ⟨_, upd_same, reps_range 0 n⟩
        exact P _ _ _ a b c
      · exact P.elim
    | _ => exact P.elim
theorem gf_listRg2 {pa pb : Pos} (hm : X.mg "list" = none) (hm2 : X.mg "range" = none) (ha : GO K mg r X O E a ta ma) (hb : GO K mg r X O E b tb mb) (hc : X.calm = true := by rfl) (hg : Gl X "list" := by rfl) (hg2 : Gl X "range" := by rfl) (na : starEach [a, b] X.env = (false, eval a X.env) :: starEach [b] X.env := by rfl) (na2 : starEach [b] X.env = (false, eval b X.env) :: starEach [] X.env := by rfl)
    (hpl : (backTo pb (starEach [b] X.env)).any (·.1) = false := by rfl) (nb : starEach [Expr.Call (.Name "range" pa) [a, b] [] pb] X.env = (false, eval (Expr.Call (.Name "range" pa) [a, b] [] pb) X.env) :: starEach [] X.env := by rfl) :
    GF K mg r X O E (.Call (.Name "list" p) [.Call (.Name "range" pa) [a, b] [] pb] [] pos) (tLstRg (tRg2 ta tb)) (rg2E .lst ma mb) := by
  refine ⟨pe_listRg hc hg hm (prg_2 hg2 hm2 ha.pe hb.pe na na2 hpl) nb, fun Hs0 H0 Hs H σ env tp Q Rl P => ?_⟩
  refine ha.snd _ _ _ _ _ _ _ _ Rl ?_
  unfold rg2E at P
  cases q : ma env tp with
  | stuck => rw [q] at P; exact P
  | exn cc fs tp1 => rw [q] at P; exact P
  | ok d tp1 =>
    rw [q] at P
    intro x Hs1 H1 g w rx
    simp only [RE.bind_ok] at P
    refine hb.snd _ _ _ _ _ _ _ _ (Rl.grow g w) ?_
    cases q2 : mb env tp1 with
    | stuck => rw [q2] at P; exact P
    | exn cc fs tp1 => rw [q2] at P; exact Post.shift g P
    | ok e tp2 =>
      rw [q2] at P
      intro y Hs2 H2 g2 w2 ry
      simp only [RE.bind_ok] at P
      split at P
      · split at P
        · rename_i c
          refine ⟨_, _, repT_int rx, repT_int ry, cRgOk_ok c, fun q hq => ?_⟩
          obtain ⟨a, b, c⟩ := fresh_new (o := .lst (rgV _ _)) (d := .lst _) (g.trans g2) w2 hq ⟨_, upd_same, reps_range _ _⟩
          exact P _ _ _ a b c
        · exact P.elim
      · exact P.elim
theorem ge_tupRg1 {pa pb : Pos} (hm : X.mg "tuple" = none) (hm2 : X.mg "range" = none) (ha : GO K mg r X O E a ta ma) (hc : X.calm = true := by rfl) (hg : Gl X "tuple" := by rfl) (hg2 : Gl X "range" := by rfl) (na : starEach [a] X.env = (false, eval a X.env) :: starEach [] X.env := by rfl) (nb : starEach [Expr.Call (.Name "range" pa) [a] [] pb] X.env = (false, eval (Expr.Call (.Name "range" pa) [a] [] pb) X.env) :: starEach [] X.env := by rfl) :
    GE K mg r X O E (.Call (.Name "tuple" p) [.Call (.Name "range" pa) [a] [] pb] [] pos) (tTupRg (tRg1 ta)) (rg1E .tup ma) := by
  refine ⟨pe_tupRg hc hg hm (prg_1 hg2 hm2 ha.pe na) nb, fun Hs0 H0 Hs H σ env tp Q Rl P => ?_⟩
  refine ha.snd _ _ _ _ _ _ _ _ Rl (Post.bind P fun x Hs1 H1 d tp1 _ g w rx P1 => ?_)
  cases d with
  | int n =>
    have P1 : PostE K mg r E Hs1 H1 (if cRgOk 0 n = true then .ok (.tup (rangeL 0 n)) tp1 else .stuck) Q := P1
    split at P1
    · rename_i c
      refine ⟨n, repT_int rx, cRgOk_ok c, fun q hq => ?_⟩
      obtain ⟨g2, w2⟩ := w.alloc (o := .tup (rgV 0 n)) hq
      exact P1 _ _ _ g2 w2 (.tup upd_same (reps_range 0 n))
    · exact P1.elim
  | _ => exact P1.elim
theorem ge_tupRg2 {pa pb : Pos} (hm : X.mg "tuple" = none) (hm2 : X.mg "range" = none) (ha : GO K mg r X O E a ta ma) (hb : GO K mg r X O E b tb mb) (hc : X.calm = true := by rfl) (hg : Gl X "tuple" := by rfl) (hg2 : Gl X "range" := by rfl) (na : starEach [a, b] X.env = (false, eval a X.env) :: starEach [b] X.env := by rfl) (na2 : starEach [b] X.env = (false, eval b X.env) :: starEach [] X.env := by rfl)
    (hpl : (backTo pb (starEach [b] X.env)).any (·.1) = false := by rfl) (nb : starEach [Expr.Call (.Name "range" pa) [a, b] [] pb] X.env = (false, eval (Expr.Call (.Name "range" pa) [a, b] [] pb) X.env) :: starEach [] X.env := by rfl) :
    GE K mg r X O E (.Call (.Name "tuple" p) [.Call (.Name "range" pa) [a, b] [] pb] [] pos) (tTupRg (tRg2 ta tb)) (rg2E .tup ma mb) := by
  refine ⟨pe_tupRg hc hg hm (prg_2 hg2 hm2 ha.pe hb.pe na na2 hpl) nb, fun Hs0 H0 Hs H σ env tp Q Rl P => ?_⟩
  refine ha.snd _ _ _ _ _ _ _ _ Rl (Post.bind P fun x Hs1 H1 d tp1 _ g w rx P1 => ?_)
  refine hb.snd _ _ _ _ _ _ _ _ (Rl.grow g w) (Post.bind P1 fun y Hs2 H2 e tp2 _ g2 w2 ry P2 => ?_)
  split at P2
  · split at P2
    · rename_i c
      refine ⟨_, _, repT_int rx, repT_int ry, cRgOk_ok c, fun q hq => ?_⟩
      obtain ⟨g3, w3⟩ := w2.alloc (o := .tup (rgV _ _)) hq
      exact P2 _ _ _ g3 w3 (.tup upd_same (reps_range _ _))
    · exact P2.elim
  · exact P2.elim
theorem tN_len {n : Nat} {d : D} {ds : List D} (h : tN n d = some ds) : ds.length = n := by
  cases d with
  | tup xs =>
    have h : (if xs.length = n then some xs else none) = some ds := h
    split at h
    · cases h; assumption
    · cases h
  | _ => cases h
theorem def_stuck {P : Program} {w : World} {base : Heap} {x qual : Str} {params : Arguments} {body : List Stmt} {scope : Scope} {f : Addr} {fd : FuncData} {ps : List Str} {k : Nat} (F : FunD K x qual params body scope [] [] f fd) (hm : mg x = some (.ref f))
    (hb : ∀ (kV doc pm : Value) (an : Option Addr) (cdv ct : Value) (us : List Value), us.length = ps.length → bindArgs (PySem.W.fnOf x qual params body scope .none kV doc pm an cdv ct) ⟨us, []⟩ = pure (ps.zip us)) :
    DefOk P w K mg base CX0 r x k ps.length (fun _ _ => .stuck) :=
  ⟨f, fd, ps, ⟨fun vs H Q E h => by
      obtain ⟨_, _, _, _, _, _, h⟩ := h
      exact h.elim, fun A outer s H args us vs Q E hr e0 hb r h => by
      obtain ⟨_, _, _, _, _, _, h⟩ := h
      exact h.elim⟩, hm, F.kp, F.bindsN hb⟩
end
end G

set_option maxHeartbeats 1000000
/-! G6: enumerate over a tuple, a text. -/
namespace G
open PySem PySem.Spec PyProof.Rows L2

theorem meets_enum1 {v : Value} {o : Obj} {Ho : Heap → Prop} (B : Begins v o Ho) :
    Meets (Builtin.«enumerate.__new__» ⟨[.type "enumerate", v], []⟩) (fun _ R s => Ho s.heap ∧
      R (.ok (.ret (.ref (s.heap.push o).objs.size))) { s with heap := (s.heap.push o).push { cls := .type "enumerate", data := .fields #[.none, .bool false, .ref s.heap.objs.size, rawInt 0, .none, .none] } }) :=
  .of_wp fun prog w A R s h => by
    obtain ⟨hp, g, d, tk, os⟩ := s; obtain ⟨h1, h⟩ := h
    have hsub := sub_enumerate
    have q1 : ∀ {A' : Around} {E : Value → Shared → Prop} {Q : Value → Shared → Prop}, Q (.ref hp.objs.size) ⟨hp.push o, g, d, tk, os⟩ → wpAny (model prog w) A' (pyIter v) Q E ⟨hp, g, d, tk, os⟩ :=
      fun q => B.iter prog w _ _ ⟨hp, g, d, tk, os⟩ _ h1 q
    wp_walk using q1
    refine wpAny_stack_any fun st => wpAny_pure ?_
    split
    · rename_i c _ _ _ _ _
      cases (c == Value.type "enumerate")
      · wp_walk using q1
        exact ⟨_, rfl, h⟩
      · wp_walk using q1
        exact ⟨_, rfl, h⟩
    · wp_walk using q1
      exact ⟨_, rfl, h⟩
section
variable {prog : Program} {w : World} {A : Around} {E : Value → Shared → Prop} {s : Shared}
theorem call_enum1 {v : Value} {o : Obj} {Ho : Heap → Prop} {Q : Value → Shared → Prop} (B : Begins v o Ho) (h1 : Ho s.heap)
    (h : ∀ h', IsEnum h' (s.heap.objs.size + 1) s.heap.objs.size 0 .none → h'.get? s.heap.objs.size = some o → h'.objs.size = s.heap.objs.size + 2 →
      (∀ b o, s.heap.get? b = some o → h'.get? b = some o) → Q (.ref (s.heap.objs.size + 1)) { s with heap := h' }) :
    wpAny (model prog w) A (call (.type "enumerate") [v]) Q E s := by
  refine callType_new F.called_enumerate (by decide) (F.typeCall_enumerate_1 _) (F.newCall_enumerate_1 _) (fun obj => F.args_object_init_2 obj _) F.entry_enumerate_new
    (meets_enum1 B) ⟨h1, ?_⟩
  have hz : (s.heap.push o).objs.size = s.heap.objs.size + 1 := Heap.size_push ..
  show _ ∧ _
  rw [hz]
  have he : IsEnum ((s.heap.push o).push { cls := .type "enumerate", data := .fields #[.none, .bool false, .ref s.heap.objs.size, rawInt 0, .none, .none] }) (s.heap.objs.size + 1) s.heap.objs.size 0 .none := by
    have := Heap.get?_push_size (s.heap.push o) (o := { cls := .type "enumerate", data := .fields #[.none, .bool false, .ref s.heap.objs.size, rawInt 0, .none, .none] }) rfl
    rw [hz] at this; exact this
  refine ⟨⟨_, he, rfl⟩, h _ he (Heap.get?_push_of_some _ (Heap.get?_push_size _ B.free)) (by rw [Heap.size_push, hz]) fun b o x => Heap.get?_push_of_some _ (Heap.get?_push_of_some _ x)⟩
end
/-- the items of what a Draws tells, numbered; V's items by Pv -/
def IteD (n : Nat) (Gd : Hp → Prop) (Pv : Nat → Hp → V → Prop) : It :=
  ⟨fun i H => i < n ∧ Gd H, fun i H v H' => ∃ T x, v = .ref T ∧ H T = none ∧ H' = upd H T (.tup [.int (i : Nat), x]) ∧ Pv i H x, fun i H => i = n ∧ Gd H⟩
theorem turn_enumS {P : Program} {w : World} {K : PySem.W.Frag} {elts : List Expr} {kk : Nat} {tpos : Pos} (e it : Addr) (z : Str) (t : Tok) :
    Turn P w K (.Tuple elts kk tpos) (IteD z.cps.size (fun _ => True) (fun i _ x => ∃ c, z.cps[i]? = some c ∧ x = .str ⟨#[c]⟩)) [e, it] e (fun i h => (∃ old, IsEnum h e it ((i : Nat) : Int) old) ∧ h.IsStrIter it (strIterType z) z t i ∧ e ≠ it) where
  mem := by simp
  obj := fun i h st b hb => by
    obtain ⟨⟨old, he⟩, ⟨o, ho, hc, hd⟩, _⟩ := st
    have e' : b = e ∨ b = it := by simpa using hb
    rcases e' with z | z
    · rw [z]; exact ⟨_, he, fun v q => nomatch q⟩
    · rw [z]; exact ⟨o, ho, fun v q => by rw [hd] at q; cases q⟩
  keep := fun i h h' st k => by
    obtain ⟨⟨old, he⟩, ⟨o, ho, r⟩, hne⟩ := st
    exact ⟨⟨old, k e (by simp) _ he⟩, ⟨o, k it (by simp) o ho, r⟩, hne⟩
  item := by
    intro X hP hw hK hc i pins s σ H E I hf st hg
    subst hP hw hK
    obtain ⟨⟨old, he⟩, hit, hne⟩ := st
    have hel : e < s.heap.objs.size := Heap.lt_size he
    have hil : it < s.heap.objs.size := by obtain ⟨_, q, _⟩ := hit; exact Heap.lt_size q
    refine wpAny_pyNext_enum_itemD (Draws.text (A := X.A.in1) (I.ok.hd hc) it z t) he hit hg.1 hne (by simp [hne]) fun v h' tk hv ho hit' hT hsz hk => ?_
    obtain ⟨c, u, hcx, rfl⟩ := hv
    refine ⟨_, rfl, wpAny_letOwnedTupleGo_enum (s := { s with heap := h', toks := tk + 1 }) ho fun h'' he' sb => ?_⟩
    have hT2 : h''.get? s.heap.objs.size = some { cls := .type "tuple", data := .seq #[.int i tk, .str ⟨#[c]⟩ u] } := (sb.2 _ (Nat.ne_of_gt hel)).trans hT
    have new : ObjOk X.prog X.w (upd H s.heap.objs.size (.tup [.int (i : Nat), .str ⟨#[c]⟩])) h'' s.heap.objs.size (.tup [.int (i : Nat), .str ⟨#[c]⟩]) :=
      ⟨by show 2 ≤ sizeLine; decide, [.int i tk, .str ⟨#[c]⟩ u], .cons ⟨_, rfl⟩ (.cons ⟨_, rfl⟩ .nil), ⟨_, hT2, rfl, _, rfl⟩⟩
    have I1 : Inv X pins σ (upd H s.heap.objs.size (.tup [.int (i : Nat), .str ⟨#[c]⟩])) { s with heap := h'', toks := tk + 1 } :=
      I.turnedNew (ch := [e, it]) (fun b ob hb q => (sb.2 b (fun z => hb (by simp [z]))).trans (hk b ob (fun z => hb (by simp [z])) (fun z => hb (by simp [z])) q)) hf (Nat.le_refl _) new
    refine ⟨.ref s.heap.objs.size, _, I1, rfl, ⟨_, _, rfl, I.hok.fresh (Nat.le_refl _), rfl, c, hcx, rfl⟩, ⟨⟨.str ⟨#[c]⟩ u, ?_⟩, ?_, hne⟩, fun b hb => ?_⟩
    · have e1 : ((i + 1 : Nat) : Int) = (i : Int) + 1 := by omega
      rw [e1]; exact he'
    · obtain ⟨o, q, r⟩ := hit'
      exact ⟨o, (sb.2 it (Ne.symm hne)).trans q, r⟩
    · have hb' : b < s.heap.objs.size := by
        have e' : b = e ∨ b = it := by simpa using hb
        rcases e' with z | z
        · rw [z]; exact hel
        · rw [z]; exact hil
      rw [upd_ne (Nat.ne_of_lt hb')]
      exact (hf b hb).1
  done := by
    intro X hP hw hK hc i pins s σ H E I hf st hg
    subst hP hw hK
    obtain ⟨⟨old, he⟩, hit, hne⟩ := st
    obtain ⟨f0, f1, f2, f3, f4, f5⟩ := hf it (by simp)
    obtain ⟨rfl, _⟩ := hg
    exact wpAny_pyNext_enum_endD (Draws.text (A := X.A.in1) (I.ok.hd hc) it z t) he hit fun h' eb => ⟨rfl, I.turned (t' := s.toks) (fun b o hb q => eb b o hb q) f0 f1 f3 f4 f5⟩
  self := fun A i s Q E st h => let ⟨⟨_, he⟩, _⟩ := st; wpAny_pyIter_enum he h
theorem turn_enumT {P : Program} {w : World} {K : PySem.W.Frag} {elts : List Expr} {kk : Nat} {tpos : Pos} (e it a : Addr) (xs : List V) :
    Turn P w K (.Tuple elts kk tpos) (IteD xs.length (fun H => SqT K H a xs) (fun i _ x => xs[i]? = some x)) [e, it] e (fun i h => (∃ old, IsEnum h e it ((i : Nat) : Int) old) ∧ h.IsTupleIter it a i ∧ e ≠ it) where
  mem := by simp
  obj := fun i h st b hb => by
    obtain ⟨⟨old, he⟩, ⟨o, ho, hc, hd⟩, _⟩ := st
    have e' : b = e ∨ b = it := by simpa using hb
    rcases e' with z | z
    · rw [z]; exact ⟨_, he, fun v q => nomatch q⟩
    · rw [z]; exact ⟨o, ho, fun v q => by rw [hd] at q; cases q⟩
  keep := fun i h h' st k => by
    obtain ⟨⟨old, he⟩, hi, hne⟩ := st
    exact ⟨⟨old, k e (by simp) _ he⟩, hi.at fun o q => k it (by simp) o q, hne⟩
  item := by
    intro X hP hw hK hc i pins s σ H E I hf st hg
    subst hP hw hK
    obtain ⟨⟨old, he⟩, hit, hne⟩ := st
    obtain ⟨hi, hq⟩ := hg
    obtain ⟨its, rv, p, hz⟩ := I.tuple hq
    have hel : e < s.heap.objs.size := Heap.lt_size he
    have hil : it < s.heap.objs.size := by obtain ⟨_, q, _⟩ := hit; exact Heap.lt_size q
    have hea : e ≠ a := by
      rintro rfl
      obtain ⟨o, q1, q2, _⟩ := id p
      rw [show s.heap.get? e = _ from he] at q1
      cases q1
      have q2' : (Value.type "enumerate") = .type "tuple" := q2
      exact absurd q2' (by decide)
    have hia : a ≠ it := by
      rintro rfl
      obtain ⟨o, q1, q2, _⟩ := id p
      obtain ⟨o', q3, q4, _⟩ := id hit
      rw [q1] at q3
      cases q3
      rw [q2] at q4
      exact absurd q4 (by decide)
    have hl : its.toArray.size = xs.length := by rw [List.size_toArray]; exact rv.length.symm
    refine wpAny_pyNext_enum_itemD (Draws.tuple (A := X.A.in1) (I.ok.hd hc) it a hia its.toArray) he ⟨hit, p⟩ (by rw [hl]; exact hi) hne (by simp [hne, hea]) fun v h' tk hv ho hit' hT hsz hk => ?_
    obtain ⟨x, hx⟩ : ∃ x, xs[i]? = some x := ⟨xs[i], List.getElem?_eq_getElem hi⟩
    obtain ⟨u, hu, ru⟩ := rv.get hx
    have ev : v = u := by
      have hv' : its[i]? = some v := by simpa using hv
      rw [hu] at hv'
      exact (Option.some.inj hv').symm
    subst ev
    refine ⟨_, rfl, wpAny_letOwnedTupleGo_enum (s := { s with heap := h', toks := tk + 1 }) ho fun h'' he' sb => ?_⟩
    have hT2 : h''.get? s.heap.objs.size = some { cls := .type "tuple", data := .seq #[.int i tk, v] } := (sb.2 _ (Nat.ne_of_gt hel)).trans hT
    have new : ObjOk X.prog X.w (upd H s.heap.objs.size (.tup [.int (i : Nat), x])) h'' s.heap.objs.size (.tup [.int (i : Nat), x]) :=
      ⟨by show 2 ≤ sizeLine; decide, [.int i tk, v], .cons ⟨_, rfl⟩ (.cons ru .nil), ⟨_, hT2, rfl, _, rfl⟩⟩
    have I1 : Inv X pins σ (upd H s.heap.objs.size (.tup [.int (i : Nat), x])) { s with heap := h'', toks := tk + 1 } :=
      I.turnedNew (ch := [e, it]) (fun b ob hb q => (sb.2 b (fun z => hb (by simp [z]))).trans (hk b ob (fun z => hb (by simp [z])) (fun z => hb (by simp [z])) q)) hf (Nat.le_refl _) new
    refine ⟨.ref s.heap.objs.size, _, I1, rfl, ⟨_, _, rfl, I.hok.fresh (Nat.le_refl _), rfl, hx⟩, ⟨⟨v, ?_⟩, ?_, hne⟩, fun b hb => ?_⟩
    · have e1 : ((i + 1 : Nat) : Int) = (i : Int) + 1 := by omega
      rw [e1]; exact he'
    · exact hit'.1.at fun o q => (sb.2 it (Ne.symm hne)).trans q
    · have hb' : b < s.heap.objs.size := by
        have e' : b = e ∨ b = it := by simpa using hb
        rcases e' with z | z
        · rw [z]; exact hel
        · rw [z]; exact hil
      rw [upd_ne (Nat.ne_of_lt hb')]
      exact (hf b hb).1
  done := by
    intro X hP hw hK hc i pins s σ H E I hf st hg
    subst hP hw hK
    obtain ⟨⟨old, he⟩, hit, hne⟩ := st
    obtain ⟨rfl, hq⟩ := hg
    obtain ⟨its, rv, p, hz⟩ := I.tuple hq
    have hia : a ≠ it := by
      rintro rfl
      obtain ⟨o, q1, q2, _⟩ := id p
      obtain ⟨o', q3, q4, _⟩ := id hit
      rw [q1] at q3
      cases q3
      rw [q2] at q4
      exact absurd q4 (by decide)
    have hl : its.toArray.size = xs.length := by rw [List.size_toArray]; exact rv.length.symm
    obtain ⟨f0, f1, f2, f3, f4, f5⟩ := hf it (by simp)
    exact wpAny_pyNext_enum_endD (Draws.tuple (A := X.A.in1) (I.ok.hd hc) it a hia its.toArray) he ⟨by rw [hl]; exact hit, p⟩ fun h' eb => ⟨rfl, I.turned (t' := s.toks) (fun b o hb q => eb b o hb q) f0 f1 f3 f4 f5⟩
  self := fun A i s Q E st h => let ⟨⟨_, he⟩, _⟩ := st; wpAny_pyIter_enum he h
def iEnumA (K : PySem.W.Frag) (ta : TA) : TI := fun σ H R => ta σ H fun vs H1 => (∃ a xs, vs = [.ref a] ∧ SqT K H1 a xs ∧ R (IteD xs.length (fun H => SqT K H a xs) (fun i _ x => xs[i]? = some x)) H1) ∨ (∃ z, vs = [.str z] ∧ R (IteD z.cps.size (fun _ => True) (fun i _ x => ∃ c, z.cps[i]? = some c ∧ x = .str ⟨#[c]⟩)) H1) ∨ ∃ a xs, vs = [.ref a] ∧ SqL K H1 a xs ∧ R (Ite K a) H1
theorem pi_enumA {X : Cx} {e : Expr} {ta : TA} {p pos tpos : Pos} {elts : List Expr} {kk : Nat} (hg : Gl X "enumerate") (hm : X.mg "enumerate" = none) (ha : PA X [e] ta) (hs : starEach [e] X.env = [(false, eval e X.env)] := by rfl) :
    PI X (.Tuple elts kk tpos) (.Call (.Name "enumerate" p) [e] [] pos) (iEnumA X.K ta) := by
  refine ⟨fun pins s σ H R I h => ?_⟩
  refine Call_ (ld_blt I hg hm boot_enumerate (PyProof.Rows.callWith_type1 (thn (ha.run pos pins s σ H _ I h) fun us s1 ⟨vs, H1, I1, r1, q1⟩ => ?_) hs rfl))
  have fin : ∀ b, b ∈ [s1.heap.objs.size + 1, s1.heap.objs.size] → FpOk X pins H1 b := fun b hb => by
    have e' : b = s1.heap.objs.size + 1 ∨ b = s1.heap.objs.size := by simpa using hb
    have hle : s1.heap.objs.size ≤ b := by
      rcases e' with z | z
      · rw [z]; exact Nat.le_add_right _ _
      · rw [z]; exact Nat.le_refl _
    exact I1.fpOk hle (I1.hok.fresh hle)
  rcases q1 with ⟨a, xs, ex, hq, q⟩ | ⟨z, ex, q⟩ | ⟨a, xs, ex, hq, q⟩
  · subst ex
    cases r1 with
    | cons r rr =>
      cases rr
      cases r
      obtain ⟨its, rv, p', hz⟩ := I1.tuple hq
      refine call_enum1 (begins_tuple a its.toArray) p' fun h' he hit hsz hk => wpAny_pyIter_enum he ?_
      have I2 : Inv X pins σ H1 { s1 with heap := h' } := I1.kept (t' := s1.toks) hk
      exact ⟨s1.heap.objs.size + 1, [s1.heap.objs.size + 1, s1.heap.objs.size], _, _, H1, rfl, I2, turn_enumT (s1.heap.objs.size + 1) s1.heap.objs.size a xs, ⟨⟨.none, he⟩, ⟨_, hit, rfl, rfl⟩, Nat.succ_ne_self _⟩, fin, q⟩
  · subst ex
    cases r1 with
    | cons r rr =>
      cases rr
      obtain ⟨t, rfl⟩ := r
      refine call_enum1 (begins_text z t) trivial fun h' he hit hsz hk => wpAny_pyIter_enum he ?_
      have I2 : Inv X pins σ H1 { s1 with heap := h' } := I1.kept (t' := s1.toks) hk
      exact ⟨s1.heap.objs.size + 1, [s1.heap.objs.size + 1, s1.heap.objs.size], _, _, H1, rfl, I2, turn_enumS (s1.heap.objs.size + 1) s1.heap.objs.size z t, ⟨⟨.none, he⟩, ⟨_, hit, rfl, rfl⟩, Nat.succ_ne_self _⟩, fin, q⟩
  · subst ex
    cases r1 with
    | cons r rr =>
      cases rr
      cases r
      obtain ⟨its, rv, p', hz⟩ := I1.list hq
      refine call_enumerate_list p'.isList fun h' he hit hsz hk => wpAny_pyIter_enum he ?_
      have I2 : Inv X pins σ H1 { s1 with heap := h' } := I1.kept (t' := s1.toks) hk
      exact ⟨s1.heap.objs.size + 1, [s1.heap.objs.size + 1, s1.heap.objs.size], _, _, H1, rfl, I2, turn_enum a (s1.heap.objs.size + 1) s1.heap.objs.size, ⟨⟨.none, he⟩, hit, Nat.succ_ne_self _⟩, fin, q⟩

/-! the rule -/
section
variable {r : Addr} {X : Cx} {K : PySem.W.Frag} {mg : Str → Option Value} {O : List Nat} {E : XK} {e : Expr} {ts : TA}
def numD (xs : List D) : List D := xs.mapIdx fun i x => .tup [.int (i : Int), x]
def enumD : List D → Option (List D)
  | [d] => (seqD d).map numD
  | _ => none
theorem numD_len (xs : List D) : (numD xs).length = xs.length := by unfold numD; simp
theorem numD_get {xs : List D} {i : Nat} {x : D} (h : xs[i]? = some x) : (numD xs)[i]? = some (.tup [.int (i : Int), x]) := by
  unfold numD; rw [List.getElem?_mapIdx, h]; rfl
theorem walks_pair {J : It} {Hs1 : Hp} {ds : List D} {Gd : Hp → Prop} {Y : Nat → Hp → V → Hp → Prop} (wk : Walk J ds.length Gd Y) (hG : ∀ Hs H, Same Hs1 Hs → Same Hs H → Gd H)
    (hY : ∀ i Hs H v H', i < ds.length → Same Hs1 Hs → Same Hs H → Y i H v H' → ∃ T x d, v = .ref T ∧ H T = none ∧ H' = upd H T (.tup [.int (i : Nat), x]) ∧ ds[i]? = some d ∧ RepD K mg r Hs x d) : WalksD K mg r J Hs1 (numD ds) := by
  refine ⟨Gd, Y, by rw [numD_len]; exact wk, hG, fun i Hs H tp v H' hi e w y => ?_⟩
  rw [numD_len] at hi
  obtain ⟨T, x, d, rfl, hT, rfl, hd, hx⟩ := hY i Hs H v H' hi e w.sub y
  obtain ⟨g', w'⟩ := w.alloc (o := .tup [.int (i : Nat), x]) hT
  exact ⟨_, _, g', w', numD_get hd, .tup upd_same (.cons (.int _) (.cons (hx.mono g'.ex) .nil))⟩
theorem enumD_ok {ds items : List D} (h : enumD ds = some items) : ∃ d xs, ds = [d] ∧ seqD d = some xs ∧ items = numD xs := by
  match ds, h with
  | [d], h =>
    obtain ⟨xs, h1, h2⟩ := Option.map_eq_some_iff.mp h
    exact ⟨d, xs, rfl, h1, h2.symm⟩
theorem gi_enum {p tpos : Pos} {pos : Pos} {elts : List Expr} {kk : Nat} {m : SE (List D)} (hm : X.mg "enumerate" = none) (h : GA K mg r X O E [e] ts m) (hg : Gl X "enumerate" := by rfl) (hs : starEach [e] X.env = [(false, eval e X.env)] := by rfl) (hK : X.K = K := by rfl) :
    GI K mg r X O E (.Tuple elts kk tpos) (.Call (.Name "enumerate" p) [e] [] pos) (iEnumA K ts) (rangeI enumD m) := by
  subst hK
  refine ⟨pi_enumA hg hm h.pe hs, fun Hs0 H0 Hs H σ env tp Q R P => ?_⟩
  refine h.snd _ _ _ _ _ _ _ _ R (Post.bind P fun vs Hs1 H1 ds tp1 _ g w rv P1 => ?_)
  obtain ⟨items, hz, k⟩ := Post.ok_of P1
  obtain ⟨d, xs, rfl, h1, rfl⟩ := enumD_ok hz
  cases rv with
  | cons rx rr =>
    cases rr
    cases d with
    | lst ys =>
      cases h1
      cases rx with
      | lst q1 q2 =>
        rename_i a vs
        refine .inr (.inr ⟨a, vs, rfl, .of (w.sub _ _ q1), k _ Hs1 H1 (Grow.refl _ _) w ?_⟩)
        refine walks_pair (Gd := fun H => SqL X.K H a vs) (Y := fun i H v H' => ∃ T x, v = .ref T ∧ H T = none ∧ H' = upd H T (.tup [.int (i : Nat), x]) ∧ vs[i]? = some x) ?_ (fun Hs H e1 e2 => .of (e2 _ _ (e1 _ _ q1))) fun i Hs H v H' hi e e2 y => ?_
        · rw [← q2.length]
          exact ⟨fun i H hi q => ⟨vs, vs[i], q, List.getElem?_eq_getElem hi⟩, fun H q => ⟨vs, q, Nat.le_refl _⟩, fun i H x H' hi q y => by
            obtain ⟨T, z, h1, h2, h3, h4⟩ := y
            exact ⟨T, z, h1, h2, h3, h4 vs q⟩⟩
        · obtain ⟨T, x, h1, h2, h3, h4⟩ := y
          obtain ⟨d, h5, h6⟩ := q2.get h4
          exact ⟨T, x, d, h1, h2, h3, h5, h6.mono e⟩
    | tup ys =>
      cases h1
      cases rx with
      | tup q1 q2 =>
        rename_i a vs
        refine .inl ⟨a, vs, rfl, .of (w.sub _ _ q1), k _ Hs1 H1 (Grow.refl _ _) w ?_⟩
        refine walks_pair (Gd := fun H => SqT X.K H a vs) (Y := fun i H v H' => ∃ T x, v = .ref T ∧ H T = none ∧ H' = upd H T (.tup [.int (i : Nat), x]) ∧ vs[i]? = some x) ?_ (fun Hs H e1 e2 => .of (e2 _ _ (e1 _ _ q1))) fun i Hs H v H' hi e e2 y => ?_
        · rw [← q2.length]
          exact ⟨fun i H hi q => ⟨hi, q⟩, fun H q => ⟨rfl, q⟩, fun i H x H' hi q y => y⟩
        · obtain ⟨T, x, h1, h2, h3, h4⟩ := y
          obtain ⟨d, h5, h6⟩ := q2.get h4
          exact ⟨T, x, d, h1, h2, h3, h5, h6.mono e⟩
    | scr ns =>
      cases h1
      cases rx with
      | scr q1 =>
        rename_i a
        refine .inr (.inr ⟨a, ns.map V.int, rfl, Same.seq w.sub q1, k _ Hs1 H1 (Grow.refl _ _) w ?_⟩)
        refine walks_pair (Gd := fun H => SqL X.K H a (ns.map V.int)) (Y := fun i H v H' => ∃ T x, v = .ref T ∧ H T = none ∧ H' = upd H T (.tup [.int (i : Nat), x]) ∧ (ns.map V.int)[i]? = some x) ?_ (fun Hs H e1 e2 => Same.seq e2 (Same.seq e1 q1)) fun i Hs H v H' hi e e2 y => ?_
        · rw [List.length_map]
          exact ⟨fun i H hi q => ⟨ns.map V.int, .int ns[i], q, by rw [List.getElem?_map, List.getElem?_eq_getElem hi]; rfl⟩, fun H q => ⟨ns.map V.int, q, by rw [List.length_map]; exact Nat.le_refl _⟩, fun i H x H' hi q y => by
            obtain ⟨T, z, h1, h2, h3, h4⟩ := y
            exact ⟨T, z, h1, h2, h3, h4 _ q⟩⟩
        · obtain ⟨T, x, h1, h2, h3, h4⟩ := y
          rw [List.getElem?_map] at h4
          obtain ⟨n, h5, rfl⟩ := Option.map_eq_some_iff.mp h4
          exact ⟨T, _, .int n, h1, h2, h3, by rw [List.getElem?_map, h5]; rfl, .int _⟩
    | str s =>
      cases h1
      cases rx
      refine .inr (.inl ⟨s, rfl, k _ Hs1 H1 (Grow.refl _ _) w ?_⟩)
      refine walks_pair (Gd := fun _ => True) (Y := fun i H v H' => ∃ T x, v = .ref T ∧ H T = none ∧ H' = upd H T (.tup [.int (i : Nat), x]) ∧ ∃ c, s.cps[i]? = some c ∧ x = .str ⟨#[c]⟩) ?_ (fun _ _ _ _ => trivial) fun i Hs H v H' hi e e2 y => ?_
      · rw [List.length_map, Array.length_toList]
        exact ⟨fun _ _ hi _ => ⟨hi, trivial⟩, fun _ _ => ⟨rfl, trivial⟩, fun _ _ _ _ _ _ y => y⟩
      · obtain ⟨T, x, rfl, hT, rfl, c, hc, rfl⟩ := y
        exact ⟨T, _, .str ⟨#[c]⟩, rfl, hT, rfl, by rw [List.getElem?_map, Array.getElem?_toList, hc]; rfl, .str _⟩
    | _ => cases h1
end
end G

set_option maxHeartbeats 1000000
/-! G7: sorted, a list turned about. -/
namespace SrtT
open PySem PySem.Spec PyProof.Rows SrtO
section
variable {prog : Program} {w : World} {A : Around} {E : Value → Shared → Prop} {s : Shared}
theorem collect_tuple {l : Addr} {vs : List Value} {Q : List Value → Shared → Prop} (hl : s.heap.IsTuple l vs.toArray)
    (h : Q vs { s with heap := (s.heap.push (seqObj "list" #[] 0)).update s.heap.objs.size (Obj.mapSeq (· ++ vs.toArray)) }) (hsz : vs.length ≤ sizeLine) :
    wpAny (model prog w) A (collect (.ref l)) Q E s := by
  obtain ⟨o, ho, hc, n, hd⟩ := id hl
  unfold collect
  refine wpAny_bind (wpAny_runValue (codeAny_builtin entry_proto_collect' ?_))
  show wpAny _ _ (do again (.builtin "list.__iadd__" ⟨[← newList [], .ref l], []⟩)) _ _ s
  refine wpAny_bind (wpAny_newList (wpAny_pure ⟨Code.quiet_builtin _ (by decide +kernel), codeAny_builtin entry_list_iadd' ?_⟩))
  show wpAny _ _ (Builtin.List.listExtendWith (.ref s.heap.objs.size) (.ref l) (.ref s.heap.objs.size)) _ _ { s with heap := s.heap.push (seqObj "list" #[] 0) }
  unfold Builtin.List.listExtendWith
  have ho' : (s.heap.push (seqObj "list" #[] 0)).get? l = some o := Heap.get?_push_of_some _ ho
  refine wpAny_bind (wpAny_typeOf (T := "tuple") ⟨o, ho', hc⟩ ?_)
  have ht : (Value.type "tuple" == Value.type "tuple") = true := by rfl
  rw [if_pos (by rw [ht]; simp)]
  refine wpAny_bind (listItems_at ho' hd ?_)
  refine wpAny_bind (listItems_at (xs := #[]) (n := 0) (Heap.get?_push_size _ rfl) rfl ?_)
  rw [if_neg (by simp)]
  refine wpAny_bind (listUpdate_at (xs := #[]) (n := 0) (Heap.get?_push_size _ rfl) rfl ?_ (Nat.zero_le _) (by show (#[] ++ vs.toArray).size ≤ sizeLine + 1; simp only [Array.size_append, List.size_toArray, List.length_nil]; omega))
  refine wpAny_pure ?_
  show wpAny (model prog w) A (do
      let o ← load s.heap.objs.size
      match o.data with
      | .seq xs _ => pure xs.toList
      | _ => unsupported "internal:collect") Q E { s with heap := (s.heap.push (seqObj "list" #[] 0)).update s.heap.objs.size (Obj.mapSeq (· ++ vs.toArray)) }
  refine wpAny_bind (wpAny_load (get?_update_seq (Heap.get?_push_size _ rfl) _) ?_)
  show wpAny _ _ (pure ((#[] : Array Value) ++ vs.toArray).toList) Q E _
  rw [show ((#[] : Array Value) ++ vs.toArray).toList = vs by simp]
  exact wpAny_pure h
theorem sorted_ordT {l : Addr} {vs : List Value} {ltv : Value → Value → Bool} {Q : Value → Shared → Prop} (O : Swo ltv) (hl : s.heap.IsTuple l vs.toArray) (hz : vs.length ≤ sizeLine)
    (hS : 2 ≤ vs.length → ∀ (h₁ : Heap) (a : Addr), h₁.get? a = some (seqObj "list" vs.toArray 0) → (∀ b o, s.heap.get? b = some o → b ≠ a ∧ h₁.get? b = some o) → SortableO prog w A.in1.in1 { s with heap := h₁ } a vs ltv)
    (h : ∀ out : List Value, Srtd ltv out → Stb ltv out vs → Q (.ref (s.heap.objs.size + 1)) { s with heap := sortedAll s.heap vs out.toArray }) :
    wpAny (model prog w) A (call (.builtin "sorted") [.ref l]) Q E s := by
  refine Calls.call_function_entry kind_sorted plain_sorted entry_sorted (args_sorted1 _) ?_
  unfold Builtin.«sorted»
  refine wpAny_bind (m := checkCount "sorted" 1 1 _) (wpAny_pure ?_)
  refine wpAny_bind (collect_tuple hl ?_ hz)
  refine wpAny_bind (wpAny_newList ?_ hz)
  have hsz : ((s.heap.push (seqObj "list" #[] 0)).update s.heap.objs.size (Obj.mapSeq (· ++ vs.toArray))).objs.size = s.heap.objs.size + 1 := by
    rw [Heap.size_update, size_push']
  have hoL : (((s.heap.push (seqObj "list" #[] 0)).update s.heap.objs.size (Obj.mapSeq (· ++ vs.toArray))).push (seqObj "list" vs.toArray 0)).get? (s.heap.objs.size + 1) = some (seqObj "list" vs.toArray 0) := by
    rw [← hsz]; exact Heap.get?_push_size _ rfl
  have keep : ∀ b o, s.heap.get? b = some o → b ≠ s.heap.objs.size + 1 ∧ (((s.heap.push (seqObj "list" #[] 0)).update s.heap.objs.size (Obj.mapSeq (· ++ vs.toArray))).push (seqObj "list" vs.toArray 0)).get? b = some o := fun b o q => by
    have hlt : b < s.heap.objs.size := Heap.lt_size q
    refine ⟨Nat.ne_of_lt (Nat.lt_succ_of_lt hlt), Heap.get?_push_of_some _ ?_⟩
    rw [Heap.get?_update_ne _ _ _ _ (Nat.ne_of_lt hlt)]
    exact Heap.get?_push_of_some _ q
  show wpAny _ _ _ _ _ { s with heap := ((s.heap.push (seqObj "list" #[] 0)).update s.heap.objs.size (Obj.mapSeq (· ++ vs.toArray))).push (seqObj "list" vs.toArray 0) }
  rw [hsz]
  refine wpAny_bind (wpAny_holding (wpAny_call_entry slot_list_sort ⟨_, hoL, rfl⟩ entry_list_sort (list_sort_ord O hoL hz (fun h2 => hS h2 _ _ hoL keep) fun out hs hb => ⟨_, rfl, ?_⟩) (args_list_sort _)))
  exact wpAny_pure ⟨_, rfl, h out hs hb⟩
end
end SrtT
namespace G
open PySem PySem.Spec PyProof.Rows L2
def rSortedA (K : PySem.W.Frag) : List V → Hp → VK → Prop := fun vs H Q => ∃ (a : Addr) (ns : List Int), vs = [V.ref a] ∧ SqT K H a (ns.map V.int) ∧
  ∀ (ns' : List Int) (p : Addr), ns'.Perm ns → ns'.Pairwise (· ≤ ·) → H p = none → Q (.ref p) (upd H p (.lst (ns'.map V.int)))
theorem cr_sortedA {X : Cx} : CallR X (.builtin "sorted") (rSortedA X.K) := by
  intro pins s σ H vs us Q I r h
  obtain ⟨a, ns, rfl, hs, q⟩ := h
  obtain ⟨its, rv, hl, hz⟩ := I.tuple hs
  rw [Vals.ref1 r]
  have hi := rv.ints
  refine SrtT.sorted_ordT SrtO.swo_int hl (by rw [← rv.length]; exact hz) (fun h2 h₁ a' _ _ => SrtO.ints_sortable hi h2) fun out h1 h2 => ?_
  obtain ⟨k1, k2, k3⟩ := SrtO.ints_out hi h1 h2
  obtain ⟨ep, he'⟩ := PyProof.Rows.sortedAll_at s.heap its out.toArray
  have hlen : ((out.map SrtO.iv).map V.int).length ≤ sizeLine := by
    rw [List.length_map, k2.length_eq]
    rw [List.length_map] at hz
    exact hz
  exact ⟨.ref _, upd H (s.heap.objs.size + 1) (.lst ((out.map SrtO.iv).map V.int)), I.laid (t' := s.toks) (fun _ _ => PyProof.Rows.sortedAll_old) (Nat.le_succ _) ⟨hlen, out, ep, vals_of_ints k1, he'⟩, rfl, q _ _ k2 k3 (I.hok.fresh (Nat.le_succ _))⟩
theorem crr_or {X : Cx} {f : Value} {r1 r2 : List V → Hp → VK → Prop} (h1 : CallR X f r1) (h2 : CallR X f r2) : CallR X f (fun vs H Q => r1 vs H Q ∨ r2 vs H Q) := by
  intro pins s σ H vs us Q I r h
  rcases h with h | h
  · exact h1 pins s σ H vs us Q I r h
  · exact h2 pins s σ H vs us Q I r h
abbrev rSortedB (K : PySem.W.Frag) : List V → Hp → VK → Prop := fun vs H Q => rSortedI K vs H Q ∨ rSortedA K vs H Q
/-- ints in order -/
def insI (x : Int) : List Int → List Int
  | [] => [x]
  | y :: ys => if x ≤ y then x :: y :: ys else y :: insI x ys
def sortI : List Int → List Int
  | [] => []
  | x :: xs => insI x (sortI xs)
theorem insI_perm (x : Int) : ∀ ys, (insI x ys).Perm (x :: ys)
  | [] => .refl _
  | y :: ys => by
    unfold insI
    split
    · exact .refl _
    · exact ((insI_perm x ys).cons y).trans (.swap _ _ _)
theorem sortI_perm : ∀ xs, (sortI xs).Perm xs
  | [] => .refl _
  | x :: xs => (insI_perm x _).trans ((sortI_perm xs).cons x)
theorem insI_sorted (x : Int) : ∀ {ys : List Int}, ys.Pairwise (· ≤ ·) → (insI x ys).Pairwise (· ≤ ·)
  | [], _ => List.pairwise_singleton _ _
  | y :: ys, h => by
    unfold insI
    have h' := List.pairwise_cons.mp h
    split
    · rename_i c
      exact List.pairwise_cons.mpr ⟨fun z hz => (List.mem_cons.mp hz).elim (fun e => e ▸ c) (fun q => Int.le_trans c (h'.1 z q)), h⟩
    · rename_i c
      refine List.pairwise_cons.mpr ⟨fun z hz => ?_, insI_sorted x h'.2⟩
      rcases List.mem_cons.mp ((insI_perm x ys).mem_iff.mp hz) with e | q
      · subst e; omega
      · exact h'.1 z q
theorem sortI_sorted : ∀ xs, (sortI xs).Pairwise (· ≤ ·)
  | [] => .nil
  | x :: xs => insI_sorted x (sortI_sorted xs)
theorem sorted_unique : ∀ {xs ys : List Int}, xs.Perm ys → xs.Pairwise (· ≤ ·) → ys.Pairwise (· ≤ ·) → xs = ys
  | [], ys, p, _, _ => p.nil_eq
  | x :: xs, [], p, _, _ => absurd p.symm.nil_eq (by simp)
  | x :: xs, y :: ys, p, h1, h2 => by
    have h1' := List.pairwise_cons.mp h1
    have h2' := List.pairwise_cons.mp h2
    have e : x = y := by
      have a : x ∈ y :: ys := p.mem_iff.mp List.mem_cons_self
      have b : y ∈ x :: xs := p.mem_iff.mpr List.mem_cons_self
      rcases List.mem_cons.mp a with e | a
      · exact e
      rcases List.mem_cons.mp b with e | b
      · exact e.symm
      have := h1'.1 y b
      have := h2'.1 x a
      omega
    subst e
    rw [sorted_unique (List.Perm.cons_inv p) h1'.2 h2'.2]
section
variable {r : Addr} {X : Cx} {K : PySem.W.Frag} {mg : Str → Option Value} {O : List Nat} {E : XK} {e a : Expr} {ts : TA} {ta : TE} {p pos : Pos} {ms : SE (List D)} {ma : SE D}
def sortD : List D → Option D
  | [.lst xs] => (unI xs).map fun ns => .lst ((sortI ns).map .int)
  | [.scr ns] => some (.lst ((sortI ns).map .int))
  | [.tup xs] => (unI xs).map fun ns => .lst ((sortI ns).map .int)
  | _ => none
theorem gf_sorted (hm : X.mg "sorted" = none) (ha : GAO K mg r X O E [e] ts ms) (hg : Gl X "sorted" := by rfl) (he : starEach [e] X.env = (false, eval e X.env) :: starEach [] X.env := by rfl) (hpl : (backTo pos (starEach [] X.env)).any (·.1) = false := by rfl) (hK : X.K = K := by rfl) : GF K mg r X O E (.Call (.Name "sorted" p) [e] [] pos) (tCB (rSortedB K) ts) (callB sortD ms) := by
  subst hK
  refine ⟨pe_callB (r := rSortedB X.K) (crr_or cr_sortedI cr_sortedA) hg hm boot_sorted ha.pe (by decide) (by decide) he hpl, fun Hs0 H0 Hs H σ env tp Q Rl P => ?_⟩
  refine ha.snd _ _ _ _ _ _ _ _ Rl ?_
  unfold callB at P
  cases q : ms env tp with
  | stuck => rw [q] at P; exact P
  | exn cc fs tp1 => rw [q] at P; exact P
  | ok ds tp1 =>
    rw [q] at P
    intro xs Hs1 H1 g w rx
    obtain ⟨z, hz, k⟩ := Post.ok_of (show Post X.K mg r (Fresh X.K mg r H) E Hs H (RE.of (sortD ds) tp1) Q from P)
    unfold sortD at hz
    split at hz
    · obtain ⟨ns, h1, h2⟩ := Option.map_eq_some_iff.mp hz
      subst h2
      obtain ⟨x, rfl, h⟩ := paired1 rx
      rw [unI_ok h1] at h
      obtain ⟨p, rfl, h3⟩ := lst_typed RepDs.ints_of w h
      refine .inl ⟨p, ns, rfl, .of h3, fun ns' q hp hs hq => ?_⟩
      have e : ns' = sortI ns := sorted_unique (hp.trans (sortI_perm ns).symm) hs (sortI_sorted ns)
      subst e
      obtain ⟨a, b, c⟩ := fresh_new (o := .lst ((sortI ns).map V.int)) (d := .lst ((sortI ns).map D.int)) g w hq ⟨_, upd_same, RepDs.ints _⟩
      exact k _ _ _ a b c
    · cases hz
      rename_i ns
      obtain ⟨x, rfl, h⟩ := paired1 rx
      obtain ⟨p, rfl, h3⟩ := repT_scr w h
      refine .inl ⟨p, ns, rfl, h3, fun ns' q hp hs hq => ?_⟩
      have e : ns' = sortI ns := sorted_unique (hp.trans (sortI_perm ns).symm) hs (sortI_sorted ns)
      subst e
      obtain ⟨a, b, c⟩ := fresh_new (o := .lst ((sortI ns).map V.int)) (d := .lst ((sortI ns).map D.int)) g w hq ⟨_, upd_same, RepDs.ints _⟩
      exact k _ _ _ a b c
    · obtain ⟨ns, h1, h2⟩ := Option.map_eq_some_iff.mp hz
      subst h2
      obtain ⟨x, rfl, h⟩ := paired1 rx
      rw [unI_ok h1] at h
      obtain ⟨p, vs, rfl, h0, h3, h4⟩ := repT_tup w h
      rw [RepDs.ints_of h4] at h3
      refine .inr ⟨p, ns, rfl, .of h3, fun ns' q hp hs hq => ?_⟩
      have e : ns' = sortI ns := sorted_unique (hp.trans (sortI_perm ns).symm) hs (sortI_sorted ns)
      subst e
      obtain ⟨a, b, c⟩ := fresh_new (o := .lst ((sortI ns).map V.int)) (d := .lst ((sortI ns).map D.int)) g w hq ⟨_, upd_same, RepDs.ints _⟩
      exact k _ _ _ a b c
    · cases hz
def revD : D → Option D
  | .lst xs => some (.lst xs.reverse)
  | _ => none
def revE (m : SE D) : SE D := fun env tp => (m env tp).bind fun d tp1 => RE.of (revD d) tp1
theorem RepDs.rev {Hs : Hp} {vs : List V} {ds : List D} (h : RepDs K mg r Hs vs ds) : RepDs K mg r Hs vs.reverse ds.reverse := by
  induction vs generalizing ds with
  | nil => cases h; exact .nil
  | cons v vs ih =>
    cases h with
    | cons h1 h2 =>
      rw [List.reverse_cons, List.reverse_cons]
      exact (ih h2).append (.cons h1 .nil)
theorem gf_rev {k : Nat} {p1 p2 p3 : Pos} (ha : GO K mg r X O E a ta ma) (hK : X.K = K := by rfl) : GF K mg r X O E (.Subscript a (.Slice none none (some (.UnaryOp .USub (.Constant (.int 1) k p1) p2)) p3) pos) (tRevL K ta) (revE ma) := by
  subst hK
  refine ⟨pe_revL ha.pe, fun Hs0 H0 Hs H σ env tp Q Rl P => ?_⟩
  refine ha.snd _ _ _ _ _ _ _ _ Rl ?_
  unfold revE at P
  cases q : ma env tp with
  | stuck => rw [q] at P; exact P
  | exn cc fs tp1 => rw [q] at P; exact P
  | ok d tp1 =>
    rw [q] at P
    intro x Hs1 H1 g w rx
    obtain ⟨z, hz, k⟩ := Post.ok_of (show Post X.K mg r (Fresh X.K mg r H) E Hs H (RE.of (revD d) tp1) Q from P)
    unfold revD at hz
    split at hz
    · cases hz
      obtain ⟨p, vs, rfl, h1, h2⟩ := repT_lst w rx
      refine ⟨p, vs, rfl, .of h1, fun q hq => ?_⟩
      obtain ⟨a, b, c⟩ := fresh_new (o := .lst vs.reverse) (d := .lst _) g w hq ⟨_, upd_same, RepDs.rev h2⟩
      exact k _ _ _ a b c
    · cases hz
end
end G

set_option maxHeartbeats 1000000
/-! G8: count, abs, zip of tuples. -/
namespace G
open PySem PySem.Spec PyProof.Rows L2
section
variable {r : Addr} {X : Cx} {K : PySem.W.Frag} {mg : Str → Option Value} {O : List Nat} {E : XK} {e e2 a b : Expr} {ts : TA} {ta tb : TE} {p pos : Pos} {ms : SE (List D)}
def countD (d e : D) : Option D := match d, e with
  | .str a, .str b => some (.int (Txt.count a b))
  | _, _ => none
abbrev rCount : V → List V → Hp → VK → Prop := fun x xs H Q => ∃ a b, x = .str a ∧ xs = [.str b] ∧ Q (.int (Txt.count a b)) H
theorem ms_count : MethS K mg r rCount countD := by
  intro Hs H tp x y d e z Q w rx ry hz k
  unfold countD at hz
  split at hz
  · cases hz
    exact ⟨_, _, repT_str rx, by rw [repT_str ry], k _ _ _ (Grow.refl _ _) w (.int _)⟩
  · cases hz
theorem ge_count {ma mb : SE D} {p1 : Pos} (ha : GO K mg r X O E a ta ma) (hb : GO K mg r X O E b tb mb) (hK : X.K = K := by rfl)
    (hbase : attributeBase a "count" X.env (eval a X.env) = eval a X.env := by rfl)
    (hfew : ((backTo pos (starEach [b] X.env)).all (fun x => !x.1) && (backToKw pos (keywordEach [] X.env)).all (fun x => x.1.isSome) && decide ([b].length + ([] : List Keyword).length + (if ([] : List Keyword).isEmpty then 0 else 1) < 30)) = true := by rfl)
    (hline : (p1.endLine == pos.line) = true := by rfl) (hs : starEach [b] X.env = (false, eval b X.env) :: starEach [] X.env := by rfl) (hplain : (backTo pos (starEach [] X.env)).any (·.1) = false := by rfl) :
    GE K mg r X O E (.Call (.Attribute a "count" p1) [b] [] pos) (tBM K "str" rCount ta (tCons tb tNil)) (methE isStrD countD ma mb) := by
  subst hK
  exact ge_m1 PySem.F.plainAttrs_str PySem.F.slot_str_count PySem.F.type_str_count mt_count (fun _ _ _ _ _ => ty_str) ms_count ha hb rfl hbase hfew hline hs hplain
def absD : List D → Option D
  | [.int i] => some (.int (if i < 0 then -i else i))
  | _ => none
abbrev rAbs : List V → Hp → VK → Prop := fun xs H Q => ∃ i, xs = [.int i] ∧ Q (.int (if i < 0 then -i else i)) H
theorem cs_abs : CallS K mg r rAbs absD := by
  intro Hs H tp xs ds z Q w rx hz k
  unfold absD at hz
  split at hz
  · cases hz
    obtain ⟨x, rfl, h⟩ := paired1 rx
    exact ⟨_, by rw [repT_int h], k _ _ _ (Grow.refl _ _) w (.int _)⟩
  · cases hz
theorem ge_abs (hm : X.mg "abs" = none) (ha : GAO K mg r X O E [e] ts ms) (hg : Gl X "abs" := by rfl) (he : starEach [e] X.env = (false, eval e X.env) :: starEach [] X.env := by rfl) (hpl : (backTo pos (starEach [] X.env)).any (·.1) = false := by rfl) : GE K mg r X O E (.Call (.Name "abs" p) [e] [] pos) (tCB rAbs ts) (callB absD ms) :=
  ge_callB call_abs cs_abs hm ha hg (by decide +kernel) (by decide) (by decide) he hpl
/-! zip of two tuples -/
def zipL : List D → List D → List D
  | x :: xs, y :: ys => .tup [x, y] :: zipL xs ys
  | _, _ => []
theorem zipL_len : ∀ xs ys : List D, (zipL xs ys).length = min xs.length ys.length
  | [], ys => by simp [zipL]
  | x :: xs, [] => by simp [zipL]
  | x :: xs, y :: ys => by show (zipL xs ys).length + 1 = _; rw [zipL_len xs ys]; simp only [List.length_cons]; omega
theorem zipL_get : ∀ {xs ys : List D} {i : Nat} {x y : D}, xs[i]? = some x → ys[i]? = some y → (zipL xs ys)[i]? = some (.tup [x, y])
  | [], _, i, _, _, h, _ => by simp at h
  | _ :: _, [], i, _, _, _, h => by simp at h
  | a :: xs, b :: ys, 0, x, y, h, h' => by simp at h h'; subst h; subst h'; rfl
  | a :: xs, b :: ys, i + 1, x, y, h, h' => by
    have h : xs[i]? = some x := by simpa using h
    have h' : ys[i]? = some y := by simpa using h'
    show (zipL xs ys)[i]? = _
    exact zipL_get h h'
def zipD : List D → Option (List D)
  | [.tup xs, .tup ys] => some (zipL xs ys)
  | _ => none
theorem gi_zip {p tpos : Pos} {pos : Pos} {elts : List Expr} {kk : Nat} {m : SE (List D)} (hm : X.mg "zip" = none) (h : GA K mg r X O E [e, e2] ts m) (hg : Gl X "zip" := by rfl) (hs : starEach [e, e2] X.env = (false, eval e X.env) :: starEach [e2] X.env := by rfl) (hpl : (backTo pos (starEach [e2] X.env)).any (·.1) = false := by rfl) (hK : X.K = K := by rfl) :
    GI K mg r X O E (.Tuple elts kk tpos) (.Call (.Name "zip" p) [e, e2] [] pos) (RZ.iZipA K ts) (rangeI zipD m) := by
  subst hK
  refine ⟨RZ.pi_zipA hg hm h.pe hs hpl, fun Hs0 H0 Hs H σ env tp Q R P => ?_⟩
  refine h.snd _ _ _ _ _ _ _ _ R (Post.bind P fun vs Hs1 H1 ds tp1 _ g w rv P1 => ?_)
  obtain ⟨items, hz, k⟩ := Post.ok_of P1
  match ds, hz, rv with
  | [.tup xs, .tup ys], hz, .cons (.tup q1 q2) (.cons (.tup q3 q4) .nil) =>
    cases hz
    rename_i a b vs us _
    refine ⟨a, b, vs, us, rfl, .inr ⟨.of (w.sub _ _ q1), .of (w.sub _ _ q3), k _ Hs1 H1 (Grow.refl _ _) w ?_⟩⟩
    refine ⟨fun H => SqT X.K H a vs ∧ SqT X.K H b us, fun i H v H' => ∃ T x y, v = .ref T ∧ H T = none ∧ H' = upd H T (.tup [x, y]) ∧ vs[i]? = some x ∧ us[i]? = some y, ?_, fun Hs H e1 e2 => ⟨.of (e2 _ _ (e1 _ _ q1)), .of (e2 _ _ (e1 _ _ q3))⟩, fun i Hs H tp v H' hi e w y => ?_⟩
    · rw [zipL_len, ← q2.length, ← q4.length]
      refine ⟨fun i H hi q => ?_, fun H q => ⟨vs, us, q.1, q.2, by omega⟩, fun i H x H' hi q y => ?_⟩
      · have h1 : i < vs.length := by omega
        have h2 : i < us.length := by omega
        exact ⟨vs, us, vs[i], us[i], q.1, q.2, List.getElem?_eq_getElem h1, List.getElem?_eq_getElem h2⟩
      · obtain ⟨T, z, z', h1, h2, h3, h4, h5⟩ := y
        exact ⟨T, z, z', h1, h2, h3, h4 vs q.1, h5 us q.2⟩
    · obtain ⟨T, x, z, rfl, hT, rfl, h4, h5⟩ := y
      obtain ⟨d, h6, h7⟩ := q2.get h4
      obtain ⟨d', h8, h9⟩ := q4.get h5
      obtain ⟨g', w'⟩ := w.alloc (o := .tup [x, z]) hT
      exact ⟨_, _, g', w', zipL_get h6 h8, .tup upd_same (.cons ((h7.mono e).mono g'.ex) (.cons ((h9.mono e).mono g'.ex) .nil))⟩
end
end G

set_option maxHeartbeats 1000000
/-! G9: comprehensions of two clauses. -/
namespace G
open PySem PySem.Spec PyProof.Rows L2
section
variable {r : Addr} {X : Cx} {K : PySem.W.Frag} {mg : Str → Option Value} {O : List Nat} {E : XK} {tt tt1 : TT}
def compLL (f : D → List D → RE (List D)) : List D → List D → RE (List D)
  | [], tp => .ok [] tp
  | d :: ds, tp => match f d tp with
    | .ok o tp1 => (match compLL f ds tp1 with
      | .ok xs tp2 => .ok (o ++ xs) tp2
      | _ => .stuck)
    | _ => .stuck
def compTurn2 (tgt : D → Option (List D)) (is : List Nat) (c : SE Bool) (mi1 : SE (List D)) (vs1 : List Nat) (tgt1 : D → Option (List D)) (is1 : List Nat) (c1 : SE Bool) (m : SE D) (env : DEnv) (d : D) (tp : List D) : RE (List D) := match tgt d with
  | some ds => (c (setAll env is ds) tp).bind fun b tp1 => if b = true then (mi1 (setAll env is ds) tp1).bind fun items1 tp2 => compL (compTurn1 tgt1 is1 c1 m (wipeE (setAll env is ds) vs1)) items1 tp2 else .ok [] tp1
  | none => .stuck
def comp2E (mi : SE (List D)) (vs : List Nat) (tgt : D → Option (List D)) (is : List Nat) (c : SE Bool) (mi1 : SE (List D)) (vs1 : List Nat) (tgt1 : D → Option (List D)) (is1 : List Nat) (c1 : SE Bool) (m : SE D) : SE D := fun env tp => (mi env tp).bind fun items tp1 =>
  match compLL (compTurn2 tgt is c mi1 vs1 tgt1 is1 c1 m (wipeE env vs)) items tp1 with
    | .ok xs tp2 => if xs.length ≤ sizeLine then .ok (.lst xs) tp2 else .stuck
    | _ => .stuck
theorem compLL_cons {f : D → List D → RE (List D)} {d : D} {ds : List D} {tp tpE : List D} {xs : List D} (h : compLL f (d :: ds) tp = .ok xs tpE) : ∃ o tp1 xs', f d tp = .ok o tp1 ∧ compLL f ds tp1 = .ok xs' tpE ∧ xs = o ++ xs' := by
  unfold compLL at h
  cases q : f d tp with
  | ok o tp1 =>
    rw [q] at h
    simp only at h
    cases q2 : compLL f ds tp1 with
    | ok ys tp2 =>
      rw [q2] at h
      simp only [RE.ok.injEq] at h
      exact ⟨o, tp1, ys, rfl, by rw [q2, h.2], h.1.symm⟩
    | exn c fs t => rw [q2] at h; cases h
    | stuck => rw [q2] at h; cases h
  | exn c fs t => rw [q] at h; cases h
  | stuck => rw [q] at h; cases h
theorem setAll_get {α : Type} : ∀ (is : List Nat) (s : List (Option α)) (ws : List α) {j : Nat}, j ∉ is → (setAll s is ws)[j]? = s[j]?
  | [], s, ws, j, _ => by unfold setAll; cases ws <;> rfl
  | i :: is, s, [], j, _ => rfl
  | i :: is, s, w :: ws, j, h => by
    show (setAll (s.set i (some w)) is ws)[j]? = _
    have ne : i ≠ j := fun q => h (by rw [← q]; exact List.mem_cons_self)
    rw [setAll_get is _ ws fun q => h (List.mem_cons_of_mem _ q), List.getElem?_set_ne ne]
theorem comp2_sound {wi wi1 : TI} {g g1 : TG} {te : TE} {is vs is1 vs1 : List Nat} {tgt tgt1 : D → Option (List D)} {mi mi1 : SE (List D)} {c c1 : SE Bool} {m : SE D}
    (hi : ∀ Hs0 H0 Hs H σ env tp Q, Rel K mg r O Hs0 H0 Hs H σ env tp → Post K mg r (fun Hs _ J items => WalksD K mg r J Hs items) E Hs H (mi env tp) Q → wi σ H Q)
    (hg : ∀ v d ds Hs H tp σ (Q : L2.St → Hp → Prop), Wd K mg r Hs H tp → RepD K mg r Hs v d → tgt d = some ds → (∀ vs, RepDs K mg r Hs vs ds → vs.length = is.length → Q (setAll σ is vs) H) → g v σ H Q)
    (ht : ∀ Hs0 H0 Hs H σ env tp Q, Rel K mg r O Hs0 H0 Hs H σ env tp → PostB K mg r E0 Hs H (c env tp) Q → tt σ H Q)
    (hi1 : ∀ Hs0 H0 Hs H σ env tp Q, Rel K mg r O Hs0 H0 Hs H σ env tp → Post K mg r (fun Hs _ J items => WalksD K mg r J Hs items) E0 Hs H (mi1 env tp) Q → wi1 σ H Q)
    (hg1 : ∀ v d ds Hs H tp σ (Q : L2.St → Hp → Prop), Wd K mg r Hs H tp → RepD K mg r Hs v d → tgt1 d = some ds → (∀ vs, RepDs K mg r Hs vs ds → vs.length = is1.length → Q (setAll σ is1 vs) H) → g1 v σ H Q)
    (ht1 : ∀ Hs0 H0 Hs H σ env tp Q, Rel K mg r O Hs0 H0 Hs H σ env tp → PostB K mg r E0 Hs H (c1 env tp) Q → tt1 σ H Q)
    (he : ∀ Hs0 H0 Hs H σ env tp Q, Rel K mg r O Hs0 H0 Hs H σ env tp → PostE K mg r E0 Hs H (m env tp) Q → te σ H Q)
    (hvs : ∀ i ∈ vs, i ∉ O) (his : ∀ i ∈ is, i ∈ vs) (hv1 : ∀ i ∈ vs1, i ∈ vs) (his1 : ∀ i ∈ is1, i ∈ vs1) :
    ∀ Hs0 H0 Hs H σ env tp Q, Rel K mg r O Hs0 H0 Hs H σ env tp → Post K mg r (Fresh K mg r H) E Hs H (comp2E mi vs tgt is c mi1 vs1 tgt1 is1 c1 m env tp) Q → tLc2 wi g tt wi1 g1 tt1 te vs vs1 σ H Q := by
  intro Hs0 H0 Hs H σ env tp Q R P
  refine hi _ _ _ _ _ _ _ _ R ?_
  unfold comp2E at P
  cases q : mi env tp with
  | stuck => rw [q] at P; exact P.elim
  | exn cc fs tp1 => rw [q] at P; exact P
  | ok items tp1 =>
    rw [q] at P
    intro J Hs1 H1 ga w1 wd Dl hD
    simp only [RE.bind_ok] at P
    cases q2 : compLL (compTurn2 tgt is c mi1 vs1 tgt1 is1 c1 m (wipeE env vs)) items tp1 with
    | stuck => rw [q2] at P; exact P.elim
    | exn cc fs tp2 => rw [q2] at P; exact P.elim
    | ok all tpE =>
      rw [q2] at P
      simp only at P
      by_cases hz : all.length ≤ sizeLine
      case neg => rw [if_neg hz] at P; exact P.elim
      rw [if_pos hz] at P
      have P : ∀ v Hs' H', Grow r Hs H Hs' H' → Wd K mg r Hs' H' tpE → Fresh K mg r H Hs' H' v (.lst all) → Q v H' := P
      obtain ⟨Gd, Y, wk, hG, hY⟩ := wd
      have R1 := R.grow ga w1
      obtain ⟨fD, neD⟩ := w1.fresh hD
      have h0D : H Dl = none := by
        cases z : H Dl with
        | none => rfl
        | some u => rw [ga.keep Dl u z neD] at hD; cases hD
      have Rw := R1.wiped vs hvs
      obtain ⟨gl, wl⟩ := w1.lay (o := .lst []) hD
      obtain ⟨n1, n2⟩ := R.new_ne h0D neD
      have n3 : ∀ j ∈ O, (wipeE σ vs)[j]? ≠ some (some (.ref Dl)) := fun j hj z => n2 j hj (by rw [← z, wipe_get fun q => hvs j q hj])
      have hisO : ∀ i ∈ is, i ∉ O := fun i hi => hvs i (his i hi)
      have hv1O : ∀ i ∈ vs1, i ∉ O := fun i hi => hvs i (hv1 i hi)
      have his1O : ∀ i ∈ is1, i ∉ O := fun i hi => hv1O i (his1 i hi)
      let Pv : Nat → Hp → Prop := fun i H' => ∃ Hs2 vsL dsL tp xs, Rel K mg r O Hs0 H0 Hs2 H' (wipeE σ vs) (wipeE env vs) tp ∧ Same Hs1 Hs2 ∧ Grow r Hs H Hs2 H' ∧ Hs2 Dl = none ∧ H' Dl = some (.lst vsL) ∧ RepDs K mg r Hs2 vsL dsL ∧
        compLL (compTurn2 tgt is c mi1 vs1 tgt1 is1 c1 m (wipeE env vs)) (items.drop i) tp = .ok xs tpE ∧ dsL ++ xs = all
      have p0 : Pv 0 (upd H1 Dl (.lst [])) := ⟨Hs1, [], [], tp1, all, Rw.grow gl wl, Same.refl _, ga.trans gl, fD, upd_same, .nil, q2, rfl⟩
      refine ⟨fun i n H' => n = items.length - i ∧ i ≤ items.length ∧ Pv i H', ⟨items.length, by simp, Nat.zero_le _, p0⟩, ?_⟩
      rintro i n H2 ⟨rfl, hil, Hs2, vsL, dsL, tp2, xs, R2, e2, g2, f2, hD2, rs2, hc2, ha2⟩
      have gd := hG Hs2 H2 e2 R2.wd.sub
      by_cases hi2 : i < items.length
      case neg =>
        have e : i = items.length := by omega
        subst e
        refine .inl ⟨wk.stops _ gd, ?_⟩
        rw [List.drop_length] at hc2
        unfold compLL at hc2
        simp only [RE.ok.injEq] at hc2
        obtain ⟨hx, htp⟩ := hc2
        subst hx htp
        rw [List.append_nil] at ha2
        subst ha2
        exact P _ Hs2 H2 g2 R2.wd ⟨Dl, rfl, h0D, f2, neD, vsL, hD2, rs2⟩
      refine .inr ⟨wk.goes i H2 hi2 gd, Pv (i + 1), fun H' p' => ⟨items.length - (i + 1), by omega, rfl, hi2, p'⟩, fun x H3 yy => ?_⟩
      obtain ⟨Hs3, d, g3, w3, hd, rd⟩ := hY i Hs2 H2 tp2 x H3 hi2 e2 R2.wd (wk.yields i H2 x H3 hi2 gd yy)
      rw [List.drop_eq_getElem_cons hi2] at hc2
      have hd' : items[i] = d := by rw [List.getElem?_eq_getElem hi2] at hd; exact Option.some.inj hd
      rw [hd'] at hc2
      obtain ⟨o, tpI, xs', hf, hrest, hxs⟩ := compLL_cons hc2
      unfold compTurn2 at hf
      cases qt : tgt d with
      | none => rw [qt] at hf; cases hf
      | some es =>
        rw [qt] at hf
        simp only at hf
        rw [wipe_eq]
        refine hg x d es Hs3 H3 tp2 _ _ w3 rd qt fun ws rs hl => ⟨by rw [wipe_eq, wipe_setAll is _ _ his, wipe_wipe vs fun _ h => h], ?_⟩
        have R3 := rel_setAll is _ _ _ _ (R2.grow g3 w3) hisO rs hl
        have f3 := g3.no f2 hD2 neD
        have hD3 := g3.keep Dl _ hD2 neD
        refine ht _ _ _ _ _ _ _ _ R3 ?_
        cases qb : c (setAll (wipeE env vs) is es) tp2 with
        | stuck => rw [qb] at hf; cases hf
        | exn cc fs tp4 => rw [qb] at hf; cases hf
        | ok b tpb =>
          rw [qb] at hf
          simp only [RE.bind_ok] at hf
          intro v Hs4 H4 g4 w4 ev
          subst ev
          have f4 := g4.no f3 hD3 neD
          have hD4 := g4.keep Dl _ hD3 neD
          cases v with
          | false =>
            rw [if_neg Bool.false_ne_true] at hf
            simp only [RE.ok.injEq] at hf
            obtain ⟨ho, htp⟩ := hf
            subst ho htp
            refine iteF ⟨Hs4, vsL, dsL, tpb, xs', R2.grow (g3.trans g4) w4, e2.trans (g3.ex.trans g4.ex), g2.trans (g3.trans g4), f4, hD4, rs2.mono (g3.ex.trans g4.ex), hrest, ?_⟩
            rw [← ha2, hxs]; rfl
          | true =>
            rw [if_pos rfl] at hf
            refine iteT (hi1 _ _ _ _ _ _ _ _ (R3.grow g4 w4) ?_)
            cases qi : mi1 (setAll (wipeE env vs) is es) tpb with
            | stuck => rw [qi] at hf; cases hf
            | exn cc fs tp5 => rw [qi] at hf; cases hf
            | ok items1 tpi =>
              rw [qi] at hf
              simp only [RE.bind_ok] at hf
              intro J1 Hs5 H5 g5 w5 wd1
              obtain ⟨Gd1, Y1, wk1, hG1, hY1⟩ := wd1
              have f5 := g5.no f4 hD4 neD
              have hD5 := g5.keep Dl _ hD4 neD
              have e5 := g3.ex.trans (g4.ex.trans g5.ex)
              have R5 := R3.grow (g4.trans g5) w5
              have Rb5 := R5.wiped vs1 hv1O
              have n3b : ∀ j ∈ O, (wipeE (setAll (wipeE σ vs) is ws) vs1)[j]? ≠ some (some (.ref Dl)) := fun j hj z => n3 j hj (by
                rw [← z, wipe_get fun q => hv1O j q hj, setAll_get is _ ws fun q => hisO j q hj])
              let Pv1 : Nat → Hp → Prop := fun j H' => ∃ Hs6 vsL' dsL' tp' xs'', Rel K mg r O Hs0 H0 Hs6 H' (wipeE σ vs) (wipeE env vs) tp' ∧ Rel K mg r O Hs0 H0 Hs6 H' (wipeE (setAll (wipeE σ vs) is ws) vs1) (wipeE (setAll (wipeE env vs) is es) vs1) tp' ∧ Same Hs5 Hs6 ∧ Same Hs1 Hs6 ∧ Grow r Hs H Hs6 H' ∧ Hs6 Dl = none ∧ H' Dl = some (.lst vsL') ∧ RepDs K mg r Hs6 vsL' dsL' ∧
                compL (compTurn1 tgt1 is1 c1 m (wipeE (setAll (wipeE env vs) is es) vs1)) (items1.drop j) tp' = .ok xs'' tpI ∧ dsL' ++ xs'' = dsL ++ o
              have p1 : Pv1 0 H5 := ⟨Hs5, vsL, dsL, tpi, o, R2.grow (g3.trans (g4.trans g5)) w5, Rb5, Same.refl _, e2.trans e5, g2.trans (g3.trans (g4.trans g5)), f5, hD5, rs2.mono e5, hf, rfl⟩
              refine ⟨fun j k H' => k = items1.length - j ∧ j ≤ items1.length ∧ Pv1 j H', ⟨items1.length, by simp, Nat.zero_le _, p1⟩, ?_⟩
              rintro j k H6 ⟨rfl, hjl, Hs6, vsL6, dsL6, tp6, xs6, Ra6, Rb6, es6, e6, g6, f6, hD6, rs6, hc6, ha6⟩
              have gd1 := hG1 Hs6 H6 es6 Ra6.wd.sub
              by_cases hj2 : j < items1.length
              case neg =>
                have e : j = items1.length := by omega
                subst e
                refine .inl ⟨wk1.stops _ gd1, ?_⟩
                rw [List.drop_length] at hc6
                unfold compL at hc6
                simp only [RE.ok.injEq] at hc6
                obtain ⟨hx, htp⟩ := hc6
                subst hx htp
                rw [List.append_nil] at ha6
                refine ⟨Hs6, vsL6, dsL6, tp6, xs', Ra6, e6, g6, f6, hD6, rs6, hrest, ?_⟩
                rw [ha6, ← ha2, hxs, List.append_assoc]
              refine .inr ⟨wk1.goes j H6 hj2 gd1, Pv1 (j + 1), fun H' p' => ⟨items1.length - (j + 1), by omega, rfl, hj2, p'⟩, fun x1 H7 yy1 => ?_⟩
              obtain ⟨Hs7, d1, g7, w7, hd1, rd1⟩ := hY1 j Hs6 H6 tp6 x1 H7 hj2 es6 Ra6.wd (wk1.yields j H6 x1 H7 hj2 gd1 yy1)
              rw [List.drop_eq_getElem_cons hj2] at hc6
              have hd1' : items1[j] = d1 := by rw [List.getElem?_eq_getElem hj2] at hd1; exact Option.some.inj hd1
              rw [hd1'] at hc6
              obtain ⟨o1, tp8, xs8, hf1, hrest1, hxs1⟩ := compL_cons hc6
              unfold compTurn1 at hf1
              cases qt1 : tgt1 d1 with
              | none => rw [qt1] at hf1; cases hf1
              | some es1 =>
                rw [qt1] at hf1
                simp only at hf1
                rw [wipe_eq]
                refine hg1 x1 d1 es1 Hs7 H7 tp6 _ _ w7 rd1 qt1 fun ws1 rs1 hl1 => ⟨by rw [wipe_eq, wipe_setAll is1 _ _ his1, wipe_wipe vs1 fun _ h => h], ?_⟩
                have R7 := rel_setAll is1 _ _ _ _ (Rb6.grow g7 w7) his1O rs1 hl1
                have f7 := g7.no f6 hD6 neD
                have hD7 := g7.keep Dl _ hD6 neD
                refine ht1 _ _ _ _ _ _ _ _ R7 ?_
                cases qb1 : c1 (setAll (wipeE (setAll (wipeE env vs) is es) vs1) is1 es1) tp6 with
                | stuck => rw [qb1] at hf1; cases hf1
                | exn cc fs tp9 => rw [qb1] at hf1; cases hf1
                | ok b1 tpb1 =>
                  rw [qb1] at hf1
                  simp only [RE.bind_ok] at hf1
                  intro v Hs8 H8 g8 w8 ev
                  subst ev
                  have f8 := g8.no f7 hD7 neD
                  have hD8 := g8.keep Dl _ hD7 neD
                  cases v with
                  | false =>
                    rw [if_neg Bool.false_ne_true] at hf1
                    simp only [RE.ok.injEq] at hf1
                    obtain ⟨ho, htp⟩ := hf1
                    subst ho htp
                    refine iteF ⟨Hs8, vsL6, dsL6, tpb1, xs8, Ra6.grow (g7.trans g8) w8, Rb6.grow (g7.trans g8) w8, es6.trans (g7.ex.trans g8.ex), e6.trans (g7.ex.trans g8.ex), g6.trans (g7.trans g8), f8, hD8, rs6.mono (g7.ex.trans g8.ex), hrest1, ?_⟩
                    rw [← ha6, hxs1]; rfl
                  | true =>
                    rw [if_pos rfl] at hf1
                    refine iteT (he _ _ _ _ _ _ _ _ (R7.grow g8 w8) ?_)
                    cases qm : m (setAll (wipeE (setAll (wipeE env vs) is es) vs1) is1 es1) tpb1 with
                    | stuck => rw [qm] at hf1; cases hf1
                    | exn cc fs tp9 => rw [qm] at hf1; cases hf1
                    | ok z tpz =>
                      rw [qm] at hf1
                      simp only [RE.bind_ok, RE.ok.injEq] at hf1
                      obtain ⟨ho, htp⟩ := hf1
                      subst ho htp
                      intro y9 Hs9 H9 g9 w9 ry
                      have f9 := g9.no f8 hD8 neD
                      have hD9 := g9.keep Dl _ hD8 neD
                      have e9 := g7.ex.trans (g8.ex.trans g9.ex)
                      have hlen : dsL6.length < all.length := by
                        rw [← ha2, hxs, ← List.append_assoc, ← ha6, hxs1]
                        simp
                      refine ⟨vsL6, hD9, by rw [rs6.length]; omega, Hs9, vsL6 ++ [y9], dsL6 ++ [z], tpz, xs8, ?_, ?_, es6.trans e9, e6.trans e9, ?_, f9, upd_same, (rs6.mono e9).append (.cons ry .nil), hrest1, ?_⟩
                      · exact (Ra6.grow (g7.trans (g8.trans g9)) w9).other f9 n1 neD n3
                      · exact (Rb6.grow (g7.trans (g8.trans g9)) w9).other f9 n1 neD n3b
                      · exact (g6.trans (g7.trans (g8.trans g9))).other h0D
                      · rw [← ha6, hxs1, List.append_assoc]; rfl
/-- a list comprehension of two clauses -/
theorem gf_lc2 {elt tg iter tg1 iter1 : Expr} {ifs ifs1 : List Expr} {scope : Scope} {own : List (Str × Nat)} {pos : Pos} {wi wi1 : TI} {g g1 : TG} {te : TE} {is is1 vs1 : List Nat} {tgt tgt1 : D → Option (List D)} {mi mi1 : SE (List D)} {c c1 : SE Bool} {m : SE D} (hc : X.calm = true) (hN : X.N.Nodup) (hi : GI K mg r X O E tg iter wi mi) (ok : BlkOk X.N X.env.scope scope own)
    (hg : ∀ (s : Shared) (H : Hp) (C : Addr) (cl : List (Str × Addr)) (fp : List Addr), GG K mg r (X.blk s H scope (compEnvC scope cl C X.env) fp) tg g is tgt)
    (ht : ∀ (s : Shared) (H : Hp) (C : Addr) (cl : List (Str × Addr)) (fp : List Addr), GTs K mg r (X.blk s H scope (compEnvC scope cl C X.env) fp) O E0 ifs tt c)
    (hi1 : ∀ (s : Shared) (H : Hp) (C : Addr) (cl : List (Str × Addr)) (fp : List Addr), GI K mg r (X.blk s H scope (compEnvC scope cl C X.env) fp) O E0 tg1 iter1 wi1 mi1)
    (hg1 : ∀ (s : Shared) (H : Hp) (C : Addr) (cl : List (Str × Addr)) (fp : List Addr), GG K mg r (X.blk s H scope (compEnvC scope cl C X.env) fp) tg1 g1 is1 tgt1)
    (ht1 : ∀ (s : Shared) (H : Hp) (C : Addr) (cl : List (Str × Addr)) (fp : List Addr), GTs K mg r (X.blk s H scope (compEnvC scope cl C X.env) fp) O E0 ifs1 tt1 c1)
    (he : ∀ (s : Shared) (H : Hp) (C : Addr) (cl : List (Str × Addr)) (fp : List Addr), GE K mg r (X.blk s H scope (compEnvC scope cl C X.env) fp) O E0 elt te m)
    (hvs : ∀ i ∈ own.map (·.2), i ∉ O) (his : ∀ i ∈ is, i ∈ own.map (·.2)) (hv1 : ∀ i ∈ vs1, i ∈ own.map (·.2)) (his1 : ∀ i ∈ is1, i ∈ vs1) (hs : ∀ x, foldedSetIterable iter X.env x = pure x := by intro _; rfl) (hs1 : ∀ env x, foldedSetIterable iter1 env x = pure x := by intro _ _; rfl) :
    GF K mg r X O E (.ListComp elt [⟨tg, iter, ifs, 0⟩, ⟨tg1, iter1, ifs1, 0⟩] scope pos) (tLc2 wi g tt wi1 g1 tt1 te (own.map (·.2)) vs1) (comp2E mi (own.map (·.2)) tgt is c mi1 vs1 tgt1 is1 c1 m) :=
  ⟨pe_lc2 hc hN hi.pe ok hv1 (fun s H C cl fp => (hg s H C cl fp).pe) (fun s H C cl fp => (ht s H C cl fp).pe) (fun s H C cl fp => (hi1 s H C cl fp).pe) (fun s H C cl fp => (hg1 s H C cl fp).pe) (fun s H C cl fp => (ht1 s H C cl fp).pe) (fun s H C cl fp => (he s H C cl fp).pe) hs hs1,
    comp2_sound hi.snd (hg X.s_0 X.H_0 0 [] []).snd (ht X.s_0 X.H_0 0 [] []).snd (hi1 X.s_0 X.H_0 0 [] []).snd (hg1 X.s_0 X.H_0 0 [] []).snd (ht1 X.s_0 X.H_0 0 [] []).snd (he X.s_0 X.H_0 0 [] []).snd hvs his hv1 his1⟩
/-- name = [.. two clauses] on one line, the name a local -/
theorem lc_stmt2 {i : Nat} {y : Str} {py : Pos} {elt tg iter tg1 iter1 : Expr} {ifs ifs1 : List Expr} {scope : Scope} {own : List (Str × Nat)} {pos spos : Pos} {wi wi1 : TI} {g g1 : TG} {te : TE} {is is1 vs1 : List Nat} {tgt tgt1 : D → Option (List D)} {mi mi1 : SE (List D)} {c c1 : SE Bool} {m : SE D} (hc : X.calm = true) (hN : X.N.Nodup) (hi : GI K mg r X O E tg iter wi mi) (ok : BlkOk X.N X.env.scope scope own)
    (hg : ∀ (s : Shared) (H : Hp) (C : Addr) (cl : List (Str × Addr)) (fp : List Addr), GG K mg r (X.blk s H scope (compEnvC scope cl C X.env) fp) tg g is tgt)
    (ht : ∀ (s : Shared) (H : Hp) (C : Addr) (cl : List (Str × Addr)) (fp : List Addr), GTs K mg r (X.blk s H scope (compEnvC scope cl C X.env) fp) O E0 ifs tt c)
    (hi1 : ∀ (s : Shared) (H : Hp) (C : Addr) (cl : List (Str × Addr)) (fp : List Addr), GI K mg r (X.blk s H scope (compEnvC scope cl C X.env) fp) O E0 tg1 iter1 wi1 mi1)
    (hg1 : ∀ (s : Shared) (H : Hp) (C : Addr) (cl : List (Str × Addr)) (fp : List Addr), GG K mg r (X.blk s H scope (compEnvC scope cl C X.env) fp) tg1 g1 is1 tgt1)
    (ht1 : ∀ (s : Shared) (H : Hp) (C : Addr) (cl : List (Str × Addr)) (fp : List Addr), GTs K mg r (X.blk s H scope (compEnvC scope cl C X.env) fp) O E0 ifs1 tt1 c1)
    (he : ∀ (s : Shared) (H : Hp) (C : Addr) (cl : List (Str × Addr)) (fp : List Addr), GE K mg r (X.blk s H scope (compEnvC scope cl C X.env) fp) O E0 elt te m)
    (hvs : ∀ i ∈ own.map (·.2), i ∉ O) (his : ∀ i ∈ is, i ∈ own.map (·.2)) (hv1 : ∀ i ∈ vs1, i ∈ own.map (·.2)) (his1 : ∀ i ∈ is1, i ∈ vs1) (hy : X.N[i]? = some y := by rfl) (hyl : X.env.scope.names.lookup y = some .local := by rfl)
    (hsw : swapsWith (.ListComp elt [⟨tg, iter, ifs, 0⟩, ⟨tg1, iter1, ifs1, 0⟩] scope pos) (some (.Name y py)) spos.line X.env = pure true := by exact sw_true rfl rfl rfl (by decide +kernel)) (hs : ∀ x, foldedSetIterable iter X.env x = pure x := by intro _; rfl) (hs1 : ∀ env x, foldedSetIterable iter1 env x = pure x := by intro _ _; rfl) :
    PS X (.Assign [.Name y py] (.ListComp elt [⟨tg, iter, ifs, 0⟩, ⟨tg1, iter1, ifs1, 0⟩] scope pos) spos) (tAsg (tLc2 wi g tt wi1 g1 tt1 te (own.map (·.2)) vs1) (gName i)) ∧
    ∀ Hs0 H0 Hs H σ env tp Q, Rel K mg r O Hs0 H0 Hs H σ env tp → Post K mg r (Fresh K mg r H) E Hs H (comp2E mi (own.map (·.2)) tgt is c mi1 vs1 tgt1 is1 c1 m env tp) Q → tLc2 wi g tt wi1 g1 tt1 te (own.map (·.2)) vs1 σ H Q :=
  ⟨ps_setLc2 hc hN hy hyl hsw hi.pe ok hv1 (fun s H C cl fp => (hg s H C cl fp).pe) (fun s H C cl fp => (ht s H C cl fp).pe) (fun s H C cl fp => (hi1 s H C cl fp).pe) (fun s H C cl fp => (hg1 s H C cl fp).pe) (fun s H C cl fp => (ht1 s H C cl fp).pe) (fun s H C cl fp => (he s H C cl fp).pe) hs hs1,
    comp2_sound hi.snd (hg X.s_0 X.H_0 0 [] []).snd (ht X.s_0 X.H_0 0 [] []).snd (hi1 X.s_0 X.H_0 0 [] []).snd (hg1 X.s_0 X.H_0 0 [] []).snd (ht1 X.s_0 X.H_0 0 [] []).snd (he X.s_0 X.H_0 0 [] []).snd hvs his hv1 his1⟩
/-! x += e, x -= e of ints -/
def augS (i : Nat) (f : D → D → Option D) (m : SE D) : SS := fun env tp => match env[i]? with
  | some (some d) => (m env tp).bindS fun e tp1 => match d, e with
    | .int _, .int _ => (match f d e with
      | some z => .nx (env.set i (some z)) tp1
      | none => .stuck)
    | _, _ => .stuck
  | _ => .stuck
theorem aug_sound {m : SE D} {e : Expr} {t : TE} {Ol : List Nat} {f : D → D → Option D} {F : Int → Int → Int} {op : Operator} {pos pos' : Pos} (i : Nat) {x : Str} (hip : PIp X op (ipI F)) (hf : ∀ a b, f (.int a) (.int b) = some (.int (F a b))) (hO : i ∉ O) (hN : X.N.Nodup) (h : GE K mg r X O E e t m) (hi : X.N[i]? = some x) (hx : Loc X.env.scope x)
    (hfn : X.fn x = true ∨ X.env.scope.names.lookup x = some .local) : GS K mg r X E O O Ol (.AugAssign (.Name x pos') op e pos) (tAug i t (ipI F)) (augS i f m) := by
  refine ⟨ps_aug hN hi hx h.pe hip hfn, fun Hs0 H0 Hs H σ env tp Dn R P => ?_⟩
  unfold augS at P
  cases q : env[i]? with
  | none => rw [q] at P; exact P.elim
  | some od =>
    cases od with
    | none => rw [q] at P; exact P.elim
    | some d =>
      rw [q] at P
      simp only at P
      obtain ⟨v, hv, rv⟩ := R.vars i d q hO
      refine ⟨v, hv, h.snd _ _ _ _ _ _ _ _ R (PostS.bind R P fun u Hs1 H1 d1 tp1 _ g w R1 ru P1 => ?_)⟩
      cases d with
      | int a =>
        cases d1 with
        | int b =>
          simp only [hf] at P1
          cases rv
          cases ru
          exact ⟨a, b, rfl, rfl, P1 _ _ _ (Same.refl _) (by
            have := R1.set i (.int (F a b))
            have eO : O.filter (· != i) = O := List.filter_eq_self.mpr fun j hj => by
              have : j ≠ i := fun z => hO (z ▸ hj)
              simpa using this
            rw [eO] at this
            exact this)⟩
        | _ => exact P1.elim
      | _ => exact P1.elim
theorem gs_augAdd {m : SE D} {e : Expr} {t : TE} {Ol : List Nat} {pos pos' : Pos} (i : Nat) {x : Str} (hN : X.N.Nodup) (h : GE K mg r X O E e t m) (hO : i ∉ O := by decide) (hi : X.N[i]? = some x := by rfl) (hx : Loc X.env.scope x := by first | exact Or.inl rfl | exact Or.inr rfl)
    (hfn : X.fn x = true ∨ X.env.scope.names.lookup x = some .local := by first | exact .inl rfl | exact .inr rfl) : GS K mg r X E O O Ol (.AugAssign (.Name x pos') .Add e pos) (tAug i t (ipI fun i j => i + j)) (augS i addD m) :=
  aug_sound i ip_add (fun _ _ => rfl) hO hN h hi hx hfn
theorem gs_augSub {m : SE D} {e : Expr} {t : TE} {Ol : List Nat} {pos pos' : Pos} (i : Nat) {x : Str} (hN : X.N.Nodup) (h : GE K mg r X O E e t m) (hO : i ∉ O := by decide) (hi : X.N[i]? = some x := by rfl) (hx : Loc X.env.scope x := by first | exact Or.inl rfl | exact Or.inr rfl)
    (hfn : X.fn x = true ∨ X.env.scope.names.lookup x = some .local := by first | exact .inl rfl | exact .inr rfl) : GS K mg r X E O O Ol (.AugAssign (.Name x pos') .Sub e pos) (tAug i t (ipI fun i j => i - j)) (augS i subD m) :=
  aug_sound i ip_sub (fun _ _ => rfl) hO hN h hi hx hfn
end
end G

set_option maxHeartbeats 1000000
/-! G10: sum of a tuple. -/
namespace SumT
open PySem PySem.Spec PyProof.Rows
section
variable {prog : Program} {w : World} {A : Around} {E : Value → Shared → Prop} {s : Shared} {l : Addr} {xs : Array (Int × Tok)}
theorem iter_intTuple {Q : Value → Shared → Prop} (hl : s.heap.IsTuple l (intItems xs))
    (h : ∀ s₂ : Shared, s₂ = { s with heap := s.heap.push { cls := .type "tuple_iterator", data := .fields #[.ref l, .int 0 0] } } →
      (s₂.heap.IsTupleIter s.heap.objs.size l 0 ∧ s₂.heap.IsTuple l (intItems xs)) → (∀ b ∈ [s.heap.objs.size, l], b < s₂.heap.objs.size) → l ≠ s.heap.objs.size → Q (.ref s.heap.objs.size) s₂) :
    wpAny (model prog w) A (pyIter (.ref l)) Q E s := by
  have hlt : l < s.heap.objs.size := by obtain ⟨_, e, _⟩ := hl; exact Heap.lt_size e
  refine wpAny_pyIter_tuple hl (h _ rfl ⟨⟨_, Heap.get?_push_size _ rfl, rfl, rfl⟩, hl.push _⟩ (fun b hb => ?_) (Nat.ne_of_lt hlt))
  show b < (s.heap.push _).objs.size
  rw [Heap.size_push]
  rcases List.mem_cons.mp hb with rfl | hb
  · exact Nat.lt_succ_self _
  · rcases List.mem_cons.mp hb with rfl | hb
    · exact Nat.lt_succ_of_lt hlt
    · cases hb
theorem old_keptT {h' : Heap} (hk : ∀ b o, b ∉ [s.heap.objs.size] → (s.heap.push { cls := .type "tuple_iterator", data := .fields #[.ref l, .int 0 0] }).get? b = some o → h'.get? b = some o) :
    ∀ b o, s.heap.get? b = some o → h'.get? b = some o := fun b o e => by
  refine hk b o (fun hm => ?_) (Heap.get?_push_of_some _ e)
  rcases List.mem_cons.mp hm with e1 | hm
  · exact absurd (e1 ▸ Heap.lt_size e) (Nat.lt_irrefl _)
  · cases hm
theorem sum_intTupG {Q : Value → Shared → Prop} (hh : A.handled = none) (hl : s.heap.IsTuple l (intItems xs))
    (h : ∀ h' tk t', (∀ b o, s.heap.get? b = some o → h'.get? b = some o) → Q (.int (preSum (numAt xs) xs.size) t') { s with heap := h', toks := tk }) :
    wpAny (model prog w) A (call (.builtin "sum") [.ref l]) Q E s := by
  refine call_sum_walkG (iter_intTuple hl fun s₂ e st hfp hlI => ?_)
  subst e
  refine ⟨_, _, _, _, _, _, numAt xs, rfl, Walks.tuple (A := A.in1) hh _ l hlI (intItems xs), st, hfp, (fun _ _ => intItems_at), fun h' tk t' hk => ?_⟩
  have := h h' tk t' (old_keptT hk)
  simpa [intItems] using this
theorem sumT_raw {its : List Value} {ns : List Int} {Q : Value → Shared → Prop} (hh : A.handled = none) (hl : s.heap.IsTuple l its.toArray) (hi : IntsAre its ns)
    (h : ∀ h' tk t', (∀ b o, s.heap.get? b = some o → h'.get? b = some o) → Q (.int ns.sum t') { s with heap := h', toks := tk }) : wpAny (model prog w) A (call (.builtin "sum") [.ref l]) Q E s := by
  obtain ⟨xs, e⟩ := hi.allInts.items
  have hn : numsOf (intItems xs).toList = ns := by rw [← e]; exact hi.numsOf
  rw [nums_intItems] at hn
  rw [e] at hl
  refine sum_intTupG hh hl fun h' tk t' hk => ?_
  have := h h' tk t' hk
  rw [preSum_eq, List.take_of_length_le (by simp), hn]; exact this
end
end SumT
namespace G
open PySem PySem.Spec PyProof.Rows L2
def rSumA (K : PySem.W.Frag) : List V → Hp → VK → Prop := fun vs H Q => ∃ (a : Addr) (ns : List Int), vs = [V.ref a] ∧ SqT K H a (ns.map V.int) ∧ Q (.int ns.sum) H
theorem cr_sumA {X : Cx} (hc : X.calm = true) : CallR X (.builtin "sum") (rSumA X.K) := by
  intro pins s σ H vs us Q I r h
  obtain ⟨a, ns, rfl, hs, q⟩ := h
  obtain ⟨its, rv, hl, _⟩ := I.tuple hs
  rw [Vals.ref1 r]
  exact SumT.sumT_raw (I.ok.hd hc) hl rv.ints fun h' tk t' hk => ⟨.int _, H, I.kept hk, ⟨_, rfl⟩, q⟩
def sum2D : List D → Option D
  | [.lst xs] => (unI xs).map fun bs => .int bs.sum
  | [.tup xs] => (unI xs).map fun bs => .int bs.sum
  | _ => none
def sumTD : List D → Option D
  | [.tup xs] => (unI xs).map fun bs => .int bs.sum
  | _ => none
abbrev rSum2 (K : PySem.W.Frag) : List V → Hp → VK → Prop := fun vs H Q => rSum K vs H Q ∨ rSumA K vs H Q
section
variable {K : PySem.W.Frag} {mg : Str → Option Value} {r : Addr} {X : Cx} {O : List Nat} {E : XK} {e : Expr} {pos : Pos} {ts : TA}
theorem cs_sumA : CallS K mg r (rSumA K) sumTD := by
  intro Hs H tp xs ds z Q w rx hz k
  unfold sumTD at hz
  split at hz
  · obtain ⟨bs, h1, h2⟩ := Option.map_eq_some_iff.mp hz
    subst h2
    obtain ⟨x, rfl, h⟩ := paired1 rx
    rw [unI_ok h1] at h
    obtain ⟨p, vs, rfl, _, a, b⟩ := repT_tup w h
    have := RepDs.ints_of b
    subst this
    exact ⟨p, bs, rfl, .of a, k _ _ _ (Grow.refl _ _) w (.int _)⟩
  · cases hz
theorem ge_sum2 {p0 : Pos} {ms : SE (List D)} (hc : X.calm = true) (hm : X.mg "sum" = none) (ha : GAO K mg r X O E [e] ts ms) (hg : Gl X "sum" := by rfl) (he : starEach [e] X.env = (false, eval e X.env) :: starEach [] X.env := by rfl) (hpl : (backTo pos (starEach [] X.env)).any (·.1) = false := by rfl) (hK : X.K = K := by rfl) :
    GE K mg r X O E (.Call (.Name "sum" p0) [e] [] pos) (tCB (rSum2 K) ts) (callB sum2D ms) := by
  subst hK
  exact ge_callB (crr_or (cr_sum hc) (cr_sumA hc)) (CallS.or cs_sum cs_sumA fun d z h => by
    unfold sum2D at h
    split at h
    · exact .inl h
    · exact .inr h
    · cases h) hm ha hg (by decide +kernel) (by decide) (by decide) he hpl
end
end G

set_option maxHeartbeats 1000000
/-! G11a: {k: v for t in xs for u in ys}: a dict comprehension of two clauses, no tests. -/
namespace Dc2
open PySem PySem.Spec PyProof.Rows L2
abbrev two (kx vx t0 i0 t1 i1 : Expr) (sc : Scope) (ps : Pos) : Expr := .DictComp kx vx [⟨t0, i0, [], 0⟩, ⟨t1, i1, [], 0⟩] sc ps
theorem outTurn (kx vx t0 i0 t1 i1 : Expr) (sc : Scope) (ps : Pos) (it acc : Value) (en : Env) : compTurn (two kx vx t0 i0 t1 i1 sc ps) 0 it acc en = (do
    standAt i0.pos
    let nx ← pyNext it
    match nx with
    | none => pure (.done .next)
    | some u =>
      letOwnedTupleGo t0 it u
      assign t0 en u
      let a ← eval i1 en
      standAt i1.pos
      let b ← foldedSetIterable i1 en a
      let j ← holding [b] (pyIter b)
      let _ ← runOwn (.compStart (two kx vx t0 i0 t1 i1 sc ps) 1 j acc en) en
      again (.compLoop (two kx vx t0 i0 t1 i1 sc ps) 0 it acc en)) := by rfl
theorem inTurn (kx vx t0 i0 t1 i1 : Expr) (sc : Scope) (ps : Pos) (it : Value) (D : Addr) (en : Env) : compTurn (two kx vx t0 i0 t1 i1 sc ps) 1 it (.ref D) en = (do
    standAt i1.pos
    let nx ← pyNext it
    match nx with
    | none => pure (.done .next)
    | some u =>
      letOwnedTupleGo t1 it u
      assign t1 en u
      (do
        let a ← eval kx en
        let b ← holding [a] (eval vx en)
        standAt { kx.pos with endLine := vx.pos.endLine, endCol := vx.pos.endCol }
        holding [a, b] (dictSet D a b))
      again (.compLoop (two kx vx t0 i0 t1 i1 sc ps) 1 it (.ref D) en)) := by rfl
section
variable {P : Program} {w : World} {A : Around} {R : Result → Shared → Prop} {s : Shared} {kx vx t0 i0 t1 i1 : Expr} {sc : Scope} {ps : Pos} {it acc : Value} {en : Env}
/-- what is wanted if something is raised within -/
abbrev bad (P : Program) (w : World) (A : Around) (en : Env) (R : Result → Shared → Prop) : Value → Shared → Prop := notedBy (model P w) A en fun x z => R (.error x) z
theorem outLoop (hf : ∀ x, foldedSetIterable i1 en x = pure x) (J : Nat → Shared → Prop)
    (step : ∀ n z, J n z → wpAny (model P w) A (pyNext it) (fun nx z1 => match nx with
      | none => R (.ok .next) z1
      | some u => wpAny (model P w) A (letOwnedTupleGo t0 it u) (fun _ z2 => wpAny (model P w) A (assign t0 en u) (fun _ z3 => wpAny (model P w) A (eval i1 en) (fun a z4 => wpAny (model P w) A (pyIter a) (fun j z5 =>
          codeAny (model P w) A (.compStart (two kx vx t0 i0 t1 i1 sc ps) 1 j acc en) (fun e z6 => match e with
            | .ok _ => ∃ k, k < n ∧ J k z6
            | .error _ => False) z5) (bad P w A en R) z4) (bad P w A en R) z3) (bad P w A en R) z2) (bad P w A en R) z1) (bad P w A en R) z)
    (n : Nat) (h : J n s) : codeAny (model P w) A (.compLoop (two kx vx t0 i0 t1 i1 sc ps) 0 it acc en) R s := by
  refine codeAny_loop rfl J (fun n z hJ => ?_) n h
  show wpAny _ A ((compTurn (two kx vx t0 i0 t1 i1 sc ps) 0 it acc en).onRaise fun x => do noteFrame x en; theTreesLotGoes x) _ _ z
  refine wpAny_noted ?_
  rw [outTurn]
  refine wpAny_bind (wpAny_standAt (wpAny_bind (wpAny_mono (step n z hJ) (fun nx z1 q => ?_) fun _ _ y => y)))
  cases nx with
  | none => exact wpAny_pure q
  | some u =>
    refine wpAny_bind (wpAny_mono q (fun _ z2 q2 => ?_) fun _ _ y => y)
    refine wpAny_bind (wpAny_mono q2 (fun _ z3 q3 => ?_) fun _ _ y => y)
    refine wpAny_bind (wpAny_mono q3 (fun a z4 q4 => ?_) fun _ _ y => y)
    refine wpAny_bind (wpAny_standAt (wpAny_bind (wpAny_of_eq (hf a) (wpAny_bind (wpAny_holding (wpAny_mono q4 (fun j z5 q5 => ?_) fun _ _ y => y))))))
    refine wpAny_bind (wpAny_runOwn ?_)
    rw [Around.mark_none]
    refine codeAny_mono q5 fun e z6 q6 => ?_
    cases e with
    | ok _ => first | exact wpAny_pure ⟨rfl, q6⟩ | exact wpAny_bind (wpAny_pure (wpAny_pure ⟨rfl, q6⟩))
    | error _ => exact q6.elim
theorem inLoop {D : Addr} (J : Nat → Shared → Prop)
    (step : ∀ n z, J n z → wpAny (model P w) A (pyNext it) (fun nx z1 => match nx with
      | none => R (.ok .next) z1
      | some u => wpAny (model P w) A (letOwnedTupleGo t1 it u) (fun _ z2 => wpAny (model P w) A (assign t1 en u) (fun _ z3 => wpAny (model P w) A (eval kx en) (fun a z4 => wpAny (model P w) A (eval vx en) (fun b z5 =>
          wpAny (model P w) A (dictSet D a b) (fun _ z6 => ∃ k, k < n ∧ J k z6) (bad P w A en R) z5) (bad P w A en R) z4) (bad P w A en R) z3) (bad P w A en R) z2) (bad P w A en R) z1) (bad P w A en R) z)
    (n : Nat) (h : J n s) : codeAny (model P w) A (.compLoop (two kx vx t0 i0 t1 i1 sc ps) 1 it (.ref D) en) R s := by
  refine codeAny_loop rfl J (fun n z hJ => ?_) n h
  show wpAny _ A ((compTurn (two kx vx t0 i0 t1 i1 sc ps) 1 it (.ref D) en).onRaise fun x => do noteFrame x en; theTreesLotGoes x) _ _ z
  refine wpAny_noted ?_
  rw [inTurn]
  refine wpAny_bind (wpAny_standAt (wpAny_bind (wpAny_mono (step n z hJ) (fun nx z1 q => ?_) fun _ _ y => y)))
  cases nx with
  | none => exact wpAny_pure q
  | some u =>
    refine wpAny_bind (wpAny_mono q (fun _ z2 q2 => ?_) fun _ _ y => y)
    refine wpAny_bind (wpAny_mono q2 (fun _ z3 q3 => ?_) fun _ _ y => y)
    refine wpAny_bind (wpAny_bind (wpAny_mono q3 (fun a z4 q4 => ?_) fun _ _ y => y))
    refine wpAny_bind (wpAny_holding (wpAny_mono q4 (fun b z5 q5 => ?_) fun _ _ y => y))
    exact wpAny_bind (wpAny_standAt (wpAny_holding (wpAny_mono q5 (fun _ z6 q6 => wpAny_pure ⟨rfl, q6⟩) fun _ _ y => y)))
theorem inStart (h0 : codeAny (model P w) A (.compLoop (two kx vx t0 i0 t1 i1 sc ps) 1 it acc en) R s)
    (h : wpAny (model P w) A (pyIter it) (fun j z => codeAny (model P w) A (.compLoop (two kx vx t0 i0 t1 i1 sc ps) 1 j acc en) R z) (bad P w A en R) s) :
    codeAny (model P w) A (.compStart (two kx vx t0 i0 t1 i1 sc ps) 1 it acc en) R s := by
  refine codeAny_of_tree ?_
  show wpAny _ _ ((compStart (two kx vx t0 i0 t1 i1 sc ps) 1 it acc en).onRaise fun x => do noteFrame x en; standAt theWindowsPlace) _ _ s
  refine wpAny_notedAt ?_
  unfold compStart
  show wpAny _ _ (ask >>= _) _ _ s
  refine wpAny_bind (wpAny_askSetting (wpAny_ite ?_))
  split
  · first | exact wpAny_bind (wpAny_pure (wpAny_pure ⟨rfl, h0⟩)) | exact wpAny_pure ⟨rfl, h0⟩
  · first
    | exact wpAny_bind (wpAny_rule (wpAny_bind (wpAny_standAt (wpAny_bind (wpAny_mono h (fun j z q => wpAny_pure ⟨rfl, q⟩) fun _ _ y => y)))))
    | (refine wpAny_bind (wpAny_rule ?_)
       show wpAny _ _ (standAt i1.pos >>= _) _ _ s
       exact wpAny_bind (wpAny_standAt (wpAny_bind (wpAny_mono h (fun j z q => wpAny_pure ⟨rfl, q⟩) fun _ _ y => y))))
end
end Dc2

set_option maxHeartbeats 1000000
/-! G11b: what such a comprehension asks, and that it is all. -/
namespace Dc2
open PySem PySem.Spec PyProof.Rows L2
def wants (wi : TI) (g : TG) (wj : TI) (k : TG) (tk tv : TE) (vs us : List Nat) : TE := fun σ H Q => wi σ H fun J H1 => ∀ D, H1 D = none → ∃ W : Nat → Nat → Hp → Prop, (∃ m, W 0 m (upd H1 D (.dK []))) ∧ ∀ i m H2, W i m H2 →
  (J.stop i H2 ∧ Q (.ref D) H2) ∨ (J.go i H2 ∧ ∃ G : Hp → Prop, (∀ H3, G H3 → ∃ m', m' < m ∧ W (i + 1) m' H3) ∧ ∀ x H3, J.yld i H2 x H3 → g x (wipe σ vs) H3 fun σ2 H4 => wipe σ2 vs = wipe σ vs ∧
    wj σ2 H4 fun Jn H5 => ∃ U : Nat → Nat → Hp → Prop, (∃ m, U 0 m H5) ∧ ∀ j l H6, U j l H6 →
      (Jn.stop j H6 ∧ G H6) ∨ (Jn.go j H6 ∧ ∃ F : Hp → Prop, (∀ H7, F H7 → ∃ l', l' < l ∧ U (j + 1) l' H7) ∧ ∀ y H7, Jn.yld j H6 y H7 → k y (wipe σ2 us) H7 fun σ3 H8 => wipe σ3 us = wipe σ2 us ∧
        tk σ3 H8 fun a H9 => tv σ3 H9 fun b H10 => ∃ (kvs : List (Key × V)) (q : Key), a = kV q ∧ H10 D = some (.dK kvs) ∧ kvs.length < sizeLine ∧ F (upd H10 D (.dK (putK kvs q b)))))
/-- the blocks' contexts -/
abbrev BX (X : Cx) (sc : Scope) (s : Shared) (H : Hp) (C : Addr) (cl : List (Str × Addr)) (fp : List Addr) : Cx := X.blk s H sc (compEnvC sc cl C X.env) fp
section
variable {X : Cx}
theorem core {pins : List (Addr × Obj)} {s : Shared} {σ : L2.St} {H : Hp} {Q : VK} {kx vx t0 i0 t1 i1 : Expr} {sc : Scope} {own : List (Str × Nat)} {us : List Nat} {ps pp : Pos} {wi wj : TI} {g k : TG} {tk tv : TE} {use : Option (Value → Sem Unit)} {Qf : Value → Shared → Prop}
    (calm : X.calm = true) (nd : X.N.Nodup) (I : L2.Inv X pins σ H s) (p0 : PI X t0 i0 wi) (bo : BlkOk X.N X.env.scope sc own) (hus : ∀ i ∈ us, i ∈ own.map (·.2))
    (pg : ∀ s H C cl fp, PG (BX X sc s H C cl fp) t0 g) (pj : ∀ s H C cl fp, PI (BX X sc s H C cl fp) t1 i1 wj) (pk : ∀ s H C cl fp, PG (BX X sc s H C cl fp) t1 k)
    (pa : ∀ s H C cl fp, PE (BX X sc s H C cl fp) kx tk) (pb : ∀ s H C cl fp, PE (BX X sc s H C cl fp) vx tv)
    (f0 : ∀ x, foldedSetIterable i0 X.env x = pure x) (f1 : ∀ en x, foldedSetIterable i1 en x = pure x) (want : wants wi g wj k tk tv (own.map (·.2)) us σ H Q)
    (back : ∀ D C z m H', Inv X pins σ H' z → Q (.ref D) H' → z.heap.Ns C m → FpOk X pins H' C → compPost (model X.prog X.w) X.A X.xe use Qf (.ref D) C (.ok .next) z) :
    wpAny (model X.prog X.w) X.A (comprehension (two kx vx t0 i0 t1 i1 sc ps) sc X.env pp newDict false (eval i0 X.env) use) Qf X.xe s := by
  have caught : ∀ y ∈ sc.names, y.2 = .free → ∃ c, X.env.cells.lookup y.1 = some c := by
    intro y hy e
    cases bo.free y hy e with
    | inl z => exact I.ok.has _ (.inl z)
    | inr z => exact I.ok.has _ (.inr z)
  refine wpAny_comprehension_free (use := use) rfl f0 (closure_ok caught) bo.kind (fun y hy e => by rw [bo.uniq y hy, e]) ?_
  refine thn (p0.run pins s σ H _ I want) fun _ z1 w1 => thn w1 fun _ z2 ⟨it, fp, tn, J, H2, e2, I2, Tw, st2, fo2, w2⟩ => ?_
  subst e2
  refine wpAny_newObj_type (newEnv_comp ?_)
  generalize eD : z2.heap.objs.size = D
  have fr : H2 D = none := I2.hok.fresh (Nat.le_of_eq eD)
  obtain ⟨W, ⟨m0, W0⟩, turn⟩ := w2 D fr
  generalize e3 : ({ z2 with heap := z2.heap.push { cls := .type "dict", data := .dict #[] } } : Shared) = z3
  have hp3 : z3.heap = z2.heap.push { cls := .type "dict", data := .dict #[] } := by rw [← e3]
  have I3 : L2.Inv X pins σ (upd H2 D (.dK [])) z3 := by
    rw [← e3]
    refine I2.laid (t' := z2.toks) (fun _ _ e => Heap.get?_push_of_some _ e) (Nat.le_of_eq eD) ?_
    rw [← eD]
    exact dk_empty z2.heap I2.big
  have below : ∀ b ∈ fp, b < z2.heap.objs.size := by
    intro b hb
    obtain ⟨_, e, _⟩ := Tw.obj _ _ st2 b hb
    exact Heap.lt_size e
  have fo3 : ∀ b ∈ fp, FpOk X pins (upd H2 D (.dK [])) b ∧ b < z3.heap.objs.size := by
    intro b hb
    have lt := below b hb
    have ne : b ≠ D := by rw [← eD]; exact Nat.ne_of_lt lt
    refine ⟨⟨by rw [upd_ne ne]; exact (fo2 b hb).1, (fo2 b hb).2⟩, ?_⟩
    rw [hp3, Heap.size_push]
    exact Nat.lt_succ_of_lt lt
  have st3 : tn 0 z3.heap := Tw.keep _ _ _ st2 fun b _ _ e => by rw [hp3]; exact Heap.get?_push_of_some _ e
  have I4 := block_start I3 bo nd fo3
  have pg := pg z3 (upd H2 D (.dK [])) z3.heap.objs.size (cellsFrom (z3.heap.objs.size + 1) sc.names (cloFrom X.env.cells sc.names [])) fp
  have pj := pj z3 (upd H2 D (.dK [])) z3.heap.objs.size (cellsFrom (z3.heap.objs.size + 1) sc.names (cloFrom X.env.cells sc.names [])) fp
  have pk := pk z3 (upd H2 D (.dK [])) z3.heap.objs.size (cellsFrom (z3.heap.objs.size + 1) sc.names (cloFrom X.env.cells sc.names [])) fp
  have pa := pa z3 (upd H2 D (.dK [])) z3.heap.objs.size (cellsFrom (z3.heap.objs.size + 1) sc.names (cloFrom X.env.cells sc.names [])) fp
  have pb := pb z3 (upd H2 D (.dK [])) z3.heap.objs.size (cellsFrom (z3.heap.objs.size + 1) sc.names (cloFrom X.env.cells sc.names [])) fp
  show codeAny _ _ (.compStart (two kx vx t0 i0 t1 i1 sc ps) 0 (.ref it) (.ref D) (compEnvC sc (cellsFrom (z3.heap.objs.size + 1) sc.names (cloFrom X.env.cells sc.names [])) z3.heap.objs.size X.env)) (compPost (model X.prog X.w) X.A X.xe use Qf (.ref D) z3.heap.objs.size) { z3 with heap := pushCells (z3.heap.push { cls := .type "dict", data := .dict #[] }) sc.names }
  have none3 : ∀ b ∈ fp, (upd H2 D (.dK [])) b = none := fun b hb => (fo3 b hb).1.1
  unfold BX at pg pj pk pa pb
  generalize eC : compEnvC sc (cellsFrom (z3.heap.objs.size + 1) sc.names (cloFrom X.env.cells sc.names [])) z3.heap.objs.size X.env = ce at I4 pg pj pk pa pb ⊢
  have eL : ce.locals = z3.heap.objs.size := by subst eC; rfl
  generalize eH : upd H2 D (.dK []) = H3 at I3 I4 pg pj pk pa pb W0 none3 fo3
  generalize e4 : ({ z3 with heap := pushCells (z3.heap.push { cls := .type "dict", data := .dict #[] }) sc.names } : Shared) = z4 at I4 ⊢
  have st4 : tn 0 z4.heap := Tw.keep _ _ _ st3 fun b _ _ e => by rw [← e4]; exact pushCells_keeps _ _ _ _ (Heap.get?_push_of_some _ e)
  have own_fp : ∀ {σ' : L2.St} {H' : Hp} {z : Shared}, Inv (X.blk z3 H3 sc ce fp) [] σ' H' z → (∀ b ∈ fp, H' b = none) → ∀ b ∈ fp, FpOk (X.blk z3 H3 sc ce fp) [] H' b := by
    intro σ' H' z I' hn b hb
    refine ⟨hn b hb, (I'.ok.exf b hb).1, I'.ok.exfs b hb, .inl hb, fun x c e => (I'.ok.exf b hb).2 x c e, fun p hp => ?_⟩
    have hp : p ∈ ([] : List (Addr × Obj)) ++ [] := hp
    simp at hp
  have whole : codeAny (model X.prog X.w) X.A (.compLoop (two kx vx t0 i0 t1 i1 sc ps) 0 (.ref it) (.ref D) ce) (compPost (model X.prog X.w) X.A X.xe use Qf (.ref D) z3.heap.objs.size) z4 := by
    refine outLoop (f1 ce) (fun n z => ∃ i H', Inv (X.blk z3 H3 sc ce fp) [] (wipe σ (own.map (·.2))) H' z ∧ tn i z.heap ∧ (∀ b ∈ fp, H' b = none) ∧ W i n H') ?_ m0 ⟨0, H3, I4, st4, none3, W0⟩
    rintro n z5 ⟨i, H5, I5, st5, n5, w5⟩
    cases turn i n H5 w5 with
    | inl e =>
      obtain ⟨stop, q⟩ := e
      refine thnF (Tw.done (X.blk z3 H3 sc ce fp) rfl rfl rfl calm i [] z5 _ H5 (fun _ _ => False) I5 (own_fp I5 n5) st5 stop) fun nx z6 ⟨hr, I6⟩ => ?_
      subst hr
      have I7 : L2.Inv X pins σ H5 z6 := I3.call' (ch := fp) I6.os I6.base I6.hok I6.bare fun b hb => by
        obtain ⟨_, a1, a2, a3, a4, a5⟩ := (fo3 b hb).1
        exact ⟨a3, a1, a4, a5⟩
      have free : H5 z3.heap.objs.size = none := by
        have y : H5 ce.locals = none := I6.free
        rwa [eL] at y
      obtain ⟨m, hn, _⟩ := I6.loc
      have hn : z6.heap.Ns ce.locals m := hn
      rw [eL] at hn
      exact back D z3.heap.objs.size z6 m H5 I7 q hn (I3.fpOk (Nat.le_refl _) free)
    | inr e =>
      obtain ⟨go, G, hG, step⟩ := e
      refine thnF (Tw.item (X.blk z3 H3 sc ce fp) rfl rfl rfl calm i [] z5 _ H5 (fun _ _ => False) I5 (own_fp I5 n5) st5 go) fun nx z6 ⟨u, hr, h6⟩ => ?_
      subst hr
      refine thnF h6 fun _ z7 ⟨x, H7, I7, r7, y7, st7, n7⟩ => ?_
      have I7p := I7.pinned (own_fp I7 n7) (Tw.obj _ _ st7)
      refine thnF (pg.run _ z7 _ H7 x u _ I7p r7 (step x H7 y7)) fun _ z8 ⟨σ8, H8, I8, hw8, q8⟩ => ?_
      have len8 : (wipe σ (own.map (·.2))).length = (wipe σ8 us).length := by rw [← hw8, wipe_length, wipe_length]
      have kept8 : ∀ (j : Nat) v, (wipe σ (own.map (·.2)))[j]? = some (some v) → (wipe σ8 us)[j]? = some (some v) := by
        intro j v e
        rw [← hw8] at e
        obtain ⟨a, b⟩ := wipe_some e
        rw [wipe_out fun y => b (hus j y)]
        exact a
      have fin : ∀ {z : Shared} {H' : Hp}, Inv (X.blk z3 H3 sc ce fp) ([] ++ pinsAt fp z7.heap) (wipe σ8 us) H' z → G H' → ∃ k, k < n ∧ ∃ i H', Inv (X.blk z3 H3 sc ce fp) [] (wipe σ (own.map (·.2))) H' z ∧ tn i z.heap ∧ (∀ b ∈ fp, H' b = none) ∧ W i k H' := by
        intro z H' I' hg
        obtain ⟨m', lt, w'⟩ := hG H' hg
        have pin : ∀ b ∈ fp, ∀ o, z7.heap.get? b = some o → z.heap.get? b = some o ∧ H' b = none := by
          intro b hb o e
          have y := I'.pin (b, o) (List.mem_append_right _ (List.mem_append_right _ (mem_pinsAt hb e)))
          exact ⟨y.1, y.2.1⟩
        refine ⟨m', lt, i + 1, H', (I'.unpinned (pins := [])).weak len8 kept8, Tw.keep _ _ _ st7 fun b hb o e => (pin b hb o e).1, fun b hb => ?_, w'⟩
        obtain ⟨o, e, _⟩ := Tw.obj _ _ st7 b hb
        exact (pin b hb o e).2
      refine thnF (pj.run _ z8 σ8 H8 _ I8 q8) fun _ z9 w9 => thnF w9 fun _ z10 ⟨jt, fq, tm, Jn, H10, e10, I10, Tj, st10, fo10, U, ⟨l0, U0⟩, round⟩ => ?_
      subst e10
      have own_fq : ∀ {H' : Hp}, (∀ b ∈ fq, H' b = none) → ∀ b ∈ fq, FpOk (X.blk z3 H3 sc ce fp) ([] ++ pinsAt fp z7.heap) H' b := fun hn b hb => ⟨hn b hb, (fo10 b hb).2⟩
      have inner : codeAny (model X.prog X.w) X.A (.compLoop (two kx vx t0 i0 t1 i1 sc ps) 1 (.ref jt) (.ref D) ce)
          (fun e z => match e with
            | .ok _ => ∃ k, k < n ∧ ∃ i H', Inv (X.blk z3 H3 sc ce fp) [] (wipe σ (own.map (·.2))) H' z ∧ tn i z.heap ∧ (∀ b ∈ fp, H' b = none) ∧ W i k H'
            | .error _ => False) z10 := by
        refine inLoop (fun l z => ∃ j H', Inv (X.blk z3 H3 sc ce fp) ([] ++ pinsAt fp z7.heap) (wipe σ8 us) H' z ∧ tm j z.heap ∧ (∀ b ∈ fq, H' b = none) ∧ U j l H') ?_ l0 ⟨0, H10, I10.weak (wipe_length _ _) (fun j v e => (wipe_some e).1), st10, fun b hb => (fo10 b hb).1, U0⟩
        rintro l z11 ⟨j, H11, I11, st11, n11, u11⟩
        cases round j l H11 u11 with
        | inl e =>
          obtain ⟨stop, hg⟩ := e
          refine thnF (Tj.done (X.blk z3 H3 sc ce fp) rfl rfl rfl calm j _ z11 (wipe σ8 us) H11 (fun _ _ => False) I11 (own_fq n11) st11 stop) fun nx z12 ⟨hr, I12⟩ => ?_
          subst hr
          exact fin I12 hg
        | inr e =>
          obtain ⟨go, F, hF, step1⟩ := e
          refine thnF (Tj.item (X.blk z3 H3 sc ce fp) rfl rfl rfl calm j _ z11 (wipe σ8 us) H11 (fun _ _ => False) I11 (own_fq n11) st11 go) fun nx z12 ⟨u1, hr, h12⟩ => ?_
          subst hr
          refine thnF h12 fun _ z13 ⟨y1, H13, I13, r13, yy13, st13, n13⟩ => ?_
          have I13p := I13.pinned (own_fq n13) (Tj.obj _ _ st13)
          refine thnF (pk.run _ z13 (wipe σ8 us) H13 y1 u1 _ I13p r13 (step1 y1 H13 yy13)) fun _ z14 ⟨σ14, H14, I14, hw14, q14⟩ => ?_
          refine thnF (pa.run _ z14 σ14 H14 _ I14 q14) fun _ z15 ⟨ya, H15, I15, r15, q15⟩ => ?_
          refine thnF (pb.run _ z15 σ14 H15 _ I15 q15) fun _ z16 ⟨yb, H16, I16, r16, kvs, q, eq_, hD16, hz16, hf⟩ => ?_
          subst eq_
          refine d_dictSet (X := X.blk z3 H3 sc ce fp) I16 hD16 hz16 r15 r16 fun z17 I17 => ?_
          obtain ⟨l', lt, u'⟩ := hF _ hf
          have pin : ∀ b ∈ fq, ∀ o, z13.heap.get? b = some o → z17.heap.get? b = some o ∧ (upd H16 D (.dK (putK kvs q yb))) b = none := by
            intro b hb o e
            have y := I17.pin (b, o) (List.mem_append_right _ (List.mem_append_right _ (mem_pinsAt hb e)))
            exact ⟨y.1, y.2.1⟩
          refine ⟨l', lt, j + 1, _, I17.unpinned.weak (by rw [← hw14, wipe_length]) (fun j v e => by rw [← hw14] at e; exact (wipe_some e).1), Tj.keep _ _ _ st13 fun b hb o e => (pin b hb o e).1, fun b hb => ?_, u'⟩
          obtain ⟨o, e, _⟩ := Tj.obj _ _ st13 b hb
          exact (pin b hb o e).2
      exact inStart inner (Tj.self X.A 0 _ _ _ st10 inner)
  exact codeAny_compStart_dict whole (Tw.self X.A 0 _ _ _ st4 whole)
/-- as a value -/
theorem pe_dcTwo {kx vx t0 i0 t1 i1 : Expr} {sc : Scope} {own : List (Str × Nat)} {us : List Nat} {ps : Pos} {wi wj : TI} {g k : TG} {tk tv : TE}
    (calm : X.calm = true) (nd : X.N.Nodup) (p0 : PI X t0 i0 wi) (bo : BlkOk X.N X.env.scope sc own) (hus : ∀ i ∈ us, i ∈ own.map (·.2))
    (pg : ∀ s H C cl fp, PG (BX X sc s H C cl fp) t0 g) (pj : ∀ s H C cl fp, PI (BX X sc s H C cl fp) t1 i1 wj) (pk : ∀ s H C cl fp, PG (BX X sc s H C cl fp) t1 k)
    (pa : ∀ s H C cl fp, PE (BX X sc s H C cl fp) kx tk) (pb : ∀ s H C cl fp, PE (BX X sc s H C cl fp) vx tv)
    (f0 : ∀ x, foldedSetIterable i0 X.env x = pure x := by intro _; rfl) (f1 : ∀ en x, foldedSetIterable i1 en x = pure x := by intro _ _; rfl) :
    PE X (two kx vx t0 i0 t1 i1 sc ps) (wants wi g wj k tk tv (own.map (·.2)) us) := by
  refine ⟨fun pins s σ H Q I h => ?_⟩
  unfold two
  rw [arm_eval_DictComp]
  refine core calm nd I p0 bo hus pg pj pk pa pb f0 f1 h fun D C z m H' I' q hn fo => ⟨m, hn, fun h'' sb => ?_⟩
  obtain ⟨a0, a1, a2, a3, a4, a5⟩ := fo
  exact ⟨.ref D, H', I'.turned (t' := z.toks) (fun b o hb e => (sb.2 b hb).trans e) a0 a1 a3 a4 a5, rfl, q⟩
/-- what is stored by name on the comprehension's own line -/
theorem stored {i : Nat} {y : Str} {py : Pos} {e fst : Expr} {sc : Scope} {sp pp : Pos} {t : TE} (nd : X.N.Nodup) (hy : X.N[i]? = some y) (hyl : X.env.scope.names.lookup y = some .local)
    (hsw : swapsWith e (some (.Name y py)) sp.line X.env = pure true)
    (hx : evalThenUse e X.env (assign (.Name y py) X.env) = (do let _ ← comprehension e sc X.env pp newDict false (eval fst X.env) (some (assign (.Name y py) X.env))))
    (run : ∀ (pins : List (Addr × Obj)) (s : Shared) (σ : L2.St) (H : Hp) (Q : VK) (Qf : Value → Shared → Prop), L2.Inv X pins σ H s → t σ H Q →
      (∀ D C z m H', L2.Inv X pins σ H' z → Q (.ref D) H' → z.heap.Ns C m → FpOk X pins H' C → compPost (model X.prog X.w) X.A X.xe (some (assign (.Name y py) X.env)) Qf (.ref D) C (.ok .next) z) →
      wpAny (model X.prog X.w) X.A (comprehension e sc X.env pp newDict false (eval fst X.env) (some (assign (.Name y py) X.env))) Qf X.xe s) :
    PS X (.Assign [.Name y py] e sp) (tAsg t (gName i)) := by
  refine ⟨fun pins s σ H D I h => ?_⟩
  rw [exec_Assign_Name_used _ _ _ _ hsw, hx]
  have h : t σ H (fun x H1 => gName i x σ H1 D.nx) := h
  refine wpAny_bind (wpAny_standAt (wpAny_bind (wpAny_bind ?_)))
  refine thn (run pins s σ H _ (fun _ s' => SP X pins D .next s') I h fun L C z m H' I' q hn fo => ?_) fun _ s' hq => wpAny_pure (wpAny_pure hq)
  show wpAny _ _ (assign (.Name y py) X.env (.ref L)) _ _ _
  refine wpAny_assign_Name (store_ok2 (v := V.ref L) I' nd hy (.inl hyl) rfl (fun z2 I2 ⟨a, sb, ha⟩ => ?_) (.inr hyl))
  obtain ⟨a0, a1, a2, a3, a4, a5⟩ := fo
  have ne : C ≠ a := by
    cases ha with
    | inl e => rw [e]; exact a1
    | inr e => exact fun e' => a4 y a e e'.symm
  refine ⟨m, hn.sameBut sb ne, fun h3 sb3 => ?_⟩
  exact ⟨_, H', I2.turned (t' := z2.toks) (fun b o hb e => (sb3.2 b hb).trans e) a0 a1 a3 a4 a5, q⟩
theorem ps_setDcTwo {i : Nat} {y : Str} {py : Pos} {kx vx t0 i0 t1 i1 : Expr} {sc : Scope} {own : List (Str × Nat)} {us : List Nat} {ps sp : Pos} {wi wj : TI} {g k : TG} {tk tv : TE}
    (calm : X.calm = true) (nd : X.N.Nodup) (hy : X.N[i]? = some y) (hyl : X.env.scope.names.lookup y = some .local) (hsw : swapsWith (two kx vx t0 i0 t1 i1 sc ps) (some (.Name y py)) sp.line X.env = pure true)
    (p0 : PI X t0 i0 wi) (bo : BlkOk X.N X.env.scope sc own) (hus : ∀ i ∈ us, i ∈ own.map (·.2))
    (pg : ∀ s H C cl fp, PG (BX X sc s H C cl fp) t0 g) (pj : ∀ s H C cl fp, PI (BX X sc s H C cl fp) t1 i1 wj) (pk : ∀ s H C cl fp, PG (BX X sc s H C cl fp) t1 k)
    (pa : ∀ s H C cl fp, PE (BX X sc s H C cl fp) kx tk) (pb : ∀ s H C cl fp, PE (BX X sc s H C cl fp) vx tv)
    (f0 : ∀ x, foldedSetIterable i0 X.env x = pure x := by intro _; rfl) (f1 : ∀ en x, foldedSetIterable i1 en x = pure x := by intro _ _; rfl) :
    PS X (.Assign [.Name y py] (two kx vx t0 i0 t1 i1 sc ps) sp) (tAsg (wants wi g wj k tk tv (own.map (·.2)) us) (gName i)) :=
  stored nd hy hyl hsw rfl fun pins s σ H Q Qf I h back => core calm nd I p0 bo hus pg pj pk pa pb f0 f1 h back
theorem ps_setDcOne {i : Nat} {y : Str} {py : Pos} {kx vx t0 i0 : Expr} {ifs : List Expr} {sc : Scope} {own : List (Str × Nat)} {ps sp : Pos} {wi : TI} {g : TG} {tt : TT} {tk tv : TE}
    (calm : X.calm = true) (nd : X.N.Nodup) (hy : X.N[i]? = some y) (hyl : X.env.scope.names.lookup y = some .local) (hsw : swapsWith (.DictComp kx vx [⟨t0, i0, ifs, 0⟩] sc ps) (some (.Name y py)) sp.line X.env = pure true)
    (p0 : PI X t0 i0 wi) (bo : BlkOk X.N X.env.scope sc own)
    (pg : ∀ s H C cl fp, PG (BX X sc s H C cl fp) t0 g) (pt : ∀ s H C cl fp, PTs (BX X sc s H C cl fp) ifs tt)
    (pa : ∀ s H C cl fp, PE (BX X sc s H C cl fp) kx tk) (pb : ∀ s H C cl fp, PE (BX X sc s H C cl fp) vx tv)
    (f0 : ∀ x, foldedSetIterable i0 X.env x = pure x := by intro _; rfl) :
    PS X (.Assign [.Name y py] (.DictComp kx vx [⟨t0, i0, ifs, 0⟩] sc ps) sp) (tAsg (tDc wi g tt tk tv (own.map (·.2))) (gName i)) :=
  stored nd hy hyl hsw rfl fun pins s σ H Q Qf I h back => dc_core calm nd I p0 bo pg pt pa pb f0 h back
end
end Dc2

set_option maxHeartbeats 1000000
/-! G11: dicts of data: keys ints or texts (dic), or tuples of these (dct). -/
namespace G
open PySem PySem.Spec PyProof.Rows L2
/-! ### keys -/
def keyOf : D → Option Key
  | .int i => some (.inl i)
  | .str s => some (.inr s)
  | _ => none
def keysL : List D → Option (List Key)
  | [] => some []
  | d :: ds => (keyOf d).bind fun q => (keysL ds).map (q :: ·)
def keysOf : D → Option (List Key)
  | .tup ds => keysL ds
  | _ => none
def findP {κ : Type} [DecidableEq κ] (kf : D → Option κ) : List (D × D) → κ → Option D
  | [], _ => none
  | (a, b) :: r, q => if kf a = some q then some b else findP kf r q
def putP {κ : Type} [DecidableEq κ] (kf : D → Option κ) (kd : κ → D) (ds : List (D × D)) (q : κ) (v : D) : List (D × D) :=
  if (findP kf ds q).isSome = true then ds.map (fun p => if kf p.1 = some q then (p.1, v) else p) else ds ++ [(kd q, v)]
theorem keyOf_D (q : Key) : keyOf (keyD q) = some q := by cases q <;> rfl
theorem keysL_D (qs : List Key) : keysL (qs.map keyD) = some qs := by
  induction qs with
  | nil => rfl
  | cons q qs ih =>
    rw [List.map_cons]
    unfold keysL
    rw [keyOf_D, ih]; rfl
theorem keysOf_T (qs : List Key) : keysOf (keyT qs) = some qs := keysL_D qs
section
variable {K : PySem.W.Frag} {mg : Str → Option Value} {r : Addr} {Hs Hs' H H' : Hp} {tp : List D}
theorem repT_key {v : V} {d : D} {q : Key} (h : RepT K mg r Hs H v d) (e : keyOf d = some q) : v = kV q := by
  cases d with
  | int i => cases e; rw [repT_int h]; rfl
  | str s => cases e; rw [repT_str h]; rfl
  | _ => cases e
theorem reps_keys : ∀ {ds : List D} {vs : List V} {qs : List Key}, RepDs K mg r Hs vs ds → keysL ds = some qs → vs = qs.map kV
  | [], _, _, .nil, e => by cases e; rfl
  | d :: ds, _, qs, .cons h hs, e => by
    unfold keysL at e
    obtain ⟨q, h1, e⟩ := Option.bind_eq_some_iff.mp e
    obtain ⟨qs', h2, e⟩ := Option.map_eq_some_iff.mp e
    subst e
    rw [repT_key (H := Hs) h.top h1, reps_keys hs h2]; rfl
theorem repT_keys {v : V} {d : D} {qs : List Key} (w : Wd K mg r Hs H tp) (h : RepT K mg r Hs H v d) (e : keysOf d = some qs) : ∃ b, v = .ref b ∧ H b = some (.tup (qs.map kV)) := by
  cases d with
  | tup ds =>
    obtain ⟨p, vs, rfl, _, a, b⟩ := repT_tup w h
    exact ⟨p, rfl, by rw [a, reps_keys b e]⟩
  | _ => cases e
theorem repT_dic {v : V} {ds : List (D × D)} (w : Wd K mg r Hs H tp) (h : RepT K mg r Hs H v (.dic ds)) : ∃ p kvs, v = .ref p ∧ H p = some (.dK kvs) ∧ RepP K mg r Hs (kvs.map fun q => (keyD q.1, q.2)) ds := by
  rcases h with h | ⟨p, e, _, kvs, a, b⟩
  · cases h with
    | dicK a b => exact ⟨_, _, rfl, w.sub _ _ a, b⟩
  · exact ⟨p, kvs, e, a, b⟩
theorem repT_dct {v : V} {ds : List (D × D)} (w : Wd K mg r Hs H tp) (h : RepT K mg r Hs H v (.dct ds)) : ∃ p kvs, v = .ref p ∧ H p = some (.dT kvs) ∧ RepP K mg r Hs (kvs.map fun q => (keyT q.1, q.2)) ds := by
  rcases h with h | ⟨p, e, _, kvs, a, b⟩
  · cases h with
    | dicT a b => exact ⟨_, _, rfl, w.sub _ _ a, b⟩
  · exact ⟨p, kvs, e, a, b⟩
section
variable {κ : Type} [DecidableEq κ] {kf : D → Option κ} {kd : κ → D}
theorem find_rep (hk : ∀ q, kf (kd q) = some q) (q : κ) : ∀ {kvs : List (κ × V)} {ds : List (D × D)}, RepP K mg r Hs (kvs.map fun p => (kd p.1, p.2)) ds →
    (∀ d, findP kf ds q = some d → ∃ v, valV kvs q = some v ∧ RepD K mg r Hs v d) ∧ (findP kf ds q = none → valV kvs q = none)
  | [], _, .nil => ⟨fun d e => (by cases e), fun _ => rfl⟩
  | p :: kvs, _, .cons (d := d0) (ds := ds) h hs => by
    obtain ⟨a, b⟩ := find_rep hk q (kvs := kvs) (ds := ds) hs
    by_cases e : p.1 = q
    · have ek : kf (kd p.1) = some q := by rw [hk, e]
      unfold findP
      rw [if_pos ek]
      refine ⟨fun d ed => ?_, fun ed => by cases ed⟩
      cases ed
      exact ⟨p.2, valV_pos e, h⟩
    · have ek : ¬ kf (kd p.1) = some q := by rw [hk]; intro z; exact e (Option.some.inj z)
      unfold findP
      rw [if_neg ek]
      refine ⟨fun d ed => ?_, fun ed => by rw [valV_neg e]; exact b ed⟩
      obtain ⟨v, h1, h2⟩ := a d ed
      exact ⟨v, by rw [valV_neg e]; exact h1, h2⟩
theorem repP_map (hk : ∀ q, kf (kd q) = some q) {q : κ} {z : V} {v : D} (hz : RepD K mg r Hs z v) : ∀ {kvs : List (κ × V)} {ds : List (D × D)}, RepP K mg r Hs (kvs.map fun p => (kd p.1, p.2)) ds →
    RepP K mg r Hs ((kvs.map fun kv => if kv.1 = q then (kv.1, z) else kv).map fun p => (kd p.1, p.2)) (ds.map fun p => if kf p.1 = some q then (p.1, v) else p)
  | [], _, .nil => .nil
  | p :: kvs, _, .cons (d := d0) (ds := ds) h hs => by
    have ih := repP_map (q := q) hk hz (kvs := kvs) (ds := ds) hs
    rw [List.map_cons, List.map_cons, List.map_cons]
    by_cases e : p.1 = q
    · rw [if_pos e, if_pos (by show kf (kd p.1) = some q; rw [hk, e])]
      exact .cons hz ih
    · rw [if_neg e, if_neg (by show ¬ kf (kd p.1) = some q; rw [hk]; intro y; exact e (Option.some.inj y))]
      exact .cons h ih
theorem repP_app {a b : List (D × V)} {ds es : List (D × D)} : RepP K mg r Hs a ds → RepP K mg r Hs b es → RepP K mg r Hs (a ++ b) (ds ++ es)
  | .nil, q => q
  | .cons h p, q => .cons h (repP_app p q)
theorem put_rep (hk : ∀ q, kf (kd q) = some q) {q : κ} {z : V} {v : D} {kvs : List (κ × V)} {ds : List (D × D)} (hz : RepD K mg r Hs z v) (h : RepP K mg r Hs (kvs.map fun p => (kd p.1, p.2)) ds) :
    RepP K mg r Hs ((putK kvs q z).map fun p => (kd p.1, p.2)) (putP kf kd ds q v) := by
  obtain ⟨a, b⟩ := find_rep hk q h
  unfold putK putP
  rw [valV_any]
  cases e : findP kf ds q with
  | some d =>
    obtain ⟨v0, h1, _⟩ := a d e
    rw [h1]
    exact repP_map hk hz h
  | none =>
    rw [b e]
    rw [if_neg (by simp), if_neg (by simp), List.map_append]
    exact repP_app h (.cons hz .nil)
theorem repP_len : ∀ {a : List (D × V)} {ds : List (D × D)}, RepP K mg r Hs a ds → a.length = ds.length
  | _, _, .nil => rfl
  | _, _, .cons _ q => by simp only [List.length_cons, repP_len q]
end
/-! ### what a dict tells -/
def dgetD (d k : D) : Option (Option D) := match d with
  | .dic ds => (keyOf k).map fun q => findP keyOf ds q
  | .dct ds => (keysOf k).map fun q => findP keysOf ds q
  | _ => none
theorem dget_ok {x y : V} {d k : D} {o : Option D} (w : Wd K mg r Hs H tp) (hx : RepT K mg r Hs H x d) (hy : RepT K mg r Hs H y k) (e : dgetD d k = some o) :
    ∃ a, x = .ref a ∧ IsD H a ∧ ∃ ov, DGet H a y ov ∧ ov.isSome = o.isSome ∧ ∀ z, o = some z → ∃ v, ov = some v ∧ RepD K mg r Hs v z := by
  unfold dgetD at e
  cases d with
  | dic ds =>
    obtain ⟨q, h1, h2⟩ := Option.map_eq_some_iff.mp e
    obtain ⟨p, kvs, rfl, a, b⟩ := repT_dic w hx
    obtain ⟨f1, f2⟩ := find_rep (K := K) (mg := mg) (r := r) keyOf_D q b
    refine ⟨p, rfl, .inl ⟨kvs, .of a⟩, valV kvs q, ?_, ?_, fun z hz => ?_⟩
    · rw [repT_key hy h1]; exact .k a
    · cases c : findP keyOf ds q with
      | none => rw [f2 c, ← h2, c]; rfl
      | some z => obtain ⟨v, e1, _⟩ := f1 z c; rw [e1, ← h2, c]; rfl
    · obtain ⟨v, e1, e2⟩ := f1 z (h2.trans hz)
      exact ⟨v, e1, e2⟩
  | dct ds =>
    obtain ⟨q, h1, h2⟩ := Option.map_eq_some_iff.mp e
    obtain ⟨p, kvs, rfl, a, b⟩ := repT_dct w hx
    obtain ⟨f1, f2⟩ := find_rep (K := K) (mg := mg) (r := r) keysOf_T q b
    obtain ⟨c, rfl, hc⟩ := repT_keys w hy h1
    refine ⟨p, rfl, .inr ⟨kvs, .of a⟩, valV kvs q, .t a hc, ?_, fun z hz => ?_⟩
    · cases c : findP keysOf ds q with
      | none => rw [f2 c, ← h2, c]; rfl
      | some z => obtain ⟨v, e1, _⟩ := f1 z c; rw [e1, ← h2, c]; rfl
    · obtain ⟨v, e1, e2⟩ := f1 z (h2.trans hz)
      exact ⟨v, e1, e2⟩
  | _ => cases e
end
section
variable {r : Addr} {X : Cx} {K : PySem.W.Frag} {mg : Str → Option Value} {O : List Nat} {E : XK} {a b c : Expr} {ta tb tc : TE} {pos : Pos}
/-- k in d, k not in d: the key, then the dict -/
def inKD (neg : Bool) (k d : D) : Option D := (dgetD d k).map fun o => .bl (if neg then !o.isSome else o.isSome)
theorem ge_inK {ma mb : SE D} (hu : X.A.units + 64 < cLine) (ha : GO K mg r X O E a ta ma) (hb : GO K mg r X O E b tb mb) (hm : behindInMarks .In b = false := by rfl) : GE K mg r X O E (.Compare a [.In] [b] pos) (tDIn ta tb) (binE (inKD false) ma mb) := by
  refine ⟨pe_cmp (pc_din (by omega) ha.pe hb.pe) hm, fun Hs0 H0 Hs H σ env tp Q Rl P => ?_⟩
  refine ha.snd _ _ _ _ _ _ _ _ Rl (Post.bind P fun v Hs1 H1 d tp1 _ g w rv P1 => ?_)
  refine hb.snd _ _ _ _ _ _ _ _ (Rl.grow g w) (Post.bind P1 fun u Hs2 H2 e tp2 _ g2 w2 ru P2 => ?_)
  obtain ⟨z, hz, k⟩ := Post.ok_of P2
  obtain ⟨o, h1, h2⟩ := Option.map_eq_some_iff.mp hz
  obtain ⟨p, rfl, _, ov, dg, e1, _⟩ := dget_ok w2 ru (rv.grow g2) h1
  refine ⟨p, ov, rfl, dg, k _ Hs2 H2 (Grow.refl _ _) w2 ?_⟩
  rw [e1, ← h2]; exact .bl _
theorem ge_notInK {ma mb : SE D} (hu : X.A.units + 64 < cLine) (ha : GO K mg r X O E a ta ma) (hb : GO K mg r X O E b tb mb) (hm : behindInMarks .NotIn b = false := by rfl) : GE K mg r X O E (.Compare a [.NotIn] [b] pos) (tDNotIn ta tb) (binE (inKD true) ma mb) := by
  refine ⟨pe_cmp (pc_dnotin (by omega) ha.pe hb.pe) hm, fun Hs0 H0 Hs H σ env tp Q Rl P => ?_⟩
  refine ha.snd _ _ _ _ _ _ _ _ Rl (Post.bind P fun v Hs1 H1 d tp1 _ g w rv P1 => ?_)
  refine hb.snd _ _ _ _ _ _ _ _ (Rl.grow g w) (Post.bind P1 fun u Hs2 H2 e tp2 _ g2 w2 ru P2 => ?_)
  obtain ⟨z, hz, k⟩ := Post.ok_of P2
  obtain ⟨o, h1, h2⟩ := Option.map_eq_some_iff.mp hz
  obtain ⟨p, rfl, _, ov, dg, e1, _⟩ := dget_ok w2 ru (rv.grow g2) h1
  refine ⟨p, ov, rfl, dg, k _ Hs2 H2 (Grow.refl _ _) w2 ?_⟩
  rw [e1, ← h2]; exact .bl _
theorem gt_inK {ma mb : SE D} (hu : X.A.units + 64 < cLine) (ha : GO K mg r X O E a ta ma) (hb : GO K mg r X O E b tb mb) (hm : behindInMarks .In b = false := by rfl) : GT K mg r X O E (.Compare a [.In] [b] pos) (tB (tDIn ta tb)) (boolE (binE (inKD false) ma mb)) :=
  ⟨pt_cmp (pc_din (by omega) ha.pe hb.pe) hm, boolE_sound (ge_inK (pos := pos) hu ha hb hm).snd⟩
theorem gt_notInK {ma mb : SE D} (hu : X.A.units + 64 < cLine) (ha : GO K mg r X O E a ta ma) (hb : GO K mg r X O E b tb mb) (hm : behindInMarks .NotIn b = false := by rfl) : GT K mg r X O E (.Compare a [.NotIn] [b] pos) (tB (tDNotIn ta tb)) (boolE (binE (inKD true) ma mb)) :=
  ⟨pt_cmp (pc_dnotin (by omega) ha.pe hb.pe) hm, boolE_sound (ge_notInK (pos := pos) hu ha hb hm).snd⟩
/-- d[k] -/
def ixKD (d k : D) : Option D := (dgetD d k).bind id
theorem ge_ixK {ma mb : SE D} (hu : X.A.units + 64 < cLine) (ha : GO K mg r X O E a ta ma) (hb : GO K mg r X O E b tb mb) (hs : NoSl b := by exact fun _ _ => rfl) : GE K mg r X O E (.Subscript a b pos) (tDGet ta tb) (binE ixKD ma mb) := by
  refine ⟨pe_dget (by omega) ha.pe hb.pe hs, fun Hs0 H0 Hs H σ env tp Q Rl P => ?_⟩
  refine ha.snd _ _ _ _ _ _ _ _ Rl (Post.bind P fun v Hs1 H1 d tp1 _ g w rv P1 => ?_)
  refine hb.snd _ _ _ _ _ _ _ _ (Rl.grow g w) (Post.bind P1 fun u Hs2 H2 e tp2 _ g2 w2 ru P2 => ?_)
  obtain ⟨z, hz, k⟩ := Post.ok_of P2
  obtain ⟨o, h1, h2⟩ := Option.bind_eq_some_iff.mp hz
  have h2 : o = some z := h2
  obtain ⟨p, rfl, _, ov, dg, _, e1⟩ := dget_ok w2 (rv.grow g2) ru h1
  obtain ⟨v1, rfl, rv1⟩ := e1 z h2
  exact ⟨p, v1, rfl, dg, k _ Hs2 H2 (Grow.refl _ _) w2 rv1⟩
/-- d.get(k, x) -/
def isDicD : D → Bool
  | .dic _ => true
  | .dct _ => true
  | _ => false
def get2E (ma mb mc : SE D) : SE D := fun env tp => (ma env tp).bind fun d tp1 => if isDicD d = true then (mb env tp1).bind fun k tp2 => (mc env tp2).bind fun x tp3 => (match dgetD d k with
  | some o => .ok (o.getD x) tp3
  | none => .stuck) else .stuck
theorem isD_of {Hs H : Hp} {tp : List D} {x : V} {d : D} (w : Wd K mg r Hs H tp) (hx : RepT K mg r Hs H x d) (e : isDicD d = true) : ∃ p, x = .ref p ∧ IsD H p := by
  cases d with
  | dic ds =>
    obtain ⟨p, kvs, rfl, a, _⟩ := repT_dic w hx
    exact ⟨p, rfl, .inl ⟨kvs, .of a⟩⟩
  | dct ds =>
    obtain ⟨p, kvs, rfl, a, _⟩ := repT_dct w hx
    exact ⟨p, rfl, .inr ⟨kvs, .of a⟩⟩
  | _ => cases e
theorem ge_get2 {ma mb mc : SE D} {apos cpos : Pos} (hu : X.A.units + 64 < cLine) (ha : GO K mg r X O E a ta ma) (hb : GE K mg r X O E b tb mb) (hc : GE K mg r X O E c tc mc)
    (hbase : attributeBase a "get" X.env (eval a X.env) = eval a X.env := by rfl)
    (hfew : ((backTo cpos (starEach [b, c] X.env)).all (fun x => !x.1) && (backToKw cpos (keywordEach [] X.env)).all (fun x => x.1.isSome) && decide (([b, c] : List Expr).length + ([] : List Keyword).length + (if ([] : List Keyword).isEmpty then 0 else 1) < 30)) = true := by rfl)
    (hline : (apos.endLine == cpos.line) = true := by rfl) (htrees : backTo cpos (starEach [b, c] X.env) = [(false, eval b X.env), (false, eval c X.env)] := by rfl) :
    GE K mg r X O E (.Call (.Attribute a "get" apos) [b, c] [] cpos) (tDGet2 ta tb tc) (get2E ma mb mc) := by
  refine ⟨pe_dget2 (by omega) ha.pe hb.pe hc.pe ⟨hbase, hfew, hline, htrees⟩, fun Hs0 H0 Hs H σ env tp Q Rl P => ?_⟩
  unfold get2E at P
  refine ha.snd _ _ _ _ _ _ _ _ Rl (Post.bind P fun v Hs1 H1 d tp1 _ g w rv P1 => ?_)
  by_cases hd : isDicD d = true
  · rw [if_pos hd] at P1
    obtain ⟨p, rfl, isd⟩ := isD_of w rv hd
    refine ⟨p, rfl, isd, ?_⟩
    refine hb.snd _ _ _ _ _ _ _ _ (Rl.grow g w) (Post.bind P1 fun u Hs2 H2 k tp2 _ g2 w2 ru P2 => ?_)
    refine hc.snd _ _ _ _ _ _ _ _ ((Rl.grow g w).grow g2 w2) (Post.bind P2 fun y Hs3 H3 x tp3 _ g3 w3 ry P3 => ?_)
    cases e : dgetD d k with
    | none => rw [e] at P3; exact P3.elim
    | some o =>
      rw [e] at P3
      obtain ⟨p', hp, _, ov, dg, hs, e1⟩ := dget_ok w3 (rv.grow (g2.trans g3)) (RepD.top (ru.mono g3.ex)) e
      cases hp
      refine ⟨ov, dg, P3 _ Hs3 H3 (Grow.refl _ _) w3 ?_⟩
      cases o with
      | none =>
        cases ov with
        | none => exact ry
        | some _ => cases hs
      | some z =>
        obtain ⟨v1, rfl, rv1⟩ := e1 z rfl
        exact rv1
  · rw [if_neg hd] at P1; exact P1.elim
/-! ### {} -/
theorem gf_dnew : GF K mg r X O E (.Dict [] [] pos) tDNewK (cE (.dic [])) := by
  refine ⟨pe_dnewK, fun Hs0 H0 Hs H σ env tp Q R P p hp => ?_⟩
  obtain ⟨g, w, f⟩ := fresh_new (K := K) (mg := mg) (o := .dK []) (d := .dic []) (Grow.refl Hs H) R.wd hp ⟨[], upd_same, .nil⟩
  exact P _ _ _ g w f
theorem gf_dnewT : GF K mg r X O E (.Dict [] [] pos) tDNewT (cE (.dct [])) := by
  refine ⟨pe_dnewT, fun Hs0 H0 Hs H σ env tp Q R P p hp => ?_⟩
  obtain ⟨g, w, f⟩ := fresh_new (K := K) (mg := mg) (o := .dT []) (d := .dct []) (Grow.refl Hs H) R.wd hp ⟨[], upd_same, .nil⟩
  exact P _ _ _ g w f
/-! ### d[k] = v, the slot's own dict -/
def putD (d k v : D) : Option D := match d with
  | .dic ds => if ds.length < sizeLine then (keyOf k).map fun q => .dic (putP keyOf keyD ds q v) else none
  | .dct ds => if ds.length < sizeLine then (keysOf k).map fun q => .dct (putP keysOf keyT ds q v) else none
  | _ => none
def dsetS (i : Nat) (mk mv : SE D) : SS := fun env tp => match env[i]? with
  | some (some d) => (mv env tp).bindS fun v tp1 => (mk env tp1).bindS fun k tp2 => (match putD d k v with
    | some d' => .nx (env.set i (some d')) tp2
    | none => .stuck)
  | _ => .stuck
theorem gs_dset {mk mv : SE D} {Ol : List Nat} (i : Nat) {x : Str} {p1 p2 : Pos} {k val : Expr} {tk tv : TE} (hu : X.A.units + 64 < cLine) (hO : i ∈ O) (hk : GE K mg r X O E k tk mk) (hv : GE K mg r X O E val tv mv) (hN : X.N[i]? = some x := by rfl)
    (hvis : Vis X.env.scope x := by first | exact Or.inl rfl | exact Or.inr (Or.inl rfl) | exact Or.inr (Or.inr rfl)) (hd : (x == ("__debug__" : Str)) = false := by decide) (hcd : (x == ("__classdict__" : Str)) = false := by decide)
    (hs : swapsWith val (some (.Subscript (.Name x p1) k p2)) pos.line X.env = pure false := by rfl) : GS K mg r X E O O Ol (.Assign [.Subscript (.Name x p1) k p2] val pos) (sDPut (tVar i) tk tv) (dsetS i mk mv) := by
  refine ⟨ps_dput (by omega) (pe_var hN hvis hd hcd) hk.pe hv.pe hs, fun Hs0 H0 Hs H σ env tp Dn R P => ?_⟩
  obtain ⟨d0, p, b1, b2, c, c0, ne, oa⟩ := R.own i hO
  unfold dsetS at P
  rw [b1] at P
  simp only at P
  refine hv.snd _ _ _ _ _ _ _ _ R (PostS.bind R P fun v Hs1 H1 dv tp1 _ g w R1 rv P1 => ?_)
  refine ⟨_, b2, ?_⟩
  refine hk.snd _ _ _ _ _ _ _ _ R1 (PostS.bind R1 P1 fun u Hs2 H2 dk tp2 _ g2 w2 R2 ru P2 => ?_)
  obtain ⟨d1, p1, e1, e2, f, f0, fn, fo⟩ := R2.own i hO
  rw [b2] at e2; cases e2
  rw [b1] at e1; cases e1
  cases e : putD d0 dk dv with
  | none => rw [e] at P2; exact P2.elim
  | some d' =>
    rw [e] at P2
    have rv2 := rv.mono g2.ex
    cases d0 with
    | dic ds =>
      obtain ⟨kvs, h1, h2⟩ := fo
      unfold putD at e
      simp only at e
      split at e
      · rename_i hz
        obtain ⟨q, hq, hd'⟩ := Option.map_eq_some_iff.mp e
        subst hd'
        have ek := repT_key (H := H2) ru.top hq
        subst ek
        have hl : kvs.length < sizeLine := by have := repP_len h2; rw [List.length_map] at this; omega
        exact ⟨p, _, rfl, .k h1 hl, P2 _ _ _ (Same.refl _) (R2.write hO b2 ⟨_, upd_same, put_rep keyOf_D rv2 h2⟩)⟩
      · cases e
    | dct ds =>
      obtain ⟨kvs, h1, h2⟩ := fo
      unfold putD at e
      simp only at e
      split at e
      · rename_i hz
        obtain ⟨q, hq, hd'⟩ := Option.map_eq_some_iff.mp e
        subst hd'
        obtain ⟨b, eb, hb⟩ := repT_keys w2 ru.top hq
        subst eb
        have hl : kvs.length < sizeLine := by have := repP_len h2; rw [List.length_map] at this; omega
        exact ⟨p, _, rfl, .inr ⟨kvs, q, b, h1, rfl, hb, hl, rfl⟩, P2 _ _ _ (Same.refl _) (R2.write hO b2 ⟨_, upd_same, put_rep keysOf_T rv2 h2⟩)⟩
      · cases e
    | _ => cases e
/-! ### sorted(d), len(d) of a dict of ints -/
def sortKD : List D → Option D
  | [.dic ds] => if ds.length < 64 then (unI (ds.map (·.1))).map fun ns => .lst ((sortI ns).map .int) else none
  | _ => none
def lenKD : List D → Option D
  | [.dic ds] => some (.int ds.length)
  | _ => none
theorem dic_ints {Hs : Hp} : ∀ {kvs : List (Key × V)} {ds : List (D × D)} {ns : List Int}, RepP K mg r Hs (kvs.map fun q => (keyD q.1, q.2)) ds → unI (ds.map (·.1)) = some ns → kvs.map (·.1) = ns.map Sum.inl
  | [], _, ns, .nil, e => by cases e; rfl
  | (.inl i, v) :: kvs, _, ns, .cons (ds := ds) h hs, e => by
    obtain ⟨ms, h1, h2⟩ := Option.map_eq_some_iff.mp (show (unI (ds.map (·.1))).map (i :: ·) = some ns from e)
    subst h2
    rw [List.map_cons, dic_ints hs h1]; rfl
  | (.inr x, v) :: kvs, _, ns, .cons (ds := ds) h hs, e => by cases e
abbrev rSortKD : List V → Hp → VK → Prop := fun xs H Q => ∃ (a : Addr) (kvs : List (Key × V)) (ks : List Int), xs = [.ref a] ∧ Rd H a (.dK kvs) ∧ kvs.map (·.1) = ks.map Sum.inl ∧ ks.length < 64 ∧ ∀ (ys : List Int) (p : Addr), ys.Perm ks → ys.Pairwise (· ≤ ·) → H p = none → Q (.ref p) (upd H p (.lst (ys.map V.int)))
theorem gf_sortedK {e : Expr} {p : Pos} {ts : TA} {ms : SE (List D)} (hc : X.calm = true) (hm : X.mg "sorted" = none) (ha : GAO K mg r X O E [e] ts ms) (hg : Gl X "sorted" := by rfl) (he : starEach [e] X.env = (false, eval e X.env) :: starEach [] X.env := by rfl) (hpl : (backTo pos (starEach [] X.env)).any (·.1) = false := by rfl) : GF K mg r X O E (.Call (.Name "sorted" p) [e] [] pos) (tCB rSortKD ts) (callB sortKD ms) := by
  refine ⟨pe_callB (r := rSortKD) (call_sortedDI hc) hg hm boot_sorted ha.pe (by decide) (by decide) he hpl, fun Hs0 H0 Hs H σ env tp Q Rl P => ?_⟩
  refine ha.snd _ _ _ _ _ _ _ _ Rl ?_
  unfold callB at P
  cases q : ms env tp with
  | stuck => rw [q] at P; exact P
  | exn cc fs tp1 => rw [q] at P; exact P
  | ok ds tp1 =>
    rw [q] at P
    intro xs Hs1 H1 g w rx
    obtain ⟨z, hz, k⟩ := Post.ok_of (show Post K mg r (Fresh K mg r H) E Hs H (RE.of (sortKD ds) tp1) Q from P)
    unfold sortKD at hz
    split at hz
    · split at hz
      · rename_i d64
        obtain ⟨ns, h1, h2⟩ := Option.map_eq_some_iff.mp hz
        subst h2
        obtain ⟨x, rfl, h⟩ := paired1 rx
        obtain ⟨p, kvs, rfl, a, b⟩ := repT_dic w h
        have ek := dic_ints b h1
        have hl : ns.length < 64 := by
          have e1 := repP_len b
          have e2 := congrArg List.length ek
          rw [List.length_map, List.length_map] at e2
          rw [List.length_map] at e1
          omega
        refine ⟨p, kvs, ns, rfl, .of a, ek, hl, fun ns' q hp hs hq => ?_⟩
        have e : ns' = sortI ns := sorted_unique (hp.trans (sortI_perm ns).symm) hs (sortI_sorted ns)
        subst e
        obtain ⟨a, b, c⟩ := fresh_new (o := .lst ((sortI ns).map V.int)) (d := .lst ((sortI ns).map D.int)) g w hq ⟨_, upd_same, RepDs.ints _⟩
        exact k _ _ _ a b c
      · cases hz
    · cases hz
abbrev rLenKD : List V → Hp → VK → Prop := fun xs H Q => ∃ (a : Addr) (kvs : List (Key × V)), xs = [V.ref a] ∧ H a = some (.dK kvs) ∧ Q (.int kvs.length) H
theorem cs_lenK : CallS K mg r rLenKD lenKD := by
  intro Hs H tp xs ds z Q w rx hz k
  unfold lenKD at hz
  split at hz
  · cases hz
    obtain ⟨x, rfl, h⟩ := paired1 rx
    obtain ⟨p, kvs, rfl, a, b⟩ := repT_dic w h
    refine ⟨p, kvs, rfl, a, k _ _ _ (Grow.refl _ _) w ?_⟩
    have e := repP_len b
    rw [List.length_map] at e
    rw [e]; exact .int _
  · cases hz
theorem ge_lenK {e : Expr} {p : Pos} {ts : TA} {ms : SE (List D)} (hm : X.mg "len" = none) (ha : GAO K mg r X O E [e] ts ms) (hg : Gl X "len" := by rfl) (he : starEach [e] X.env = (false, eval e X.env) :: starEach [] X.env := by rfl) (hpl : (backTo pos (starEach [] X.env)).any (·.1) = false := by rfl) : GE K mg r X O E (.Call (.Name "len" p) [e] [] pos) (tCB rLenKD ts) (callB lenKD ms) :=
  ge_callB call_lenD cs_lenK hm ha hg (by decide +kernel) (by decide) (by decide) he hpl
/-! ### {k: v for ..} -/
def putR (acc : List (D × D)) (k v : D) (tp : List D) : RE (List (D × D)) := if acc.length < sizeLine then (match keyOf k with
  | some q => .ok (putP keyOf keyD acc q v) tp
  | none => .stuck) else .stuck
def foldR (f : List (D × D) → D → List D → RE (List (D × D))) : List D → List (D × D) → List D → RE (List (D × D))
  | [], acc, tp => .ok acc tp
  | d :: ds, acc, tp => match f acc d tp with
    | .ok acc' tp' => foldR f ds acc' tp'
    | _ => .stuck
def pairT (mk mv : SE D) (env : DEnv) (acc : List (D × D)) (tp : List D) : RE (List (D × D)) := match mk env tp with
  | .ok k tp1 => (match mv env tp1 with
    | .ok v tp2 => putR acc k v tp2
    | _ => .stuck)
  | _ => .stuck
def dcTurn (tgt : D → Option (List D)) (is : List Nat) (mk mv : SE D) (env : DEnv) (acc : List (D × D)) (d : D) (tp : List D) : RE (List (D × D)) := match tgt d with
  | some ds => pairT mk mv (setAll env is ds) acc tp
  | none => .stuck
def dcE (mi : SE (List D)) (vs : List Nat) (tgt : D → Option (List D)) (is : List Nat) (mk mv : SE D) : SE D := fun env tp => (mi env tp).bind fun items tp1 => match foldR (dcTurn tgt is mk mv (wipeE env vs)) items [] tp1 with
  | .ok acc tp2 => .ok (.dic acc) tp2
  | _ => .stuck
def dcTurn2 (tgt : D → Option (List D)) (is : List Nat) (mi1 : SE (List D)) (vs1 : List Nat) (tgt1 : D → Option (List D)) (is1 : List Nat) (mk mv : SE D) (env : DEnv) (acc : List (D × D)) (d : D) (tp : List D) : RE (List (D × D)) := match tgt d with
  | some ds => (match mi1 (setAll env is ds) tp with
    | .ok items1 tp1 => foldR (dcTurn tgt1 is1 mk mv (wipeE (setAll env is ds) vs1)) items1 acc tp1
    | _ => .stuck)
  | none => .stuck
def dc2E (mi : SE (List D)) (vs : List Nat) (tgt : D → Option (List D)) (is : List Nat) (mi1 : SE (List D)) (vs1 : List Nat) (tgt1 : D → Option (List D)) (is1 : List Nat) (mk mv : SE D) : SE D := fun env tp => (mi env tp).bind fun items tp1 => match foldR (dcTurn2 tgt is mi1 vs1 tgt1 is1 mk mv (wipeE env vs)) items [] tp1 with
  | .ok acc tp2 => .ok (.dic acc) tp2
  | _ => .stuck
theorem foldR_cons {f : List (D × D) → D → List D → RE (List (D × D))} {d : D} {ds : List D} {acc z : List (D × D)} {tp tpE : List D} (h : foldR f (d :: ds) acc tp = .ok z tpE) : ∃ acc' tp', f acc d tp = .ok acc' tp' ∧ foldR f ds acc' tp' = .ok z tpE := by
  unfold foldR at h
  cases q : f acc d tp with
  | ok acc' tp' => rw [q] at h; exact ⟨acc', tp', rfl, h⟩
  | exn c fs t => rw [q] at h; cases h
  | stuck => rw [q] at h; cases h
theorem pairT_ok {mk mv : SE D} {env : DEnv} {acc z : List (D × D)} {tp tpE : List D} (h : pairT mk mv env acc tp = .ok z tpE) : ∃ k tp1 v q, mk env tp = .ok k tp1 ∧ mv env tp1 = .ok v tpE ∧ keyOf k = some q ∧ acc.length < sizeLine ∧ z = putP keyOf keyD acc q v := by
  unfold pairT at h
  cases q1 : mk env tp with
  | ok k tp1 =>
    rw [q1] at h
    simp only at h
    cases q2 : mv env tp1 with
    | ok v tp2 =>
      rw [q2] at h
      simp only at h
      unfold putR at h
      split at h
      · rename_i hl
        cases q3 : keyOf k with
        | some q =>
          rw [q3] at h
          simp only [RE.ok.injEq] at h
          obtain ⟨e1, e2⟩ := h
          subst e2
          exact ⟨k, tp1, v, q, rfl, q2, q3, hl, e1.symm⟩
        | none => rw [q3] at h; cases h
      · cases h
    | exn c fs t => rw [q2] at h; cases h
    | stuck => rw [q2] at h; cases h
  | exn c fs t => rw [q1] at h; cases h
  | stuck => rw [q1] at h; cases h
/-- what a turn's pair does to the world -/
theorem pair_sound {tk tv : TE} {mk mv : SE D} {Hs0 H0 Hs H : Hp} {σ : L2.St} {env : DEnv} {acc z : List (D × D)} {tp tpE : List D} {Dl : Addr} {kvs : List (Key × V)} {F : Hp → Prop}
    (hk : ∀ Hs0 H0 Hs H σ env tp Q, Rel K mg r O Hs0 H0 Hs H σ env tp → PostE K mg r E0 Hs H (mk env tp) Q → tk σ H Q)
    (hv : ∀ Hs0 H0 Hs H σ env tp Q, Rel K mg r O Hs0 H0 Hs H σ env tp → PostE K mg r E0 Hs H (mv env tp) Q → tv σ H Q)
    (R : Rel K mg r O Hs0 H0 Hs H σ env tp) (neD : Dl ≠ r) (fD : Hs Dl = none) (hD : H Dl = some (.dK kvs)) (rs : RepP K mg r Hs (kvs.map fun q => (keyD q.1, q.2)) acc) (h : pairT mk mv env acc tp = .ok z tpE)
    (next : ∀ Hs1 H1 q zv, Grow r Hs H Hs1 H1 → Wd K mg r Hs1 H1 tpE → Hs1 Dl = none → RepP K mg r Hs1 ((putK kvs q zv).map fun q => (keyD q.1, q.2)) z → F (upd H1 Dl (.dK (putK kvs q zv)))) :
    tk σ H fun y H9 => tv σ H9 fun b H10 => ∃ (kvs : List (Key × V)) (q : Key), y = kV q ∧ H10 Dl = some (.dK kvs) ∧ kvs.length < sizeLine ∧ F (upd H10 Dl (.dK (putK kvs q b))) := by
  obtain ⟨k, tp1, v, q, e1, e2, e3, hl, rfl⟩ := pairT_ok h
  refine hk _ _ _ _ _ _ _ _ R ?_
  rw [e1]
  intro y Hs1 H1 g1 w1 ry
  refine hv _ _ _ _ _ _ _ _ (R.grow g1 w1) ?_
  rw [e2]
  intro b Hs2 H2 g2 w2 rb
  have g := g1.trans g2
  refine ⟨kvs, q, repT_key (H := H1) ry.top e3, g.keep Dl _ hD neD, ?_, ?_⟩
  · have e := repP_len rs
    rw [List.length_map] at e
    omega
  · exact next Hs2 H2 q b g w2 (g.no fD hD neD) (put_rep keyOf_D rb (RepP.mono g.ex rs))
end
end G

set_option maxHeartbeats 1000000
/-! G12: dict comprehensions over data. -/
namespace G
open PySem PySem.Spec PyProof.Rows L2
section
variable {r : Addr} {X : Cx} {K : PySem.W.Frag} {mg : Str → Option Value} {O : List Nat} {E : XK} {tt : TT}
theorem dc_sound {wi : TI} {g : TG} {tk tv : TE} {is vs : List Nat} {tgt : D → Option (List D)} {mi : SE (List D)} {mk mv : SE D}
    (hi : ∀ Hs0 H0 Hs H σ env tp Q, Rel K mg r O Hs0 H0 Hs H σ env tp → Post K mg r (fun Hs _ J items => WalksD K mg r J Hs items) E Hs H (mi env tp) Q → wi σ H Q)
    (hg : ∀ v d ds Hs H tp σ (Q : L2.St → Hp → Prop), Wd K mg r Hs H tp → RepD K mg r Hs v d → tgt d = some ds → (∀ vs, RepDs K mg r Hs vs ds → vs.length = is.length → Q (setAll σ is vs) H) → g v σ H Q)
    (ht : ∀ Hs0 H0 Hs H σ env tp Q, Rel K mg r O Hs0 H0 Hs H σ env tp → PostB K mg r E0 Hs H (yesT env tp) Q → tt σ H Q)
    (hk : ∀ Hs0 H0 Hs H σ env tp Q, Rel K mg r O Hs0 H0 Hs H σ env tp → PostE K mg r E0 Hs H (mk env tp) Q → tk σ H Q)
    (hv : ∀ Hs0 H0 Hs H σ env tp Q, Rel K mg r O Hs0 H0 Hs H σ env tp → PostE K mg r E0 Hs H (mv env tp) Q → tv σ H Q)
    (hvs : ∀ i ∈ vs, i ∉ O) (his : ∀ i ∈ is, i ∈ vs) :
    ∀ Hs0 H0 Hs H σ env tp Q, Rel K mg r O Hs0 H0 Hs H σ env tp → Post K mg r (Fresh K mg r H) E Hs H (dcE mi vs tgt is mk mv env tp) Q → tDc wi g tt tk tv vs σ H Q := by
  intro Hs0 H0 Hs H σ env tp Q R P
  refine hi _ _ _ _ _ _ _ _ R ?_
  unfold dcE at P
  cases q : mi env tp with
  | stuck => rw [q] at P; exact P.elim
  | exn cc fs tp1 => rw [q] at P; exact P
  | ok items tp1 =>
    rw [q] at P
    intro J Hs1 H1 ga w1 wd Dl hD
    simp only [RE.bind_ok] at P
    cases q2 : foldR (dcTurn tgt is mk mv (wipeE env vs)) items [] tp1 with
    | stuck => rw [q2] at P; exact P.elim
    | exn cc fs tp2 => rw [q2] at P; exact P.elim
    | ok all tpE =>
      rw [q2] at P
      have P : ∀ v Hs' H', Grow r Hs H Hs' H' → Wd K mg r Hs' H' tpE → Fresh K mg r H Hs' H' v (.dic all) → Q v H' := P
      obtain ⟨Gd, Y, wk, hG, hY⟩ := wd
      have R1 := R.grow ga w1
      obtain ⟨fD, neD⟩ := w1.fresh hD
      have h0D : H Dl = none := by
        cases z : H Dl with
        | none => rfl
        | some u => rw [ga.keep Dl u z neD] at hD; cases hD
      have Rw := R1.wiped vs hvs
      obtain ⟨gl, wl⟩ := w1.lay (o := .dK []) hD
      obtain ⟨n1, n2⟩ := R.new_ne h0D neD
      have n3 : ∀ j ∈ O, (wipeE σ vs)[j]? ≠ some (some (.ref Dl)) := fun j hj z => n2 j hj (by rw [← z, wipe_get fun q => hvs j q hj])
      have hisO : ∀ i ∈ is, i ∉ O := fun i hi => hvs i (his i hi)
      let Pv : Nat → Hp → Prop := fun i H' => ∃ Hs2 kvs acc tp, Rel K mg r O Hs0 H0 Hs2 H' (wipeE σ vs) (wipeE env vs) tp ∧ Same Hs1 Hs2 ∧ Grow r Hs H Hs2 H' ∧ Hs2 Dl = none ∧ H' Dl = some (.dK kvs) ∧ RepP K mg r Hs2 (kvs.map fun q => (keyD q.1, q.2)) acc ∧
        foldR (dcTurn tgt is mk mv (wipeE env vs)) (items.drop i) acc tp = .ok all tpE
      have p0 : Pv 0 (upd H1 Dl (.dK [])) := ⟨Hs1, [], [], tp1, Rw.grow gl wl, Same.refl _, ga.trans gl, fD, upd_same, .nil, q2⟩
      refine ⟨fun i n H' => n = items.length - i ∧ i ≤ items.length ∧ Pv i H', ⟨items.length, by simp, Nat.zero_le _, p0⟩, ?_⟩
      rintro i n H2 ⟨rfl, hil, Hs2, kvs, acc, tp2, R2, e2, g2, f2, hD2, rs2, hc2⟩
      have gd := hG Hs2 H2 e2 R2.wd.sub
      by_cases hi2 : i < items.length
      case neg =>
        have e : i = items.length := by omega
        subst e
        refine .inl ⟨wk.stops _ gd, ?_⟩
        rw [List.drop_length] at hc2
        unfold foldR at hc2
        simp only [RE.ok.injEq] at hc2
        obtain ⟨hx, htp⟩ := hc2
        subst hx htp
        exact P _ Hs2 H2 g2 R2.wd ⟨Dl, rfl, h0D, f2, neD, kvs, hD2, rs2⟩
      refine .inr ⟨wk.goes i H2 hi2 gd, Pv (i + 1), fun H' p' => ⟨items.length - (i + 1), by omega, rfl, hi2, p'⟩, fun x H3 yy => ?_⟩
      obtain ⟨Hs3, d, g3, w3, hd, rd⟩ := hY i Hs2 H2 tp2 x H3 hi2 e2 R2.wd (wk.yields i H2 x H3 hi2 gd yy)
      rw [List.drop_eq_getElem_cons hi2] at hc2
      have hd' : items[i] = d := by rw [List.getElem?_eq_getElem hi2] at hd; exact Option.some.inj hd
      rw [hd'] at hc2
      obtain ⟨acc', tpI, hf, hrest⟩ := foldR_cons hc2
      unfold dcTurn at hf
      cases qt : tgt d with
      | none => rw [qt] at hf; cases hf
      | some es =>
        rw [qt] at hf
        simp only at hf
        rw [wipe_eq]
        refine hg x d es Hs3 H3 tp2 _ _ w3 rd qt fun ws rs hl => ⟨by rw [wipe_eq, wipe_setAll is _ _ his, wipe_wipe vs fun _ h => h], ?_⟩
        have R3 := rel_setAll is _ _ _ _ (R2.grow g3 w3) hisO rs hl
        have f3 := g3.no f2 hD2 neD
        have hD3 := g3.keep Dl _ hD2 neD
        refine ht _ _ _ _ _ _ _ _ R3 fun v Hs4 H4 g4 w4 ev => ?_
        subst ev
        have f4 := g4.no f3 hD3 neD
        have hD4 := g4.keep Dl _ hD3 neD
        refine iteT (pair_sound (F := Pv (i + 1)) hk hv (R3.grow g4 w4) neD f4 hD4 (RepP.mono (g3.ex.trans g4.ex) rs2) hf fun Hs5 H5 q zv g5 w5 f5 rp => ?_)
        have e5 := g3.ex.trans (g4.ex.trans g5.ex)
        exact ⟨Hs5, _, acc', tpI, (R2.grow (g3.trans (g4.trans g5)) w5).other f5 n1 neD n3, e2.trans e5, (g2.trans (g3.trans (g4.trans g5))).other h0D, f5, upd_same, rp, hrest⟩
theorem gf_dc {kx vx tg iter : Expr} {scope : Scope} {own : List (Str × Nat)} {pos : Pos} {wi : TI} {g : TG} {tk tv : TE} {is : List Nat} {tgt : D → Option (List D)} {mi : SE (List D)} {mk mv : SE D} (hc : X.calm = true) (hN : X.N.Nodup) (hi : GI K mg r X O E tg iter wi mi) (ok : BlkOk X.N X.env.scope scope own)
    (hg : ∀ s H C cl fp, GG K mg r (Dc2.BX X scope s H C cl fp) tg g is tgt) (ht : ∀ s H C cl fp, GTs K mg r (Dc2.BX X scope s H C cl fp) O E0 [] tt yesT)
    (hk : ∀ s H C cl fp, GE K mg r (Dc2.BX X scope s H C cl fp) O E0 kx tk mk) (hv : ∀ s H C cl fp, GE K mg r (Dc2.BX X scope s H C cl fp) O E0 vx tv mv)
    (hvs : ∀ i ∈ own.map (·.2), i ∉ O) (his : ∀ i ∈ is, i ∈ own.map (·.2)) (hs : ∀ x, foldedSetIterable iter X.env x = pure x := by intro _; rfl) :
    GF K mg r X O E (.DictComp kx vx [⟨tg, iter, [], 0⟩] scope pos) (tDc wi g tt tk tv (own.map (·.2))) (dcE mi (own.map (·.2)) tgt is mk mv) :=
  ⟨pe_dc hc hN hi.pe ok (fun s H C cl fp => (hg s H C cl fp).pe) (fun s H C cl fp => (ht s H C cl fp).pe) (fun s H C cl fp => (hk s H C cl fp).pe) (fun s H C cl fp => (hv s H C cl fp).pe) hs,
    dc_sound hi.snd (hg X.s_0 X.H_0 0 [] []).snd (ht X.s_0 X.H_0 0 [] []).snd (hk X.s_0 X.H_0 0 [] []).snd (hv X.s_0 X.H_0 0 [] []).snd hvs his⟩
theorem dc_stmt {i : Nat} {y : Str} {py : Pos} {kx vx tg iter : Expr} {scope : Scope} {own : List (Str × Nat)} {pos spos : Pos} {wi : TI} {g : TG} {tk tv : TE} {is : List Nat} {tgt : D → Option (List D)} {mi : SE (List D)} {mk mv : SE D} (hc : X.calm = true) (hN : X.N.Nodup) (hi : GI K mg r X O E tg iter wi mi) (ok : BlkOk X.N X.env.scope scope own)
    (hg : ∀ s H C cl fp, GG K mg r (Dc2.BX X scope s H C cl fp) tg g is tgt) (ht : ∀ s H C cl fp, GTs K mg r (Dc2.BX X scope s H C cl fp) O E0 [] tt yesT)
    (hk : ∀ s H C cl fp, GE K mg r (Dc2.BX X scope s H C cl fp) O E0 kx tk mk) (hv : ∀ s H C cl fp, GE K mg r (Dc2.BX X scope s H C cl fp) O E0 vx tv mv)
    (hvs : ∀ i ∈ own.map (·.2), i ∉ O) (his : ∀ i ∈ is, i ∈ own.map (·.2)) (hy : X.N[i]? = some y := by rfl) (hyl : X.env.scope.names.lookup y = some .local := by rfl)
    (hsw : swapsWith (.DictComp kx vx [⟨tg, iter, [], 0⟩] scope pos) (some (.Name y py)) spos.line X.env = pure true := by rfl) (hs : ∀ x, foldedSetIterable iter X.env x = pure x := by intro _; rfl) :
    PS X (.Assign [.Name y py] (.DictComp kx vx [⟨tg, iter, [], 0⟩] scope pos) spos) (tAsg (tDc wi g tt tk tv (own.map (·.2))) (gName i)) ∧
    ∀ Hs0 H0 Hs H σ env tp Q, Rel K mg r O Hs0 H0 Hs H σ env tp → Post K mg r (Fresh K mg r H) E Hs H (dcE mi (own.map (·.2)) tgt is mk mv env tp) Q → tDc wi g tt tk tv (own.map (·.2)) σ H Q :=
  ⟨Dc2.ps_setDcOne hc hN hy hyl hsw hi.pe ok (fun s H C cl fp => (hg s H C cl fp).pe) (fun s H C cl fp => (ht s H C cl fp).pe) (fun s H C cl fp => (hk s H C cl fp).pe) (fun s H C cl fp => (hv s H C cl fp).pe) hs,
    dc_sound hi.snd (hg X.s_0 X.H_0 0 [] []).snd (ht X.s_0 X.H_0 0 [] []).snd (hk X.s_0 X.H_0 0 [] []).snd (hv X.s_0 X.H_0 0 [] []).snd hvs his⟩
theorem dc2_sound {wi wi1 : TI} {g g1 : TG} {tk tv : TE} {is vs is1 vs1 : List Nat} {tgt tgt1 : D → Option (List D)} {mi mi1 : SE (List D)} {mk mv : SE D}
    (hi : ∀ Hs0 H0 Hs H σ env tp Q, Rel K mg r O Hs0 H0 Hs H σ env tp → Post K mg r (fun Hs _ J items => WalksD K mg r J Hs items) E Hs H (mi env tp) Q → wi σ H Q)
    (hg : ∀ v d ds Hs H tp σ (Q : L2.St → Hp → Prop), Wd K mg r Hs H tp → RepD K mg r Hs v d → tgt d = some ds → (∀ vs, RepDs K mg r Hs vs ds → vs.length = is.length → Q (setAll σ is vs) H) → g v σ H Q)
    (hi1 : ∀ Hs0 H0 Hs H σ env tp Q, Rel K mg r O Hs0 H0 Hs H σ env tp → Post K mg r (fun Hs _ J items => WalksD K mg r J Hs items) E0 Hs H (mi1 env tp) Q → wi1 σ H Q)
    (hg1 : ∀ v d ds Hs H tp σ (Q : L2.St → Hp → Prop), Wd K mg r Hs H tp → RepD K mg r Hs v d → tgt1 d = some ds → (∀ vs, RepDs K mg r Hs vs ds → vs.length = is1.length → Q (setAll σ is1 vs) H) → g1 v σ H Q)
    (hk : ∀ Hs0 H0 Hs H σ env tp Q, Rel K mg r O Hs0 H0 Hs H σ env tp → PostE K mg r E0 Hs H (mk env tp) Q → tk σ H Q)
    (hv : ∀ Hs0 H0 Hs H σ env tp Q, Rel K mg r O Hs0 H0 Hs H σ env tp → PostE K mg r E0 Hs H (mv env tp) Q → tv σ H Q)
    (hvs : ∀ i ∈ vs, i ∉ O) (his : ∀ i ∈ is, i ∈ vs) (hv1 : ∀ i ∈ vs1, i ∈ vs) (his1 : ∀ i ∈ is1, i ∈ vs1) :
    ∀ Hs0 H0 Hs H σ env tp Q, Rel K mg r O Hs0 H0 Hs H σ env tp → Post K mg r (Fresh K mg r H) E Hs H (dc2E mi vs tgt is mi1 vs1 tgt1 is1 mk mv env tp) Q → Dc2.wants wi g wi1 g1 tk tv vs vs1 σ H Q := by
  intro Hs0 H0 Hs H σ env tp Q R P
  refine hi _ _ _ _ _ _ _ _ R ?_
  unfold dc2E at P
  cases q : mi env tp with
  | stuck => rw [q] at P; exact P.elim
  | exn cc fs tp1 => rw [q] at P; exact P
  | ok items tp1 =>
    rw [q] at P
    intro J Hs1 H1 ga w1 wd Dl hD
    simp only [RE.bind_ok] at P
    cases q2 : foldR (dcTurn2 tgt is mi1 vs1 tgt1 is1 mk mv (wipeE env vs)) items [] tp1 with
    | stuck => rw [q2] at P; exact P.elim
    | exn cc fs tp2 => rw [q2] at P; exact P.elim
    | ok all tpE =>
      rw [q2] at P
      have P : ∀ v Hs' H', Grow r Hs H Hs' H' → Wd K mg r Hs' H' tpE → Fresh K mg r H Hs' H' v (.dic all) → Q v H' := P
      obtain ⟨Gd, Y, wk, hG, hY⟩ := wd
      have R1 := R.grow ga w1
      obtain ⟨fD, neD⟩ := w1.fresh hD
      have h0D : H Dl = none := by
        cases z : H Dl with
        | none => rfl
        | some u => rw [ga.keep Dl u z neD] at hD; cases hD
      have Rw := R1.wiped vs hvs
      obtain ⟨gl, wl⟩ := w1.lay (o := .dK []) hD
      obtain ⟨n1, n2⟩ := R.new_ne h0D neD
      have n3 : ∀ j ∈ O, (wipeE σ vs)[j]? ≠ some (some (.ref Dl)) := fun j hj z => n2 j hj (by rw [← z, wipe_get fun q => hvs j q hj])
      have hisO : ∀ i ∈ is, i ∉ O := fun i hi => hvs i (his i hi)
      have hv1O : ∀ i ∈ vs1, i ∉ O := fun i hi => hvs i (hv1 i hi)
      have his1O : ∀ i ∈ is1, i ∉ O := fun i hi => hv1O i (his1 i hi)
      let Pv : Nat → Hp → Prop := fun i H' => ∃ Hs2 kvs acc tp, Rel K mg r O Hs0 H0 Hs2 H' (wipeE σ vs) (wipeE env vs) tp ∧ Same Hs1 Hs2 ∧ Grow r Hs H Hs2 H' ∧ Hs2 Dl = none ∧ H' Dl = some (.dK kvs) ∧ RepP K mg r Hs2 (kvs.map fun q => (keyD q.1, q.2)) acc ∧
        foldR (dcTurn2 tgt is mi1 vs1 tgt1 is1 mk mv (wipeE env vs)) (items.drop i) acc tp = .ok all tpE
      have p0 : Pv 0 (upd H1 Dl (.dK [])) := ⟨Hs1, [], [], tp1, Rw.grow gl wl, Same.refl _, ga.trans gl, fD, upd_same, .nil, q2⟩
      refine ⟨fun i n H' => n = items.length - i ∧ i ≤ items.length ∧ Pv i H', ⟨items.length, by simp, Nat.zero_le _, p0⟩, ?_⟩
      rintro i n H2 ⟨rfl, hil, Hs2, kvs, acc, tp2, R2, e2, g2, f2, hD2, rs2, hc2⟩
      have gd := hG Hs2 H2 e2 R2.wd.sub
      by_cases hi2 : i < items.length
      case neg =>
        have e : i = items.length := by omega
        subst e
        refine .inl ⟨wk.stops _ gd, ?_⟩
        rw [List.drop_length] at hc2
        unfold foldR at hc2
        simp only [RE.ok.injEq] at hc2
        obtain ⟨hx, htp⟩ := hc2
        subst hx htp
        exact P _ Hs2 H2 g2 R2.wd ⟨Dl, rfl, h0D, f2, neD, kvs, hD2, rs2⟩
      refine .inr ⟨wk.goes i H2 hi2 gd, Pv (i + 1), fun H' p' => ⟨items.length - (i + 1), by omega, rfl, hi2, p'⟩, fun x H3 yy => ?_⟩
      obtain ⟨Hs3, d, g3, w3, hd, rd⟩ := hY i Hs2 H2 tp2 x H3 hi2 e2 R2.wd (wk.yields i H2 x H3 hi2 gd yy)
      rw [List.drop_eq_getElem_cons hi2] at hc2
      have hd' : items[i] = d := by rw [List.getElem?_eq_getElem hi2] at hd; exact Option.some.inj hd
      rw [hd'] at hc2
      obtain ⟨accT, tpI, hf, hrest⟩ := foldR_cons hc2
      unfold dcTurn2 at hf
      cases qt : tgt d with
      | none => rw [qt] at hf; cases hf
      | some es =>
        rw [qt] at hf
        simp only at hf
        rw [wipe_eq]
        refine hg x d es Hs3 H3 tp2 _ _ w3 rd qt fun ws rs hl => ⟨by rw [wipe_eq, wipe_setAll is _ _ his, wipe_wipe vs fun _ h => h], ?_⟩
        have R3 := rel_setAll is _ _ _ _ (R2.grow g3 w3) hisO rs hl
        have f3 := g3.no f2 hD2 neD
        have hD3 := g3.keep Dl _ hD2 neD
        refine hi1 _ _ _ _ _ _ _ _ R3 ?_
        cases qi : mi1 (setAll (wipeE env vs) is es) tp2 with
        | stuck => rw [qi] at hf; cases hf
        | exn cc fs tp5 => rw [qi] at hf; cases hf
        | ok items1 tpi =>
          rw [qi] at hf
          simp only at hf
          intro J1 Hs5 H5 g5 w5 wd1
          obtain ⟨Gd1, Y1, wk1, hG1, hY1⟩ := wd1
          have f5 := g5.no f3 hD3 neD
          have hD5 := g5.keep Dl _ hD3 neD
          have e5 := g3.ex.trans g5.ex
          have R5 := R3.grow g5 w5
          have Rb5 := R5.wiped vs1 hv1O
          have n3b : ∀ j ∈ O, (wipeE (setAll (wipeE σ vs) is ws) vs1)[j]? ≠ some (some (.ref Dl)) := fun j hj z => n3 j hj (by
            rw [← z, wipe_get fun q => hv1O j q hj, setAll_get is _ ws fun q => hisO j q hj])
          let Pv1 : Nat → Hp → Prop := fun j H' => ∃ Hs6 kvs' acc' tp', Rel K mg r O Hs0 H0 Hs6 H' (wipeE σ vs) (wipeE env vs) tp' ∧ Rel K mg r O Hs0 H0 Hs6 H' (wipeE (setAll (wipeE σ vs) is ws) vs1) (wipeE (setAll (wipeE env vs) is es) vs1) tp' ∧ Same Hs5 Hs6 ∧ Same Hs1 Hs6 ∧ Grow r Hs H Hs6 H' ∧ Hs6 Dl = none ∧ H' Dl = some (.dK kvs') ∧ RepP K mg r Hs6 (kvs'.map fun q => (keyD q.1, q.2)) acc' ∧
            foldR (dcTurn tgt1 is1 mk mv (wipeE (setAll (wipeE env vs) is es) vs1)) (items1.drop j) acc' tp' = .ok accT tpI
          have p1 : Pv1 0 H5 := ⟨Hs5, kvs, acc, tpi, R2.grow (g3.trans g5) w5, Rb5, Same.refl _, e2.trans e5, g2.trans (g3.trans g5), f5, hD5, RepP.mono e5 rs2, hf⟩
          refine ⟨fun j k H' => k = items1.length - j ∧ j ≤ items1.length ∧ Pv1 j H', ⟨items1.length, by simp, Nat.zero_le _, p1⟩, ?_⟩
          rintro j k H6 ⟨rfl, hjl, Hs6, kvs6, acc6, tp6, Ra6, Rb6, es6, e6, g6, f6, hD6, rs6, hc6⟩
          have gd1 := hG1 Hs6 H6 es6 Ra6.wd.sub
          by_cases hj2 : j < items1.length
          case neg =>
            have e : j = items1.length := by omega
            subst e
            refine .inl ⟨wk1.stops _ gd1, ?_⟩
            rw [List.drop_length] at hc6
            unfold foldR at hc6
            simp only [RE.ok.injEq] at hc6
            obtain ⟨hx, htp⟩ := hc6
            subst hx htp
            exact ⟨Hs6, kvs6, acc6, tp6, Ra6, e6, g6, f6, hD6, rs6, hrest⟩
          refine .inr ⟨wk1.goes j H6 hj2 gd1, Pv1 (j + 1), fun H' p' => ⟨items1.length - (j + 1), by omega, rfl, hj2, p'⟩, fun x1 H7 yy1 => ?_⟩
          obtain ⟨Hs7, d1, g7, w7, hd1, rd1⟩ := hY1 j Hs6 H6 tp6 x1 H7 hj2 es6 Ra6.wd (wk1.yields j H6 x1 H7 hj2 gd1 yy1)
          rw [List.drop_eq_getElem_cons hj2] at hc6
          have hd1' : items1[j] = d1 := by rw [List.getElem?_eq_getElem hj2] at hd1; exact Option.some.inj hd1
          rw [hd1'] at hc6
          obtain ⟨acc8, tp8, hf1, hrest1⟩ := foldR_cons hc6
          unfold dcTurn at hf1
          cases qt1 : tgt1 d1 with
          | none => rw [qt1] at hf1; cases hf1
          | some es1 =>
            rw [qt1] at hf1
            simp only at hf1
            rw [wipe_eq]
            refine hg1 x1 d1 es1 Hs7 H7 tp6 _ _ w7 rd1 qt1 fun ws1 rs1 hl1 => ⟨by rw [wipe_eq, wipe_setAll is1 _ _ his1, wipe_wipe vs1 fun _ h => h], ?_⟩
            have R7 := rel_setAll is1 _ _ _ _ (Rb6.grow g7 w7) his1O rs1 hl1
            have f7 := g7.no f6 hD6 neD
            have hD7 := g7.keep Dl _ hD6 neD
            refine pair_sound (F := Pv1 (j + 1)) hk hv R7 neD f7 hD7 (RepP.mono g7.ex rs6) hf1 fun Hs9 H9 q zv g9 w9 f9 rp => ?_
            have e9 := g7.ex.trans g9.ex
            exact ⟨Hs9, _, acc8, tp8, (Ra6.grow (g7.trans g9) w9).other f9 n1 neD n3, (Rb6.grow (g7.trans g9) w9).other f9 n1 neD n3b, es6.trans e9, e6.trans e9, (g6.trans (g7.trans g9)).other h0D, f9, upd_same, rp, hrest1⟩
theorem gf_dc2 {kx vx tg iter tg1 iter1 : Expr} {scope : Scope} {own : List (Str × Nat)} {pos : Pos} {wi wi1 : TI} {g g1 : TG} {tk tv : TE} {is is1 vs1 : List Nat} {tgt tgt1 : D → Option (List D)} {mi mi1 : SE (List D)} {mk mv : SE D} (hc : X.calm = true) (hN : X.N.Nodup) (hi : GI K mg r X O E tg iter wi mi) (ok : BlkOk X.N X.env.scope scope own)
    (hg : ∀ s H C cl fp, GG K mg r (Dc2.BX X scope s H C cl fp) tg g is tgt) (hi1 : ∀ s H C cl fp, GI K mg r (Dc2.BX X scope s H C cl fp) O E0 tg1 iter1 wi1 mi1) (hg1 : ∀ s H C cl fp, GG K mg r (Dc2.BX X scope s H C cl fp) tg1 g1 is1 tgt1)
    (hk : ∀ s H C cl fp, GE K mg r (Dc2.BX X scope s H C cl fp) O E0 kx tk mk) (hv : ∀ s H C cl fp, GE K mg r (Dc2.BX X scope s H C cl fp) O E0 vx tv mv)
    (hvs : ∀ i ∈ own.map (·.2), i ∉ O) (his : ∀ i ∈ is, i ∈ own.map (·.2)) (hv1 : ∀ i ∈ vs1, i ∈ own.map (·.2)) (his1 : ∀ i ∈ is1, i ∈ vs1) (hs : ∀ x, foldedSetIterable iter X.env x = pure x := by intro _; rfl) (hs1 : ∀ env x, foldedSetIterable iter1 env x = pure x := by intro _ _; rfl) :
    GF K mg r X O E (.DictComp kx vx [⟨tg, iter, [], 0⟩, ⟨tg1, iter1, [], 0⟩] scope pos) (Dc2.wants wi g wi1 g1 tk tv (own.map (·.2)) vs1) (dc2E mi (own.map (·.2)) tgt is mi1 vs1 tgt1 is1 mk mv) :=
  ⟨Dc2.pe_dcTwo hc hN hi.pe ok hv1 (fun s H C cl fp => (hg s H C cl fp).pe) (fun s H C cl fp => (hi1 s H C cl fp).pe) (fun s H C cl fp => (hg1 s H C cl fp).pe) (fun s H C cl fp => (hk s H C cl fp).pe) (fun s H C cl fp => (hv s H C cl fp).pe) hs hs1,
    dc2_sound hi.snd (hg X.s_0 X.H_0 0 [] []).snd (hi1 X.s_0 X.H_0 0 [] []).snd (hg1 X.s_0 X.H_0 0 [] []).snd (hk X.s_0 X.H_0 0 [] []).snd (hv X.s_0 X.H_0 0 [] []).snd hvs his hv1 his1⟩
theorem dc2_stmt {i : Nat} {y : Str} {py : Pos} {kx vx tg iter tg1 iter1 : Expr} {scope : Scope} {own : List (Str × Nat)} {pos spos : Pos} {wi wi1 : TI} {g g1 : TG} {tk tv : TE} {is is1 vs1 : List Nat} {tgt tgt1 : D → Option (List D)} {mi mi1 : SE (List D)} {mk mv : SE D} (hc : X.calm = true) (hN : X.N.Nodup) (hi : GI K mg r X O E tg iter wi mi) (ok : BlkOk X.N X.env.scope scope own)
    (hg : ∀ s H C cl fp, GG K mg r (Dc2.BX X scope s H C cl fp) tg g is tgt) (hi1 : ∀ s H C cl fp, GI K mg r (Dc2.BX X scope s H C cl fp) O E0 tg1 iter1 wi1 mi1) (hg1 : ∀ s H C cl fp, GG K mg r (Dc2.BX X scope s H C cl fp) tg1 g1 is1 tgt1)
    (hk : ∀ s H C cl fp, GE K mg r (Dc2.BX X scope s H C cl fp) O E0 kx tk mk) (hv : ∀ s H C cl fp, GE K mg r (Dc2.BX X scope s H C cl fp) O E0 vx tv mv)
    (hvs : ∀ i ∈ own.map (·.2), i ∉ O) (his : ∀ i ∈ is, i ∈ own.map (·.2)) (hv1 : ∀ i ∈ vs1, i ∈ own.map (·.2)) (his1 : ∀ i ∈ is1, i ∈ vs1) (hy : X.N[i]? = some y := by rfl) (hyl : X.env.scope.names.lookup y = some .local := by rfl)
    (hsw : swapsWith (.DictComp kx vx [⟨tg, iter, [], 0⟩, ⟨tg1, iter1, [], 0⟩] scope pos) (some (.Name y py)) spos.line X.env = pure true := by rfl) (hs : ∀ x, foldedSetIterable iter X.env x = pure x := by intro _; rfl) (hs1 : ∀ env x, foldedSetIterable iter1 env x = pure x := by intro _ _; rfl) :
    PS X (.Assign [.Name y py] (.DictComp kx vx [⟨tg, iter, [], 0⟩, ⟨tg1, iter1, [], 0⟩] scope pos) spos) (tAsg (Dc2.wants wi g wi1 g1 tk tv (own.map (·.2)) vs1) (gName i)) ∧
    ∀ Hs0 H0 Hs H σ env tp Q, Rel K mg r O Hs0 H0 Hs H σ env tp → Post K mg r (Fresh K mg r H) E Hs H (dc2E mi (own.map (·.2)) tgt is mi1 vs1 tgt1 is1 mk mv env tp) Q → Dc2.wants wi g wi1 g1 tk tv (own.map (·.2)) vs1 σ H Q :=
  ⟨Dc2.ps_setDcTwo hc hN hy hyl hsw hi.pe ok hv1 (fun s H C cl fp => (hg s H C cl fp).pe) (fun s H C cl fp => (hi1 s H C cl fp).pe) (fun s H C cl fp => (hg1 s H C cl fp).pe) (fun s H C cl fp => (hk s H C cl fp).pe) (fun s H C cl fp => (hv s H C cl fp).pe) hs hs1,
    dc2_sound hi.snd (hg X.s_0 X.H_0 0 [] []).snd (hi1 X.s_0 X.H_0 0 [] []).snd (hg1 X.s_0 X.H_0 0 [] []).snd (hk X.s_0 X.H_0 0 [] []).snd (hv X.s_0 X.H_0 0 [] []).snd hvs his hv1 his1⟩
end
end G

set_option maxHeartbeats 1000000
/-! G13: index of a list of ints. -/
namespace G
open PySem PySem.Spec PyProof.Rows L2
section
variable {r : Addr} {X : Cx} {K : PySem.W.Frag} {mg : Str → Option Value} {O : List Nat} {E : XK} {e e2 a b : Expr} {ts : TA} {ta tb : TE} {p pos : Pos} {ms : SE (List D)}
def indexD (d e : D) : Option D := match d, e with
  | .lst xs, .int i => (unI xs).bind fun ns => if ns.findIdx (fun n => decide (n = i)) < ns.length then some (.int ((ns.findIdx (fun n => decide (n = i)) : Nat) : Int)) else none
  | _, _ => none
theorem ms_index : MethS K mg r (rIndex K) indexD := by
  intro Hs H tp x y d e z Q w rx ry hz k
  unfold indexD at hz
  split at hz
  · rename_i xs i
    obtain ⟨ns, h1, h2⟩ := Option.bind_eq_some_iff.mp hz
    split at h2
    · rename_i hlt
      cases h2
      rw [unI_ok h1] at rx
      obtain ⟨p, rfl, h3⟩ := lst_typed RepDs.ints_of w rx
      have ey : y = V.int i := repT_int ry
      subst ey
      refine ⟨p, ns.map V.int, V.int i, ns.findIdx (fun n => decide (n = i)), V.int i, rfl, rfl, .of h3, rfl, ?_, ?_, ?_, ?_, k _ _ _ (Grow.refl _ _) w (.int _)⟩
      · rw [List.all_map]; exact List.all_eq_true.mpr fun n _ => rfl
      · have g := List.findIdx_getElem (w := hlt)
        rw [List.getElem?_map, List.getElem?_eq_getElem hlt]
        have g := of_decide_eq_true g
        rw [g]; rfl
      · simp [eqV]
      · intro m z' hm hz'
        rw [List.getElem?_map] at hz'
        obtain ⟨n, hn, rfl⟩ := Option.map_eq_some_iff.mp hz'
        have g := List.not_of_lt_findIdx hm
        obtain ⟨hl, e⟩ := List.getElem?_eq_some_iff.mp hn
        rw [e] at g
        have g := of_decide_eq_false g
        simp [eqV, g]
    · cases h2
  · cases hz
theorem ge_index {ma mb : SE D} {p1 : Pos} (ha : GO K mg r X O E a ta ma) (hb : GO K mg r X O E b tb mb) (hK : X.K = K := by rfl)
    (hbase : attributeBase a "index" X.env (eval a X.env) = eval a X.env := by rfl)
    (hfew : ((backTo pos (starEach [b] X.env)).all (fun x => !x.1) && (backToKw pos (keywordEach [] X.env)).all (fun x => x.1.isSome) && decide ([b].length + ([] : List Keyword).length + (if ([] : List Keyword).isEmpty then 0 else 1) < 30)) = true := by rfl)
    (hline : (p1.endLine == pos.line) = true := by rfl) (hs : starEach [b] X.env = (false, eval b X.env) :: starEach [] X.env := by rfl) (hplain : (backTo pos (starEach [] X.env)).any (·.1) = false := by rfl) :
    GE K mg r X O E (.Call (.Attribute a "index" p1) [b] [] pos) (tBM K "list" (rIndex K) ta (tCons tb tNil)) (methE isLstD indexD ma mb) := by
  subst hK
  exact ge_m1 PySem.F.plainAttrs_list PySem.F.slot_list_index PySem.F.type_list_index mt_index (fun _ _ _ _ _ => ty_lst) ms_index ha hb rfl hbase hfew hline hs hplain
end
end G

set_option maxHeartbeats 1000000
/-! G14: sorted of a list of tuples of texts. -/
namespace G
open PySem PySem.Spec PyProof.Rows L2
/-- the key of a tuple of texts -/
def kTx (ss : List Str) : List (Int ⊕ List Nat) := ss.map fun x => .inr x.cps.toList
def ltTx (a b : List Str) : Bool := lexLt itemOrd (kTx a) (kTx b)
def rSortTx (K : PySem.W.Frag) : List V → Hp → VK → Prop := fun vs H Q => ∃ (a : Addr) (xs : List V) (k : V → List Str), vs = [V.ref a] ∧ SqL K H a xs ∧ (∀ x ∈ xs, ∃ t, x = V.ref t ∧ k x ≠ [] ∧ H t = some (.tup ((k x).map V.str))) ∧
  ∀ ys p, ys.Perm xs → ys.Pairwise (fun x y => ltTx (k y) (k x) = false) → H p = none → Q (.ref p) (upd H p (.lst ys))
theorem tx_items : ∀ {ss : List Str} {us : List Value} (i : Nat), Vals (ss.map V.str) us → tupItems (fun _ => true) i us = some (kTx ss)
  | [], _, i, .nil => rfl
  | s :: ss, _ :: us, i, .cons r t => by
    obtain ⟨u, rfl⟩ := r
    have ih := tx_items (ss := ss) (i + 1) t
    show (if True then (tupItems (fun _ => true) (i + 1) us).map (Sum.inr s.cps.toList :: ·) else none) = _
    rw [if_pos trivial, ih]; rfl
theorem tx_key {h : Heap} {a : Addr} {o : Obj} {xs : Array Value} {n : Nat} {l : List (Int ⊕ List Nat)} (ho : h.get? a = some o) (hc : o.cls = .type "tuple") (hd : o.data = .seq xs n)
    (hi : tupItems (fun _ => true) 0 xs.toList = some l) : PyProof.Rows.G.tupKeyC h (fun _ => true) (.ref a) = some l := by
  unfold PyProof.Rows.G.tupKeyC
  have e1 : PyProof.Rows.G.isTupObj h (.ref a) = true := by simp [PyProof.Rows.G.isTupObj, ho, hc]
  rw [if_pos e1]
  simp only [tupKey, ho, hd]
  exact hi
/-- a tuple of texts at a value -/
def TxAt (h : Heap) (v : Value) (ss : List Str) : Prop := ∃ t o us n, v = Value.ref t ∧ h.get? t = some o ∧ o.cls = .type "tuple" ∧ o.data = .seq (List.toArray us) n ∧ Vals (ss.map V.str) us ∧ ss ≠ []
theorem tx_firsts {h : Heap} : ∀ {vs : List Value}, (∀ v ∈ vs, ∃ ss, TxAt h v ss) → ∃ fs, TupsOf h (fun _ => true) vs fs
  | [], _ => ⟨[], .nil⟩
  | v :: vs, hp => by
    obtain ⟨fs, h1⟩ := tx_firsts (vs := vs) fun v' hm => hp v' (List.mem_cons_of_mem _ hm)
    obtain ⟨ss, t, o, us, n, e, ho, hc, hd, hv, ne⟩ := hp v List.mem_cons_self
    cases ss with
    | nil => exact (ne rfl).elim
    | cons s ss =>
      cases hv with
      | cons r q =>
        rename_i u us
        obtain ⟨tk, rfl⟩ := r
        exact ⟨Value.str s tk :: fs, .cons ⟨t, o, _, n, e, ho, hc, hd, by simp, (fun z => by cases z), fun _ => ⟨s, tk, rfl⟩⟩ h1⟩
section
variable {X : Cx}
theorem cr_sortTx : CallR X (.builtin "sorted") (rSortTx X.K) := by
  intro pins s σ H vs us Q I r h
  obtain ⟨a, xs, k, rfl, hs, hx, q⟩ := h
  obtain ⟨its, rv, hl, hz⟩ := I.list hs
  obtain ⟨u, rfl, ru⟩ := vals1 r
  obtain rfl : u = Value.ref a := ru
  obtain ⟨e1, e2⟩ := refs_back rv fun x m => by
    obtain ⟨t, e, _⟩ := hx x m
    exact ⟨t, e⟩
  have tx : ∀ v ∈ its, TxAt s.heap v (k (backV v)) := fun v hv => by
    obtain ⟨t, rfl⟩ := e2 v hv
    have hm : V.ref t ∈ xs := by rw [e1]; exact List.mem_map.mpr ⟨_, hv, rfl⟩
    obtain ⟨t', e, ne, ht⟩ := hx _ hm
    cases e
    obtain ⟨_, its2, r2, o, ho, hc, n, hd⟩ := I.hok _ _ ht
    exact ⟨t, o, its2, n, rfl, ho, hc, hd, r2, ne⟩
  have key : ∀ v ∈ its, PyProof.Rows.G.tupKeyC s.heap (fun _ => true) v = some (kTx (k (backV v))) := fun v hv => by
    obtain ⟨t, o, us, n, rfl, ho, hc, hd, hv2, _⟩ := tx v hv
    exact tx_key ho hc hd (tx_items 0 hv2)
  obtain ⟨fs, hf⟩ := tx_firsts fun v hv => ⟨_, tx v hv⟩
  refine PyProof.Rows.G.sorted_tups hl.isList hf (fun v hv => ⟨_, key v hv⟩) (by rw [← rv.length]; exact hz) fun st' hp hst _ => ?_
  have hp2 : (arrOf st').toList.Perm (its.zip its) := by
    have e := Array.perm_iff_toList_perm.mp hp
    rwa [pairsOf_toList] at e
  have mem : ∀ p ∈ (arrOf st').toList, p.1 = p.2 ∧ p.1 ∈ its := fun p hp => mem_zip_self (hp2.mem_iff.mp hp)
  have eo : ((arrOf st').map (·.2)).toList = (arrOf st').toList.map (·.1) := by
    rw [Array.toList_map]
    exact List.map_congr_left fun p hp => (mem p hp).1.symm
  have ez : ∀ ls : List Value, (ls.zip ls).map (·.1) = ls := fun ls => by
    induction ls with
    | nil => rfl
    | cons x ls ih => rw [List.zip_cons_cons, List.map_cons, ih]
  have hp3 : ((arrOf st').toList.map (·.1)).Perm its := by
    have := hp2.map (·.1)
    rwa [ez] at this
  have hsz : (pairsOf its).size = (arrOf st').toList.length := by rw [pairsOf_size, hp2.length_eq, List.length_zip, Nat.min_self]
  have hpw : ((arrOf st').toList.map (·.1)).Pairwise (fun x y => ltTx (k (backV y)) (k (backV x)) = false) := by
    rw [List.pairwise_map, List.pairwise_iff_getElem]
    intro i j hi hj hij
    have := hst i j (Nat.le_of_lt hij) (by rw [hsz]; exact hj)
    have kk : ∀ m (hm : m < (arrOf st').toList.length), KK (PyProof.Rows.G.tupKindC s.heap (fun _ => true)) (arrOf st') m = kTx (k (backV ((arrOf st').toList[m]).1)) := fun m hm => by
      have e0 : (arrOf st')[m]? = some (arrOf st').toList[m] := by rw [← Array.getElem?_toList, List.getElem?_eq_getElem hm]
      unfold KK
      rw [e0]
      show (PyProof.Rows.G.tupKeyC s.heap (fun _ => true) ((arrOf st').toList[m]).1).getD [] = _
      rw [key _ (mem _ (List.getElem_mem hm)).2]; rfl
    rw [kk i hi, kk j hj] at this
    exact this
  obtain ⟨ep, he'⟩ := PyProof.Rows.sortedAll_at s.heap its ((arrOf st').map (·.2))
  have hob : (sortedAll s.heap its ((arrOf st').map (·.2))).get? (s.heap.objs.size + 1) = some (seqObj "list" ((arrOf st').toList.map (·.1)).toArray ep) := by
    rw [he', ← eo]
  have h3 : ∀ u ∈ (arrOf st').toList.map (·.1), ∃ a, u = Value.ref a := fun u hu => e2 u (hp3.mem_iff.mp hu)
  refine ⟨.ref (s.heap.objs.size + 1), upd H (s.heap.objs.size + 1) (.lst (((arrOf st').toList.map (·.1)).map backV)), I.laid (t' := s.toks) (fun b o e => PyProof.Rows.sortedAll_old e) (Nat.le_succ _) ⟨?_, (arrOf st').toList.map (·.1), ep, vals_back h3, hob⟩, rfl, q _ _ ?_ ?_ (I.hok.fresh (Nat.le_succ _))⟩
  · rw [List.length_map, hp3.length_eq, ← rv.length]; exact hz
  · rw [e1]; exact hp3.map backV
  · rw [List.pairwise_map]; exact hpw
end
/-! the mirror: insertion -/
def insTx (x : List Str) : List (List Str) → List (List Str)
  | [] => [x]
  | y :: ys => if ltTx y x then y :: insTx x ys else x :: y :: ys
def sortTx : List (List Str) → List (List Str)
  | [] => []
  | x :: xs => insTx x (sortTx xs)
theorem insTx_perm (x : List Str) : ∀ ys, (insTx x ys).Perm (x :: ys)
  | [] => .refl _
  | y :: ys => by
    unfold insTx
    split
    · exact ((insTx_perm x ys).cons y).trans (.swap _ _ _)
    · exact .refl _
theorem sortTx_perm : ∀ xs, (sortTx xs).Perm xs
  | [] => .refl _
  | x :: xs => (insTx_perm x _).trans ((sortTx_perm xs).cons x)
abbrev oTx : KeyOrd := listOrd itemOrd
theorem ltTx_eq (a b : List Str) : ltTx a b = oTx.blt (kTx a) (kTx b) := rfl
theorem insTx_sorted (x : List Str) : ∀ {ys : List (List Str)}, ys.Pairwise (fun a b => ltTx b a = false) → (insTx x ys).Pairwise (fun a b => ltTx b a = false)
  | [], _ => List.pairwise_singleton _ _
  | y :: ys, h => by
    unfold insTx
    have h' := List.pairwise_cons.mp h
    cases c : ltTx y x with
    | true =>
      rw [if_pos rfl]
      refine List.pairwise_cons.mpr ⟨fun z hz => ?_, insTx_sorted x h'.2⟩
      rcases List.mem_cons.mp ((insTx_perm x ys).mem_iff.mp hz) with e | q
      · rw [e]; exact KeyOrd.kle_of_klt (O := oTx) (a := kTx y) (b := kTx x) c
      · exact h'.1 z q
    | false =>
      rw [if_neg (by simp)]
      refine List.pairwise_cons.mpr ⟨fun z hz => ?_, h⟩
      rcases List.mem_cons.mp hz with e | q
      · rw [e]; exact c
      · exact KeyOrd.kle_trans (O := oTx) (a := kTx x) (b := kTx y) (c := kTx z) c (h'.1 z q)
theorem sortTx_sorted : ∀ xs, (sortTx xs).Pairwise (fun a b => ltTx b a = false)
  | [] => .nil
  | x :: xs => insTx_sorted x (sortTx_sorted xs)
theorem kTx_inj : ∀ {a b : List Str}, kTx a = kTx b → a = b
  | [], [], _ => rfl
  | [], _ :: _, h => by cases h
  | _ :: _, [], h => by cases h
  | x :: a, y :: b, h => by
    have h : (Sum.inr x.cps.toList : Int ⊕ List Nat) :: kTx a = Sum.inr y.cps.toList :: kTx b := h
    injection h with h1 h2
    have e : x = y := by
      have e1 : x.cps.toList = y.cps.toList := Sum.inr.inj h1
      have e2 : x.cps = y.cps := Array.toList_inj.mp e1
      cases x; cases y; simp at e2; rw [e2]
    rw [e, kTx_inj h2]
theorem uniqTx : ∀ {xs ys : List (List Str)}, xs.Perm ys → xs.Pairwise (fun a b => ltTx b a = false) → ys.Pairwise (fun a b => ltTx b a = false) → xs = ys
  | [], ys, p, _, _ => p.nil_eq
  | x :: xs, [], p, _, _ => absurd p.symm.nil_eq (by simp)
  | x :: xs, y :: ys, p, h1, h2 => by
    have h1' := List.pairwise_cons.mp h1
    have h2' := List.pairwise_cons.mp h2
    have e : x = y := by
      have a : x ∈ y :: ys := p.mem_iff.mp List.mem_cons_self
      have b : y ∈ x :: xs := p.mem_iff.mpr List.mem_cons_self
      rcases List.mem_cons.mp a with e | a
      · exact e
      rcases List.mem_cons.mp b with e | b
      · exact e.symm
      exact kTx_inj (KeyOrd.kle_antisymm (O := oTx) (h1'.1 y b) (h2'.1 x a))
    subst e
    rw [uniqTx (List.Perm.cons_inv p) h1'.2 h2'.2]
def textsD : List D → Option (List (List Str))
  | [] => some []
  | .tup ds :: r => (unS ds).bind fun ss => if ss = [] then none else (textsD r).map (ss :: ·)
  | _ => none
theorem textsD_ok : ∀ {ds : List D} {xs : List (List Str)}, textsD ds = some xs → ds = (xs.map fun s => D.tup (s.map D.str)) ∧ ∀ s ∈ xs, s ≠ []
  | [], xs, h => by cases h; exact ⟨rfl, fun s hs => by cases hs⟩
  | d :: ds, xs, h => by
    cases d with
    | tup es =>
      obtain ⟨ss, h1, h2⟩ := Option.bind_eq_some_iff.mp (show (unS es).bind (fun ss => if ss = [] then none else (textsD ds).map (ss :: ·)) = some xs from h)
      split at h2
      · cases h2
      · rename_i ne
        obtain ⟨r, h3, rfl⟩ := Option.map_eq_some_iff.mp h2
        obtain ⟨a, b⟩ := textsD_ok h3
        refine ⟨by rw [a, unS_ok h1]; rfl, fun s hs => ?_⟩
        rcases List.mem_cons.mp hs with e | e
        · rw [e]; exact ne
        · exact b s e
    | _ => cases h
def unV : V → Str
  | .str s => s
  | _ => default
/-- the texts of the tuple at a value -/
def txV (H : Hp) : V → List Str
  | .ref t => match H t with
    | some (.tup vs) => vs.map unV
    | _ => []
  | _ => []
section
variable {r : Addr} {X : Cx} {K : PySem.W.Frag} {mg : Str → Option Value} {O : List Nat} {E : XK} {e a : Expr} {ts : TA} {ta : TE} {p pos : Pos} {ms : SE (List D)}
theorem txV_of {Hs : Hp} {v : V} {s : List Str} (h : RepD K mg r Hs v (.tup (s.map D.str))) : txV Hs v = s ∧ ∃ t, v = .ref t ∧ Hs t = some (.tup (s.map V.str)) := by
  generalize hd : D.tup (s.map D.str) = d at h
  cases h with
  | tup h1 h2 =>
    cases hd
    have e := RepDs.strs_of h2
    rw [e] at h1
    refine ⟨?_, _, rfl, h1⟩
    show (match Hs _ with | some (.tup vs) => vs.map unV | _ => []) = s
    rw [h1]
    show (s.map V.str).map unV = s
    rw [List.map_map]
    exact List.map_id s
  | _ => cases hd
theorem reps_tx {Hs : Hp} : ∀ {xs : List (List Str)} {vs : List V}, RepDs K mg r Hs vs (xs.map fun s => D.tup (s.map D.str)) → vs.map (txV Hs) = xs ∧ ∀ v ∈ vs, RepD K mg r Hs v (.tup ((txV Hs v).map D.str)) ∧ ∃ t, v = .ref t ∧ Hs t = some (.tup ((txV Hs v).map V.str))
  | [], _, .nil => ⟨rfl, fun v hv => by cases hv⟩
  | s :: xs, v :: vs, .cons h q => by
    obtain ⟨e1, e2⟩ := txV_of h
    obtain ⟨a, b⟩ := reps_tx q
    refine ⟨by rw [List.map_cons, e1, a], fun w hw => ?_⟩
    rcases List.mem_cons.mp hw with e | e
    · subst e
      rw [e1]; exact ⟨h, e2⟩
    · exact b w e
theorem reps_of {Hs : Hp} : ∀ {vs : List V}, (∀ v ∈ vs, RepD K mg r Hs v (.tup ((txV Hs v).map D.str))) → RepDs K mg r Hs vs ((vs.map (txV Hs)).map fun s => D.tup (s.map D.str))
  | [], _ => .nil
  | v :: vs, h => .cons (h v List.mem_cons_self) (reps_of fun w hw => h w (List.mem_cons_of_mem _ hw))
def sortTD : List D → Option D
  | [.lst xs] => (textsD xs).map fun ss => .lst ((sortTx ss).map fun s => .tup (s.map .str))
  | _ => none
theorem gf_sortTx (hm : X.mg "sorted" = none) (ha : GAO K mg r X O E [e] ts ms) (hg : Gl X "sorted" := by rfl) (he : starEach [e] X.env = (false, eval e X.env) :: starEach [] X.env := by rfl) (hpl : (backTo pos (starEach [] X.env)).any (·.1) = false := by rfl) (hK : X.K = K := by rfl) : GF K mg r X O E (.Call (.Name "sorted" p) [e] [] pos) (tCB (rSortTx K) ts) (callB sortTD ms) := by
  subst hK
  refine ⟨pe_callB (r := rSortTx X.K) cr_sortTx hg hm boot_sorted ha.pe (by decide) (by decide) he hpl, fun Hs0 H0 Hs H σ env tp Q Rl P => ?_⟩
  refine ha.snd _ _ _ _ _ _ _ _ Rl ?_
  unfold callB at P
  cases q : ms env tp with
  | stuck => rw [q] at P; exact P
  | exn cc fs tp1 => rw [q] at P; exact P
  | ok ds tp1 =>
    rw [q] at P
    intro xs Hs1 H1 g w rx
    obtain ⟨z, hz, k⟩ := Post.ok_of (show Post X.K mg r (Fresh X.K mg r H) E Hs H (RE.of (sortTD ds) tp1) Q from P)
    unfold sortTD at hz
    split at hz
    · obtain ⟨ss, h1, h2⟩ := Option.map_eq_some_iff.mp hz
      subst h2
      obtain ⟨x, rfl, h⟩ := paired1 rx
      obtain ⟨h4, h5⟩ := textsD_ok h1
      rw [h4] at h
      obtain ⟨p, vs, rfl, h6, h7⟩ := repT_lst w h
      obtain ⟨h8, h9⟩ := reps_tx h7
      refine ⟨p, vs, txV Hs1, rfl, .of h6, fun v hv => ?_, fun ys q hp hs hq => ?_⟩
      · obtain ⟨_, t, e1, e2⟩ := h9 v hv
        refine ⟨t, e1, ?_, w.sub _ _ e2⟩
        have : txV Hs1 v ∈ vs.map (txV Hs1) := List.mem_map.mpr ⟨v, hv, rfl⟩
        rw [h8] at this
        exact h5 _ this
      · have e : ys.map (txV Hs1) = sortTx ss := by
          refine uniqTx ?_ ?_ (sortTx_sorted ss)
          · have := hp.map (txV Hs1)
            rw [h8] at this
            exact this.trans (sortTx_perm ss).symm
          · rw [List.pairwise_map]; exact hs
        have hr := reps_of (K := X.K) (mg := mg) (r := r) (Hs := Hs1) (vs := ys) fun v hv => (h9 v (hp.mem_iff.mp hv)).1
        rw [e] at hr
        obtain ⟨a, b, c⟩ := fresh_new (o := .lst ys) (d := .lst ((sortTx ss).map fun s => .tup (s.map .str))) g w hq ⟨_, upd_same, hr⟩
        exact k _ _ _ a b c
    · cases hz
end
end G

set_option maxHeartbeats 1000000
/-! G15: starred items of displays. -/
namespace G
open PySem PySem.Spec PyProof.Rows L2
section
variable {r : Addr} {X : Cx} {K : PySem.W.Frag} {mg : Str → Option Value} {O : List Nat} {E : XK} {e : Expr} {es : List Expr} {ts : TA} {t : TE} {p : Pos}
def starA (m : SE D) (ms : SE (List D)) : SE (List D) := fun env tp => (m env tp).bind fun d tp1 => match itemsD d with
  | some xs => (ms env tp1).bind fun ys tp2 => .ok (xs ++ ys) tp2
  | none => .stuck
theorem ga_star {m : SE D} {ms : SE (List D)} (h : GE K mg r X O E e t m) (hs : GA K mg r X O E es ts ms) (hK : X.K = K := by rfl) (hst : starEach (.Starred e p :: es) X.env = (true, eval e X.env) :: starEach es X.env := by rfl) : GA K mg r X O E (.Starred e p :: es) (StX.tStar K t ts) (starA m ms) := by
  subst hK
  obtain ⟨ht, h1⟩ := h
  obtain ⟨hts, h2⟩ := hs
  refine ⟨StX.pa_star ht hts hst, fun Hs0 H0 Hs H σ env tp Q R P => ?_⟩
  refine h1 _ _ _ _ _ _ _ _ R (Post.bind P fun v Hs1 H1 d tp1 _ g w rv P1 => ?_)
  have go : ∀ (a : Addr) (vs : List V) (ds : List D), v = .ref a → (SqT X.K H1 a vs ∨ SqL X.K H1 a vs) → RepDs X.K mg r Hs1 vs ds → itemsD d = some ds → ∃ p xs, v = V.ref p ∧ (SqT X.K H1 p xs ∨ SqL X.K H1 p xs) ∧ ts σ H1 fun ys H2 => Q (xs ++ ys) H2 := fun a vs ds e1 e2 e3 e4 => by
    rw [e4] at P1
    refine ⟨a, vs, e1, e2, h2 _ _ _ _ _ _ _ _ (R.grow g w) (Post.bind P1 fun ys Hs2 H2 ds2 tp2 _ g2 w2 rs P2 => ?_)⟩
    exact P2 _ Hs2 H2 (Grow.refl _ _) w2 ((e3.mono g2.ex).append rs)
  cases d with
  | lst ds =>
    obtain ⟨a, vs, e1, e2, e3⟩ := repT_lst w (.inl rv)
    exact go a vs ds e1 (.inr (.of e2)) e3 rfl
  | tup ds =>
    obtain ⟨a, vs, e1, _, e2, e3⟩ := repT_tup w (.inl rv)
    exact go a vs ds e1 (.inl (.of e2)) e3 rfl
  | _ => exact P1.elim
end
end G

set_option maxHeartbeats 1000000
/-! G16: max and min of two ints and of a list of ints, str of an int. -/
namespace G
open PySem PySem.Spec PyProof.Rows L2
section
variable {r : Addr} {X : Cx} {K : PySem.W.Frag} {mg : Str → Option Value} {O : List Nat} {E : XK} {e e2 : Expr} {ts : TA} {p pos : Pos} {ms : SE (List D)}
def maxD : List D → Option D
  | [.int i, .int j] => some (.int (if j > i then j else i))
  | [.lst xs] => (unI xs).bind fun ns => ns.max?.map .int
  | _ => none
def minD : List D → Option D
  | [.int i, .int j] => some (.int (if j < i then j else i))
  | [.lst xs] => (unI xs).bind fun ns => ns.min?.map .int
  | _ => none
abbrev rMaxB (K : PySem.W.Frag) : List V → Hp → VK → Prop := fun xs H Q => (∃ i j, xs = [.int i, .int j] ∧ Q (.int (if j > i then j else i)) H) ∨ rMax K xs H Q
abbrev rMinB (K : PySem.W.Frag) : List V → Hp → VK → Prop := fun xs H Q => (∃ i j, xs = [.int i, .int j] ∧ Q (.int (if j < i then j else i)) H) ∨ rMin K xs H Q
theorem cs_max : CallS K mg r (rMaxB K) maxD := by
  intro Hs H tp xs ds z Q w rx hz k
  unfold maxD at hz
  split at hz
  · cases hz
    cases rx with
    | cons h1 t => cases t with
      | cons h2 t => cases t with
        | nil => exact .inl ⟨_, _, by rw [repT_int h1, repT_int h2], k _ _ _ (Grow.refl _ _) w (.int _)⟩
  · obtain ⟨ns, h1, h2⟩ := Option.bind_eq_some_iff.mp hz
    obtain ⟨m, h3, rfl⟩ := Option.map_eq_some_iff.mp h2
    obtain ⟨m1, m2⟩ := List.max?_eq_some_iff.mp h3
    obtain ⟨x, rfl, h⟩ := paired1 rx
    rw [unI_ok h1] at h
    obtain ⟨p, rfl, h4⟩ := lst_typed RepDs.ints_of w h
    refine .inr ⟨p, ns, rfl, .of h4, List.length_pos_of_mem m1, fun m' a b => ?_⟩
    have : m' = m := Int.le_antisymm (m2 m' a) (b m m1)
    rw [this]
    exact k _ _ _ (Grow.refl _ _) w (.int _)
  · cases hz
theorem cs_min : CallS K mg r (rMinB K) minD := by
  intro Hs H tp xs ds z Q w rx hz k
  unfold minD at hz
  split at hz
  · cases hz
    cases rx with
    | cons h1 t => cases t with
      | cons h2 t => cases t with
        | nil => exact .inl ⟨_, _, by rw [repT_int h1, repT_int h2], k _ _ _ (Grow.refl _ _) w (.int _)⟩
  · obtain ⟨ns, h1, h2⟩ := Option.bind_eq_some_iff.mp hz
    obtain ⟨m, h3, rfl⟩ := Option.map_eq_some_iff.mp h2
    obtain ⟨m1, m2⟩ := List.min?_eq_some_iff.mp h3
    obtain ⟨x, rfl, h⟩ := paired1 rx
    rw [unI_ok h1] at h
    obtain ⟨p, rfl, h4⟩ := lst_typed RepDs.ints_of w h
    refine .inr ⟨p, ns, rfl, .of h4, List.length_pos_of_mem m1, fun m' a b => ?_⟩
    have : m' = m := Int.le_antisymm (b m m1) (m2 m' a)
    rw [this]
    exact k _ _ _ (Grow.refl _ _) w (.int _)
  · cases hz
theorem ge_max (hc : X.calm = true) (hm : X.mg "max" = none) (ha : GAO K mg r X O E [e] ts ms) (hg : Gl X "max" := by rfl) (he : starEach [e] X.env = (false, eval e X.env) :: starEach [] X.env := by rfl) (hpl : (backTo pos (starEach [] X.env)).any (·.1) = false := by rfl) (hK : X.K = K := by rfl) : GE K mg r X O E (.Call (.Name "max" p) [e] [] pos) (tCB (rMaxB K) ts) (callB maxD ms) := by
  subst hK; exact ge_callB (R := rMaxB X.K) ((call_max2 hc).or (cr_max hc)) cs_max hm ha hg (by decide +kernel) (by decide) (by decide) he hpl
theorem ge_min (hc : X.calm = true) (hm : X.mg "min" = none) (ha : GAO K mg r X O E [e] ts ms) (hg : Gl X "min" := by rfl) (he : starEach [e] X.env = (false, eval e X.env) :: starEach [] X.env := by rfl) (hpl : (backTo pos (starEach [] X.env)).any (·.1) = false := by rfl) (hK : X.K = K := by rfl) : GE K mg r X O E (.Call (.Name "min" p) [e] [] pos) (tCB (rMinB K) ts) (callB minD ms) := by
  subst hK; exact ge_callB (R := rMinB X.K) ((call_min2 hc).or (cr_min hc)) cs_min hm ha hg (by decide +kernel) (by decide) (by decide) he hpl
theorem ge_maxP (hc : X.calm = true) (hm : X.mg "max" = none) (ha : GAO K mg r X O E [e, e2] ts ms) (hg : Gl X "max" := by rfl) (he : starEach [e, e2] X.env = (false, eval e X.env) :: starEach [e2] X.env := by rfl) (hpl : (backTo pos (starEach [e2] X.env)).any (·.1) = false := by rfl) (hK : X.K = K := by rfl) : GE K mg r X O E (.Call (.Name "max" p) [e, e2] [] pos) (tCB (rMaxB K) ts) (callB maxD ms) := by
  subst hK; exact ge_callB (R := rMaxB X.K) ((call_max2 hc).or (cr_max hc)) cs_max hm ha hg (by decide +kernel) (by decide) (by decide) he hpl
theorem ge_minP (hc : X.calm = true) (hm : X.mg "min" = none) (ha : GAO K mg r X O E [e, e2] ts ms) (hg : Gl X "min" := by rfl) (he : starEach [e, e2] X.env = (false, eval e X.env) :: starEach [e2] X.env := by rfl) (hpl : (backTo pos (starEach [e2] X.env)).any (·.1) = false := by rfl) (hK : X.K = K := by rfl) : GE K mg r X O E (.Call (.Name "min" p) [e, e2] [] pos) (tCB (rMinB K) ts) (callB minD ms) := by
  subst hK; exact ge_callB (R := rMinB X.K) ((call_min2 hc).or (cr_min hc)) cs_min hm ha hg (by decide +kernel) (by decide) (by decide) he hpl
def strD : List D → Option D
  | [.int i] => if i.natAbs.log2 < 1920 then some (.str (toString i)) else none
  | _ => none
abbrev rStrI : List V → Hp → VK → Prop := fun xs H Q => ∃ i, xs = [.int i] ∧ i.natAbs.log2 < 1920 ∧ Q (.str (toString i)) H
theorem cs_str : CallS K mg r rStrI strD := by
  intro Hs H tp xs ds z Q w rx hz k
  unfold strD at hz
  split at hz
  · split at hz
    · rename_i hl
      cases hz
      obtain ⟨x, rfl, h⟩ := paired1 rx
      exact ⟨_, by rw [repT_int h], hl, k _ _ _ (Grow.refl _ _) w (.str _)⟩
    · cases hz
  · cases hz
theorem ge_strI (hm : X.mg "str" = none) (ha : GAO K mg r X O E [e] ts ms) (hg : Gl X "str" := by rfl) (he : starEach [e] X.env = (false, eval e X.env) :: starEach [] X.env := by rfl) (hpl : (backTo pos (starEach [] X.env)).any (·.1) = false := by rfl) : GE K mg r X O E (.Call (.Name "str" p) [e] [] pos) (tCB rStrI ts) (callB strD ms) :=
  ge_callTy (R := rStrI) call_str_int cs_str hm ha hg (by decide +kernel) (by decide) (by decide) he hpl
end
end G

set_option maxHeartbeats 1000000
/-! G17: stores into own lists. -/
namespace G
open PySem PySem.Spec PyProof.Rows L2
section
variable {r : Addr} {X : Cx} {K : PySem.W.Frag} {mg : Str → Option Value} {O Ol : List Nat} {E : XK} {k val : Expr} {tk tv : TE} {pos : Pos}
theorem RepDs.setN {Hs : Hp} {v : V} {d : D} (h : RepD K mg r Hs v d) : ∀ {vs : List V} {ds : List D} (j : Nat), RepDs K mg r Hs vs ds → RepDs K mg r Hs (vs.set j v) (ds.set j d)
  | [], _, j, .nil => by rw [List.set_nil, List.set_nil]; exact .nil
  | _ :: _, _, 0, .cons _ t => .cons h t
  | _ :: _, _, j + 1, .cons a t => .cons a (RepDs.setN h j t)
def lsetS (i : Nat) (mk mv : SE D) : SS := fun env tp => (mv env tp).bindS fun v tp1 => match env[i]? with
  | some (some (.lst xs)) => (mk env tp1).bindS fun k tp2 => (match k with
    | .int n => (match ixN xs.length n with
      | some j => .nx (env.set i (some (.lst (xs.set j v)))) tp2
      | none => .stuck)
    | _ => .stuck)
  | _ => .stuck
theorem gs_lset {mk mv : SE D} (i : Nat) {x : Str} {p1 p2 : Pos} (hO : i ∈ O) (hk : GE K mg r X O E k tk mk) (hv : GE K mg r X O E val tv mv) (hN : X.N[i]? = some x := by rfl)
    (hvis : Vis X.env.scope x := by first | exact Or.inl rfl | exact Or.inr (Or.inl rfl) | exact Or.inr (Or.inr rfl)) (hd : (x == ("__debug__" : Str)) = false := by decide) (hcd : (x == ("__classdict__" : Str)) = false := by decide)
    (hg : ∀ v, assign (.Subscript (.Name x p1) k p2) X.env v = (do
      let ov ← holding [v] (eval (.Name x p1) X.env)
      let iv ← holding [v, ov] (eval k X.env)
      standAt p2
      holding [v, ov, iv] (setItem ov iv v)
      release [v, ov, iv] []) := by intro _; rfl)
    (hs : swapsWithSole [.Subscript (.Name x p1) k p2] val pos.line X.env = pure false := by rfl) (hw : swappedStores [.Subscript (.Name x p1) k p2] val X.env = pure none := by rfl)
    (h1 : (assignEach [.Subscript (.Name x p1) k p2] X.env).map (·.2) = [assign (.Subscript (.Name x p1) k p2) X.env] := by rfl) :
    GS K mg r X E O O Ol (.Assign [.Subscript (.Name x p1) k p2] val pos) (tAsg tv (gSub (tVar i) tk rSetL)) (lsetS i mk mv) := by
  refine ⟨ps_asg hv.pe (pg_sub (pe_var hN hvis hd hcd) hk.pe set_list hg) hs hw h1, fun Hs0 H0 Hs H σ env tp Dn R P => ?_⟩
  refine hv.snd _ _ _ _ _ _ _ _ R (PostS.bind R P fun v Hs1 H1 d tp1 _ g w R1 rv P1 => ?_)
  obtain ⟨d0, p, b1, b2, c, c0, ne, oa⟩ := R1.own i hO
  rw [b1] at P1
  refine ⟨_, b2, ?_⟩
  cases d0 with
  | lst xs =>
    refine hk.snd _ _ _ _ _ _ _ _ R1 (PostS.bind R1 P1 fun u Hs2 H2 dk tp2 _ g2 w2 R2 ru P2 => ?_)
    cases dk with
    | int n =>
      simp only at P2
      split at P2
      · rename_i j q
        obtain ⟨d1, p1, e1, e2, f, f0, fn, fo⟩ := R2.own i hO
        rw [b2] at e2; cases e2
        rw [b1] at e1; cases e1
        obtain ⟨vs, h1, h2⟩ := fo
        refine ⟨p, vs, _, j, rfl, repT_int (H := H2) ru.top, h1, by rw [h2.length]; exact q, ?_⟩
        exact P2 _ _ _ (Same.refl _) (R2.write hO b2 ⟨_, upd_same, RepDs.setN (rv.mono g2.ex) j h2⟩)
      · exact P2.elim
    | _ => exact P2.elim
  | _ => exact P1.elim
end
end G

set_option maxHeartbeats 1000000
/-! G18: [x] * n as a list of one's own. -/
namespace G
open PySem PySem.Spec PyProof.Rows L2
section
variable {r : Addr} {X : Cx} {K : PySem.W.Frag} {mg : Str → Option Value} {O : List Nat} {E : XK} {a b : Expr} {ta tb : TE} {pos : Pos}
def lrepD : D → D → Option D
  | .lst xs, .int n => if cRep xs.length n then some (.lst (List.replicate n.toNat xs).flatten) else none
  | _, _ => none
theorem gf_lrep {ma mb : SE D} (ha : GE K mg r X O E a ta ma) (hb : GE K mg r X O E b tb mb) : GF K mg r X O E (.BinOp a .Mult b pos) (tOp rRep ta tb) (binE lrepD ma mb) := by
  refine ⟨pe_op op_rep ha.pe hb.pe, fun Hs0 H0 Hs H σ env tp Q R P => ?_⟩
  refine ha.snd _ _ _ _ _ _ _ _ R (Post.bind P fun v Hs1 H1 d tp1 _ g w rv P1 => ?_)
  refine hb.snd _ _ _ _ _ _ _ _ (R.grow g w) (Post.bind P1 fun u Hs2 H2 e tp2 _ g2 w2 ru P2 => ?_)
  obtain ⟨z, hz, k⟩ := Post.ok_of P2
  unfold lrepD at hz
  split at hz
  · split at hz
    · rename_i xs n e1 e2 c
      cases hz
      have c := cRep_ok c
      obtain ⟨p, vs, rfl, h1, h2⟩ := repT_lst w2 (.inl (rv.mono g2.ex))
      have eu := repT_int (H := H2) ru.top
      subst eu
      refine ⟨p, n, vs, rfl, rfl, h1, by omega, by omega, ?_, fun q hq => ?_⟩
      · rw [h2.length, sizeLine_eq]
        have : ((xs.length * n.toNat : Nat) : Int) ≤ 16777216 := by
          rw [Int.natCast_mul, Int.toNat_of_nonneg c.1]; exact c.2.1
        omega
      · obtain ⟨x1, x2, x3⟩ := fresh_new (o := .lst (List.replicate n.toNat vs).flatten) (d := .lst (List.replicate n.toNat xs).flatten) (g.trans g2) w2 hq ⟨_, upd_same, h2.rep _⟩
        exact k _ _ _ (w2.lay hq).1 x2 x3
    · cases hz
  · cases hz
end
end G

set_option maxHeartbeats 1000000
/-! G19: int of a text. -/
namespace G
open PySem PySem.Spec PyProof.Rows L2
section
variable {r : Addr} {X : Cx} {K : PySem.W.Frag} {mg : Str → Option Value} {O : List Nat} {E : XK} {e : Expr} {ts : TA} {p pos : Pos} {ms : SE (List D)}
def intSD : List D → Option D
  | [.str a] => if a.length ≤ 640 then (PySem.intText? a).map .int else none
  | _ => none
abbrev rIntS : List V → Hp → VK → Prop := fun xs H Q => ∃ a n, xs = [.str a] ∧ PySem.intText? a = some n ∧ a.length ≤ 640 ∧ Q (.int n) H
theorem cs_intS : CallS K mg r rIntS intSD := by
  intro Hs H tp xs ds z Q w rx hz k
  unfold intSD at hz
  split at hz
  · split at hz
    · rename_i hl
      obtain ⟨n, h1, rfl⟩ := Option.map_eq_some_iff.mp hz
      obtain ⟨x, rfl, h⟩ := paired1 rx
      exact ⟨_, n, by rw [repT_str h], h1, hl, k _ _ _ (Grow.refl _ _) w (.int _)⟩
    · cases hz
  · cases hz
theorem ge_intS (hm : X.mg "int" = none) (ha : GAO K mg r X O E [e] ts ms) (hg : Gl X "int" := by rfl) (he : starEach [e] X.env = (false, eval e X.env) :: starEach [] X.env := by rfl) (hpl : (backTo pos (starEach [] X.env)).any (·.1) = false := by rfl) : GE K mg r X O E (.Call (.Name "int" p) [e] [] pos) (tCB rIntS ts) (callB intSD ms) :=
  ge_callTy (R := rIntS) call_int_str cs_intS hm ha hg (by decide +kernel) (by decide) (by decide) he hpl
end
end G

set_option maxHeartbeats 1000000
/-! P0: the plain side: loops and comprehensions of data, pictures, the tape. -/
namespace G
open PySem L2

/-! ### comprehensions and loops, as plain functions -/
theorem compL_pure {f : D → List D → RE (Option D)} {g : D → Option D} {tp : List D} : ∀ {items : List D}, (∀ d ∈ items, f d tp = .ok (g d) tp) → compL f items tp = .ok (items.filterMap g) tp
  | [], _ => rfl
  | d :: ds, h => by
    unfold compL
    rw [h d List.mem_cons_self]
    simp only
    rw [compL_pure fun d' hd => h d' (List.mem_cons_of_mem _ hd)]
    simp only [List.filterMap_cons]
    cases g d <;> rfl
theorem compE_map {mi : SE (List D)} {vs : List Nat} {i : Nat} {m : SE D} {env : DEnv} {tp tp1 : List D} {items : List D} {g : D → D} (h1 : mi env tp = .ok items tp1) (hl : items.length ≤ sizeLine)
    (h : ∀ d ∈ items, m ((wipeE env vs).set i (some d)) tp1 = .ok (g d) tp1) : compE mi vs t1 [i] yesT m env tp = .ok (.lst (items.map g)) tp1 := by
  unfold compE
  rw [h1]
  simp only [RE.bind_ok]
  rw [if_pos hl, compL_pure (g := fun d => some (g d))]
  · simp only [List.filterMap_eq_map']
  · intro d hd
    unfold compTurn1 t1
    simp only [setAll]
    unfold yesT
    simp only [RE.bind_ok, if_true]
    rw [h d hd]
    rfl
theorem fm_if {b : D → Bool} {g : D → D} : ∀ items : List D, (items.filterMap fun d => if b d = true then some (g d) else none) = (items.filter b).map g
  | [] => rfl
  | d :: ds => by
    rw [List.filterMap_cons, List.filter_cons, fm_if ds]
    by_cases q : b d = true
    · simp [q]
    · simp [q]
theorem compE_filter {mi : SE (List D)} {vs : List Nat} {i : Nat} {c : SE Bool} {m : SE D} {env : DEnv} {tp tp1 : List D} {items : List D} {b : D → Bool} {g : D → D} (h1 : mi env tp = .ok items tp1) (hl : items.length ≤ sizeLine)
    (hc : ∀ d ∈ items, c ((wipeE env vs).set i (some d)) tp1 = .ok (b d) tp1) (h : ∀ d ∈ items, b d = true → m ((wipeE env vs).set i (some d)) tp1 = .ok (g d) tp1) : compE mi vs t1 [i] c m env tp = .ok (.lst ((items.filter b).map g)) tp1 := by
  unfold compE
  rw [h1]
  simp only [RE.bind_ok]
  rw [if_pos hl, compL_pure (g := fun d => if b d = true then some (g d) else none)]
  · rw [fm_if]
  · intro d hd
    unfold compTurn1 t1
    simp only [setAll]
    rw [hc d hd]
    simp only [RE.bind_ok]
    by_cases q : b d = true
    · rw [if_pos q, if_pos q, h d hd q]; rfl
    · rw [if_neg q, if_neg q]
/-- with draws: T holds of the tape -/
theorem compL_eff {T : List D → Prop} {R : D → D → Prop} {f : D → List D → RE (Option D)} : ∀ {items : List D} {tp : List D}, T tp → (∀ d ∈ items, ∀ tp, T tp → ∃ x tp', f d tp = .ok (some x) tp' ∧ T tp' ∧ R d x) → ∃ xs tp', compL f items tp = .ok xs tp' ∧ T tp' ∧ Paired R items xs
  | [], tp, ht, _ => ⟨[], tp, rfl, ht, .nil⟩
  | d :: ds, tp, ht, h => by
    obtain ⟨x, tp1, e1, t1, r1⟩ := h d List.mem_cons_self tp ht
    obtain ⟨xs, tp2, e2, t2, r2⟩ := compL_eff (items := ds) t1 fun d' hd => h d' (List.mem_cons_of_mem _ hd)
    refine ⟨x :: xs, tp2, ?_, t2, .cons r1 r2⟩
    unfold compL
    rw [e1]
    simp only
    rw [e2]
    rfl
theorem compE_eff {T : List D → Prop} {R : D → D → Prop} {mi : SE (List D)} {vs : List Nat} {i : Nat} {m : SE D} {env : DEnv} {tp tp1 : List D} {items : List D} (h1 : mi env tp = .ok items tp1) (ht : T tp1) (hl : items.length ≤ sizeLine)
    (h : ∀ d ∈ items, ∀ tp, T tp → ∃ x tp', m ((wipeE env vs).set i (some d)) tp = .ok x tp' ∧ T tp' ∧ R d x) : ∃ xs tp', compE mi vs t1 [i] yesT m env tp = .ok (.lst xs) tp' ∧ T tp' ∧ Paired R items xs := by
  obtain ⟨xs, tp', e, t, r⟩ := compL_eff (f := compTurn1 t1 [i] yesT m (wipeE env vs)) (items := items) ht (R := R) fun d hd tp ht => by
    obtain ⟨x, tp', e, t, r⟩ := h d hd tp ht
    refine ⟨x, tp', ?_, t, r⟩
    unfold compTurn1 t1
    simp only [setAll]
    unfold yesT
    simp only [RE.bind_ok, if_true]
    rw [e]
    rfl
  refine ⟨xs, tp', ?_, t, r⟩
  unfold compE
  rw [h1]
  simp only [RE.bind_ok]
  rw [if_pos hl, e]
/-- a loop by its invariant -/
theorem forL_inv {i : Nat} {body : SS} (I : Nat → DEnv → List D → Prop) : ∀ {items : List D} {env : DEnv} {tp : List D} (k : Nat), I k env tp → (∀ j d env tp, items[j]? = some d → I (k + j) env tp → ∃ env' tp', body (env.set i (some d)) tp = .nx env' tp' ∧ I (k + j + 1) env' tp') →
    ∃ env' tp', forL t1 [i] body items env tp = .nx env' tp' ∧ I (k + items.length) env' tp'
  | [], env, tp, k, h0, _ => ⟨env, tp, rfl, h0⟩
  | d :: ds, env, tp, k, h0, h => by
    obtain ⟨e1, tp1, q1, i1⟩ := h 0 d env tp rfl h0
    obtain ⟨e2, tp2, q2, i2⟩ := forL_inv I (items := ds) (k + 1) i1 fun j d' env tp hj hi => by
      have e : k + 1 + j = k + (j + 1) := by omega
      rw [e] at hi ⊢
      exact h (j + 1) d' env tp (by simpa using hj) hi
    refine ⟨e2, tp2, ?_, by rw [List.length_cons]; have e : k + (ds.length + 1) = k + 1 + ds.length := by omega
                            rw [e]; exact i2⟩
    unfold forL t1
    simp only [setAll]
    rw [q1]
    exact q2
/-- a loop whose body is plain -/
theorem forL_fold {i : Nat} {body : SS} {step : DEnv → D → DEnv} {tp : List D} : ∀ {items : List D} {env : DEnv}, (∀ env, ∀ d ∈ items, body (env.set i (some d)) tp = .nx (step env d) tp) → forL t1 [i] body items env tp = .nx (items.foldl step env) tp
  | [], env, _ => rfl
  | d :: ds, env, h => by
    unfold forL t1
    simp only [setAll]
    rw [h env d List.mem_cons_self]
    exact forL_fold fun env d' hd => h env d' (List.mem_cons_of_mem _ hd)

/-! ### pictures -/
abbrev Row := List Bool
abbrev Pic := List Row
def sg (b : Bool) : Nat := if b then 35 else 46
def rowS (r : Row) : Str := ⟨(r.map sg).toArray⟩
def picD (p : Pic) : D := .tup (p.map fun r => .str (rowS r))
structure PicOk (h w : Nat) (p : Pic) : Prop where
  len : p.length = h
  row : ∀ r ∈ p, r.length = w
  h1 : 1 ≤ h
  h30 : h ≤ 30
  w1 : 1 ≤ w
  w30 : w ≤ 30
theorem rowS_len (r : Row) : (rowS r).length = r.length := by
  show ((r.map sg).toArray).size = _
  rw [List.size_toArray, List.length_map]
theorem rowS_app (a b : Row) : rowS a ++ rowS b = rowS (a ++ b) := by
  show (⟨(a.map sg).toArray ++ (b.map sg).toArray⟩ : Str) = _
  unfold rowS
  rw [List.map_append, List.append_toArray]
theorem rowS_inj {a b : Row} (h : rowS a = rowS b) : a = b := by
  have h1 : (a.map sg).toArray = (b.map sg).toArray := congrArg Str.cps h
  have h2 : a.map sg = b.map sg := by
    have := congrArg Array.toList h1
    simpa using this
  have hs : ∀ x y, sg x = sg y → x = y := by decide
  exact List.map_inj_right (fun x y => hs x y) |>.mp h2
theorem str_black : ("#" : Str) = rowS [true] := by decide +kernel
theorem str_white : ("." : Str) = rowS [false] := by decide +kernel
theorem str_empty : ("" : Str) = rowS [] := by decide +kernel

theorem row_toList (r : Row) : (rowS r).cps.toList = r.map sg := by
  show ((r.map sg).toArray).toList = _
  simp
theorem row_cut (r : Row) (lo hi : Option Int) : cutS (rowS r) lo hi = rowS (cutD r lo hi) := by
  unfold cutS cutD
  rw [row_toList, rowS_len]
  unfold rowS
  rw [List.map_take, List.map_drop]
theorem atI_nat' {α : Type} (xs : List α) (j : Nat) : atI xs (j : Int) = xs[j]? := by
  unfold atI ixN
  rw [if_pos (by omega)]
  by_cases h : (j : Int) < xs.length
  · rw [if_pos h]; rfl
  · rw [if_neg h, List.getElem?_eq_none (by omega)]; rfl
theorem atI_int {α : Type} (xs : List α) {i : Int} (h : 0 ≤ i) : atI xs i = xs[i.toNat]? := by
  obtain ⟨j, rfl⟩ := Int.eq_ofNat_of_zero_le h
  rw [atI_nat', Int.toNat_natCast]
theorem chr_row (b : Bool) : (⟨#[sg b]⟩ : Str) = rowS [b] := rfl
theorem glue_nil : ∀ ys : List Row, Str.join (rowS []) (ys.map rowS) = rowS ys.flatten
  | [] => rfl
  | [y] => by
    show rowS y = _
    simp
  | y :: z :: ys => by
    have ih := glue_nil (z :: ys)
    show (rowS y ++ rowS []) ++ Str.join (rowS []) ((z :: ys).map rowS) = _
    rw [ih, rowS_app, rowS_app]
    simp
theorem join_rows (ys : List Row) : Txt.join (rowS []) (ys.map rowS) = rowS ys.flatten := by
  rw [TL.join_eq, glue_nil]
theorem mul_row (b : Bool) (n : Nat) : Txt.mul (rowS [b]) (n : Int) = rowS (List.replicate n b) := by
  unfold Txt.mul
  by_cases h : (n : Int) < 1
  · rw [if_pos h]
    have : n = 0 := by omega
    subst this
    rfl
  · rw [if_neg h]
    by_cases h1 : n = 1
    · subst h1; rfl
    · have : ((n : Int) == 1 || (rowS [b]).length == 0) = false := by
        rw [rowS_len]
        simp; omega
      rw [this, if_neg (by decide)]
      have key : ∀ (k : Nat) (acc : Array Nat), (List.replicate k (rowS [b]).cps).foldl (· ++ ·) acc = acc ++ ((List.replicate k b).map sg).toArray := by
        intro k
        induction k with
        | zero => intro acc; simp
        | succ k ih =>
          intro acc
          rw [List.replicate_succ, List.foldl_cons, ih, List.replicate_succ, List.map_cons]
          show (acc ++ [sg b].toArray) ++ _ = _
          rw [Array.append_assoc, List.append_toArray]
          simp
      rw [Int.toNat_natCast, key]
      unfold rowS
      simp
theorem small_line {n : Nat} (h : n ≤ 1000000) : n ≤ sizeLine := by rw [sizeLine_eq]; omega

/-! ### the tape -/
structure Tape (tp : List D) : Prop where
  ex : ∃ (ns : List Int) (pos seed rest : Int), tp = [.scr ns, .int pos, .int seed, .int rest] ∧ 0 ≤ pos ∧ 0 ≤ seed ∧ seed < 2147483647 ∧ ns.length ≤ 63
theorem tape0 (ns : List Int) (c : Int) (h : ns.length ≤ 63) (h0 : 0 ≤ c) (h1 : c < 2147483647) : Tape [.scr ns, .int 0, .int c, .int 0] := ⟨⟨ns, 0, c, 0, rfl, by omega, h0, h1, h⟩⟩
end G

set_option maxHeartbeats 1000000
/-! T0: typed values, what the mirrors' expressions give for them. -/
namespace T
open PySem L2 G

/-! ### typed values -/
abbrev eN (n : Nat) : D := .int (n : Int)
abbrev eZ (i : Int) : D := .int i
abbrev eB (b : Bool) : D := .bl b
abbrev eS (s : Str) : D := .str s
abbrev eR (r : Row) : D := .str (rowS r)
abbrev eG (b : Bool) : D := .str (rowS [b])
abbrev eU (_ : Unit) : D := .non
abbrev eL {α : Type} (e : α → D) (xs : List α) : D := .lst (xs.map e)
abbrev eT {α : Type} (e : α → D) (xs : List α) : D := .tup (xs.map e)
abbrev eP {α β : Type} (a : α → D) (b : β → D) (x : α × β) : D := .tup [a x.1, b x.2]
abbrev eP3 {α β γ : Type} (a : α → D) (b : β → D) (c : γ → D) (x : α × β × γ) : D := .tup [a x.1, b x.2.1, c x.2.2]
abbrev eP4 {α β γ δ : Type} (a : α → D) (b : β → D) (c : γ → D) (d : δ → D) (x : α × β × γ × δ) : D := .tup [a x.1, b x.2.1, c x.2.2.1, d x.2.2.2]
abbrev eO {α : Type} (e : α → D) : Option α → D
  | none => .non
  | some x => e x
abbrev ePic (p : Pic) : D := eT eR p

/-! ### equality -/
structure EqE {α : Type} [DecidableEq α] (k : Nat) (e : α → D) : Prop where
  pl : ∀ x, (e x).pd.plain = true
  dp : ∀ x, (e x).pd.depth ≤ k
  eq : ∀ x y, PyData.eqv (e x).pd (e y).pd = decide (x = y)
theorem rowS_dec (a b : Row) : (rowS a == rowS b) = decide (a = b) := by
  by_cases h : a = b
  · subst h; simp
  · rw [decide_eq_false h]
    exact beq_eq_false_iff_ne.mpr fun e => h (rowS_inj e)
theorem qN : EqE 1 eN := ⟨fun _ => rfl, fun _ => by simp [D.pd, PyData.depth], fun x y => by
  show ((x : Int) == (y : Int)) = _
  by_cases h : x = y
  · subst h; simp
  · rw [decide_eq_false h]; exact beq_eq_false_iff_ne.mpr fun e => h (by omega)⟩
theorem qZ : EqE 1 eZ := ⟨fun _ => rfl, fun _ => by simp [D.pd, PyData.depth], fun x y => by
  show (x == y) = _
  by_cases h : x = y <;> simp [h]⟩
theorem qB : EqE 1 eB := ⟨fun _ => rfl, fun _ => by simp [D.pd, PyData.depth], fun x y => by cases x <;> cases y <;> rfl⟩
theorem qS : EqE 1 eS := ⟨fun _ => rfl, fun _ => by simp [D.pd, PyData.depth], fun x y => by
  show (x == y) = _
  by_cases h : x = y
  · subst h; simp
  · rw [decide_eq_false h]; exact beq_eq_false_iff_ne.mpr h⟩
theorem qR : EqE 1 eR := ⟨fun _ => rfl, fun _ => by simp [D.pd, PyData.depth], fun x y => rowS_dec x y⟩
theorem qG : EqE 1 eG := ⟨fun _ => rfl, fun _ => by simp [D.pd, PyData.depth], fun x y => by
  refine (rowS_dec [x] [y]).trans ?_
  cases x <;> cases y <;> rfl⟩
theorem qU : EqE 1 eU := ⟨fun _ => rfl, fun _ => by simp [D.pd, PyData.depth], fun x y => rfl⟩
theorem depthAll_nil : PyData.depthAll [] = 0 := rfl
section
variable {α β γ δ : Type} [DecidableEq α] [DecidableEq β] [DecidableEq γ] [DecidableEq δ] {k k1 k2 k3 k4 : Nat} {e : α → D} {e1 : β → D} {e2 : γ → D} {e3 : δ → D}
theorem plainAll_map (h : EqE k e) (xs : List α) : PyData.plainAll (pdAll (xs.map e)) = true := by
  induction xs with
  | nil => rfl
  | cons x xs ih =>
    show PyData.plainAll ((e x).pd :: pdAll (xs.map e)) = true
    simp only [PyData.plainAll, h.pl x, ih, Bool.and_self]
theorem depthAll_map (h : EqE k e) (xs : List α) : PyData.depthAll (pdAll (xs.map e)) ≤ k := by
  induction xs with
  | nil => exact Nat.zero_le _
  | cons x xs ih =>
    show PyData.depthAll ((e x).pd :: pdAll (xs.map e)) ≤ k
    simp only [PyData.depthAll]
    have := h.dp x
    omega
theorem eqvAll_mapE (h : EqE k e) : ∀ xs ys : List α, PyData.eqvAll (pdAll (xs.map e)) (pdAll (ys.map e)) = decide (xs = ys)
  | [], [] => rfl
  | [], y :: ys => by show false = _; simp
  | x :: xs, [] => by show false = _; simp
  | x :: xs, y :: ys => by
    show (PyData.eqv (e x).pd (e y).pd && PyData.eqvAll (pdAll (xs.map e)) (pdAll (ys.map e))) = _
    rw [h.eq, eqvAll_mapE h xs ys]
    by_cases h1 : x = y <;> by_cases h2 : xs = ys <;> simp [h1, h2]
theorem qL (h : EqE k e) : EqE (k + 1) (eL e) := ⟨fun xs => by
    show (PyData.list (pdAll (xs.map e))).plain = true
    simp only [PyData.plain]; exact plainAll_map h xs, fun xs => by
    show (PyData.list (pdAll (xs.map e))).depth ≤ k + 1
    simp only [PyData.depth]
    have := depthAll_map h xs
    omega, fun xs ys => eqvAll_mapE h xs ys⟩
theorem qT (h : EqE k e) : EqE (k + 1) (eT e) := ⟨fun xs => by
    show (PyData.tuple (pdAll (xs.map e))).plain = true
    simp only [PyData.plain]; exact plainAll_map h xs, fun xs => by
    show (PyData.tuple (pdAll (xs.map e))).depth ≤ k + 1
    simp only [PyData.depth]
    have := depthAll_map h xs
    omega, fun xs ys => eqvAll_mapE h xs ys⟩
theorem qP (h : EqE k e) (h1 : EqE k1 e1) : EqE (max k k1 + 1) (eP e e1) := ⟨fun x => by
    show PyData.plainAll [(e x.1).pd, (e1 x.2).pd] = true
    simp only [PyData.plainAll, h.pl, h1.pl, Bool.and_self], fun x => by
    show (PyData.tuple [(e x.1).pd, (e1 x.2).pd]).depth ≤ _
    simp only [PyData.depth, PyData.depthAll]
    have := h.dp x.1; have := h1.dp x.2
    omega, fun x y => by
    show (PyData.eqv (e x.1).pd (e y.1).pd && (PyData.eqv (e1 x.2).pd (e1 y.2).pd && true)) = _
    rw [h.eq, h1.eq]
    obtain ⟨a, b⟩ := x; obtain ⟨c, d⟩ := y
    by_cases p : a = c <;> by_cases q : b = d <;> simp [p, q]⟩
theorem qP3 (h : EqE k e) (h1 : EqE k1 e1) (h2 : EqE k2 e2) : EqE (max k (max k1 k2) + 1) (eP3 e e1 e2) := ⟨fun x => by
    show PyData.plainAll [(e x.1).pd, (e1 x.2.1).pd, (e2 x.2.2).pd] = true
    simp only [PyData.plainAll, h.pl, h1.pl, h2.pl, Bool.and_self], fun x => by
    show (PyData.tuple [(e x.1).pd, (e1 x.2.1).pd, (e2 x.2.2).pd]).depth ≤ _
    simp only [PyData.depth, PyData.depthAll]
    have := h.dp x.1; have := h1.dp x.2.1; have := h2.dp x.2.2
    omega, fun x y => by
    show (PyData.eqv (e x.1).pd (e y.1).pd && (PyData.eqv (e1 x.2.1).pd (e1 y.2.1).pd && (PyData.eqv (e2 x.2.2).pd (e2 y.2.2).pd && true))) = _
    rw [h.eq, h1.eq, h2.eq]
    obtain ⟨a, b, c⟩ := x; obtain ⟨a', b', c'⟩ := y
    by_cases p : a = a' <;> by_cases q : b = b' <;> by_cases r : c = c' <;> simp [p, q, r]⟩
theorem qP4 (h : EqE k e) (h1 : EqE k1 e1) (h2 : EqE k2 e2) (h3 : EqE k3 e3) : EqE (max k (max k1 (max k2 k3)) + 1) (eP4 e e1 e2 e3) := ⟨fun x => by
    show PyData.plainAll [(e x.1).pd, (e1 x.2.1).pd, (e2 x.2.2.1).pd, (e3 x.2.2.2).pd] = true
    simp only [PyData.plainAll, h.pl, h1.pl, h2.pl, h3.pl, Bool.and_self], fun x => by
    show (PyData.tuple [(e x.1).pd, (e1 x.2.1).pd, (e2 x.2.2.1).pd, (e3 x.2.2.2).pd]).depth ≤ _
    simp only [PyData.depth, PyData.depthAll]
    have := h.dp x.1; have := h1.dp x.2.1; have := h2.dp x.2.2.1; have := h3.dp x.2.2.2
    omega, fun x y => by
    show (PyData.eqv (e x.1).pd (e y.1).pd && (PyData.eqv (e1 x.2.1).pd (e1 y.2.1).pd && (PyData.eqv (e2 x.2.2.1).pd (e2 y.2.2.1).pd && (PyData.eqv (e3 x.2.2.2).pd (e3 y.2.2.2).pd && true)))) = _
    rw [h.eq, h1.eq, h2.eq, h3.eq]
    obtain ⟨a, b, c, d⟩ := x; obtain ⟨a', b', c', d'⟩ := y
    by_cases p : a = a' <;> by_cases q : b = b' <;> by_cases r : c = c' <;> by_cases s : d = d' <;> simp [p, q, r, s]⟩
/-- e never gives none -/
def NotNon (e : α → D) : Prop := ∀ x, PyData.eqv (e x).pd .none = false ∧ PyData.eqv .none (e x).pd = false
theorem nnN : NotNon eN := fun _ => ⟨rfl, rfl⟩
theorem nnZ : NotNon eZ := fun _ => ⟨rfl, rfl⟩
theorem nnB : NotNon eB := fun _ => ⟨rfl, rfl⟩
theorem nnS : NotNon eS := fun _ => ⟨rfl, rfl⟩
theorem nnR : NotNon eR := fun _ => ⟨rfl, rfl⟩
theorem nnG : NotNon eG := fun _ => ⟨rfl, rfl⟩
theorem nnL {α : Type} [DecidableEq α] {e : α → D} : NotNon (eL e) := fun _ => ⟨rfl, rfl⟩
theorem nnT {α : Type} [DecidableEq α] {e : α → D} : NotNon (eT e) := fun _ => ⟨rfl, rfl⟩
theorem nnP : NotNon (eP e e1) := fun _ => ⟨rfl, rfl⟩
theorem nnP3 : NotNon (eP3 e e1 e2) := fun _ => ⟨rfl, rfl⟩
theorem nnP4 : NotNon (eP4 e e1 e2 e3) := fun _ => ⟨rfl, rfl⟩
theorem qO (h : EqE (k + 1) e) (n : NotNon e) : EqE (k + 1) (eO e) := ⟨fun x => by
    cases x with
    | none => rfl
    | some x => exact h.pl x, fun x => by
    cases x with
    | none => show PyData.depth .none ≤ k + 1; simp [PyData.depth]
    | some x => exact h.dp x, fun x y => by
    cases x with
    | none => cases y with
      | none => rfl
      | some y => refine (n y).2.trans ?_; simp
    | some x => cases y with
      | none => refine (n x).1.trans ?_; simp
      | some y => refine (h.eq x y).trans ?_; simp⟩
theorem okq_of (h : EqE k e) (hk : k ≤ 60) (x : α) : (e x).okq = true := by
  unfold D.okq
  have a := h.dp x
  rw [h.pl x, decide_eq_true (by omega : (e x).pd.depth ≤ 60)]; rfl
theorem eqD_E (h : EqE k e) (hk : k ≤ 60) (x y : α) : eqD (e x) (e y) = some (.bl (decide (x = y))) := by
  unfold eqD
  rw [okq_of h hk x, okq_of h hk y, h.eq]; rfl
theorem neD_E (h : EqE k e) (hk : k ≤ 60) (x y : α) : neD (e x) (e y) = some (.bl (decide (x ≠ y))) := by
  unfold neD
  rw [okq_of h hk x, okq_of h hk y, h.eq]
  by_cases q : x = y <;> simp [q]
theorem memD_E (h : EqE k e) (x : α) (xs : List α) : memD (e x) (xs.map e) = decide (x ∈ xs) := by
  unfold memD
  rw [List.any_map]
  by_cases q : x ∈ xs
  · rw [decide_eq_true q]
    exact List.any_eq_true.mpr ⟨x, q, by show PyData.eqv (e x).pd (e x).pd = true; rw [h.eq]; simp⟩
  · rw [decide_eq_false q]
    refine List.any_eq_false.mpr fun y hy => ?_
    show ¬ PyData.eqv (e y).pd (e x).pd = true
    rw [h.eq]
    intro z
    exact q (of_decide_eq_true z ▸ hy)
theorem inD_L (h : EqE k e) (hk : k ≤ 59) (x : α) (xs : List α) : inD (e x) (eL e xs) = some (.bl (decide (x ∈ xs))) := by
  show (if (e x).okq && (eL e xs).okq then some (D.bl (memD (e x) (xs.map e))) else none) = _
  rw [okq_of h (by omega) x, okq_of (qL h) (by omega) xs, memD_E h]; rfl
theorem inD_T (h : EqE k e) (hk : k ≤ 59) (x : α) (xs : List α) : inD (e x) (eT e xs) = some (.bl (decide (x ∈ xs))) := by
  show (if (e x).okq && (eT e xs).okq then some (D.bl (memD (e x) (xs.map e))) else none) = _
  rw [okq_of h (by omega) x, okq_of (qT h) (by omega) xs, memD_E h]; rfl
theorem notInD_L (h : EqE k e) (hk : k ≤ 59) (x : α) (xs : List α) : notInD (e x) (eL e xs) = some (.bl (decide (x ∉ xs))) := by
  show (if (e x).okq && (eL e xs).okq then some (D.bl (!memD (e x) (xs.map e))) else none) = _
  rw [okq_of h (by omega) x, okq_of (qL h) (by omega) xs, memD_E h]
  by_cases q : x ∈ xs <;> simp [q]
theorem notInD_T (h : EqE k e) (hk : k ≤ 59) (x : α) (xs : List α) : notInD (e x) (eT e xs) = some (.bl (decide (x ∉ xs))) := by
  show (if (e x).okq && (eT e xs).okq then some (D.bl (!memD (e x) (xs.map e))) else none) = _
  rw [okq_of h (by omega) x, okq_of (qT h) (by omega) xs, memD_E h]
  by_cases q : x ∈ xs <;> simp [q]
end

/-! ### expressions -/
section
variable {α β γ δ : Type} {e : α → D} {e1 : β → D} {e2 : γ → D} {env : DEnv} {tp t1' t2' t3' t4' : List D} {m ma mb mc : SE D} {ms : SE (List D)} {c c2 : SE Bool} {P Q : Prop} [Decidable P] [Decidable Q]
theorem ev_v {i : Nat} {d : D} (h : env[i]? = some (some d)) : vE i env tp = .ok d tp := by unfold vE; rw [h]
theorem ev_cN (n : Nat) {i : Int} (h : i = (n : Int) := by rfl) : cE (.int i) env tp = .ok (eN n) tp := by rw [h]; rfl
theorem ev_c {d d' : D} (h : d = d') : cE d env tp = .ok d' tp := by rw [h]; rfl
theorem ev_bin {f : D → D → Option D} {a b z : D} (ha : ma env tp = .ok a t1') (hb : mb env t1' = .ok b t2') (h : f a b = some z) : binE f ma mb env tp = .ok z t2' := by
  unfold binE; rw [ha]; simp only [RE.bind_ok]; rw [hb]; simp only [RE.bind_ok]; rw [h]; rfl
theorem ev_un {f : D → Option D} {a z : D} (ha : ma env tp = .ok a t1') (h : f a = some z) : unE f ma env tp = .ok z t1' := by
  unfold unE; rw [ha]; simp only [RE.bind_ok]; rw [h]; rfl
theorem ev_callB {f : List D → Option D} {ds : List D} {z : D} (ha : ms env tp = .ok ds t1') (h : f ds = some z) : callB f ms env tp = .ok z t1' := by
  unfold callB; rw [ha]; simp only [RE.bind_ok]; rw [h]; rfl
theorem ev_meth {p : D → Bool} {f : D → D → Option D} {a b z : D} (ha : ma env tp = .ok a t1') (hp : p a = true) (hb : mb env t1' = .ok b t2') (h : f a b = some z) : methE p f ma mb env tp = .ok z t2' := by
  unfold methE; rw [ha]; simp only [RE.bind_ok]; rw [if_pos hp, hb]; simp only [RE.bind_ok]; rw [h]; rfl
theorem ev_nil : nilA env tp = .ok [] tp := rfl
theorem ev_cons {d : D} {ds : List D} (h : m env tp = .ok d t1') (hs : ms env t1' = .ok ds t2') : consA m ms env tp = .ok (d :: ds) t2' := by
  unfold consA; rw [h]; simp only [RE.bind_ok]; rw [hs]; rfl
theorem ev_call {n : Nat} {f : List D → List D → RE D} {ds : List D} {d : D} (hs : ms env tp = .ok ds t1') (hn : ds.length = n) (h : f ds t1' = .ok d t2') : callE n f ms env tp = .ok d t2' := by
  unfold callE; rw [hs]; simp only [RE.bind_ok]; rw [if_pos hn, h]
theorem ev_tup {ds : List D} (hs : ms env tp = .ok ds t1') (hn : decide (ds.length ≤ 1000000) = true) : tupE ms env tp = .ok (.tup ds) t1' := by
  unfold tupE; rw [hs]; simp only [RE.bind_ok]; rw [if_pos (small_line (of_decide_eq_true hn))]
theorem ev_lst {ds : List D} (hs : ms env tp = .ok ds t1') (hn : decide (ds.length ≤ 1000000) = true) : lstE ms env tp = .ok (.lst ds) t1' := by
  unfold lstE; rw [hs]; simp only [RE.bind_ok]; rw [if_pos (small_line (of_decide_eq_true hn))]
/-! tests -/
theorem ev_bool {b : Bool} (h : m env tp = .ok (.bl b) t1') : boolE m env tp = .ok b t1' := by
  unfold boolE; rw [h]; rfl
theorem ev_dec (b : Bool) (h : m env tp = .ok (.bl b) t1') : boolE m env tp = .ok (decide (b = true)) t1' := by
  rw [ev_bool h]; cases b <;> rfl
theorem ev_notT (h : c env tp = .ok (decide P) t1') : notT c env tp = .ok (decide (¬P)) t1' := by
  unfold notT; rw [h]; simp only [RE.bind_ok]; by_cases q : P <;> simp [q]
theorem ev_andT (h : c env tp = .ok (decide P) tp) (h2 : P → c2 env tp = .ok (decide Q) tp) : andT c c2 env tp = .ok (decide (P ∧ Q)) tp := by
  unfold andT; rw [h]; simp only [RE.bind_ok]
  by_cases q : P
  · rw [decide_eq_true q, if_pos rfl, h2 q]; simp [q]
  · rw [decide_eq_false q, if_neg (by decide)]; simp [q]
theorem ev_orT (h : c env tp = .ok (decide P) tp) (h2 : ¬P → c2 env tp = .ok (decide Q) tp) : orT c c2 env tp = .ok (decide (P ∨ Q)) tp := by
  unfold orT; rw [h]; simp only [RE.bind_ok]
  by_cases q : P
  · rw [decide_eq_true q, if_pos rfl]; simp [q]
  · rw [decide_eq_false q, if_neg (by decide), h2 q]; simp [q]
theorem ev_notE (h : m env tp = .ok (eB (decide P)) t1') : notE m env tp = .ok (eB (decide (¬P))) t1' := by
  unfold notE; rw [h]; simp only [RE.bind_ok]; by_cases q : P <;> simp [q, isB]
theorem ev_andE (h : ma env tp = .ok (eB (decide P)) tp) (h2 : P → mb env tp = .ok (eB (decide Q)) tp) : andE ma mb env tp = .ok (eB (decide (P ∧ Q))) tp := by
  unfold andE; rw [h]; simp only [RE.bind_ok]
  by_cases q : P
  · rw [decide_eq_true q]; rw [h2 q]; simp [q]
  · rw [decide_eq_false q]; simp [q]
theorem ev_orE (h : ma env tp = .ok (eB (decide P)) tp) (h2 : ¬P → mb env tp = .ok (eB (decide Q)) tp) : orE ma mb env tp = .ok (eB (decide (P ∨ Q))) tp := by
  unfold orE; rw [h]; simp only [RE.bind_ok]
  by_cases q : P
  · rw [decide_eq_true q]; simp [q]
  · rw [decide_eq_false q]; rw [h2 q]; simp [q]
theorem ev_ifE {x y : α} (h : c env tp = .ok (decide P) t1') (hp : P → ma env t1' = .ok (e x) t1') (hn : ¬P → mb env t1' = .ok (e y) t1') : ifE c ma mb env tp = .ok (e (if P then x else y)) t1' := by
  unfold ifE; rw [h]; simp only [RE.bind_ok]
  by_cases q : P
  · rw [decide_eq_true q, if_pos rfl, hp q, if_pos q]
  · rw [decide_eq_false q, if_neg (by decide), hn q, if_neg q]
theorem ev_decB (b : Bool) (h : m env tp = .ok (eB b) t1') : m env tp = .ok (eB (decide (b = true))) t1' := by
  rw [h]; cases b <;> rfl
/-! numbers -/
theorem ev_add {x y : Nat} (ha : ma env tp = .ok (eN x) t1') (hb : mb env t1' = .ok (eN y) t2') : binE addD ma mb env tp = .ok (eN (x + y)) t2' :=
  (ev_bin ha hb rfl).trans (by simp)
theorem ev_sub {x y : Nat} (h : y ≤ x) (ha : ma env tp = .ok (eN x) t1') (hb : mb env t1' = .ok (eN y) t2') : binE subD ma mb env tp = .ok (eN (x - y)) t2' :=
  (ev_bin ha hb rfl).trans (by show RE.ok (D.int ((x : Int) - (y : Int))) t2' = RE.ok (D.int ((x - y : Nat) : Int)) t2'; rw [Int.ofNat_sub h])
theorem ev_mul {x y : Nat} (h : cMul x y = true) (ha : ma env tp = .ok (eN x) t1') (hb : mb env t1' = .ok (eN y) t2') : binE mulD ma mb env tp = .ok (eN (x * y)) t2' :=
  (ev_bin ha hb (by unfold mulD; simp only; rw [if_pos h])).trans (by simp)
theorem ev_fdiv {x y : Nat} (h : cDiv y = true) (ha : ma env tp = .ok (eN x) t1') (hb : mb env t1' = .ok (eN y) t2') : binE fdivD ma mb env tp = .ok (eN (x / y)) t2' :=
  (ev_bin ha hb (by unfold fdivD; simp only; rw [if_pos h])).trans (by simp)
theorem ev_mod {x y : Nat} (h : 0 < y) (ha : ma env tp = .ok (eN x) t1') (hb : mb env t1' = .ok (eN y) t2') : binE modD ma mb env tp = .ok (eN (x % y)) t2' :=
  (ev_bin ha hb (by unfold modD; simp only; rw [if_pos (by omega)])).trans (by simp)
theorem ev_pow {x y : Nat} (h : cPow x y = true) (ha : ma env tp = .ok (eN x) t1') (hb : mb env t1' = .ok (eN y) t2') : binE powD ma mb env tp = .ok (eN (x ^ y)) t2' :=
  (ev_bin ha hb (by unfold powD; simp only; rw [if_pos h])).trans (by simp)
theorem ev_shl {x y : Nat} (h : cPow x y = true) (ha : ma env tp = .ok (eN x) t1') (hb : mb env t1' = .ok (eN y) t2') : binE shlD ma mb env tp = .ok (eN (x * 2 ^ y)) t2' :=
  (ev_bin ha hb (by unfold shlD; simp only; rw [if_pos h])).trans (by simp)
theorem ev_shr {x y : Nat} (ha : ma env tp = .ok (eN x) t1') (hb : mb env t1' = .ok (eN y) t2') : binE shrD ma mb env tp = .ok (eN (x / 2 ^ y)) t2' :=
  (ev_bin ha hb (by unfold shrD; simp only; rw [if_pos (by omega)])).trans (by simp)
theorem ev_lt {x y : Nat} (ha : ma env tp = .ok (eN x) t1') (hb : mb env t1' = .ok (eN y) t2') : binE ltD ma mb env tp = .ok (eB (decide (x < y))) t2' :=
  (ev_bin ha hb rfl).trans (by simp)
theorem ev_le {x y : Nat} (ha : ma env tp = .ok (eN x) t1') (hb : mb env t1' = .ok (eN y) t2') : binE leD ma mb env tp = .ok (eB (decide (x ≤ y))) t2' :=
  (ev_bin ha hb rfl).trans (by simp)
theorem ev_gt {x y : Nat} (ha : ma env tp = .ok (eN x) t1') (hb : mb env t1' = .ok (eN y) t2') : binE gtD ma mb env tp = .ok (eB (decide (x > y))) t2' :=
  (ev_bin ha hb rfl).trans (by simp)
theorem ev_ge {x y : Nat} (ha : ma env tp = .ok (eN x) t1') (hb : mb env t1' = .ok (eN y) t2') : binE geD ma mb env tp = .ok (eB (decide (x ≥ y))) t2' :=
  (ev_bin ha hb rfl).trans (by simp)
theorem ev_addZ {x y : Int} (ha : ma env tp = .ok (eZ x) t1') (hb : mb env t1' = .ok (eZ y) t2') : binE addD ma mb env tp = .ok (eZ (x + y)) t2' := ev_bin ha hb rfl
theorem ev_subZ {x y : Int} (ha : ma env tp = .ok (eZ x) t1') (hb : mb env t1' = .ok (eZ y) t2') : binE subD ma mb env tp = .ok (eZ (x - y)) t2' := ev_bin ha hb rfl
theorem ev_mulZ {x y : Int} (h : cMul x y = true) (ha : ma env tp = .ok (eZ x) t1') (hb : mb env t1' = .ok (eZ y) t2') : binE mulD ma mb env tp = .ok (eZ (x * y)) t2' :=
  ev_bin ha hb (by unfold mulD; simp only; rw [if_pos h])
theorem ev_ltZ {x y : Int} (ha : ma env tp = .ok (eZ x) t1') (hb : mb env t1' = .ok (eZ y) t2') : binE ltD ma mb env tp = .ok (eB (decide (x < y))) t2' := ev_bin ha hb rfl
theorem ev_leZ {x y : Int} (ha : ma env tp = .ok (eZ x) t1') (hb : mb env t1' = .ok (eZ y) t2') : binE leD ma mb env tp = .ok (eB (decide (x ≤ y))) t2' := ev_bin ha hb rfl
theorem ev_gtZ {x y : Int} (ha : ma env tp = .ok (eZ x) t1') (hb : mb env t1' = .ok (eZ y) t2') : binE gtD ma mb env tp = .ok (eB (decide (x > y))) t2' := ev_bin ha hb rfl
theorem ev_geZ {x y : Int} (ha : ma env tp = .ok (eZ x) t1') (hb : mb env t1' = .ok (eZ y) t2') : binE geD ma mb env tp = .ok (eB (decide (x ≥ y))) t2' := ev_bin ha hb rfl
theorem ev_negZ {x : Int} (ha : ma env tp = .ok (eZ x) t1') : unE negD ma env tp = .ok (eZ (-x)) t1' := ev_un ha rfl
theorem ev_chLeLe {x y z : Nat} (ha : ma env tp = .ok (eN x) tp) (hb : mb env tp = .ok (eN y) tp) (hc : mc env tp = .ok (eN z) tp) : chainE leD leD ma mb mc env tp = .ok (eB (decide (x ≤ y ∧ y ≤ z))) tp := by
  unfold chainE; rw [ha]; simp only [RE.bind_ok]; rw [hb]; simp only [RE.bind_ok]
  by_cases q : x ≤ y
  · rw [show leD (eN x) (eN y) = some (.bl true) from by show some (D.bl (decide ((x : Int) ≤ y))) = _; rw [decide_eq_true (by omega)]]
    simp only; rw [hc]; simp only [RE.bind_ok]
    show RE.of (some (D.bl (decide ((y : Int) ≤ z)))) tp = _
    simp [q]
  · rw [show leD (eN x) (eN y) = some (.bl false) from by show some (D.bl (decide ((x : Int) ≤ y))) = _; rw [decide_eq_false (by omega)]]
    simp [q]
theorem ev_chLeLt {x y z : Nat} (ha : ma env tp = .ok (eN x) tp) (hb : mb env tp = .ok (eN y) tp) (hc : mc env tp = .ok (eN z) tp) : chainE leD ltD ma mb mc env tp = .ok (eB (decide (x ≤ y ∧ y < z))) tp := by
  unfold chainE; rw [ha]; simp only [RE.bind_ok]; rw [hb]; simp only [RE.bind_ok]
  by_cases q : x ≤ y
  · rw [show leD (eN x) (eN y) = some (.bl true) from by show some (D.bl (decide ((x : Int) ≤ y))) = _; rw [decide_eq_true (by omega)]]
    simp only; rw [hc]; simp only [RE.bind_ok]
    show RE.of (some (D.bl (decide ((y : Int) < z)))) tp = _
    simp [q]
  · rw [show leD (eN x) (eN y) = some (.bl false) from by show some (D.bl (decide ((x : Int) ≤ y))) = _; rw [decide_eq_false (by omega)]]
    simp [q]
/-! equality, membership -/
section
variable [DecidableEq α] {k : Nat}
theorem ev_eq {x y : α} (h : EqE k e) (hk : Nat.ble k 60 = true) (ha : ma env tp = .ok (e x) t1') (hb : mb env t1' = .ok (e y) t2') : binE eqD ma mb env tp = .ok (eB (decide (x = y))) t2' := ev_bin ha hb (eqD_E h (Nat.le_of_ble_eq_true hk) x y)
theorem ev_ne {x y : α} (h : EqE k e) (hk : Nat.ble k 60 = true) (ha : ma env tp = .ok (e x) t1') (hb : mb env t1' = .ok (e y) t2') : binE neD ma mb env tp = .ok (eB (decide (x ≠ y))) t2' := ev_bin ha hb (neD_E h (Nat.le_of_ble_eq_true hk) x y)
theorem ev_inL {x : α} {xs : List α} (h : EqE k e) (hk : Nat.ble k 59 = true) (ha : ma env tp = .ok (e x) t1') (hb : mb env t1' = .ok (eL e xs) t2') : binE inD ma mb env tp = .ok (eB (decide (x ∈ xs))) t2' := ev_bin ha hb (inD_L h (Nat.le_of_ble_eq_true hk) x xs)
theorem ev_inT {x : α} {xs : List α} (h : EqE k e) (hk : Nat.ble k 59 = true) (ha : ma env tp = .ok (e x) t1') (hb : mb env t1' = .ok (eT e xs) t2') : binE inD ma mb env tp = .ok (eB (decide (x ∈ xs))) t2' := ev_bin ha hb (inD_T h (Nat.le_of_ble_eq_true hk) x xs)
theorem ev_ninL {x : α} {xs : List α} (h : EqE k e) (hk : Nat.ble k 59 = true) (ha : ma env tp = .ok (e x) t1') (hb : mb env t1' = .ok (eL e xs) t2') : binE notInD ma mb env tp = .ok (eB (decide (x ∉ xs))) t2' := ev_bin ha hb (notInD_L h (Nat.le_of_ble_eq_true hk) x xs)
theorem ev_ninT {x : α} {xs : List α} (h : EqE k e) (hk : Nat.ble k 59 = true) (ha : ma env tp = .ok (e x) t1') (hb : mb env t1' = .ok (eT e xs) t2') : binE notInD ma mb env tp = .ok (eB (decide (x ∉ xs))) t2' := ev_bin ha hb (notInD_T h (Nat.le_of_ble_eq_true hk) x xs)
end
theorem isNon_O {e : α → D} (n : ∀ x, isNoneD (e x) .non = some (.bl false)) (x : Option α) : isNoneD (eO e x) .non = some (.bl (decide (x = none))) := by
  cases x with
  | none => rfl
  | some x => refine (n x).trans ?_; simp
theorem isNotNon_O {e : α → D} (n : ∀ x, isNotNoneD (e x) .non = some (.bl true)) (x : Option α) : isNotNoneD (eO e x) .non = some (.bl (decide (x ≠ none))) := by
  cases x with
  | none => rfl
  | some x => refine (n x).trans ?_; simp
theorem ev_isNon {x : Option α} (n : ∀ x, isNoneD (e x) .non = some (.bl false)) (ha : ma env tp = .ok (eO e x) t1') (hb : mb env t1' = .ok .non t2') : binE isNoneD ma mb env tp = .ok (eB (decide (x = none))) t2' := ev_bin ha hb (isNon_O n x)
theorem ev_isNotNon {x : Option α} (n : ∀ x, isNotNoneD (e x) .non = some (.bl true)) (ha : ma env tp = .ok (eO e x) t1') (hb : mb env t1' = .ok .non t2') : binE isNotNoneD ma mb env tp = .ok (eB (decide (x ≠ none))) t2' := ev_bin ha hb (isNotNon_O n x)
theorem ev_isB {x y : Bool} (ha : ma env tp = .ok (eB x) t1') (hb : mb env t1' = .ok (eB y) t2') : binE isNoneD ma mb env tp = .ok (eB (decide (x = y))) t2' := ev_bin ha hb (by cases x <;> cases y <;> rfl)
theorem ev_isNotB {x y : Bool} (ha : ma env tp = .ok (eB x) t1') (hb : mb env t1' = .ok (eB y) t2') : binE isNotNoneD ma mb env tp = .ok (eB (decide (x ≠ y))) t2' := ev_bin ha hb (by cases x <;> cases y <;> rfl)
theorem ev_get {x : Option α} [Inhabited α] (h : x ≠ none) (ha : m env tp = .ok (eO e x) t1') : m env tp = .ok (e (x.getD default)) t1' := by
  cases x with
  | none => exact (h rfl).elim
  | some x => exact ha
/-! lists, tuples, rows -/
theorem get!_map [Inhabited α] {xs : List α} {i : Nat} (h : i < xs.length) : atI (xs.map e) (i : Int) = some (e xs[i]!) := by
  rw [atI_nat', List.getElem?_map, List.getElem?_eq_getElem h, getElem!_pos xs i h]; rfl
theorem ev_ixL [Inhabited α] {xs : List α} {i : Nat} (h : i < xs.length) (ha : ma env tp = .ok (eL e xs) t1') (hb : mb env t1' = .ok (eN i) t2') : binE ixD ma mb env tp = .ok (e xs[i]!) t2' := ev_bin ha hb (get!_map h)
theorem ev_ixT [Inhabited α] {xs : List α} {i : Nat} (h : i < xs.length) (ha : ma env tp = .ok (eT e xs) t1') (hb : mb env t1' = .ok (eN i) t2') : binE ixD ma mb env tp = .ok (e xs[i]!) t2' := ev_bin ha hb (get!_map h)
theorem get!_row {r : Row} {i : Nat} (hl : r.length ≤ 1000000) (h : i < r.length) : ixD (eR r) (eN i) = some (eG r[i]!) := by
  show (if (rowS r).length ≤ sizeLine then (atI (rowS r).cps.toList (i : Int)).map (fun c => D.str ⟨#[c]⟩) else none) = _
  rw [rowS_len, if_pos (small_line hl), row_toList, atI_nat', List.getElem?_map, List.getElem?_eq_getElem h, getElem!_pos r i h]; rfl
theorem ev_ixR {r : Row} {i : Nat} (h : r.length ≤ 1000000 ∧ i < r.length) (ha : ma env tp = .ok (eR r) t1') (hb : mb env t1' = .ok (eN i) t2') : binE ixD ma mb env tp = .ok (eG r[i]!) t2' := ev_bin ha hb (get!_row h.1 h.2)
theorem lastI [Inhabited α] {xs : List α} (h : xs ≠ []) : atI (xs.map e) (-1) = some (e xs[xs.length - 1]!) := by
  have hp := List.length_pos_iff.mpr h
  have hi : ixN (xs.map e).length (-1) = some (xs.length - 1) := by
    unfold ixN
    rw [List.length_map]
    simp
    omega
  unfold atI
  rw [hi]
  show (xs.map e)[xs.length - 1]? = _
  rw [List.getElem?_map, List.getElem?_eq_getElem (show xs.length - 1 < xs.length by omega), getElem!_pos xs _ (show xs.length - 1 < xs.length by omega)]; rfl
theorem ev_lastL [Inhabited α] {xs : List α} (h : xs ≠ []) (ha : ma env tp = .ok (eL e xs) t1') (hb : mb env t1' = .ok (.int (-1)) t2') : binE ixD ma mb env tp = .ok (e xs[xs.length - 1]!) t2' := ev_bin ha hb (lastI h)
theorem ev_lastT [Inhabited α] {xs : List α} (h : xs ≠ []) (ha : ma env tp = .ok (eT e xs) t1') (hb : mb env t1' = .ok (.int (-1)) t2') : binE ixD ma mb env tp = .ok (e xs[xs.length - 1]!) t2' := ev_bin ha hb (lastI h)
theorem ev_fst {x : α × β} (ha : ma env tp = .ok (eP e e1 x) t1') (hb : mb env t1' = .ok (.int 0) t2') : binE ixD ma mb env tp = .ok (e x.1) t2' := ev_bin ha hb rfl
theorem ev_snd {x : α × β} (ha : ma env tp = .ok (eP e e1 x) t1') (hb : mb env t1' = .ok (.int 1) t2') : binE ixD ma mb env tp = .ok (e1 x.2) t2' := ev_bin ha hb rfl
theorem ev_p31 {x : α × β × γ} (ha : ma env tp = .ok (eP3 e e1 e2 x) t1') (hb : mb env t1' = .ok (.int 0) t2') : binE ixD ma mb env tp = .ok (e x.1) t2' := ev_bin ha hb rfl
theorem ev_p32 {x : α × β × γ} (ha : ma env tp = .ok (eP3 e e1 e2 x) t1') (hb : mb env t1' = .ok (.int 1) t2') : binE ixD ma mb env tp = .ok (e1 x.2.1) t2' := ev_bin ha hb rfl
theorem ev_p33 {x : α × β × γ} (ha : ma env tp = .ok (eP3 e e1 e2 x) t1') (hb : mb env t1' = .ok (.int 2) t2') : binE ixD ma mb env tp = .ok (e2 x.2.2) t2' := ev_bin ha hb rfl
theorem ev_lenL {xs : List α} (h : m env tp = .ok (eL e xs) t1') : callB lenD (consA m nilA) env tp = .ok (eN xs.length) t1' :=
  ev_callB (ev_cons h ev_nil) (by show some (D.int ((xs.map e).length : Int)) = _; rw [List.length_map])
theorem ev_lenT {xs : List α} (h : m env tp = .ok (eT e xs) t1') : callB lenD (consA m nilA) env tp = .ok (eN xs.length) t1' :=
  ev_callB (ev_cons h ev_nil) (by show some (D.int ((xs.map e).length : Int)) = _; rw [List.length_map])
theorem ev_lenR {r : Row} (hl : r.length ≤ 1000000) (h : m env tp = .ok (eR r) t1') : callB lenD (consA m nilA) env tp = .ok (eN r.length) t1' :=
  ev_callB (ev_cons h ev_nil) (by show (if (rowS r).length ≤ sizeLine then some (D.int ((rowS r).length : Int)) else none) = _; rw [rowS_len, if_pos (small_line hl)])
theorem ev_tupleL {xs : List α} (h : m env tp = .ok (eL e xs) t1') : callB tupleD (consA m nilA) env tp = .ok (eT e xs) t1' := ev_callB (ev_cons h ev_nil) rfl
theorem ev_tupleT {xs : List α} (h : m env tp = .ok (eT e xs) t1') : callB tupleD (consA m nilA) env tp = .ok (eT e xs) t1' := ev_callB (ev_cons h ev_nil) rfl
theorem ev_listL {xs : List α} (h : m env tp = .ok (eL e xs) t1') : callB listD (consA m nilA) env tp = .ok (eL e xs) t1' := ev_callB (ev_cons h ev_nil) rfl
theorem ev_listT {xs : List α} (h : m env tp = .ok (eT e xs) t1') : callB listD (consA m nilA) env tp = .ok (eL e xs) t1' := ev_callB (ev_cons h ev_nil) rfl
theorem ev_catL {xs ys : List α} (h : xs.length + ys.length ≤ 1000000) (ha : ma env tp = .ok (eL e xs) t1') (hb : mb env t1' = .ok (eL e ys) t2') : binE addD ma mb env tp = .ok (eL e (xs ++ ys)) t2' :=
  ev_bin ha hb (by show (if (xs.map e).length + (ys.map e).length ≤ sizeLine then some (D.lst (xs.map e ++ ys.map e)) else none) = _; rw [List.length_map, List.length_map, if_pos (small_line h), ← List.map_append])
theorem ev_catT {xs ys : List α} (h : xs.length + ys.length ≤ 1000000) (ha : ma env tp = .ok (eT e xs) t1') (hb : mb env t1' = .ok (eT e ys) t2') : binE addD ma mb env tp = .ok (eT e (xs ++ ys)) t2' :=
  ev_bin ha hb (by show (if (xs.map e).length + (ys.map e).length ≤ sizeLine then some (D.tup (xs.map e ++ ys.map e)) else none) = _; rw [List.length_map, List.length_map, if_pos (small_line h), ← List.map_append])
theorem ev_catR {xs ys : Row} (h : xs.length + ys.length ≤ 1000000) (ha : ma env tp = .ok (eR xs) t1') (hb : mb env t1' = .ok (eR ys) t2') : binE addD ma mb env tp = .ok (eR (xs ++ ys)) t2' :=
  ev_bin ha hb (by show (if (rowS xs).length + (rowS ys).length ≤ sizeLine then some (D.str (rowS xs ++ rowS ys)) else none) = _; rw [rowS_len, rowS_len, if_pos (small_line h), rowS_app])
theorem ev_catS {xs ys : Str} (h : xs.length + ys.length ≤ 1000000) (ha : ma env tp = .ok (eS xs) t1') (hb : mb env t1' = .ok (eS ys) t2') : binE addD ma mb env tp = .ok (eS (xs ++ ys)) t2' :=
  ev_bin ha hb (by show (if xs.length + ys.length ≤ sizeLine then some (D.str (xs ++ ys)) else none) = _; rw [if_pos (small_line h)])
theorem ev_repG {b : Bool} {n : Nat} (h : n ≤ 16777216) (ha : ma env tp = .ok (eG b) t1') (hb : mb env t1' = .ok (eN n) t2') : binE mulD ma mb env tp = .ok (eR (List.replicate n b)) t2' :=
  ev_bin ha hb (by
    show (if cRep (rowS [b]).length (n : Int) then some (D.str (Txt.mul (rowS [b]) (n : Int))) else none) = _
    have c : cRep (rowS [b]).length (n : Int) = true := by
      rw [rowS_len]; unfold cRep
      have a1 : (0 : Int) ≤ n := by omega
      have a2 : (([b] : Row).length : Int) * (n : Int) ≤ 16777216 := by simp; omega
      have a3 : (n : Int) ≤ 16777216 := by omega
      rw [decide_eq_true a1, decide_eq_true a2, decide_eq_true a3]; rfl
    rw [if_pos c, mul_row])
theorem flatten_rep1 (n : Nat) (x : D) : (List.replicate n [x]).flatten = List.replicate n x := by
  induction n with
  | zero => rfl
  | succ n ih => rw [List.replicate_succ, List.flatten_cons, ih, List.replicate_succ]; rfl
theorem ev_repL1 {x : α} {n : Nat} (h : n ≤ 16777216) (ha : ma env tp = .ok (eL e [x]) t1') (hb : mb env t1' = .ok (eN n) t2') : binE mulD ma mb env tp = .ok (eL e (List.replicate n x)) t2' :=
  ev_bin ha hb (by
    show (if cRep 1 (n : Int) then some (D.lst (List.replicate (n : Int).toNat [e x]).flatten) else none) = _
    have c : cRep 1 (n : Int) = true := by
      unfold cRep
      have a1 : (0 : Int) ≤ n := by omega
      have a2 : ((1 : Nat) : Int) * (n : Int) ≤ 16777216 := by simp; omega
      have a3 : (n : Int) ≤ 16777216 := by omega
      rw [decide_eq_true a1, decide_eq_true a2, decide_eq_true a3]; rfl
    rw [if_pos c, Int.toNat_natCast, flatten_rep1, ← List.map_replicate])
theorem ev_repT1 {x : α} {n : Nat} (h : 1 ≤ n ∧ n ≤ 1000) (ha : ma env tp = .ok (eT e [x]) t1') (hb : mb env t1' = .ok (eN n) t2') : binE mulD ma mb env tp = .ok (eT e (List.replicate n x)) t2' :=
  ev_bin ha hb (by
    show (if cRepT 1 (n : Int) then some (D.tup (List.replicate (n : Int).toNat [e x]).flatten) else none) = _
    have c : cRepT 1 (n : Int) = true := by
      unfold cRepT
      have a1 : (1 : Int) ≤ n := by omega
      have a3 : (n : Int) ≤ 1000 := by omega
      rw [decide_eq_true a1, decide_eq_true a3]; rfl
    rw [if_pos c, Int.toNat_natCast, flatten_rep1, ← List.map_replicate])
/-! slices -/
theorem cut_toL {α : Type} (xs : List α) (k : Nat) : cutD xs none (some (k : Int)) = xs.take k := by
  unfold cutD
  rw [HT.sIx_none, HT.sIx_nat, List.drop_zero, Nat.sub_zero]
  by_cases h : k ≤ xs.length
  · rw [Nat.min_eq_left h]
  · rw [Nat.min_eq_right (by omega), List.take_of_length_le (by omega), List.take_of_length_le (by omega)]
theorem cut_fromL {α : Type} (xs : List α) (k : Nat) : cutD xs (some (k : Int)) none = xs.drop k := by
  unfold cutD
  rw [HT.sIx_none, HT.sIx_nat]
  by_cases h : k ≤ xs.length
  · rw [Nat.min_eq_left h, List.take_of_length_le (by rw [List.length_drop]; omega)]
  · rw [Nat.min_eq_right (by omega), List.drop_of_length_le (by omega), List.drop_of_length_le (by omega)]; simp
theorem cut_bothL {α : Type} (xs : List α) (a b : Nat) : cutD xs (some (a : Int)) (some (b : Int)) = (xs.drop a).take (b - a) := by
  unfold cutD
  rw [HT.sIx_nat, HT.sIx_nat]
  by_cases h : a ≤ xs.length
  · rw [Nat.min_eq_left h]
    by_cases h2 : b ≤ xs.length
    · rw [Nat.min_eq_left h2]
    · rw [Nat.min_eq_right (by omega : xs.length ≤ b), List.take_of_length_le (by rw [List.length_drop]; omega), List.take_of_length_le (by rw [List.length_drop]; omega)]
  · rw [Nat.min_eq_right (by omega : xs.length ≤ a), List.drop_of_length_le (Nat.le_refl _), List.drop_of_length_le (show xs.length ≤ a by omega)]; simp
theorem ev_optN : optI none env tp = .ok none tp := rfl
theorem ev_optS {i : Int} (h : m env tp = .ok (.int i) t1') : optI (some m) env tp = .ok (some i) t1' := by
  unfold optI; simp only; rw [h]; rfl
theorem ev_sl {a z : D} {ml mh : SE (Option Int)} {lo hi : Option Int} (ha : m env tp = .ok a t1') (hl : ml env t1' = .ok lo t2') (hh : mh env t2' = .ok hi t3') (h : sliceD a lo hi = some z) : sliceE m ml mh env tp = .ok z t3' := by
  unfold sliceE; rw [ha]; simp only [RE.bind_ok]; rw [hl]; simp only [RE.bind_ok]; rw [hh]; simp only [RE.bind_ok]; rw [h]; rfl
theorem ev_toL {xs : List α} {k : Nat} (ha : m env tp = .ok (eL e xs) t1') (hh : mb env t1' = .ok (eN k) t2') : sliceE m (optI none) (optI (some mb)) env tp = .ok (eL e (xs.take k)) t2' :=
  ev_sl ha ev_optN (ev_optS hh) (by show some (D.lst (cutD (xs.map e) none (some (k : Int)))) = _; rw [cut_toL, ← List.map_take])
theorem ev_toT {xs : List α} {k : Nat} (ha : m env tp = .ok (eT e xs) t1') (hh : mb env t1' = .ok (eN k) t2') : sliceE m (optI none) (optI (some mb)) env tp = .ok (eT e (xs.take k)) t2' :=
  ev_sl ha ev_optN (ev_optS hh) (by show some (D.tup (cutD (xs.map e) none (some (k : Int)))) = _; rw [cut_toL, ← List.map_take])
theorem ev_fromL {xs : List α} {k : Nat} (ha : m env tp = .ok (eL e xs) t1') (hh : mb env t1' = .ok (eN k) t2') : sliceE m (optI (some mb)) (optI none) env tp = .ok (eL e (xs.drop k)) t2' :=
  ev_sl ha (ev_optS hh) ev_optN (by show some (D.lst (cutD (xs.map e) (some (k : Int)) none)) = _; rw [cut_fromL, ← List.map_drop])
theorem ev_fromT {xs : List α} {k : Nat} (ha : m env tp = .ok (eT e xs) t1') (hh : mb env t1' = .ok (eN k) t2') : sliceE m (optI (some mb)) (optI none) env tp = .ok (eT e (xs.drop k)) t2' :=
  ev_sl ha (ev_optS hh) ev_optN (by show some (D.tup (cutD (xs.map e) (some (k : Int)) none)) = _; rw [cut_fromL, ← List.map_drop])
theorem ev_cutL {xs : List α} {k l : Nat} (ha : m env tp = .ok (eL e xs) t1') (hl : ma env t1' = .ok (eN k) t2') (hh : mb env t2' = .ok (eN l) t3') : sliceE m (optI (some ma)) (optI (some mb)) env tp = .ok (eL e ((xs.drop k).take (l - k))) t3' :=
  ev_sl ha (ev_optS hl) (ev_optS hh) (by show some (D.lst (cutD (xs.map e) (some (k : Int)) (some (l : Int)))) = _; rw [cut_bothL, ← List.map_drop, ← List.map_take])
theorem ev_cutT {xs : List α} {k l : Nat} (ha : m env tp = .ok (eT e xs) t1') (hl : ma env t1' = .ok (eN k) t2') (hh : mb env t2' = .ok (eN l) t3') : sliceE m (optI (some ma)) (optI (some mb)) env tp = .ok (eT e ((xs.drop k).take (l - k))) t3' :=
  ev_sl ha (ev_optS hl) (ev_optS hh) (by show some (D.tup (cutD (xs.map e) (some (k : Int)) (some (l : Int)))) = _; rw [cut_bothL, ← List.map_drop, ← List.map_take])
theorem sl_row {r : Row} {lo hi : Option Int} (h : r.length ≤ 1000000) : sliceD (eR r) lo hi = some (eR (cutD r lo hi)) := by
  show (if (rowS r).length ≤ sizeLine then some (D.str (cutS (rowS r) lo hi)) else none) = _
  rw [rowS_len, if_pos (small_line h), row_cut]
theorem ev_toR {xs : Row} {k : Nat} (h : xs.length ≤ 1000000) (ha : m env tp = .ok (eR xs) t1') (hh : mb env t1' = .ok (eN k) t2') : sliceE m (optI none) (optI (some mb)) env tp = .ok (eR (xs.take k)) t2' :=
  ev_sl ha ev_optN (ev_optS hh) (by rw [sl_row h, cut_toL])
theorem ev_fromR {xs : Row} {k : Nat} (h : xs.length ≤ 1000000) (ha : m env tp = .ok (eR xs) t1') (hh : mb env t1' = .ok (eN k) t2') : sliceE m (optI (some mb)) (optI none) env tp = .ok (eR (xs.drop k)) t2' :=
  ev_sl ha (ev_optS hh) ev_optN (by rw [sl_row h, cut_fromL])
theorem ev_cutR {xs : Row} {k l : Nat} (h : xs.length ≤ 1000000) (ha : m env tp = .ok (eR xs) t1') (hl : ma env t1' = .ok (eN k) t2') (hh : mb env t2' = .ok (eN l) t3') : sliceE m (optI (some ma)) (optI (some mb)) env tp = .ok (eR ((xs.drop k).take (l - k))) t3' :=
  ev_sl ha (ev_optS hl) (ev_optS hh) (by rw [sl_row h, cut_bothL])
theorem cut_m1 {α : Type} (xs : List α) : cutD xs none (some (-1)) = xs.dropLast := by
  unfold cutD
  rw [HT.sIx_none, List.drop_zero, Nat.sub_zero, List.dropLast_eq_take]
  congr 1
  unfold HT.sIx
  first
  | (simp only []; omega)
  | (simp; omega)
  | (split <;> omega)
theorem ev_butL {xs : List α} (ha : m env tp = .ok (eL e xs) t1') (hh : mb env t1' = .ok (.int (-1)) t2') : sliceE m (optI none) (optI (some mb)) env tp = .ok (eL e xs.dropLast) t2' :=
  ev_sl ha ev_optN (ev_optS hh) (by show some (D.lst (cutD (xs.map e) none (some (-1)))) = _; rw [cut_m1, ← List.map_dropLast])
theorem ev_butT {xs : List α} (ha : m env tp = .ok (eT e xs) t1') (hh : mb env t1' = .ok (.int (-1)) t2') : sliceE m (optI none) (optI (some mb)) env tp = .ok (eT e xs.dropLast) t2' :=
  ev_sl ha ev_optN (ev_optS hh) (by show some (D.tup (cutD (xs.map e) none (some (-1)))) = _; rw [cut_m1, ← List.map_dropLast])
theorem ev_revL {xs : List α} (ha : m env tp = .ok (eL e xs) t1') : revE m env tp = .ok (eL e xs.reverse) t1' := by
  unfold revE; rw [ha]; simp only [RE.bind_ok]
  show RE.of (some (D.lst (xs.map e).reverse)) t1' = _
  rw [← List.map_reverse]; rfl
end
end T

set_option maxHeartbeats 1000000
/-! T1: typed comprehensions, walks, built-ins; statements by what is wanted behind them. -/
namespace T
open PySem L2 G
theorem kb_NoneType_int : kitB "NoneType" "int" = some false := by decide +kernel
theorem kb_NoneType_str : kitB "NoneType" "str" = some false := by decide +kernel
theorem kb_NoneType_bool : kitB "NoneType" "bool" = some false := by decide +kernel
theorem kb_NoneType_tuple : kitB "NoneType" "tuple" = some false := by decide +kernel
theorem kb_NoneType_list : kitB "NoneType" "list" = some false := by decide +kernel
theorem kb_NoneType_dict : kitB "NoneType" "dict" = some false := by decide +kernel
theorem kb_bool_int : kitB "bool" "int" = some true := by decide +kernel
theorem kb_bool_str : kitB "bool" "str" = some false := by decide +kernel
theorem kb_bool_bool : kitB "bool" "bool" = some true := by decide +kernel
theorem kb_bool_tuple : kitB "bool" "tuple" = some false := by decide +kernel
theorem kb_bool_list : kitB "bool" "list" = some false := by decide +kernel
theorem kb_bool_dict : kitB "bool" "dict" = some false := by decide +kernel
theorem kb_int_int : kitB "int" "int" = some true := by decide +kernel
theorem kb_int_str : kitB "int" "str" = some false := by decide +kernel
theorem kb_int_bool : kitB "int" "bool" = some false := by decide +kernel
theorem kb_int_tuple : kitB "int" "tuple" = some false := by decide +kernel
theorem kb_int_list : kitB "int" "list" = some false := by decide +kernel
theorem kb_int_dict : kitB "int" "dict" = some false := by decide +kernel
theorem kb_str_int : kitB "str" "int" = some false := by decide +kernel
theorem kb_str_str : kitB "str" "str" = some true := by decide +kernel
theorem kb_str_bool : kitB "str" "bool" = some false := by decide +kernel
theorem kb_str_tuple : kitB "str" "tuple" = some false := by decide +kernel
theorem kb_str_list : kitB "str" "list" = some false := by decide +kernel
theorem kb_str_dict : kitB "str" "dict" = some false := by decide +kernel
theorem kb_tuple_int : kitB "tuple" "int" = some false := by decide +kernel
theorem kb_tuple_str : kitB "tuple" "str" = some false := by decide +kernel
theorem kb_tuple_bool : kitB "tuple" "bool" = some false := by decide +kernel
theorem kb_tuple_tuple : kitB "tuple" "tuple" = some true := by decide +kernel
theorem kb_tuple_list : kitB "tuple" "list" = some false := by decide +kernel
theorem kb_tuple_dict : kitB "tuple" "dict" = some false := by decide +kernel
theorem kb_list_int : kitB "list" "int" = some false := by decide +kernel
theorem kb_list_str : kitB "list" "str" = some false := by decide +kernel
theorem kb_list_bool : kitB "list" "bool" = some false := by decide +kernel
theorem kb_list_tuple : kitB "list" "tuple" = some false := by decide +kernel
theorem kb_list_list : kitB "list" "list" = some true := by decide +kernel
theorem kb_list_dict : kitB "list" "dict" = some false := by decide +kernel
theorem kb_dict_int : kitB "dict" "int" = some false := by decide +kernel
theorem kb_dict_str : kitB "dict" "str" = some false := by decide +kernel
theorem kb_dict_bool : kitB "dict" "bool" = some false := by decide +kernel
theorem kb_dict_tuple : kitB "dict" "tuple" = some false := by decide +kernel
theorem kb_dict_list : kitB "dict" "list" = some false := by decide +kernel
theorem kb_dict_dict : kitB "dict" "dict" = some true := by decide +kernel
theorem sub_row (r : Row) (b : Bool) (i : Nat) : Builtin.Str.subAt (rowS r) (rowS [b]) i = decide (r[i]? = some b) := by
  rw [StrLaws.subAt_eq, row_toList, row_toList, rowS_len]
  show (List.take 1 (List.drop i (r.map sg)) == [sg b]) = _
  cases h : r[i]? with
  | none =>
    rw [List.drop_of_length_le (by rw [List.length_map]; exact List.getElem?_eq_none_iff.mp h)]
    cases b <;> rfl
  | some c =>
    have hi : i < r.length := (List.getElem?_eq_some_iff.mp h).1
    have e : r[i] = c := (List.getElem?_eq_some_iff.mp h).2
    rw [List.drop_eq_getElem_cons (by rw [List.length_map]; exact hi), List.getElem_map, e]
    show ([sg c] == [sg b]) = _
    cases b <;> cases c <;> decide
theorem occ_row (r : Row) (b : Bool) (limit : Nat) : ∀ (n a : Nat) (st : Array Nat × Nat), st.2 ≤ a → st.1.size ≤ a → r.length < limit → a + n = r.length + 1 → (forIn (List.range' a n) st (StrLaws.occBody (rowS r) (rowS [b]) (rowS r).length limit)).run.fst.size = st.1.size + (r.drop a).count b
  | 0, a, st, h1, h2, h3, h4 => by
    rw [List.drop_of_length_le (by omega)]
    rfl
  | n + 1, a, st, h1, h2, h3, h4 => by
    rw [List.range'_succ, List.forIn_cons]
    by_cases c : ((st.1.size < limit ∧ st.2 ≤ a) ∧ a + 1 ≤ r.length) ∧ decide (r[a]? = some b) = true
    · have hb : StrLaws.occBody (rowS r) (rowS [b]) (rowS r).length limit a st = pure (ForInStep.yield (st.1.push a, a + 1)) := by
        unfold StrLaws.occBody
        rw [sub_row, rowS_len, rowS_len]
        exact if_pos c
      rw [hb]
      have hi : a < r.length := c.1.2
      have e : r[a]? = some b := of_decide_eq_true c.2
      have e' : r[a] = b := (List.getElem?_eq_some_iff.mp e).2
      have ih := occ_row r b limit n (a + 1) (st.1.push a, a + 1) (Nat.le_refl _) (by simp; omega) h3 (by omega)
      refine Eq.trans ?_ (ih.trans ?_)
      · rfl
      · rw [List.drop_eq_getElem_cons hi, e', List.count_cons_self]
        simp; omega
    · have hb : StrLaws.occBody (rowS r) (rowS [b]) (rowS r).length limit a st = pure (ForInStep.yield (st.1, st.2)) := by
        unfold StrLaws.occBody
        rw [sub_row, rowS_len, rowS_len]
        exact if_neg c
      rw [hb]
      have ih := occ_row r b limit n (a + 1) st (by omega) (by omega) h3 (by omega)
      refine Eq.trans ?_ (ih.trans ?_)
      · rfl
      · by_cases hi : a < r.length
        · have ne : r[a] ≠ b := fun e => c ⟨⟨⟨by omega, h1⟩, hi⟩, decide_eq_true (by rw [List.getElem?_eq_getElem hi, e])⟩
          rw [List.drop_eq_getElem_cons hi, List.count_cons_of_ne ne]
        · rw [List.drop_of_length_le (by omega), List.drop_of_length_le (by omega)]
theorem count_row (r : Row) (b : Bool) : Txt.count (rowS r) (rowS [b]) = (r.count b : Int) := by
  show ((Builtin.Str.occurrences (rowS r) (rowS [b]) 0 (rowS r).length ((rowS r).length + 1)).length : Int) = _
  rw [StrLaws.occ_eq, Array.length_toList]
  have := occ_row r b ((rowS r).length + 1) ((rowS r).length + 1 - 0) 0 (#[], 0) (Nat.le_refl _) (Nat.le_refl _) (by rw [rowS_len]; omega) (by rw [rowS_len]; omega)
  rw [this]
  simp
section
variable {α β γ δ : Type} {e : α → D} {e1 : β → D} {e2 : γ → D} {env : DEnv} {tp t1' t2' t3' t4' : List D} {m ma mb mc : SE D} {mi mi1 : SE (List D)} {ms : SE (List D)} {c c1 : SE Bool}
theorem ev_isi {d : D} {a n : String} {b : Bool} (ha : ma env tp = .ok d t1') (ht : tyN d = some a) (hk : kitB a n = some b) : callB isiD (consA ma (consA (cE (.ty n)) nilA)) env tp = .ok (eB b) t1' := by
  refine ev_callB (ds := [d, .ty n]) (ev_cons ha (ev_cons (m := cE (.ty n)) rfl ev_nil)) ?_
  show (tyN d).bind (fun t => (kitB t n).map D.bl) = some (.bl b)
  rw [ht]
  show (kitB a n).map D.bl = some (.bl b)
  rw [hk]; rfl
/-! ### what is walked over -/
theorem it_L {xs : List α} (h : m env tp = .ok (eL e xs) t1') : seqI m env tp = .ok (xs.map e) t1' := by unfold seqI; rw [h]; rfl
theorem it_T {xs : List α} (h : m env tp = .ok (eT e xs) t1') : seqI m env tp = .ok (xs.map e) t1' := by unfold seqI; rw [h]; rfl
theorem row_items (r : Row) : seqD (eR r) = some (r.map eG) := by
  show some ((rowS r).cps.toList.map fun c => D.str ⟨#[c]⟩) = _
  rw [row_toList, List.map_map]; rfl
theorem it_R {r : Row} (h : m env tp = .ok (eR r) t1') : seqI m env tp = .ok (r.map eG) t1' := by
  unfold seqI; rw [h]; simp only [RE.bind_ok]; rw [row_items]; rfl
theorem rangeL_N (n : Nat) : rangeL 0 (n : Int) = (List.range n).map eN := by
  unfold rangeL
  rw [Int.sub_zero, Int.toNat_natCast]
  exact List.map_congr_left fun a _ => by rw [Int.zero_add]
theorem rangeL_N2 (a n : Nat) : rangeL (a : Int) (n : Int) = (List.range' a (n - a)).map eN := by
  unfold rangeL
  have : ((n : Int) - (a : Int)).toNat = n - a := by omega
  rw [this, List.range'_eq_map_range, List.map_map]
  exact List.map_congr_left fun b _ => by simp
theorem cRg_nat {n : Nat} (h : n ≤ 1073741824) : cRg (n : Int) = true := by
  unfold cRg
  have h1 : -(2 ^ 62) ≤ (n : Int) := by omega
  have h2 : (n : Int) < 2 ^ 62 := by omega
  rw [decide_eq_true h1, decide_eq_true h2]; rfl
theorem range1D_i {i : Int} (h : cRg i = true) : range1D [.int i] = some (rangeL 0 i) := by
  show (if cRg i then some (rangeL 0 i) else none) = _
  rw [if_pos h]
theorem range2D_i {i j : Int} (h : cRg i = true) (h2 : cRg j = true) : range2D [.int i, .int j] = some (rangeL i j) := by
  show (if (cRg i && cRg j) = true then some (rangeL i j) else none) = _
  rw [h, h2]; rfl
theorem range1D_N {n : Nat} (hn : n ≤ 1073741824) : range1D [eN n] = some ((List.range n).map eN) := by
  rw [← rangeL_N]; exact range1D_i (cRg_nat hn)
theorem range2D_N {a n : Nat} (ha : a ≤ 1073741824) (hn : n ≤ 1073741824) : range2D [eN a, eN n] = some ((List.range' a (n - a)).map eN) := by
  rw [← rangeL_N2]; exact range2D_i (cRg_nat ha) (cRg_nat hn)
theorem ev_rangeI {f : List D → Option (List D)} {ds its : List D} (h : ms env tp = .ok ds t1') (hf : f ds = some its) : rangeI f ms env tp = .ok its t1' := by
  unfold rangeI; rw [h]; simp only [RE.bind_ok]; rw [hf]; rfl
theorem it_range {n : Nat} (hn : n ≤ 1073741824) (h : m env tp = .ok (eN n) t1') : rangeI range1D (consA m nilA) env tp = .ok ((List.range n).map eN) t1' :=
  ev_rangeI (ev_cons h ev_nil) (range1D_N hn)
theorem it_range2 {a n : Nat} (hn : a ≤ 1073741824 ∧ n ≤ 1073741824) (ha : ma env tp = .ok (eN a) t1') (h : m env t1' = .ok (eN n) t2') : rangeI range2D (consA ma (consA m nilA)) env tp = .ok ((List.range' a (n - a)).map eN) t2' :=
  ev_rangeI (ev_cons ha (ev_cons h ev_nil)) (range2D_N hn.1 hn.2)
/-- the pairs of places and things -/
def enumP {α : Type} (xs : List α) : List (Nat × α) := xs.mapIdx fun i x => (i, x)
theorem numD_map (xs : List α) : numD (xs.map e) = (enumP xs).map (eP eN e) := by
  unfold numD enumP
  refine List.ext_getElem? fun i => ?_
  rw [List.getElem?_mapIdx, List.getElem?_map, List.getElem?_map, List.getElem?_mapIdx]
  cases xs[i]? <;> rfl
theorem it_enum {xs : List α} (h : seqD d = some (xs.map e)) (hm : m env tp = .ok d t1') : rangeI enumD (consA m nilA) env tp = .ok ((enumP xs).map (eP eN e)) t1' := by
  unfold rangeI; rw [ev_cons hm ev_nil]; simp only [RE.bind_ok]
  show RE.of ((seqD d).map numD) t1' = _
  rw [h]
  show RE.of (some (numD (xs.map e))) t1' = _
  rw [numD_map]; rfl
theorem it_enumL {xs : List α} (hm : m env tp = .ok (eL e xs) t1') : rangeI enumD (consA m nilA) env tp = .ok ((enumP xs).map (eP eN e)) t1' := it_enum rfl hm
theorem it_enumT {xs : List α} (hm : m env tp = .ok (eT e xs) t1') : rangeI enumD (consA m nilA) env tp = .ok ((enumP xs).map (eP eN e)) t1' := it_enum rfl hm
theorem it_enumR {xs : Row} (hm : m env tp = .ok (eR xs) t1') : rangeI enumD (consA m nilA) env tp = .ok ((enumP xs).map (eP eN eG)) t1' := it_enum (row_items xs) hm
theorem zipL_map : ∀ (xs : List α) (ys : List β), zipL (xs.map e) (ys.map e1) = (xs.zip ys).map (eP e e1)
  | [], _ => by cases ‹List β› <;> rfl
  | _ :: _, [] => rfl
  | x :: xs, y :: ys => by
    show D.tup [e x, e1 y] :: zipL (xs.map e) (ys.map e1) = _
    rw [zipL_map xs ys]; rfl
theorem it_zipT {xs : List α} {ys : List β} (ha : ma env tp = .ok (eT e xs) t1') (hb : mb env t1' = .ok (eT e1 ys) t2') : rangeI zipD (consA ma (consA mb nilA)) env tp = .ok ((xs.zip ys).map (eP e e1)) t2' := by
  unfold rangeI; rw [ev_cons ha (ev_cons hb ev_nil)]; simp only [RE.bind_ok]
  show RE.of (some (zipL (xs.map e) (ys.map e1))) t2' = _
  rw [zipL_map]; rfl
/-! ### comprehensions -/
theorem fm_ifP {P : α → Prop} [DecidablePred P] {g : α → β} : ∀ items : List α, (items.filterMap fun d => if P d then some (g d) else none) = (items.filter fun d => decide (P d)).map g
  | [] => rfl
  | d :: ds => by
    rw [List.filterMap_cons, List.filter_cons, fm_ifP ds]
    by_cases q : P d <;> simp [q]
theorem compL_mapP {f : D → List D → RE (Option D)} {g : α → β} {P : α → Prop} [DecidablePred P] : ∀ {xs : List α}, (∀ x ∈ xs, f (e x) tp = .ok (if P x then some (e1 (g x)) else none) tp) → compL f (xs.map e) tp = .ok (((xs.filter fun x => decide (P x)).map g).map e1) tp
  | [], _ => rfl
  | x :: xs, h => by
    rw [List.map_cons]
    unfold compL
    rw [h x List.mem_cons_self]
    simp only
    rw [compL_mapP fun y hy => h y (List.mem_cons_of_mem _ hy)]
    by_cases q : P x <;> simp [q]
theorem ev_comp {vs is : List Nat} {tgt : D → Option (List D)} {xs : List α} {ds : α → List D} {g : α → β} {P : α → Prop} [DecidablePred P] (hi : mi env tp = .ok (xs.map e) t1') (hl : xs.length ≤ 1000000) (ht : ∀ x, tgt (e x) = some (ds x))
    (hc : ∀ x ∈ xs, c (setAll (wipeE env vs) is (ds x)) t1' = .ok (decide (P x)) t1') (hm : ∀ x ∈ xs, P x → m (setAll (wipeE env vs) is (ds x)) t1' = .ok (e1 (g x)) t1') :
    compE mi vs tgt is c m env tp = .ok (eL e1 ((xs.filter fun x => decide (P x)).map g)) t1' := by
  unfold compE
  rw [hi]
  simp only [RE.bind_ok]
  rw [if_pos (small_line (by rw [List.length_map]; exact hl)), compL_mapP (e := e) (e1 := e1) (g := g) (P := P)]
  intro x hx
  unfold compTurn1
  rw [ht]
  simp only
  rw [hc x hx]
  simp only [RE.bind_ok]
  by_cases q : P x
  · rw [if_pos (decide_eq_true q), hm x hx q, if_pos q]; rfl
  · rw [if_neg (by simp [q]), if_neg q]
theorem filter_tt {α : Type} (xs : List α) : (xs.filter fun _ => decide True) = xs := List.filter_eq_self.mpr fun _ _ => rfl
theorem ev_compY {vs is : List Nat} {tgt : D → Option (List D)} {xs : List α} {ds : α → List D} {g : α → β} (hi : mi env tp = .ok (xs.map e) t1') (hl : xs.length ≤ 1000000) (ht : ∀ x, tgt (e x) = some (ds x))
    (hm : ∀ x ∈ xs, m (setAll (wipeE env vs) is (ds x)) t1' = .ok (e1 (g x)) t1') :
    compE mi vs tgt is yesT m env tp = .ok (eL e1 (xs.map g)) t1' := by
  have := ev_comp (c := yesT) (P := fun _ => True) (g := g) (e1 := e1) (vs := vs) hi hl ht (fun x hx => rfl) (fun x hx _ => hm x hx)
  rw [this, filter_tt]
theorem compLL_map {f : D → List D → RE (List D)} {g : α → List β} : ∀ {xs : List α}, (∀ x ∈ xs, f (e x) tp = .ok ((g x).map e1) tp) → compLL f (xs.map e) tp = .ok ((xs.flatMap g).map e1) tp
  | [], _ => rfl
  | x :: xs, h => by
    rw [List.map_cons]
    unfold compLL
    rw [h x List.mem_cons_self]
    simp only
    rw [compLL_map fun y hy => h y (List.mem_cons_of_mem _ hy)]
    simp
/-- two clauses; no test at the first -/
theorem ev_comp2 {vs is vs1 is1 : List Nat} {tgt tgt1 : D → Option (List D)} {xs : List α} {ds : α → List D} {ys : α → List β} {ds1 : β → List D} {g : α → β → γ} {P : α → β → Prop} [∀ x, DecidablePred (P x)] (hi : mi env tp = .ok (xs.map e) t1') (ht : ∀ x, tgt (e x) = some (ds x))
    (hi1 : ∀ x ∈ xs, mi1 (setAll (wipeE env vs) is (ds x)) t1' = .ok ((ys x).map e1) t1') (ht1 : ∀ y, tgt1 (e1 y) = some (ds1 y))
    (hc : ∀ x ∈ xs, ∀ y ∈ ys x, c1 (setAll (wipeE (setAll (wipeE env vs) is (ds x)) vs1) is1 (ds1 y)) t1' = .ok (decide (P x y)) t1')
    (hm : ∀ x ∈ xs, ∀ y ∈ ys x, P x y → m (setAll (wipeE (setAll (wipeE env vs) is (ds x)) vs1) is1 (ds1 y)) t1' = .ok (e2 (g x y)) t1')
    (hl : (xs.flatMap fun x => ((ys x).filter fun y => decide (P x y)).map (g x)).length ≤ 1000000) :
    comp2E mi vs tgt is yesT mi1 vs1 tgt1 is1 c1 m env tp = .ok (eL e2 (xs.flatMap fun x => ((ys x).filter fun y => decide (P x y)).map (g x))) t1' := by
  unfold comp2E
  rw [hi]
  simp only [RE.bind_ok]
  rw [compLL_map (e := e) (e1 := e2) (g := fun x => ((ys x).filter fun y => decide (P x y)).map (g x))]
  · simp only
    rw [if_pos (small_line (by rw [List.length_map]; exact hl))]
  · intro x hx
    unfold compTurn2
    rw [ht]
    simp only
    unfold yesT
    simp only [RE.bind_ok, if_true]
    rw [hi1 x hx]
    simp only [RE.bind_ok]
    rw [compL_mapP (e := e1) (e1 := e2) (g := g x) (P := P x)]
    intro y hy
    unfold compTurn1
    rw [ht1]
    simp only
    rw [hc x hx y hy]
    simp only [RE.bind_ok]
    by_cases q : P x y
    · rw [if_pos (decide_eq_true q), hm x hx y hy q, if_pos q]; rfl
    · rw [if_neg (by simp [q]), if_neg q]
theorem ev_comp2Y {vs is vs1 is1 : List Nat} {tgt tgt1 : D → Option (List D)} {xs : List α} {ds : α → List D} {ys : α → List β} {ds1 : β → List D} {g : α → β → γ} (hi : mi env tp = .ok (xs.map e) t1') (ht : ∀ x, tgt (e x) = some (ds x))
    (hi1 : ∀ x ∈ xs, mi1 (setAll (wipeE env vs) is (ds x)) t1' = .ok ((ys x).map e1) t1') (ht1 : ∀ y, tgt1 (e1 y) = some (ds1 y))
    (hm : ∀ x ∈ xs, ∀ y ∈ ys x, m (setAll (wipeE (setAll (wipeE env vs) is (ds x)) vs1) is1 (ds1 y)) t1' = .ok (e2 (g x y)) t1')
    (hl : (xs.flatMap fun x => (ys x).map (g x)).length ≤ 1000000) :
    comp2E mi vs tgt is yesT mi1 vs1 tgt1 is1 yesT m env tp = .ok (eL e2 (xs.flatMap fun x => (ys x).map (g x))) t1' := by
  have := ev_comp2 (c1 := yesT) (P := fun _ _ => True) (g := g) (e2 := e2) (vs := vs) (vs1 := vs1) hi ht hi1 ht1 (fun x hx y hy => rfl) (fun x hx y hy _ => hm x hx y hy) (by simp only [filter_tt]; exact hl)
  rw [this]
  simp only [filter_tt]
/-! ### built-ins over lists -/
theorem unB_map (bs : List Bool) : unB (bs.map eB) = some bs := by
  induction bs with
  | nil => rfl
  | cons b bs ih => show (unB (bs.map eB)).map (b :: ·) = _; rw [ih]; rfl
theorem unI_mapN (ns : List Nat) : unI (ns.map eN) = some (ns.map fun n : Nat => (n : Int)) := by
  induction ns with
  | nil => rfl
  | cons b bs ih => show (unI (bs.map eN)).map ((b : Int) :: ·) = _; rw [ih]; rfl
theorem unI_mapZ (ns : List Int) : unI (ns.map eZ) = some ns := by
  induction ns with
  | nil => rfl
  | cons b bs ih => show (unI (bs.map eZ)).map (b :: ·) = _; rw [ih]; rfl
theorem unS_mapR (ns : List Row) : unS (ns.map eR) = some (ns.map rowS) := by
  induction ns with
  | nil => rfl
  | cons b bs ih => show (unS (bs.map eR)).map (rowS b :: ·) = _; rw [ih]; rfl
theorem ev_allY {xs : List α} {R : α → Prop} [DecidablePred R] {dq : Decidable (∀ x ∈ xs, R x)} (h : m env tp = .ok (eL eB (xs.map fun x => decide (R x))) t1') : callB allD (consA m nilA) env tp = .ok (eB (@decide _ dq)) t1' :=
  ev_callB (ev_cons h ev_nil) (by
    show (unB ((xs.map fun x => decide (R x)).map eB)).map (fun bs => D.bl (bs.all id)) = _
    rw [unB_map]
    show some (D.bl ((xs.map fun x => decide (R x)).all id)) = _
    congr 2
    rw [List.all_map]
    by_cases q : ∀ x ∈ xs, R x
    · rw [decide_eq_true q]; exact List.all_eq_true.mpr fun x hx => by simp [q x hx]
    · rw [decide_eq_false q]
      cases z : xs.all (id ∘ fun x => decide (R x)) with
      | false => rfl
      | true => exact (q fun x hx => by have := List.all_eq_true.mp z x hx; simpa using this).elim)
theorem ev_allC {xs : List α} {P R : α → Prop} [DecidablePred P] [DecidablePred R] {dq : Decidable (∀ x ∈ xs, P x → R x)} (h : m env tp = .ok (eL eB ((xs.filter fun x => decide (P x)).map fun x => decide (R x))) t1') : callB allD (consA m nilA) env tp = .ok (eB (@decide _ dq)) t1' := by
  haveI : Decidable (∀ x ∈ xs.filter fun x => decide (P x), R x) := Classical.propDecidable _
  rw [ev_allY (dq := this) h]
  congr 2
  exact decide_eq_decide.mpr (by simp [List.mem_filter])
theorem ev_anyY {xs : List α} {R : α → Prop} [DecidablePred R] {dq : Decidable (∃ x ∈ xs, R x)} (h : m env tp = .ok (eL eB (xs.map fun x => decide (R x))) t1') : callB anyD (consA m nilA) env tp = .ok (eB (@decide _ dq)) t1' :=
  ev_callB (ev_cons h ev_nil) (by
    show (unB ((xs.map fun x => decide (R x)).map eB)).map (fun bs => D.bl (bs.any id)) = _
    rw [unB_map]
    show some (D.bl ((xs.map fun x => decide (R x)).any id)) = _
    congr 2
    rw [List.any_map]
    by_cases q : ∃ x ∈ xs, R x
    · rw [decide_eq_true q]
      obtain ⟨x, hx, r⟩ := q
      exact List.any_eq_true.mpr ⟨x, hx, by simp [r]⟩
    · rw [decide_eq_false q]
      refine List.any_eq_false.mpr fun x hx => ?_
      intro z
      exact q ⟨x, hx, by simpa using z⟩)
theorem ev_anyC {xs : List α} {P R : α → Prop} [DecidablePred P] [DecidablePred R] {dq : Decidable (∃ x ∈ xs, P x ∧ R x)} (h : m env tp = .ok (eL eB ((xs.filter fun x => decide (P x)).map fun x => decide (R x))) t1') : callB anyD (consA m nilA) env tp = .ok (eB (@decide _ dq)) t1' := by
  haveI : Decidable (∃ x ∈ xs.filter fun x => decide (P x), R x) := Classical.propDecidable _
  rw [ev_anyY (dq := this) h]
  congr 2
  exact decide_eq_decide.mpr (by simp [List.mem_filter, and_assoc])
theorem cast_sum (ns : List Nat) : (ns.map fun n : Nat => (n : Int)).sum = (ns.sum : Int) := by
  induction ns with
  | nil => rfl
  | cons n ns ih => rw [List.map_cons, List.sum_cons, ih, List.sum_cons]; simp
theorem ev_sumL {xs : List Nat} (h : m env tp = .ok (eL eN xs) t1') : callB sum2D (consA m nilA) env tp = .ok (eN xs.sum) t1' :=
  ev_callB (ev_cons h ev_nil) (by
    show (unI (xs.map eN)).map (fun bs => D.int bs.sum) = _
    rw [unI_mapN]
    show some (D.int (xs.map fun n : Nat => (n : Int)).sum) = _
    rw [cast_sum])
theorem ev_sumT {xs : List Nat} (h : m env tp = .ok (eT eN xs) t1') : callB sum2D (consA m nilA) env tp = .ok (eN xs.sum) t1' :=
  ev_callB (ev_cons h ev_nil) (by
    show (unI (xs.map eN)).map (fun bs => D.int bs.sum) = _
    rw [unI_mapN]
    show some (D.int (xs.map fun n : Nat => (n : Int)).sum) = _
    rw [cast_sum])
theorem ev_sumZ {xs : List Int} (h : m env tp = .ok (eL eZ xs) t1') : callB sum2D (consA m nilA) env tp = .ok (eZ xs.sum) t1' :=
  ev_callB (ev_cons h ev_nil) (by
    show (unI (xs.map eZ)).map (fun bs => D.int bs.sum) = _
    rw [unI_mapZ]; rfl)
def insN (x : Nat) : List Nat → List Nat
  | [] => [x]
  | y :: ys => if x ≤ y then x :: y :: ys else y :: insN x ys
def sortN : List Nat → List Nat
  | [] => []
  | x :: xs => insN x (sortN xs)
theorem insI_N (x : Nat) (ys : List Nat) : _root_.G.insI (x : Int) (ys.map fun n : Nat => (n : Int)) = (insN x ys).map fun n : Nat => (n : Int) := by
  induction ys with
  | nil => rfl
  | cons y ys ih =>
    rw [List.map_cons]
    unfold _root_.G.insI insN
    by_cases q : x ≤ y
    · rw [if_pos (by omega), if_pos q]; rfl
    · rw [if_neg (by omega), if_neg q, ih]; rfl
theorem sortI_N (xs : List Nat) : _root_.G.sortI (xs.map fun n : Nat => (n : Int)) = (sortN xs).map fun n : Nat => (n : Int) := by
  induction xs with
  | nil => rfl
  | cons x xs ih => rw [List.map_cons]; unfold _root_.G.sortI sortN; rw [ih, insI_N]
theorem insN_perm (x : Nat) (ys : List Nat) : (insN x ys).Perm (x :: ys) := by
  induction ys with
  | nil => exact .refl _
  | cons y ys ih =>
    unfold insN
    by_cases q : x ≤ y
    · rw [if_pos q]
    · rw [if_neg q]; exact (ih.cons y).trans (.swap x y ys)
theorem sortN_perm (xs : List Nat) : (sortN xs).Perm xs := by
  induction xs with
  | nil => exact .refl _
  | cons x xs ih => exact (insN_perm x _).trans (ih.cons x)
theorem insN_le (x : Nat) (ys : List Nat) (h : ys.Pairwise (· ≤ ·)) : (insN x ys).Pairwise (· ≤ ·) := by
  induction ys with
  | nil => exact List.pairwise_singleton _ _
  | cons y ys ih =>
    unfold insN
    have h' := List.pairwise_cons.mp h
    by_cases q : x ≤ y
    · rw [if_pos q]
      exact List.pairwise_cons.mpr ⟨fun z hz => (List.mem_cons.mp hz).elim (fun e => e ▸ q) (fun hz => Nat.le_trans q (h'.1 z hz)), h⟩
    · rw [if_neg q]
      refine List.pairwise_cons.mpr ⟨fun z hz => ?_, ih h'.2⟩
      rcases List.mem_cons.mp ((insN_perm x ys).mem_iff.mp hz) with rfl | hz
      · omega
      · exact h'.1 z hz
theorem sortN_le (xs : List Nat) : (sortN xs).Pairwise (· ≤ ·) := by
  induction xs with
  | nil => exact .nil
  | cons x xs ih => exact insN_le x _ ih
theorem sorted_unique : ∀ {xs ys : List Nat}, xs.Perm ys → xs.Pairwise (· ≤ ·) → ys.Pairwise (· ≤ ·) → xs = ys
  | xs, ys, p, h1, h2 => p.eq_of_pairwise (fun a b _ _ h1 h2 => Nat.le_antisymm h1 h2) h1 h2
theorem sortN_of_perm {xs ys : List Nat} (p : xs.Perm ys) (h : ys.Pairwise (· ≤ ·)) : sortN xs = ys := sorted_unique ((sortN_perm xs).trans p) (sortN_le xs) h
theorem sortN_id {xs : List Nat} (h : xs.Pairwise (· ≤ ·)) : sortN xs = xs := sortN_of_perm (.refl _) h
theorem ev_sortL {xs : List Nat} (h : m env tp = .ok (eL eN xs) t1') : callB sortD (consA m nilA) env tp = .ok (eL eN (sortN xs)) t1' :=
  ev_callB (ev_cons h ev_nil) (by
    show (unI (xs.map eN)).map (fun ns => D.lst ((_root_.G.sortI ns).map .int)) = _
    rw [unI_mapN]
    show some (D.lst ((_root_.G.sortI (xs.map fun n : Nat => (n : Int))).map .int)) = _
    rw [sortI_N, List.map_map]; rfl)
theorem ev_sortT {xs : List Nat} (h : m env tp = .ok (eT eN xs) t1') : callB sortD (consA m nilA) env tp = .ok (eL eN (sortN xs)) t1' :=
  ev_callB (ev_cons h ev_nil) (by
    show (unI (xs.map eN)).map (fun ns => D.lst ((_root_.G.sortI ns).map .int)) = _
    rw [unI_mapN]
    show some (D.lst ((_root_.G.sortI (xs.map fun n : Nat => (n : Int))).map .int)) = _
    rw [sortI_N, List.map_map]; rfl)
theorem rg1_i {k : List D → D} {i : Int} (hc : cRgOk 0 i = true) (h : m env tp = .ok (.int i) t1') : rg1E k m env tp = .ok (k (rangeL 0 i)) t1' := by
  unfold rg1E; rw [h]; simp only [RE.bind_ok]; rw [if_pos hc]
theorem rg2_i {k : List D → D} {i j : Int} (hc : cRgOk i j = true) (ha : ma env tp = .ok (.int i) t1') (h : m env t1' = .ok (.int j) t2') : rg2E k ma m env tp = .ok (k (rangeL i j)) t2' := by
  unfold rg2E; rw [ha]; simp only [RE.bind_ok]; rw [h]; simp only [RE.bind_ok]; rw [if_pos hc]
theorem cRgOk_i {i j : Int} (h1 : cRg i = true) (h2 : cRg j = true) (h3 : (j - i).toNat ≤ 16777216) : cRgOk i j = true := by
  unfold cRgOk; rw [h1, h2, decide_eq_true h3]; rfl
theorem cRg_zero : cRg 0 = true := by decide +kernel
theorem ev_rg1L {n : Nat} (hn : n ≤ 16777216) (h : m env tp = .ok (eN n) t1') : rg1E .lst m env tp = .ok (eL eN (List.range n)) t1' := by
  rw [rg1_i (cRgOk_i cRg_zero (cRg_nat (show n ≤ 1073741824 by omega)) (by omega)) h, rangeL_N]
theorem ev_rg1T {n : Nat} (hn : n ≤ 16777216) (h : m env tp = .ok (eN n) t1') : rg1E .tup m env tp = .ok (eT eN (List.range n)) t1' := by
  rw [rg1_i (cRgOk_i cRg_zero (cRg_nat (show n ≤ 1073741824 by omega)) (by omega)) h, rangeL_N]
theorem ev_rg2L {a n : Nat} (hn : a ≤ 16777216 ∧ n ≤ 16777216) (ha : ma env tp = .ok (eN a) t1') (h : m env t1' = .ok (eN n) t2') : rg2E .lst ma m env tp = .ok (eL eN (List.range' a (n - a))) t2' := by
  rw [rg2_i (cRgOk_i (cRg_nat (show a ≤ 1073741824 by omega)) (cRg_nat (show n ≤ 1073741824 by omega)) (by omega)) ha h, rangeL_N2]
theorem flatten_sing (bs : List Bool) : (bs.map fun b => [b]).flatten = bs := by
  induction bs with
  | nil => rfl
  | cons b bs ih => rw [List.map_cons, List.flatten_cons, ih]; rfl
theorem sum_lens (bs : List Row) : ((bs.map rowS).map (·.length)).sum = (bs.map (·.length)).sum := by
  rw [List.map_map]; congr 1; exact List.map_congr_left fun a _ => rowS_len a
theorem sum_ones {α : Type} (xs : List α) : (xs.map fun _ => 1).sum = xs.length := by
  induction xs with
  | nil => rfl
  | cons x xs ih => rw [List.map_cons, List.sum_cons, ih, List.length_cons]; omega
theorem join_R {d : D} {bs : List Row} (hd : itemsD d = some (bs.map eR)) (h : (bs.map (·.length)).sum ≤ 16777216) : joinD (.str "") d = some (eR bs.flatten) := by
  unfold joinD
  simp only
  rw [hd]
  simp only [Option.bind_some]
  rw [unS_mapR]
  simp only [Option.bind_some]
  have e : ("" : Str) = rowS [] := by decide +kernel
  rw [e, rowS_len, sum_lens, if_pos (by simpa using h), join_rows]
theorem ev_joinR {bs : List Row} (h : (bs.map (·.length)).sum ≤ 16777216) (hb : mb env tp = .ok (eL eR bs) t1') : methE isStrD joinD (cE (.str "")) mb env tp = .ok (eR bs.flatten) t1' :=
  ev_meth rfl rfl hb (join_R (d := eL eR bs) rfl h)
theorem ev_joinG {bs : List Bool} (h : bs.length ≤ 16777216) (hb : mb env tp = .ok (eL eG bs) t1') : methE isStrD joinD (cE (.str "")) mb env tp = .ok (eR bs) t1' := by
  have e : bs.map eG = (bs.map fun b => [b]).map eR := by rw [List.map_map]; rfl
  have := ev_joinR (bs := bs.map fun b => [b]) (by rw [List.map_map]; show (bs.map fun _ => 1).sum ≤ 16777216; rw [sum_ones]; exact h) (hb.trans (by show RE.ok (D.lst (bs.map eG)) t1' = _; rw [e]))
  rw [this, flatten_sing]
theorem ev_countG {r : Row} {b : Bool} (ha : ma env tp = .ok (eR r) t1') (hb : mb env t1' = .ok (eG b) t2') : methE isStrD countD ma mb env tp = .ok (eN (r.count b)) t2' :=
  ev_meth ha rfl hb (by show some (D.int (Txt.count (rowS r) (rowS [b]))) = _; rw [count_row])
end
end T

set_option maxHeartbeats 1000000
/-! T2: statements by what is wanted behind them. -/
namespace T
open PySem L2 G
abbrev Wn := DEnv → List D → Prop
abbrev Wr := D → List D → Prop
/-- N behind it, R where it returns, B where it breaks, C where it goes on with the next turn -/
inductive WP (N : Wn) (R : Wr) (B C : Wn) : RS → Prop
  | nx {e : DEnv} {t : List D} : N e t → WP N R B C (.nx e t)
  | rt {d : D} {t : List D} : R d t → WP N R B C (.rt d t)
  | bk {e : DEnv} {t : List D} : B e t → WP N R B C (.bk e t)
  | ct {e : DEnv} {t : List D} : C e t → WP N R B C (.ct e t)
abbrev At (s : SS) (env : DEnv) (tp : List D) : RS := s env tp
def no : Wn := fun _ _ => False
section
variable {α β γ δ : Type} {e : α → D} {e1 : β → D} {env : DEnv} {tp t1' t2' : List D} {m ma mb mc : SE D} {mi : SE (List D)} {ms : SE (List D)} {c : SE Bool} {N : Wn} {R : Wr} {B C : Wn} {s s1 s2 : SS} {P : Prop} [Decidable P]
theorem wp_seq (h : WP (fun e t => WP N R B C (s2 e t)) R B C (s1 env tp)) : WP N R B C (seqS s1 s2 env tp) := by
  unfold seqS
  cases q : s1 env tp with
  | nx e t => rw [q] at h; cases h with | nx h => exact h
  | rt d t => rw [q] at h; cases h with | rt h => exact .rt h
  | bk e t => rw [q] at h; cases h with | bk h => exact .bk h
  | ct e t => rw [q] at h; cases h with | ct h => exact .ct h
  | exn a b t => rw [q] at h; cases h
  | stuck => rw [q] at h; cases h
theorem wp_skip (h : N env tp) : WP N R B C (skipS env tp) := .nx h
theorem wp_set {i : Nat} {d : D} (h : m env tp = .ok d t1') (hn : N (env.set i (some d)) t1') : WP N R B C (setS i m env tp) := by
  unfold setS; rw [h]; exact .nx hn
theorem wp_setF {i : Nat} {d : D} (h : m env tp = .ok d t1') (hi : decide (i < env.length) = true) (hn : N (env.set i (some d)) t1') : WP N R B C (setFS i m env tp) := by
  unfold setFS; rw [h]
  show WP N R B C (if i < env.length then .nx (env.set i (some d)) t1' else .stuck)
  rw [if_pos (of_decide_eq_true hi)]; exact .nx hn
theorem wp_ret {d : D} (h : m env tp = .ok d t1') (hr : R d t1') : WP N R B C (retS m env tp) := by
  unfold retS; rw [h]; exact .rt hr
theorem wp_retN (hr : R .non tp) : WP N R B C ((fun _ tp => RS.rt .non tp : SS) env tp) := .rt hr
theorem wp_drop {d : D} (h : m env tp = .ok d t1') (hn : N env t1') : WP N R B C (dropS m env tp) := by
  unfold dropS; rw [h]; exact .nx hn
theorem wp_bk (h : B env tp) : WP N R B C ((fun env tp => RS.bk env tp : SS) env tp) := .bk h
theorem wp_ct (h : C env tp) : WP N R B C ((fun env tp => RS.ct env tp : SS) env tp) := .ct h
theorem wp_if (h : c env tp = .ok (decide P) t1') (hp : P → WP N R B C (s1 env t1')) (hn : ¬P → WP N R B C (s2 env t1')) : WP N R B C (ifS c s1 s2 env tp) := by
  unfold ifS; rw [h]
  show WP N R B C (if decide P = true then s1 env t1' else s2 env t1')
  by_cases q : P
  · rw [if_pos (decide_eq_true q)]; exact hp q
  · rw [if_neg (by simp [q])]; exact hn q
theorem wp_ifJ (J : DEnv → List D → Prop) (h : c env tp = .ok (decide P) t1') (hp : P → WP J R B C (s1 env t1')) (hn : ¬P → WP J R B C (s2 env t1')) (hJ : ∀ e t, J e t → N e t) : WP N R B C (ifS c s1 s2 env tp) := by
  have key : ∀ r : RS, WP J R B C r → WP N R B C r := fun r h => by
    cases h with
    | nx h => exact .nx (hJ _ _ h)
    | rt h => exact .rt h
    | bk h => exact .bk h
    | ct h => exact .ct h
  exact key _ (wp_if h hp hn)
theorem ev_as {x y : α} (h : x = y) {e : α → D} {r : RE D} {t : List D} (p : r = .ok (e y) t) : r = .ok (e x) t := by rw [h]; exact p
theorem ev_tt (h : P) {t : List D} : (RE.ok (eB (decide P)) t : RE D) = .ok (.bl true) t := by rw [decide_eq_true h]
theorem ev_truN {x : Nat} (h : m env tp = .ok (eN x) t1') : truE m env tp = .ok (decide (x ≠ 0)) t1' := by
  unfold truE; rw [h]
  show RE.ok (((x : Int)) != 0) t1' = _
  congr 1
  by_cases q : x = 0
  · subst q; rfl
  · rw [decide_eq_true q]; exact bne_iff_ne.mpr (by omega)
theorem ev_intN {x : Nat} (h : m env tp = .ok (eN x) t1') : callB intD (consA m nilA) env tp = .ok (eN x) t1' := ev_callB (ev_cons h ev_nil) rfl
theorem ev_compI {vs is : List Nat} {tgt : D → Option (List D)} {xs : List α} {ds : α → List D} {P : α → Prop} [DecidablePred P] (hi : mi env tp = .ok (xs.map e) t1') (hl : xs.length ≤ 1000000) (ht : ∀ x, tgt (e x) = some (ds x))
    (hc : ∀ x ∈ xs, c (setAll (wipeE env vs) is (ds x)) t1' = .ok (decide (P x)) t1') (hm : ∀ x ∈ xs, P x → m (setAll (wipeE env vs) is (ds x)) t1' = .ok (e x) t1') :
    compE mi vs tgt is c m env tp = .ok (eL e (xs.filter fun x => decide (P x))) t1' := by
  have := ev_comp (g := fun x => x) (e1 := e) (vs := vs) hi hl ht hc hm
  rw [this]
  simp
/-! draws whose value does not matter -/
abbrev ER (m : SE D) (env : DEnv) (tp : List D) (e : α → D) : Prop := ∃ (v : α) (t' : List D), m env tp = .ok (e v) t' ∧ Tape t'
theorem er_pure {v : α} (ht : Tape tp) (h : m env tp = .ok (e v) tp) : ER m env tp e := ⟨v, tp, h, ht⟩
theorem er_post (h : ER m env tp e) : ∃ (v : α) (t' : List D), m env tp = .ok (e v) t' ∧ Tape t' ∧ True := by
  obtain ⟨v, t, a, b⟩ := h
  exact ⟨v, t, a, b, trivial⟩
theorem er_call {n : Nat} {f : List D → List D → RE D} {ds : List D} {p : α → Prop} (hs : ms env tp = .ok ds tp) (hn : ds.length = n) (h : ∃ (r : α) (t' : List D), f ds tp = .ok (e r) t' ∧ Tape t' ∧ p r) : ER (callE n f ms) env tp e := by
  obtain ⟨r, t, a, b, _⟩ := h
  exact ⟨r, t, ev_call hs hn a, b⟩
theorem er_gt {y : Nat} (ha : ER ma env tp eN) (hb : ∀ t, mb env t = .ok (eN y) t) : ER (binE gtD ma mb) env tp eB := by
  obtain ⟨x, t, a, b⟩ := ha
  exact ⟨_, t, ev_gt a (hb t), b⟩
theorem er_andE (ha : ER ma env tp eB) (hb : ∀ t, Tape t → ER mb env t eB) : ER (andE ma mb) env tp eB := by
  obtain ⟨x, t, a, b⟩ := ha
  unfold ER andE
  rw [a]
  cases x with
  | true => exact hb t b
  | false => exact ⟨false, t, rfl, b⟩
theorem er_orE (ha : ER ma env tp eB) (hb : ∀ t, Tape t → ER mb env t eB) : ER (orE ma mb) env tp eB := by
  obtain ⟨x, t, a, b⟩ := ha
  unfold ER orE
  rw [a]
  cases x with
  | false => exact hb t b
  | true => exact ⟨true, t, rfl, b⟩
theorem er_ifE (ht : Tape tp) (hc : c env tp = .ok (decide P) tp) (hp : P → ER ma env tp e) (hn : ¬P → ER mb env tp e) : ER (ifE c ma mb) env tp e := by
  unfold ER ifE
  rw [hc]
  simp only [RE.bind_ok]
  by_cases q : P
  · rw [decide_eq_true q]; exact hp q
  · rw [decide_eq_false q]; exact hn q
theorem wp_app {i : Nat} {xs : List α} {x : α} (he : env[i]? = some (some (eL e xs))) (h : m env tp = .ok (e x) t1') (hl : xs.length < 1000000) (hn : N (env.set i (some (eL e (xs ++ [x])))) t1') : WP N R B C (appS i m env tp) := by
  unfold appS
  rw [he]
  simp only
  rw [h]
  show WP N R B C (if (xs.map e).length < sizeLine then .nx (env.set i (some (.lst (xs.map e ++ [e x])))) t1' else .stuck)
  rw [List.length_map, if_pos (by have := small_line (Nat.le_refl 1000000); omega)]
  rw [show xs.map e ++ [e x] = (xs ++ [x]).map e from by rw [List.map_append]; rfl]
  exact .nx hn
theorem wp_par {is : List Nat} {ds : List D} (h : ms env tp = .ok ds t1') (hi : is.all (fun i => decide (i < env.length)) = true) (hn : N (setAll env is ds) t1') : WP N R B C (parS is ms env tp) := by
  unfold parS; rw [h]
  show WP N R B C (if is.all (fun i => decide (i < env.length)) = true then .nx (setAll env is ds) t1' else .stuck)
  rw [if_pos hi]; exact .nx hn
theorem wp_unp {n : Nat} {is : List Nat} {d : D} {ds : List D} (h : m env tp = .ok d t1') (ht : tN n d = some ds) (hn : N (setAll env is ds) t1') : WP N R B C (unpS n is m env tp) := by
  unfold unpS; rw [h]
  show WP N R B C (match tN n d with
    | some ds => .nx (setAll env is ds) t1'
    | none => .stuck)
  rw [ht]; exact .nx hn
theorem wp_augN {i : Nat} {x y : Nat} (he : env[i]? = some (some (eN x))) (h : m env tp = .ok (eN y) t1') (hn : N (env.set i (some (eN (x + y)))) t1') : WP N R B C (augS i addD m env tp) := by
  unfold augS
  rw [he]
  simp only
  rw [h]
  show WP N R B C (.nx (env.set i (some (.int ((x : Int) + (y : Int))))) t1')
  rw [← Int.natCast_add]; exact .nx hn
theorem wp_augSubN {i : Nat} {x y : Nat} (hxy : y ≤ x) (he : env[i]? = some (some (eN x))) (h : m env tp = .ok (eN y) t1') (hn : N (env.set i (some (eN (x - y)))) t1') : WP N R B C (augS i subD m env tp) := by
  unfold augS
  rw [he]
  simp only
  rw [h]
  show WP N R B C (.nx (env.set i (some (.int ((x : Int) - (y : Int))))) t1')
  rw [← Int.ofNat_sub hxy]; exact .nx hn
theorem wp_augZ {i : Nat} {x y : Int} (he : env[i]? = some (some (eZ x))) (h : m env tp = .ok (eZ y) t1') (hn : N (env.set i (some (eZ (x + y)))) t1') : WP N R B C (augS i addD m env tp) := by
  unfold augS
  rw [he]
  simp only
  rw [h]; exact .nx hn
theorem WP.imp {N' : Wn} {R' : Wr} {B' C' : Wn} {r : RS} (h : WP N R B C r) (hn : ∀ e t, N e t → N' e t) (hr : ∀ d t, R d t → R' d t) (hb : ∀ e t, B e t → B' e t) (hc : ∀ e t, C e t → C' e t) : WP N' R' B' C' r := by
  cases h with
  | nx h => exact .nx (hn _ _ h)
  | rt h => exact .rt (hr _ _ h)
  | bk h => exact .bk (hb _ _ h)
  | ct h => exact .ct (hc _ _ h)
theorem wp_forL {tgt : D → Option (List D)} {is : List Nat} {ds : α → List D} (I : Nat → Wn) (ht : ∀ x, tgt (e x) = some (ds x)) : ∀ (xs : List α) (k : Nat) (env : DEnv) (tp : List D), I k env tp →
    (∀ j x env t, xs[j]? = some x → I (k + j) env t → WP (I (k + j + 1)) R N (I (k + j + 1)) (s (setAll env is (ds x)) t)) → (∀ env t, I (k + xs.length) env t → N env t) → WP N R B C (forL tgt is s (xs.map e) env tp)
  | [], k, env, tp, h0, _, he => .nx (he env tp h0)
  | x :: xs, k, env, tp, h0, hs, he => by
    rw [List.map_cons]
    unfold forL
    rw [ht]
    simp only
    have h1 := hs 0 x env tp rfl h0
    have ih : ∀ env tp, I (k + 1) env tp → WP N R B C (forL tgt is s (xs.map e) env tp) := fun env tp hi => wp_forL I ht xs (k + 1) env tp hi (fun j y env t hj hi => by
      have q : k + 1 + j = k + (j + 1) := by omega
      rw [q] at hi ⊢
      exact hs (j + 1) y env t (by simpa using hj) hi) (fun env t hi => he env t (by rw [List.length_cons, show k + (xs.length + 1) = k + 1 + xs.length from by omega]; exact hi))
    cases q : s (setAll env is (ds x)) tp with
    | nx e t => rw [q] at h1; cases h1 with | nx h1 => exact ih e t h1
    | rt d t => rw [q] at h1; cases h1 with | rt h1 => exact .rt h1
    | bk e t => rw [q] at h1; cases h1 with | bk h1 => exact .nx h1
    | ct e t => rw [q] at h1; cases h1 with | ct h1 => exact ih e t h1
    | exn a b t => rw [q] at h1; cases h1
    | stuck => rw [q] at h1; cases h1
theorem wp_for {tgt : D → Option (List D)} {is : List Nat} {xs : List α} {ds : α → List D} (I : Nat → Wn) (hi : mi env tp = .ok (xs.map e) t1') (ht : ∀ x, tgt (e x) = some (ds x)) (h0 : I 0 env t1')
    (hs : ∀ k x env t, xs[k]? = some x → I k env t → WP (I (k + 1)) R N (I (k + 1)) (s (setAll env is (ds x)) t)) (he : ∀ env t, I xs.length env t → N env t) : WP N R B C (forS mi tgt is s env tp) := by
  unfold forS; rw [hi]
  exact wp_forL I ht xs 0 env t1' h0 (fun j x env t hj q => by rw [Nat.zero_add] at q ⊢; exact hs j x env t hj q) (fun env t q => he env t (by rw [Nat.zero_add] at q; exact q))
theorem wp_whileF (I : Nat → Wn) (hs : ∀ n env t, I n env t → ∃ (P : Prop) (dp : Decidable P), c env t = .ok (@decide P dp) t ∧ (P → WP (fun e t => ∃ n', n' < n ∧ I n' e t) R N (fun e t => ∃ n', n' < n ∧ I n' e t) (s env t)) ∧ (¬P → N env t)) : ∀ (f n : Nat) (env : DEnv) (tp : List D), n < f → I n env tp → WP N R B C (whileF c s f env tp)
  | 0, n, env, tp, hf, h0 => by omega
  | f + 1, n, env, tp, hf, h0 => by
    unfold whileF
    obtain ⟨P, dp, e1, e2, e3⟩ := hs n env tp h0
    rw [e1]
    show WP N R B C (if @decide P dp = true then _ else RS.nx env tp)
    by_cases q : P
    · rw [if_pos (decide_eq_true q)]
      have h1 := e2 q
      have ih : ∀ e t, (∃ n', n' < n ∧ I n' e t) → WP N R B C (whileF c s f e t) := fun e t ⟨n', l, i⟩ => wp_whileF I hs f n' e t (by omega) i
      cases q : s env tp with
      | nx e t => rw [q] at h1; cases h1 with | nx h1 => exact ih e t h1
      | rt d t => rw [q] at h1; cases h1 with | rt h1 => exact .rt h1
      | bk e t => rw [q] at h1; cases h1 with | bk h1 => exact .nx h1
      | ct e t => rw [q] at h1; cases h1 with | ct h1 => exact ih e t h1
      | exn a b t => rw [q] at h1; cases h1
      | stuck => rw [q] at h1; cases h1
    · rw [if_neg (by simp [q])]; exact .nx (e3 q)
theorem wp_while {f : Nat} (I : Nat → Wn) (h0 : ∃ n, n < f ∧ I n env tp) (hs : ∀ n env t, I n env t → ∃ (P : Prop) (dp : Decidable P), c env t = .ok (@decide P dp) t ∧ (P → WP (fun e t => ∃ n', n' < n ∧ I n' e t) R N (fun e t => ∃ n', n' < n ∧ I n' e t) (s env t)) ∧ (¬P → N env t)) : WP N R B C (whileS f c s env tp) := by
  obtain ⟨n, l, i⟩ := h0
  exact wp_whileF I hs f n env tp l i
/-- a def of data -/
theorem wp_def {n : Nat} {ds : List D} {Q : D → List D → Prop} (h : WP (fun _ t => Q .non t) Q no no (s (ds.map some ++ List.replicate (n - ds.length) none) tp)) : ∃ d t, defD n s ds tp = .ok d t ∧ Q d t := by
  unfold defD
  cases q : s (ds.map some ++ List.replicate (n - ds.length) none) tp with
  | nx e t => rw [q] at h; cases h with | nx h => exact ⟨.non, t, rfl, h⟩
  | rt d t => rw [q] at h; cases h with | rt h => exact ⟨d, t, rfl, h⟩
  | bk e t => rw [q] at h; cases h with | bk h => exact h.elim
  | ct e t => rw [q] at h; cases h with | ct h => exact h.elim
  | exn a b t => rw [q] at h; cases h
  | stuck => rw [q] at h; cases h
theorem wp_law {ns : List Int} {n : Nat} (h : WP no (fun d t => d = .bl true) no no (s (some (.scr ns) :: some .tape :: List.replicate n none) tp)) : ∃ t, retR (s (some (.scr ns) :: some .tape :: List.replicate n none) tp) = .ok (.bl true) t := by
  cases q : s (some (.scr ns) :: some .tape :: List.replicate n none) tp with
  | nx e t => rw [q] at h; cases h with | nx h => exact h.elim
  | rt d t => rw [q] at h; cases h with | rt h => exact ⟨t, by rw [show d = .bl true from h]; rfl⟩
  | bk e t => rw [q] at h; cases h with | bk h => exact h.elim
  | ct e t => rw [q] at h; cases h with | ct h => exact h.elim
  | exn a b t => rw [q] at h; cases h
  | stuck => rw [q] at h; cases h
end
end T

set_option maxHeartbeats 1000000
/-! T3: typed dicts (keys numbers). -/
namespace T
open PySem L2 G
abbrev eD {β : Type} (e : β → D) (d : List (Nat × β)) : D := .dic (d.map fun p => (eN p.1, e p.2))
abbrev dkeys {β : Type} (d : List (Nat × β)) : List Nat := d.map (·.1)
def dget {β : Type} : List (Nat × β) → Nat → Option β
  | [], _ => none
  | (a, b) :: r, k => if a = k then some b else dget r k
def dput {β : Type} (d : List (Nat × β)) (k : Nat) (v : β) : List (Nat × β) := if (dget d k).isSome = true then d.map (fun p => if p.1 = k then (p.1, v) else p) else d ++ [(k, v)]
def dictOf {β : Type} (ps : List (Nat × β)) : List (Nat × β) := ps.foldl (fun d p => dput d p.1 p.2) []
section
variable {α β γ δ : Type} {e : β → D} {e1 : α → D} {e2 : γ → D} {env : DEnv} {tp t1' t2' t3' : List D} {m ma mb mc mk mv : SE D} {mi mi1 : SE (List D)} {c : SE Bool}
theorem key_eqN {a k : Nat} : (keyOf (eN a) = some (.inl (k : Int))) ↔ a = k := by
  show (some (Sum.inl (a : Int)) = some (Sum.inl (k : Int)) : Prop) ↔ _
  constructor
  · intro h; have := Sum.inl.inj (Option.some.inj h); omega
  · rintro rfl; rfl
theorem find_T (k : Nat) : ∀ d : List (Nat × β), findP keyOf (d.map fun p => (eN p.1, e p.2)) (.inl (k : Int)) = (dget d k).map e
  | [] => rfl
  | (a, b) :: r => by
    rw [List.map_cons]
    unfold findP dget
    by_cases q : a = k
    · rw [if_pos (key_eqN.mpr q), if_pos q]; rfl
    · rw [if_neg (fun z => q (key_eqN.mp z)), if_neg q]; exact find_T k r
theorem dget_isSome {d : List (Nat × β)} {k : Nat} : (dget d k).isSome = true ↔ k ∈ dkeys d := by
  induction d with
  | nil => simp [dget]
  | cons p r ih =>
    unfold dget
    by_cases q : p.1 = k
    · simp [q]
    · rw [if_neg q, ih]; simp [Ne.symm q]
theorem put_T (d : List (Nat × β)) (k : Nat) (v : β) : putP keyOf keyD (d.map fun p => (eN p.1, e p.2)) (.inl (k : Int)) (e v) = (dput d k v).map fun p => (eN p.1, e p.2) := by
  unfold putP dput
  rw [find_T, Option.isSome_map]
  by_cases q : (dget d k).isSome = true
  · rw [if_pos q, if_pos q, List.map_map, List.map_map]
    refine List.map_congr_left fun p _ => ?_
    show (if keyOf (eN p.1) = some (.inl (k : Int)) then (eN p.1, e v) else (eN p.1, e p.2)) = _
    by_cases z : p.1 = k
    · rw [if_pos (key_eqN.mpr z)]; simp [z]
    · rw [if_neg fun y => z (key_eqN.mp y)]; simp [z]
  · rw [if_neg q, if_neg q, List.map_append]; rfl
theorem dget_N (d : List (Nat × β)) (k : Nat) : dgetD (eD e d) (eN k) = some ((dget d k).map e) := by
  show some (findP keyOf (d.map fun p => (eN p.1, e p.2)) (.inl (k : Int))) = _
  rw [find_T]
theorem ev_inK {x : Nat} {d : List (Nat × β)} (ha : ma env tp = .ok (eN x) t1') (hb : mb env t1' = .ok (eD e d) t2') : binE (inKD false) ma mb env tp = .ok (eB (decide (x ∈ dkeys d))) t2' :=
  ev_bin ha hb (by
    unfold inKD
    rw [dget_N]
    show some (D.bl ((dget d x).map e).isSome) = _
    rw [Option.isSome_map]
    congr 2
    by_cases q : x ∈ dkeys d
    · rw [decide_eq_true q]; exact dget_isSome.mpr q
    · rw [decide_eq_false q]
      cases z : (dget d x).isSome with
      | false => rfl
      | true => exact (q (dget_isSome.mp z)).elim)
theorem ev_ninK {x : Nat} {d : List (Nat × β)} (ha : ma env tp = .ok (eN x) t1') (hb : mb env t1' = .ok (eD e d) t2') : binE (inKD true) ma mb env tp = .ok (eB (decide (x ∉ dkeys d))) t2' :=
  ev_bin ha hb (by
    unfold inKD
    rw [dget_N]
    show some (D.bl (!((dget d x).map e).isSome)) = _
    rw [Option.isSome_map]
    congr 2
    by_cases q : x ∈ dkeys d
    · rw [decide_eq_false (by simp [q])]
      rw [dget_isSome.mpr q]; rfl
    · rw [decide_eq_true q]
      cases z : (dget d x).isSome with
      | false => rfl
      | true => exact (q (dget_isSome.mp z)).elim)
theorem ev_ixK [Inhabited β] {x : Nat} {d : List (Nat × β)} (h : x ∈ dkeys d) (ha : ma env tp = .ok (eD e d) t1') (hb : mb env t1' = .ok (eN x) t2') : binE ixKD ma mb env tp = .ok (e ((dget d x).getD default)) t2' :=
  ev_bin ha hb (by
    unfold ixKD
    rw [dget_N]
    have := dget_isSome.mpr h
    cases z : dget d x with
    | none => rw [z] at this; cases this
    | some v => rfl)
theorem ev_get2 {x : Nat} {y : β} {d : List (Nat × β)} (ha : ma env tp = .ok (eD e d) t1') (hb : mb env t1' = .ok (eN x) t2') (hc : mc env t2' = .ok (e y) t3') : get2E ma mb mc env tp = .ok (e ((dget d x).getD y)) t3' := by
  unfold get2E
  rw [ha]; simp only [RE.bind_ok]
  rw [if_pos (show isDicD (eD e d) = true from rfl), hb]; simp only [RE.bind_ok]
  rw [hc]; simp only [RE.bind_ok]
  rw [dget_N]
  cases dget d x <;> rfl
theorem len_dput (d : List (Nat × β)) (k : Nat) (v : β) : (dput d k v).length ≤ d.length + 1 := by
  unfold dput
  split
  · rw [List.length_map]; omega
  · rw [List.length_append, List.length_singleton]; omega
theorem fold_T {f : List (D × D) → D → List D → RE (List (D × D))} {h : List (Nat × β) → α → List (Nat × β)} : ∀ {xs : List α} {d : List (Nat × β)},
    (∀ x ∈ xs, ∀ d : List (Nat × β), d.length < 1000000 → f (d.map fun p => (eN p.1, e p.2)) (e1 x) tp = .ok ((h d x).map fun p => (eN p.1, e p.2)) tp) → (∀ x ∈ xs, ∀ d, (h d x).length ≤ d.length + 1) → d.length + xs.length ≤ 1000000 →
    foldR f (xs.map e1) (d.map fun p => (eN p.1, e p.2)) tp = .ok ((xs.foldl h d).map fun p => (eN p.1, e p.2)) tp
  | [], d, _, _, _ => rfl
  | x :: xs, d, hf, hl, hn => by
    rw [List.map_cons]
    unfold foldR
    rw [List.length_cons] at hn
    rw [hf x List.mem_cons_self d (by omega)]
    simp only
    have := hl x List.mem_cons_self d
    exact fold_T (fun y hy => hf y (List.mem_cons_of_mem _ hy)) (fun y hy => hl y (List.mem_cons_of_mem _ hy)) (by omega)
theorem pair_T {k : Nat} {v : β} {d : List (Nat × β)} (hl : d.length < 1000000) (hk : mk env tp = .ok (eN k) tp) (hv : mv env tp = .ok (e v) tp) : pairT mk mv env (d.map fun p => (eN p.1, e p.2)) tp = .ok ((dput d k v).map fun p => (eN p.1, e p.2)) tp := by
  unfold pairT
  rw [hk]; simp only
  rw [hv]; simp only
  unfold putR
  rw [List.length_map, if_pos (by have := small_line (Nat.le_refl 1000000); omega)]
  show RE.ok (putP keyOf keyD (d.map fun p => (eN p.1, e p.2)) (.inl (k : Int)) (e v)) tp = _
  rw [put_T]
theorem dictOf_map (g : α → Nat × β) (xs : List α) : dictOf (xs.map g) = xs.foldl (fun d x => dput d (g x).1 (g x).2) [] := by
  unfold dictOf; rw [List.foldl_map]
theorem ev_dc {vs is : List Nat} {tgt : D → Option (List D)} {xs : List α} {ds : α → List D} {k : α → Nat} {v : α → β} (hi : mi env tp = .ok (xs.map e1) t1') (hl : xs.length ≤ 1000000) (ht : ∀ x, tgt (e1 x) = some (ds x))
    (hk : ∀ x ∈ xs, mk (setAll (wipeE env vs) is (ds x)) t1' = .ok (eN (k x)) t1') (hv : ∀ x ∈ xs, mv (setAll (wipeE env vs) is (ds x)) t1' = .ok (e (v x)) t1') :
    dcE mi vs tgt is mk mv env tp = .ok (eD e (dictOf (xs.map fun x => (k x, v x)))) t1' := by
  unfold dcE
  rw [hi]
  simp only [RE.bind_ok]
  have := fold_T (f := dcTurn tgt is mk mv (wipeE env vs)) (e := e) (e1 := e1) (tp := t1') (h := fun d x => dput d (k x) (v x)) (xs := xs) (d := []) (fun x hx d hd => by
    unfold dcTurn
    rw [ht]
    exact pair_T hd (hk x hx) (hv x hx)) (fun x _ d => len_dput _ _ _) (by simpa using hl)
  rw [show ([] : List (D × D)) = (([] : List (Nat × β)).map fun p => (eN p.1, e p.2)) from rfl, this]
  simp only
  rw [dictOf_map]
theorem ev_dc2 {vs is vs1 is1 : List Nat} {tgt tgt1 : D → Option (List D)} {xs : List α} {ds : α → List D} {ys : α → List γ} {ds1 : γ → List D} {k : α → γ → Nat} {v : α → γ → β} (hi : mi env tp = .ok (xs.map e1) t1') (ht : ∀ x, tgt (e1 x) = some (ds x))
    (hi1 : ∀ x ∈ xs, mi1 (setAll (wipeE env vs) is (ds x)) t1' = .ok ((ys x).map e2) t1') (ht1 : ∀ y, tgt1 (e2 y) = some (ds1 y))
    (hk : ∀ x ∈ xs, ∀ y ∈ ys x, mk (setAll (wipeE (setAll (wipeE env vs) is (ds x)) vs1) is1 (ds1 y)) t1' = .ok (eN (k x y)) t1')
    (hv : ∀ x ∈ xs, ∀ y ∈ ys x, mv (setAll (wipeE (setAll (wipeE env vs) is (ds x)) vs1) is1 (ds1 y)) t1' = .ok (e (v x y)) t1')
    (hl : (xs.flatMap ys).length ≤ 1000000) :
    dc2E mi vs tgt is mi1 vs1 tgt1 is1 mk mv env tp = .ok (eD e (dictOf (xs.flatMap fun x => (ys x).map fun y => (k x y, v x y)))) t1' := by
  unfold dc2E
  rw [hi]
  simp only [RE.bind_ok]
  have key : ∀ (zs : List α) (d : List (Nat × β)), (∀ x ∈ zs, x ∈ xs) → d.length + (zs.flatMap ys).length ≤ 1000000 → foldR (dcTurn2 tgt is mi1 vs1 tgt1 is1 mk mv (wipeE env vs)) (zs.map e1) (d.map fun p => (eN p.1, e p.2)) t1' =
      .ok ((zs.foldl (fun d x => (ys x).foldl (fun d y => dput d (k x y) (v x y)) d) d).map fun p => (eN p.1, e p.2)) t1' := by
    intro zs
    induction zs with
    | nil => intro d _ _; rfl
    | cons x zs ih =>
      intro d hz hn
      rw [List.flatMap_cons, List.length_append] at hn
      rw [List.map_cons]
      unfold foldR
      have hx := hz x List.mem_cons_self
      have one : dcTurn2 tgt is mi1 vs1 tgt1 is1 mk mv (wipeE env vs) (d.map fun p => (eN p.1, e p.2)) (e1 x) t1' = .ok (((ys x).foldl (fun d y => dput d (k x y) (v x y)) d).map fun p => (eN p.1, e p.2)) t1' := by
        unfold dcTurn2
        rw [ht]
        simp only
        rw [hi1 x hx]
        simp only
        exact fold_T (e := e) (e1 := e2) (h := fun d y => dput d (k x y) (v x y)) (fun y hy d hd => by
          unfold dcTurn
          rw [ht1]
          exact pair_T hd (hk x hx y hy) (hv x hx y hy)) (fun y _ d => len_dput _ _ _) (by omega)
      rw [one]
      simp only
      have len : ∀ (us : List γ) (d : List (Nat × β)), (us.foldl (fun d y => dput d (k x y) (v x y)) d).length ≤ d.length + us.length := by
        intro us
        induction us with
        | nil => intro d; exact Nat.le_refl _
        | cons u us ih2 =>
          intro d
          rw [List.foldl_cons, List.length_cons]
          have a := ih2 (dput d (k x u) (v x u))
          have b := len_dput d (k x u) (v x u)
          omega
      have := len (ys x) d
      exact ih _ (fun z h => hz z (List.mem_cons_of_mem _ h)) (by omega)
  have := key xs [] (fun _ h => h) (by simpa using hl)
  rw [show ([] : List (D × D)) = (([] : List (Nat × β)).map fun p => (eN p.1, e p.2)) from rfl, this]
  simp only
  congr 2
  unfold dictOf
  rw [List.foldl_flatMap]
  congr 1
  congr 1
  funext d x
  rw [List.foldl_map]
theorem ev_sortK {d : List (Nat × β)} (h : d.length < 64) (hm : m env tp = .ok (eD e d) t1') : callB sortKD (consA m nilA) env tp = .ok (eL eN (sortN (dkeys d))) t1' :=
  ev_callB (ev_cons hm ev_nil) (by
    show (if (d.map fun p => (eN p.1, e p.2)).length < 64 then (unI ((d.map fun p => (eN p.1, e p.2)).map (·.1))).map (fun ns => D.lst ((_root_.G.sortI ns).map .int)) else none) = _
    rw [List.length_map, if_pos h, List.map_map]
    have : ((fun p : D × D => p.1) ∘ fun p : Nat × β => (eN p.1, e p.2)) = eN ∘ (·.1) := rfl
    rw [this, ← List.map_map, unI_mapN]
    show some (D.lst ((_root_.G.sortI ((dkeys d).map fun n : Nat => (n : Int))).map .int)) = _
    rw [sortI_N, List.map_map]; rfl)
theorem ev_lenK {d : List (Nat × β)} (hm : m env tp = .ok (eD e d) t1') : callB lenKD (consA m nilA) env tp = .ok (eN d.length) t1' :=
  ev_callB (ev_cons hm ev_nil) (by show some (D.int ((d.map fun p => (eN p.1, e p.2)).length : Int)) = _; rw [List.length_map])
theorem wp_dset {N : Wn} {R : Wr} {B C : Wn} {i k : Nat} {v : β} {d : List (Nat × β)} (he : env[i]? = some (some (eD e d))) (hv : mv env tp = .ok (e v) t1') (hk : mk env t1' = .ok (eN k) t2') (hl : d.length < 1000000) (hn : N (env.set i (some (eD e (dput d k v)))) t2') : WP N R B C (dsetS i mk mv env tp) := by
  unfold dsetS
  rw [he]
  simp only
  rw [hv]
  show WP N R B C ((mk env t1').bindS fun k tp2 => (match putD (eD e d) k (e v) with
    | some d' => RS.nx (env.set i (some d')) tp2
    | none => RS.stuck))
  rw [hk]
  have : putD (eD e d) (eN k) (e v) = some (eD e (dput d k v)) := by
    show (if (d.map fun p => (eN p.1, e p.2)).length < sizeLine then some (D.dic (putP keyOf keyD (d.map fun p => (eN p.1, e p.2)) (.inl (k : Int)) (e v))) else none) = _
    rw [List.length_map, if_pos (by have := small_line (Nat.le_refl 1000000); omega), put_T]
  show WP N R B C (match putD (eD e d) (eN k) (e v) with
    | some d' => RS.nx (env.set i (some d')) t2'
    | none => RS.stuck)
  rw [this]
  exact .nx hn
/-! facts -/
theorem dkeys_dput {d : List (Nat × β)} {k x : Nat} {v : β} : x ∈ dkeys (dput d k v) ↔ x ∈ dkeys d ∨ x = k := by
  unfold dput
  by_cases q : (dget d k).isSome = true
  · rw [if_pos q]
    have hk := dget_isSome.mp q
    have e : dkeys (d.map fun p => if p.1 = k then (p.1, v) else p) = dkeys d := by
      unfold dkeys
      rw [List.map_map]
      refine List.map_congr_left fun p _ => ?_
      show (if p.1 = k then (p.1, v) else p).1 = p.1
      split <;> rfl
    rw [e]
    exact ⟨.inl, fun h => h.elim id fun h => h ▸ hk⟩
  · rw [if_neg q]
    unfold dkeys
    rw [List.map_append, List.mem_append]
    simp
theorem dkeys_fold {ps : List (Nat × β)} {x : Nat} : ∀ {d : List (Nat × β)}, x ∈ dkeys (ps.foldl (fun d p => dput d p.1 p.2) d) ↔ x ∈ dkeys d ∨ x ∈ dkeys ps := by
  induction ps with
  | nil => intro d; simp
  | cons p ps ih =>
    intro d
    rw [List.foldl_cons, ih, dkeys_dput]
    simp only [List.map_cons, List.mem_cons]
    exact or_assoc
theorem mem_dictOf {ps : List (Nat × β)} {x : Nat} : x ∈ dkeys (dictOf ps) ↔ x ∈ dkeys ps := by
  unfold dictOf; rw [dkeys_fold]; simp
theorem nodup_dput {d : List (Nat × β)} {k : Nat} {v : β} (h : (dkeys d).Nodup) : (dkeys (dput d k v)).Nodup := by
  unfold dput
  by_cases q : (dget d k).isSome = true
  · rw [if_pos q]
    have e : dkeys (d.map fun p => if p.1 = k then (p.1, v) else p) = dkeys d := by
      unfold dkeys
      rw [List.map_map]
      refine List.map_congr_left fun p _ => ?_
      show (if p.1 = k then (p.1, v) else p).1 = p.1
      split <;> rfl
    rw [e]; exact h
  · rw [if_neg q]
    unfold dkeys
    rw [List.map_append]
    refine List.nodup_append.mpr ⟨h, by simp, fun a ha b hb e => ?_⟩
    have : b = k := by simpa using hb
    subst this
    subst e
    exact q (dget_isSome.mpr ha)
theorem nodup_dictOf (ps : List (Nat × β)) : (dkeys (dictOf ps)).Nodup := by
  unfold dictOf
  have : ∀ (ps d : List (Nat × β)), (dkeys d).Nodup → (dkeys (ps.foldl (fun d p => dput d p.1 p.2) d)).Nodup := by
    intro ps
    induction ps with
    | nil => intro d h; exact h
    | cons p ps ih => intro d h; exact ih _ (nodup_dput h)
  exact this ps [] .nil
end
end T

set_option maxHeartbeats 1000000
/-! T4: typed values: more of the integers. -/
namespace T
open PySem L2 G
section
variable {env : DEnv} {tp t1' t2' : List D} {m ma mb : SE D}
theorem ev_fdivZ {x y : Int} (h : cDiv y = true) (ha : ma env tp = .ok (eZ x) t1') (hb : mb env t1' = .ok (eZ y) t2') : binE fdivD ma mb env tp = .ok (eZ (x / y)) t2' :=
  ev_bin ha hb (by show (if cDiv y then some (D.int (x / y)) else none) = _; rw [if_pos h])
theorem ev_modZ {x y : Int} (h : 0 < y) (ha : ma env tp = .ok (eZ x) t1') (hb : mb env t1' = .ok (eZ y) t2') : binE modD ma mb env tp = .ok (eZ (x % y)) t2' :=
  ev_bin ha hb (by show (if 0 < y then some (D.int (x % y)) else none) = _; rw [if_pos h])
theorem ev_absZ {x : Int} (ha : m env tp = .ok (eZ x) t1') : callB absD (consA m nilA) env tp = .ok (eN x.natAbs) t1' :=
  ev_callB (ev_cons ha ev_nil) (by
    show some (D.int (if x < 0 then -x else x)) = some (eN x.natAbs)
    have : (if x < 0 then -x else x) = ((x.natAbs : Nat) : Int) := by split <;> omega
    rw [this])
end
end T

set_option maxHeartbeats 4000000
namespace W
open PySem L2 G
def top (i : Nat) : Stmt := PySem.Challenge.pw_linepainters_k83_great_means.main.body.getD i (.Pass ⟨0, 0, 0, 0⟩)
/-- what the top leaves -/
structure Tx (K : PySem.W.Frag) (mg : Str → Option Value) : Prop where
  abs : mg "abs" = none
  all : mg "all" = none
  bool : mg "bool" = none
  int : mg "int" = none
  isinstance : mg "isinstance" = none
  len : mg "len" = none
  list : mg "list" = none
  range : mg "range" = none
  str : mg "str" = none
  sum : mg "sum" = none
  tuple : mg "tuple" = none
  MOST_SIDE : ∃ t, mg "MOST_SIDE" = some (.int 30 t)
  BLACK : ∃ t, mg "BLACK" = some (.str "#" t)
  WHITE : ∃ t, mg "WHITE" = some (.str "." t)
  MOST_TIMES : ∃ t, mg "MOST_TIMES" = some (.int 200 t)
  f_is_int : ∃ f fd, FunD K "is_int" "is_int" (defArgs (top 8)) (defBody (top 8)) (defScope (top 8)) [] [] f fd ∧ mg "is_int" = some (.ref f)
  f_is_in : ∃ f fd, FunD K "is_in" "is_in" (defArgs (top 9)) (defBody (top 9)) (defScope (top 9)) [] [] f fd ∧ mg "is_in" = some (.ref f)
  f_need_number : ∃ f fd, FunD K "need_number" "need_number" (defArgs (top 10)) (defBody (top 10)) (defScope (top 10)) [] [] f fd ∧ mg "need_number" = some (.ref f)
  f_is_picture : ∃ f fd, FunD K "is_picture" "is_picture" (defArgs (top 11)) (defBody (top 11)) (defScope (top 11)) [] [] f fd ∧ mg "is_picture" = some (.ref f)
  f_need_picture : ∃ f fd, FunD K "need_picture" "need_picture" (defArgs (top 12)) (defBody (top 12)) (defScope (top 12)) [] [] f fd ∧ mg "need_picture" = some (.ref f)
  f_lines_of : ∃ f fd, FunD K "lines_of" "lines_of" (defArgs (top 13)) (defBody (top 13)) (defScope (top 13)) [] [] f fd ∧ mg "lines_of" = some (.ref f)
  f_plain : ∃ f fd, FunD K "plain" "plain" (defArgs (top 14)) (defBody (top 14)) (defScope (top 14)) [] [] f fd ∧ mg "plain" = some (.ref f)
  f_common : ∃ f fd, FunD K "common" "common" (defArgs (top 17)) (defBody (top 17)) (defScope (top 17)) [] [] f fd ∧ mg "common" = some (.ref f)
  f_lowered : ∃ f fd, FunD K "lowered" "lowered" (defArgs (top 18)) (defBody (top 18)) (defScope (top 18)) [] [] f fd ∧ mg "lowered" = some (.ref f)
  f_plus : ∃ f fd, FunD K "plus" "plus" (defArgs (top 19)) (defBody (top 19)) (defScope (top 19)) [] [] f fd ∧ mg "plus" = some (.ref f)
  f_times_ratio : ∃ f fd, FunD K "times_ratio" "times_ratio" (defArgs (top 20)) (defBody (top 20)) (defScope (top 20)) [] [] f fd ∧ mg "times_ratio" = some (.ref f)
  f_raised : ∃ f fd, FunD K "raised" "raised" (defArgs (top 21)) (defBody (top 21)) (defScope (top 21)) [] [] f fd ∧ mg "raised" = some (.ref f)
  f_need_painting : ∃ f fd, FunD K "need_painting" "need_painting" (defArgs (top 22)) (defBody (top 22)) (defScope (top 22)) [] [] f fd ∧ mg "need_painting" = some (.ref f)
  f_mean_black : ∃ f fd, FunD K "mean_black" "mean_black" (defArgs (top 23)) (defBody (top 23)) (defScope (top 23)) [] [] f fd ∧ mg "mean_black" = some (.ref f)
  f_black_chance : ∃ f fd, FunD K "black_chance" "black_chance" (defArgs (top 24)) (defBody (top 24)) (defScope (top 24)) [] [] f fd ∧ mg "black_chance" = some (.ref f)
  f_all_chance : ∃ f fd, FunD K "all_chance" "all_chance" (defArgs (top 25)) (defBody (top 25)) (defScope (top 25)) [] [] f fd ∧ mg "all_chance" = some (.ref f)
  f_need_board : ∃ f fd, FunD K "need_board" "need_board" (defArgs (top 26)) (defBody (top 26)) (defScope (top 26)) [] [] f fd ∧ mg "need_board" = some (.ref f)
  f_whole_chance : ∃ f fd, FunD K "whole_chance" "whole_chance" (defArgs (top 27)) (defBody (top 27)) (defScope (top 27)) [] [] f fd ∧ mg "whole_chance" = some (.ref f)
  f_past_chance : ∃ f fd, FunD K "past_chance" "past_chance" (defArgs (top 28)) (defBody (top 28)) (defScope (top 28)) [] [] f fd ∧ mg "past_chance" = some (.ref f)
  f_parts_sum : ∃ f fd, FunD K "parts_sum" "parts_sum" (defArgs (top 29)) (defBody (top 29)) (defScope (top 29)) [] [] f fd ∧ mg "parts_sum" = some (.ref f)
  f_mean_whole : ∃ f fd, FunD K "mean_whole" "mean_whole" (defArgs (top 30)) (defBody (top 30)) (defScope (top 30)) [] [] f fd ∧ mg "mean_whole" = some (.ref f)
  f_mean_past : ∃ f fd, FunD K "mean_past" "mean_past" (defArgs (top 31)) (defBody (top 31)) (defScope (top 31)) [] [] f fd ∧ mg "mean_past" = some (.ref f)
  f_law_taken : ∃ f fd, FunD K "_law_taken" "_law_taken" (defArgs (top 33)) (defBody (top 33)) (defScope (top 33)) [] [] f fd ∧ mg "_law_taken" = some (.ref f)
  f_law_alike : ∃ f fd, FunD K "_law_alike" "_law_alike" (defArgs (top 34)) (defBody (top 34)) (defScope (top 34)) [] [] f fd ∧ mg "_law_alike" = some (.ref f)
  f_law_common : ∃ f fd, FunD K "_law_common" "_law_common" (defArgs (top 35)) (defBody (top 35)) (defScope (top 35)) [] [] f fd ∧ mg "_law_common" = some (.ref f)
  f_law_lowered : ∃ f fd, FunD K "_law_lowered" "_law_lowered" (defArgs (top 36)) (defBody (top 36)) (defScope (top 36)) [] [] f fd ∧ mg "_law_lowered" = some (.ref f)
  f_law_plus : ∃ f fd, FunD K "_law_plus" "_law_plus" (defArgs (top 37)) (defBody (top 37)) (defScope (top 37)) [] [] f fd ∧ mg "_law_plus" = some (.ref f)
  f_law_all_painted : ∃ f fd, FunD K "_law_all_painted" "_law_all_painted" (defArgs (top 38)) (defBody (top 38)) (defScope (top 38)) [] [] f fd ∧ mg "_law_all_painted" = some (.ref f)
section
variable {P : Program} {w : World} {K : PySem.W.Frag} {mg : Str → Option Value} {base : Heap} {r : Addr}
abbrev s_is_int : Stmt := top 8
theorem sc_is_int : FnScope ["value"] ["value"] (defScope s_is_int) := ⟨rfl, rfl, rfl, by decide +kernel, rfl, by decide +kernel, by decide +kernel⟩
def b_is_int : SS := retS (andE (callB isiD (consA (vE 0) (consA (cE (.ty "int")) (nilA)))) (notE (callB isiD (consA (vE 0) (consA (cE (.ty "bool")) (nilA))))))
def m_is_int : List D → List D → RE D := defD 1 b_is_int
theorem d_is_int (T : Tx K mg) : DefOk P w K mg base CX0 r "is_int" 1 1 m_is_int := by
  obtain ⟨f, fd, F, hm⟩ := T.f_is_int
  refine fn_def (k := 0) F sc_is_int hm (fun _ _ _ _ _ _ us hl => match us, hl with | [_], _ => rfl) (fun cdv A outer s H E hr => ?_) (m := b_is_int)
  exact ⟨_, _, (gss_one (gs_ret (On := []) (ge_and (ge_isi T.isinstance (gao_cons ((ge_var 0)).go (gao_cons ((ge_ty T.int)).go gao_nil))) (ge_one (ge_not (ge_isi T.isinstance (gao_cons ((ge_var 0)).go (gao_cons ((ge_ty T.bool)).go gao_nil))))))))⟩
abbrev s_is_picture : Stmt := top 11
theorem sc_is_picture : FnScope ["value", "row", "sign"] ["value"] (defScope s_is_picture) := ⟨rfl, rfl, rfl, by decide +kernel, rfl, by decide +kernel, by decide +kernel⟩
def b_is_picture : SS := seqS (ifS (orT (notT (boolE (callB isiD (consA (vE 0) (consA (cE (.ty "tuple")) (nilA)))))) (notT (boolE (chainE leD leD (cE (.int 1)) (callB lenD (consA (vE 0) (nilA))) (cE (.int 30)))))) (retS (cE (.bl false))) (skipS)) (seqS (ifS (orT (notT (boolE (callB allD (consA (compE (seqI (vE 0)) [1] t1 [1] (yesT) (callB isiD (consA (vE 1) (consA (cE (.ty "str")) (nilA))))) (nilA))))) (notT (boolE (chainE leD leD (cE (.int 1)) (callB lenD (consA (binE ixD (vE 0) (cE (.int 0))) (nilA))) (cE (.int 30)))))) (retS (cE (.bl false))) (skipS)) (retS (callB allD (consA (compE (seqI (vE 0)) [1] t1 [1] (yesT) (andE (binE eqD (callB lenD (consA (vE 1) (nilA))) (callB lenD (consA (binE ixD (vE 0) (cE (.int 0))) (nilA)))) (callB allD (consA (compE (seqI (vE 1)) [2] t1 [2] (yesT) (binE inD (vE 2) (tupE (consA (cE (.str "#")) (consA (cE (.str ".")) (nilA)))))) (nilA))))) (nilA)))))
def m_is_picture : List D → List D → RE D := defD 3 b_is_picture
theorem d_is_picture (T : Tx K mg) : DefOk P w K mg base CX0 r "is_picture" 1 1 m_is_picture := by
  obtain ⟨f, fd, F, hm⟩ := T.f_is_picture
  refine fn_def (k := 0) F sc_is_picture hm (fun _ _ _ _ _ _ us hl => match us, hl with | [_], _ => rfl) (fun cdv A outer s H E hr => ?_) (m := b_is_picture)
  exact ⟨_, _, (gss_cons (gs_if ((gw_or (gt_not (gt_val (ge_isi T.isinstance (gao_cons ((ge_var 0)).go (gao_cons ((ge_ty T.tuple)).go gao_nil))))) (gw_or1 (gt_not (gt_leLe (ge_int).go ((ge_len T.len (gao_cons ((ge_var 0)).go gao_nil))).go ((ge_gint T.MOST_SIDE)).go))))).gt (gss_one (gs_ret (On := []) ge_bl)) (GSs.post (On' := []) (by decide) gss_nil)) (gss_cons (gs_if ((gw_or (gt_not (gt_val (ge_all rfl T.all (gao_cons (((gf_lc (own := [("row", 1)]) rfl sc_is_picture.nd (gi_seq (ge_var 0)) (blkOk_by (by kernel_rfl)) (fun _ _ _ _ _ => (gg_name 1 sc_is_picture.nd)) (fun _ _ _ _ _ => gts_nil) (fun _ _ _ _ _ => (ge_isi T.isinstance (gao_cons ((ge_var 1)).go (gao_cons ((ge_ty T.str)).go gao_nil)))) (by decide) (by decide))).ge).go gao_nil)))) (gw_or1 (gt_not (gt_leLe (ge_int).go ((ge_len T.len (gao_cons ((ge_sub1 ((ge_var 0)).go (ge_int).go)).go gao_nil))).go ((ge_gint T.MOST_SIDE)).go))))).gt (gss_one (gs_ret (On := []) ge_bl)) (GSs.post (On' := []) (by decide) gss_nil)) (gss_one (gs_ret (On := []) (ge_all rfl T.all (gao_cons (((gf_lc (own := [("row", 1)]) rfl sc_is_picture.nd (gi_seq (ge_var 0)) (blkOk_by (by kernel_rfl)) (fun _ _ _ _ _ => (gg_name 1 sc_is_picture.nd)) (fun _ _ _ _ _ => gts_nil) (fun _ _ _ _ _ => (ge_and (ge_eq hr.units ((ge_len T.len (gao_cons ((ge_var 1)).go gao_nil))).go ((ge_len T.len (gao_cons ((ge_sub1 ((ge_var 0)).go (ge_int).go)).go gao_nil))).go) (ge_one (ge_all rfl T.all (gao_cons (((gf_lc (own := [("sign", 2)]) rfl sc_is_picture.nd (gi_seq (ge_var 1)) (blkOk_by (by kernel_rfl)) (fun _ _ _ _ _ => (gg_name 2 sc_is_picture.nd)) (fun _ _ _ _ _ => gts_nil) (fun _ _ _ _ _ => (ge_in hr.units ((ge_var 2)).go ((ge_tup (ga_cons (ge_gstr T.BLACK) (ga_cons (ge_gstr T.WHITE) ga_nil)))).go)) (by decide) (by decide))).ge).go gao_nil))))) (by decide) (by decide))).ge).go gao_nil))))))⟩
abbrev s_lines_of : Stmt := top 13
theorem sc_lines_of : FnScope ["picture"] ["picture"] (defScope s_lines_of) := ⟨rfl, rfl, rfl, by decide +kernel, rfl, by decide +kernel, by decide +kernel⟩
def b_lines_of : SS := retS (binE addD (callB lenD (consA (vE 0) (nilA))) (callB lenD (consA (binE ixD (vE 0) (cE (.int 0))) (nilA))))
def m_lines_of : List D → List D → RE D := defD 1 b_lines_of
theorem d_lines_of (T : Tx K mg) : DefOk P w K mg base CX0 r "lines_of" 1 1 m_lines_of := by
  obtain ⟨f, fd, F, hm⟩ := T.f_lines_of
  refine fn_def (k := 0) F sc_lines_of hm (fun _ _ _ _ _ _ us hl => match us, hl with | [_], _ => rfl) (fun cdv A outer s H E hr => ?_) (m := b_lines_of)
  exact ⟨_, _, (gss_one (gs_ret (On := []) (ge_add ((ge_len T.len (gao_cons ((ge_var 0)).go gao_nil))).go ((ge_len T.len (gao_cons ((ge_sub1 ((ge_var 0)).go (ge_int).go)).go gao_nil))).go)))⟩
abbrev s_common : Stmt := top 17
theorem sc_common : FnScope ["one", "other"] ["one", "other"] (defScope s_common) := ⟨rfl, rfl, rfl, by decide +kernel, rfl, by decide +kernel, by decide +kernel⟩
def b_common : SS := seqS (whileS 1000000 (boolE (binE neD (vE 1) (cE (.int 0)))) (parS [0, 1] (consA (vE 1) (consA (binE modD (vE 0) (vE 1)) (nilA))))) (retS (callB absD (consA (vE 0) (nilA))))
def m_common : List D → List D → RE D := defD 2 b_common
theorem d_common (T : Tx K mg) : DefOk P w K mg base CX0 r "common" 1 2 m_common := by
  obtain ⟨f, fd, F, hm⟩ := T.f_common
  refine fn_def (k := 0) F sc_common hm (fun _ _ _ _ _ _ us hl => match us, hl with | [_, _], _ => rfl) (fun cdv A outer s H E hr => ?_) (m := b_common)
  exact ⟨_, _, (gss_cons (gs_while 1000000 .never (gt_ne hr.units ((ge_var 1)).go (ge_int).go) (GSs.post (On' := []) (by decide) (gss_one (GS.post (On' := []) (by decide) (gs_par2 0 1 sc_common.nd (gak_st (ge_var 1) (gak_st (ge_mod ((ge_var 0)).go ((ge_var 1)).go) gak_nil))))))) (gss_one (gs_ret (On := []) (ge_abs T.abs (gao_cons ((ge_var 0)).go gao_nil)))))⟩
abbrev s_raised : Stmt := top 21
theorem sc_raised : FnScope ["base", "times", "found", "turn"] ["base", "times"] (defScope s_raised) := ⟨rfl, rfl, rfl, by decide +kernel, rfl, by decide +kernel, by decide +kernel⟩
def b_raised : SS := seqS (setS 2 (cE (.int 1))) (seqS (forS (rangeI range1D (consA (vE 1) (nilA))) t1 [3] (setS 2 (binE mulD (vE 2) (vE 0)))) (retS (vE 2)))
def m_raised : List D → List D → RE D := defD 4 b_raised
theorem d_raised (T : Tx K mg) : DefOk P w K mg base CX0 r "raised" 1 2 m_raised := by
  obtain ⟨f, fd, F, hm⟩ := T.f_raised
  refine fn_def (k := 0) F sc_raised hm (fun _ _ _ _ _ _ us hl => match us, hl with | [_, _], _ => rfl) (fun cdv A outer s H E hr => ?_) (m := b_raised)
  exact ⟨_, _, (gss_cons (GS.post (On' := []) (by decide) (gs_set 2 sc_raised.nd ge_int)) (gss_cons (gs_for .never rfl (gi_range1 T.range (gao_cons ((ge_var 1)).go gao_nil)) (gg_name 3 sc_raised.nd) (GSs.post (On' := []) (by decide) (gss_one (GS.post (On' := []) (by decide) (gs_set 2 sc_raised.nd (ge_mul ((ge_var 2)).go ((ge_var 0)).go))))) (by decide) (fun d ds h => by cases h; rfl)) (gss_one (gs_ret (On := []) (ge_var 2)))))⟩
abbrev s_law_taken : Stmt := top 33
theorem sc_law_taken : FnScope ["_law_row", "_law_many", "_law_found", "_law_cell"] ["_law_row", "_law_many"] (defScope s_law_taken) := ⟨rfl, rfl, rfl, by decide +kernel, rfl, by decide +kernel, by decide +kernel⟩
def b_law_taken : SS := seqS (ifS (boolE (binE gtD (tixE (vE 0) (cE (.int 3))) (cE (.int 0)))) (seqS (setS 2 (binE modD (callB intD (consA (tixE (vE 0) (cE (.int 3))) (nilA))) (vE 1))) (seqS (tsetS 3 (vE 0) (cE (.int 3)) (binE fdivD (tixE (vE 0) (cE (.int 3))) (vE 1))) (retS (vE 2)))) (skipS)) (seqS (tsetS 1 (vE 0) (cE (.int 1)) (binE addD (tixE (vE 0) (cE (.int 1))) (cE (.int 1)))) (seqS (ifS (boolE (binE gtD (tixE (vE 0) (cE (.int 1))) (callB lenD (consA (tixE (vE 0) (cE (.int 0))) (nilA))))) (seqS (tsetS 2 (vE 0) (cE (.int 2)) (binE modD (callB intD (consA (binE addD (binE mulD (tixE (vE 0) (cE (.int 2))) (cE (.int 48271))) (cE (.int 11))) (nilA))) (cE (.int 2147483647)))) (retS (binE modD (callB intD (consA (binE fdivD (tixE (vE 0) (cE (.int 2))) (cE (.int 7))) (nilA))) (vE 1)))) (skipS)) (seqS (setS 3 (binE ixD (tixE (vE 0) (cE (.int 0))) (binE subD (tixE (vE 0) (cE (.int 1))) (cE (.int 1))))) (seqS (tsetS 2 (vE 0) (cE (.int 2)) (binE modD (callB intD (consA (binE addD (binE addD (binE mulD (tixE (vE 0) (cE (.int 2))) (cE (.int 48271))) (vE 3)) (cE (.int 11))) (nilA))) (cE (.int 2147483647)))) (seqS (ifS (boolE (binE geD (vE 3) (binE powD (cE (.int 10)) (cE (.int 18))))) (tsetS 3 (vE 0) (cE (.int 3)) (binE fdivD (vE 3) (vE 1))) (skipS)) (retS (binE modD (callB intD (consA (vE 3) (nilA))) (vE 1))))))))
def m_law_taken : List D → List D → RE D := defD 4 b_law_taken
theorem d_law_taken (T : Tx K mg) : DefOk P w K mg base CX0 r "_law_taken" 1 2 m_law_taken := by
  obtain ⟨f, fd, F, hm⟩ := T.f_law_taken
  refine fn_def (k := 0) F sc_law_taken hm (fun _ _ _ _ _ _ us hl => match us, hl with | [_, _], _ => rfl) (fun cdv A outer s H E hr => ?_) (m := b_law_taken)
  exact ⟨_, _, (gss_cons (gs_if (gt_gt ((ge_tix ((ge_var 0)).go (ge_int).go)).go (ge_int).go) (gss_cons (GS.post (On' := []) (by decide) (gs_set 2 sc_law_taken.nd (ge_mod ((ge_int1 T.int (gao_cons ((ge_tix ((ge_var 0)).go (ge_int).go)).go gao_nil))).go ((ge_var 1)).go))) (gss_cons (gs_tset 3 (ge_fdiv ((ge_tix ((ge_var 0)).go (ge_int).go)).go ((ge_var 1)).go) ((ge_var 0)).go (ge_int).go) (gss_one (gs_ret (On := []) (ge_var 2))))) (GSs.post (On' := []) (by decide) gss_nil)) (gss_cons (gs_tset 1 (ge_add ((ge_tix ((ge_var 0)).go (ge_int).go)).go (ge_int).go) ((ge_var 0)).go (ge_int).go) (gss_cons (gs_if (gt_gt ((ge_tix ((ge_var 0)).go (ge_int).go)).go ((ge_len T.len (gao_cons ((ge_tix ((ge_var 0)).go (ge_int).go)).go gao_nil))).go) (gss_cons (gs_tset 2 (ge_mod ((ge_int1 T.int (gao_cons ((ge_add ((ge_mul ((ge_tix ((ge_var 0)).go (ge_int).go)).go (ge_int).go)).go (ge_int).go)).go gao_nil))).go (ge_int).go) ((ge_var 0)).go (ge_int).go) (gss_one (gs_ret (On := []) (ge_mod ((ge_int1 T.int (gao_cons ((ge_fdiv ((ge_tix ((ge_var 0)).go (ge_int).go)).go (ge_int).go)).go gao_nil))).go ((ge_var 1)).go)))) (GSs.post (On' := []) (by decide) gss_nil)) (gss_cons (GS.post (On' := []) (by decide) (gs_set 3 sc_law_taken.nd (ge_sub1 ((ge_tix ((ge_var 0)).go (ge_int).go)).go ((ge_sub ((ge_tix ((ge_var 0)).go (ge_int).go)).go (ge_int).go)).go))) (gss_cons (gs_tset 2 (ge_mod ((ge_int1 T.int (gao_cons ((ge_add ((ge_add ((ge_mul ((ge_tix ((ge_var 0)).go (ge_int).go)).go (ge_int).go)).go ((ge_var 3)).go)).go (ge_int).go)).go gao_nil))).go (ge_int).go) ((ge_var 0)).go (ge_int).go) (gss_cons (gs_if (gt_ge ((ge_var 3)).go ((ge_pow (ge_int).go (ge_int).go)).go) (GSs.post (On' := []) (by decide) (gss_one (gs_tset 3 (ge_fdiv ((ge_var 3)).go ((ge_var 1)).go) ((ge_var 0)).go (ge_int).go))) (GSs.post (On' := []) (by decide) gss_nil)) (gss_one (gs_ret (On := []) (ge_mod ((ge_int1 T.int (gao_cons ((ge_var 3)).go gao_nil))).go ((ge_var 1)).go)))))))))⟩
abbrev s_law_alike : Stmt := top 34
theorem sc_law_alike : FnScope ["_law_found", "_law_due", "_law_k"] ["_law_found", "_law_due"] (defScope s_law_alike) := ⟨rfl, rfl, rfl, by decide +kernel, rfl, by decide +kernel, by decide +kernel⟩
def b_law_alike (rec : List D → List D → RE D) : SS := seqS (ifS (boolE (callB isiD (consA (vE 1) (consA (tupE (consA (cE (.ty "tuple")) (consA (cE (.ty "list")) (nilA)))) (nilA))))) (seqS (ifS (orT (notT (boolE (callB isiD (consA (vE 0) (consA (tupE (consA (cE (.ty "tuple")) (consA (cE (.ty "list")) (nilA)))) (nilA)))))) (boolE (binE neD (callB isiD (consA (vE 0) (consA (cE (.ty "list")) (nilA)))) (callB isiD (consA (vE 1) (consA (cE (.ty "list")) (nilA))))))) (retS (cE (.bl false))) (skipS)) (seqS (ifS (boolE (binE neD (callB lenD (consA (vE 0) (nilA))) (callB lenD (consA (vE 1) (nilA))))) (retS (cE (.bl false))) (skipS)) (retS (binE eqD (compE (rangeI range1D (consA (callB lenD (consA (vE 1) (nilA))) (nilA))) [2] t1 [2] (notT (boolE (callE 2 rec (consA (binE ixD (vE 0) (vE 2)) (consA (binE ixD (vE 1) (vE 2)) (nilA)))))) (vE 2)) (lstE (nilA)))))) (skipS)) (seqS (ifS (orT (boolE (binE isNoneD (vE 1) (cE .non))) (boolE (callB isiD (consA (vE 1) (consA (cE (.ty "str")) (nilA)))))) (retS (andE (binE eqD (vE 0) (vE 1)) (binE eqD (callB isiD (consA (vE 0) (consA (cE (.ty "str")) (nilA)))) (callB isiD (consA (vE 1) (consA (cE (.ty "str")) (nilA))))))) (skipS)) (retS (andE (callB isiD (consA (vE 0) (consA (cE (.ty "int")) (nilA)))) (andE (binE eqD (callB isiD (consA (vE 0) (consA (cE (.ty "bool")) (nilA)))) (callB isiD (consA (vE 1) (consA (cE (.ty "bool")) (nilA))))) (binE eqD (vE 0) (vE 1))))))
def m_law_alike : Nat → List D → List D → RE D
  | 0 => fun _ _ => .stuck
  | n + 1 => defD 3 (b_law_alike (m_law_alike n))
theorem d_law_alike (T : Tx K mg) : ∀ n : Nat, DefOk P w K mg base CX0 r "_law_alike" (n + 1) 2 (m_law_alike n)
  | 0 => by
    obtain ⟨f, fd, F, hm⟩ := T.f_law_alike
    exact def_stuck (ps := ["_law_found", "_law_due"]) F hm (fun _ _ _ _ _ _ us hl => match us, hl with | [_, _], _ => rfl)
  | n + 1 => by
    have ih := d_law_alike T n
    obtain ⟨f, fd, F, hm⟩ := T.f_law_alike
    refine fn_def (k := n + 1) F sc_law_alike hm (fun _ _ _ _ _ _ us hl => match us, hl with | [_, _], _ => rfl) (fun cdv A outer s H E hr => ?_) (m := b_law_alike (m_law_alike n))
    exact ⟨_, _, (gss_cons (gs_if (gt_val (ge_isi T.isinstance (gao_cons ((ge_var 1)).go (gao_cons ((ge_tup (ga_cons (ge_ty T.tuple) (ga_cons (ge_ty T.list) ga_nil)))).go gao_nil)))) (gss_cons (gs_if ((gw_or (gt_not (gt_val (ge_isi T.isinstance (gao_cons ((ge_var 0)).go (gao_cons ((ge_tup (ga_cons (ge_ty T.tuple) (ga_cons (ge_ty T.list) ga_nil)))).go gao_nil))))) (gw_or1 (gt_ne hr.units ((ge_isi T.isinstance (gao_cons ((ge_var 0)).go (gao_cons ((ge_ty T.list)).go gao_nil)))).go ((ge_isi T.isinstance (gao_cons ((ge_var 1)).go (gao_cons ((ge_ty T.list)).go gao_nil)))).go)))).gt (gss_one (gs_ret (On := []) ge_bl)) (GSs.post (On' := []) (by decide) gss_nil)) (gss_cons (gs_if (gt_ne hr.units ((ge_len T.len (gao_cons ((ge_var 0)).go gao_nil))).go ((ge_len T.len (gao_cons ((ge_var 1)).go gao_nil))).go) (gss_one (gs_ret (On := []) ge_bl)) (GSs.post (On' := []) (by decide) gss_nil)) (gss_one (gs_ret (On := []) (ge_eq hr.units (((gf_lc (own := [("_law_k", 2)]) rfl sc_law_alike.nd (gi_range1 T.range (gao_cons ((ge_len T.len (gao_cons ((ge_var 1)).go gao_nil))).go gao_nil)) (blkOk_by (by kernel_rfl)) (fun _ _ _ _ _ => (gg_name 2 sc_law_alike.nd)) (fun _ _ _ _ _ => (gts_one (gt_not (gt_val (ge_call ih (hr.mono (by omega)) pass0 (ga_cons (ge_sub1 ((ge_var 0)).go ((ge_var 2)).go) (ga_cons (ge_sub1 ((ge_var 1)).go ((ge_var 2)).go) ga_nil))))))) (fun _ _ _ _ _ => (ge_var 2)) (by decide) (by decide))).ge).go (((gf_lst ga_nil)).ge).go))))) (GSs.post (On' := []) (by decide) gss_nil)) (gss_cons (gs_if ((gw_or (gt_is ((ge_var 1)).go (ge_non).go) (gw_or1 (gt_val (ge_isi T.isinstance (gao_cons ((ge_var 1)).go (gao_cons ((ge_ty T.str)).go gao_nil))))))).gt (gss_one (gs_ret (On := []) (ge_and (ge_eq hr.units ((ge_var 0)).go ((ge_var 1)).go) (ge_one (ge_eq hr.units ((ge_isi T.isinstance (gao_cons ((ge_var 0)).go (gao_cons ((ge_ty T.str)).go gao_nil)))).go ((ge_isi T.isinstance (gao_cons ((ge_var 1)).go (gao_cons ((ge_ty T.str)).go gao_nil)))).go))))) (GSs.post (On' := []) (by decide) gss_nil)) (gss_one (gs_ret (On := []) (ge_and (ge_isi T.isinstance (gao_cons ((ge_var 0)).go (gao_cons ((ge_ty T.int)).go gao_nil))) (ge_and (ge_eq hr.units ((ge_isi T.isinstance (gao_cons ((ge_var 0)).go (gao_cons ((ge_ty T.bool)).go gao_nil)))).go ((ge_isi T.isinstance (gao_cons ((ge_var 1)).go (gao_cons ((ge_ty T.bool)).go gao_nil)))).go) (ge_one (ge_eq hr.units ((ge_var 0)).go ((ge_var 1)).go))))))))⟩
abbrev s_law_common : Stmt := top 35
theorem sc_law_common : FnScope ["_law_one", "_law_other"] ["_law_one", "_law_other"] (defScope s_law_common) := ⟨rfl, rfl, rfl, by decide +kernel, rfl, by decide +kernel, by decide +kernel⟩
def b_law_common : SS := seqS (parS [0, 1] (consA (callB absD (consA (vE 0) (nilA))) (consA (callB absD (consA (vE 1) (nilA))) (nilA)))) (seqS (whileS 1000000 (boolE (binE neD (vE 1) (cE (.int 0)))) (parS [0, 1] (consA (vE 1) (consA (binE modD (vE 0) (vE 1)) (nilA))))) (retS (vE 0)))
def m_law_common : List D → List D → RE D := defD 2 b_law_common
theorem d_law_common (T : Tx K mg) : DefOk P w K mg base CX0 r "_law_common" 1 2 m_law_common := by
  obtain ⟨f, fd, F, hm⟩ := T.f_law_common
  refine fn_def (k := 0) F sc_law_common hm (fun _ _ _ _ _ _ us hl => match us, hl with | [_, _], _ => rfl) (fun cdv A outer s H E hr => ?_) (m := b_law_common)
  exact ⟨_, _, (gss_cons (GS.post (On' := []) (by decide) (gs_par2 0 1 sc_law_common.nd (gak_st (ge_abs T.abs (gao_cons ((ge_var 0)).go gao_nil)) (gak_st (ge_abs T.abs (gao_cons ((ge_var 1)).go gao_nil)) gak_nil)))) (gss_cons (gs_while 1000000 .never (gt_ne hr.units ((ge_var 1)).go (ge_int).go) (GSs.post (On' := []) (by decide) (gss_one (GS.post (On' := []) (by decide) (gs_par2 0 1 sc_law_common.nd (gak_st (ge_var 1) (gak_st (ge_mod ((ge_var 0)).go ((ge_var 1)).go) gak_nil))))))) (gss_one (gs_ret (On := []) (ge_var 0)))))⟩
abbrev s_law_all_painted : Stmt := top 38
theorem sc_law_all_painted : FnScope ["_law_lines", "_law_many", "_law_times", "_law_counts", "_law_turn", "_law_later", "_law_done"] ["_law_lines", "_law_many", "_law_times"] (defScope s_law_all_painted) := ⟨rfl, rfl, rfl, by decide +kernel, rfl, by decide +kernel, by decide +kernel⟩
def b_law_all_painted : SS := seqS (setS 3 (binE addD (lstE (consA (cE (.int 1)) (nilA))) (binE mulD (lstE (consA (cE (.int 0)) (nilA))) (vE 1)))) (seqS (forS (rangeI range1D (consA (vE 2) (nilA))) t1 [4] (seqS (setFS 5 (binE lrepD (lstE (consA (cE (.int 0)) (nilA))) (binE addD (vE 1) (cE (.int 1))))) (seqS (forS (rangeI range1D (consA (binE addD (vE 1) (cE (.int 1))) (nilA))) t1 [6] (seqS (lsetS 5 (vE 6) (binE addD (binE ixD (vE 5) (vE 6)) (binE mulD (binE ixD (vE 3) (vE 6)) (binE addD (binE subD (vE 0) (vE 1)) (vE 6))))) (ifS (boolE (binE ltD (vE 6) (vE 1))) (lsetS 5 (binE addD (vE 6) (cE (.int 1))) (binE addD (binE ixD (vE 5) (binE addD (vE 6) (cE (.int 1)))) (binE mulD (binE ixD (vE 3) (vE 6)) (binE subD (vE 1) (vE 6))))) (skipS)))) (setS 3 (vE 5))))) (retS (binE ixD (vE 3) (vE 1))))
def m_law_all_painted : List D → List D → RE D := defD 7 b_law_all_painted
theorem d_law_all_painted (T : Tx K mg) : DefOk P w K mg base CX0 r "_law_all_painted" 1 3 m_law_all_painted := by
  obtain ⟨f, fd, F, hm⟩ := T.f_law_all_painted
  refine fn_def (k := 0) F sc_law_all_painted hm (fun _ _ _ _ _ _ us hl => match us, hl with | [_, _, _], _ => rfl) (fun cdv A outer s H E hr => ?_) (m := b_law_all_painted)
  exact ⟨_, _, (gss_cons (GS.post (On' := []) (by decide) (gs_set 3 sc_law_all_painted.nd (ge_add (((gf_lst (ga_cons ge_int ga_nil))).ge).go ((ge_mul (((gf_lst (ga_cons ge_int ga_nil))).ge).go ((ge_var 1)).go)).go))) (gss_cons (gs_for .never rfl (gi_range1 T.range (gao_cons ((ge_var 2)).go gao_nil)) (gg_name 4 sc_law_all_painted.nd) (GSs.post (On' := []) (by decide) (gss_cons (GS.post (On' := [5]) (by decide) (gs_setF 5 sc_law_all_painted.nd (gf_lrep ((gf_lst (ga_cons ge_int ga_nil))).ge (ge_add ((ge_var 1)).go (ge_int).go)))) (gss_cons (gs_for .never rfl (gi_range1 T.range (gao_cons ((ge_add ((ge_var 1)).go (ge_int).go)).go gao_nil)) (gg_name 6 sc_law_all_painted.nd) (GSs.post (On' := [5]) (by decide) (gss_cons (gs_lset 5 (by decide) (ge_var 6) (ge_add ((ge_sub1 (go_own 5) ((ge_var 6)).go)).go ((ge_mul ((ge_sub1 ((ge_var 3)).go ((ge_var 6)).go)).go ((ge_add ((ge_sub ((ge_var 0)).go ((ge_var 1)).go)).go ((ge_var 6)).go)).go)).go)) (gss_one (gs_if (gt_lt ((ge_var 6)).go ((ge_var 1)).go) (GSs.post (On' := [5]) (by decide) (gss_one (gs_lset 5 (by decide) (ge_add ((ge_var 6)).go (ge_int).go) (ge_add ((ge_sub1 (go_own 5) ((ge_add ((ge_var 6)).go (ge_int).go)).go)).go ((ge_mul ((ge_sub1 ((ge_var 3)).go ((ge_var 6)).go)).go ((ge_sub ((ge_var 1)).go ((ge_var 6)).go)).go)).go)))) (GSs.post (On' := [5]) (by decide) gss_nil))))) (by decide) (fun d ds h => by cases h; rfl)) (gss_one (GS.pre (O' := []) (by decide) (GS.post (On' := []) (by decide) (gs_set 3 sc_law_all_painted.nd (ge_var 5)))))))) (by decide) (fun d ds h => by cases h; rfl)) (gss_one (gs_ret (On := []) (ge_sub1 ((ge_var 3)).go ((ge_var 1)).go)))))⟩
abbrev s_is_in : Stmt := top 9
theorem sc_is_in : FnScope ["value", "least", "most"] ["value", "least", "most"] (defScope s_is_in) := ⟨rfl, rfl, rfl, by decide +kernel, rfl, by decide +kernel, by decide +kernel⟩
def b_is_in : SS := retS (andE (callE 1 m_is_int (consA (vE 0) (nilA))) (chainE leD leD (vE 1) (vE 0) (vE 2)))
def m_is_in : List D → List D → RE D := defD 3 b_is_in
theorem d_is_in (T : Tx K mg) : DefOk P w K mg base CX0 r "is_in" 2 3 m_is_in := by
  obtain ⟨f, fd, F, hm⟩ := T.f_is_in
  refine fn_def (k := 1) F sc_is_in hm (fun _ _ _ _ _ _ us hl => match us, hl with | [_, _, _], _ => rfl) (fun cdv A outer s H E hr => ?_) (m := b_is_in)
  exact ⟨_, _, (gss_one (gs_ret (On := []) (ge_and (ge_call (d_is_int T) (hr.mono (by decide)) pass0 (ga_cons (ge_var 0) ga_nil)) (ge_one (ge_leLe ((ge_var 1)).go ((ge_var 0)).go ((ge_var 2)).go)))))⟩
abbrev s_need_picture : Stmt := top 12
theorem sc_need_picture : FnScope ["value"] ["value"] (defScope s_need_picture) := ⟨rfl, rfl, rfl, by decide +kernel, rfl, by decide +kernel, by decide +kernel⟩
def b_need_picture : SS := ifS (notT (boolE (callE 1 m_is_picture (consA (vE 0) (nilA))))) ((fun _ _ => .stuck)) (skipS)
def m_need_picture : List D → List D → RE D := defD 1 b_need_picture
theorem d_need_picture (T : Tx K mg) : DefOk P w K mg base CX0 r "need_picture" 2 1 m_need_picture := by
  obtain ⟨f, fd, F, hm⟩ := T.f_need_picture
  refine fn_def (k := 1) F sc_need_picture hm (fun _ _ _ _ _ _ us hl => match us, hl with | [_], _ => rfl) (fun cdv A outer s H E hr => ?_) (m := b_need_picture)
  exact ⟨_, _, (gss_one (gs_if (gt_not (gt_val (ge_call (d_is_picture T) (hr.mono (by decide)) pass0 (ga_cons (ge_var 0) ga_nil)))) (gss_one (gs_never (On := []))) (GSs.post (On' := []) (by decide) gss_nil)))⟩
abbrev s_lowered : Stmt := top 18
theorem sc_lowered : FnScope ["above", "low", "shared"] ["above", "low"] (defScope s_lowered) := ⟨rfl, rfl, rfl, by decide +kernel, rfl, by decide +kernel, by decide +kernel⟩
def b_lowered : SS := seqS (setS 2 (callE 2 m_common (consA (vE 0) (consA (vE 1) (nilA))))) (retS (tupE (consA (binE fdivD (vE 0) (vE 2)) (consA (binE fdivD (vE 1) (vE 2)) (nilA)))))
def m_lowered : List D → List D → RE D := defD 3 b_lowered
theorem d_lowered (T : Tx K mg) : DefOk P w K mg base CX0 r "lowered" 2 2 m_lowered := by
  obtain ⟨f, fd, F, hm⟩ := T.f_lowered
  refine fn_def (k := 1) F sc_lowered hm (fun _ _ _ _ _ _ us hl => match us, hl with | [_, _], _ => rfl) (fun cdv A outer s H E hr => ?_) (m := b_lowered)
  exact ⟨_, _, (gss_cons (GS.post (On' := []) (by decide) (gs_set 2 sc_lowered.nd (ge_call (d_common T) (hr.mono (by decide)) pass0 (ga_cons (ge_var 0) (ga_cons (ge_var 1) ga_nil))))) (gss_one (gs_ret (On := []) (ge_tup (ga_cons (ge_fdiv ((ge_var 0)).go ((ge_var 2)).go) (ga_cons (ge_fdiv ((ge_var 1)).go ((ge_var 2)).go) ga_nil))))))⟩
abbrev s_law_lowered : Stmt := top 36
theorem sc_law_lowered : FnScope ["_law_above", "_law_low", "_law_shared"] ["_law_above", "_law_low"] (defScope s_law_lowered) := ⟨rfl, rfl, rfl, by decide +kernel, rfl, by decide +kernel, by decide +kernel⟩
def b_law_lowered : SS := seqS (setS 2 (callE 2 m_law_common (consA (vE 0) (consA (vE 1) (nilA))))) (retS (tupE (consA (binE fdivD (vE 0) (vE 2)) (consA (binE fdivD (vE 1) (vE 2)) (nilA)))))
def m_law_lowered : List D → List D → RE D := defD 3 b_law_lowered
theorem d_law_lowered (T : Tx K mg) : DefOk P w K mg base CX0 r "_law_lowered" 2 2 m_law_lowered := by
  obtain ⟨f, fd, F, hm⟩ := T.f_law_lowered
  refine fn_def (k := 1) F sc_law_lowered hm (fun _ _ _ _ _ _ us hl => match us, hl with | [_, _], _ => rfl) (fun cdv A outer s H E hr => ?_) (m := b_law_lowered)
  exact ⟨_, _, (gss_cons (GS.post (On' := []) (by decide) (gs_set 2 sc_law_lowered.nd (ge_call (d_law_common T) (hr.mono (by decide)) pass0 (ga_cons (ge_var 0) (ga_cons (ge_var 1) ga_nil))))) (gss_one (gs_ret (On := []) (ge_tup (ga_cons (ge_fdiv ((ge_var 0)).go ((ge_var 2)).go) (ga_cons (ge_fdiv ((ge_var 1)).go ((ge_var 2)).go) ga_nil))))))⟩
abbrev s_need_number : Stmt := top 10
theorem sc_need_number : FnScope ["value", "least", "most"] ["value", "least", "most"] (defScope s_need_number) := ⟨rfl, rfl, rfl, by decide +kernel, rfl, by decide +kernel, by decide +kernel⟩
def b_need_number : SS := ifS (notT (boolE (callE 3 m_is_in (consA (vE 0) (consA (vE 1) (consA (vE 2) (nilA))))))) ((fun _ _ => .stuck)) (skipS)
def m_need_number : List D → List D → RE D := defD 3 b_need_number
theorem d_need_number (T : Tx K mg) : DefOk P w K mg base CX0 r "need_number" 3 3 m_need_number := by
  obtain ⟨f, fd, F, hm⟩ := T.f_need_number
  refine fn_def (k := 2) F sc_need_number hm (fun _ _ _ _ _ _ us hl => match us, hl with | [_, _, _], _ => rfl) (fun cdv A outer s H E hr => ?_) (m := b_need_number)
  exact ⟨_, _, (gss_one (gs_if (gt_not (gt_val (ge_call (d_is_in T) (hr.mono (by decide)) pass0 (ga_cons (ge_var 0) (ga_cons (ge_var 1) (ga_cons (ge_var 2) ga_nil)))))) (gss_one (gs_never (On := []))) (GSs.post (On' := []) (by decide) gss_nil)))⟩
abbrev s_plus : Stmt := top 19
theorem sc_plus : FnScope ["one", "other"] ["one", "other"] (defScope s_plus) := ⟨rfl, rfl, rfl, by decide +kernel, rfl, by decide +kernel, by decide +kernel⟩
def b_plus : SS := retS (callE 2 m_lowered (consA (binE addD (binE mulD (binE ixD (vE 0) (cE (.int 0))) (binE ixD (vE 1) (cE (.int 1)))) (binE mulD (binE ixD (vE 1) (cE (.int 0))) (binE ixD (vE 0) (cE (.int 1))))) (consA (binE mulD (binE ixD (vE 0) (cE (.int 1))) (binE ixD (vE 1) (cE (.int 1)))) (nilA))))
def m_plus : List D → List D → RE D := defD 2 b_plus
theorem d_plus (T : Tx K mg) : DefOk P w K mg base CX0 r "plus" 3 2 m_plus := by
  obtain ⟨f, fd, F, hm⟩ := T.f_plus
  refine fn_def (k := 2) F sc_plus hm (fun _ _ _ _ _ _ us hl => match us, hl with | [_, _], _ => rfl) (fun cdv A outer s H E hr => ?_) (m := b_plus)
  exact ⟨_, _, (gss_one (gs_ret (On := []) (ge_call (d_lowered T) (hr.mono (by decide)) pass0 (ga_cons (ge_add ((ge_mul ((ge_sub1 ((ge_var 0)).go (ge_int).go)).go ((ge_sub1 ((ge_var 1)).go (ge_int).go)).go)).go ((ge_mul ((ge_sub1 ((ge_var 1)).go (ge_int).go)).go ((ge_sub1 ((ge_var 0)).go (ge_int).go)).go)).go) (ga_cons (ge_mul ((ge_sub1 ((ge_var 0)).go (ge_int).go)).go ((ge_sub1 ((ge_var 1)).go (ge_int).go)).go) ga_nil)))))⟩
abbrev s_times_ratio : Stmt := top 20
theorem sc_times_ratio : FnScope ["one", "other"] ["one", "other"] (defScope s_times_ratio) := ⟨rfl, rfl, rfl, by decide +kernel, rfl, by decide +kernel, by decide +kernel⟩
def b_times_ratio : SS := retS (callE 2 m_lowered (consA (binE mulD (binE ixD (vE 0) (cE (.int 0))) (binE ixD (vE 1) (cE (.int 0)))) (consA (binE mulD (binE ixD (vE 0) (cE (.int 1))) (binE ixD (vE 1) (cE (.int 1)))) (nilA))))
def m_times_ratio : List D → List D → RE D := defD 2 b_times_ratio
theorem d_times_ratio (T : Tx K mg) : DefOk P w K mg base CX0 r "times_ratio" 3 2 m_times_ratio := by
  obtain ⟨f, fd, F, hm⟩ := T.f_times_ratio
  refine fn_def (k := 2) F sc_times_ratio hm (fun _ _ _ _ _ _ us hl => match us, hl with | [_, _], _ => rfl) (fun cdv A outer s H E hr => ?_) (m := b_times_ratio)
  exact ⟨_, _, (gss_one (gs_ret (On := []) (ge_call (d_lowered T) (hr.mono (by decide)) pass0 (ga_cons (ge_mul ((ge_sub1 ((ge_var 0)).go (ge_int).go)).go ((ge_sub1 ((ge_var 1)).go (ge_int).go)).go) (ga_cons (ge_mul ((ge_sub1 ((ge_var 0)).go (ge_int).go)).go ((ge_sub1 ((ge_var 1)).go (ge_int).go)).go) ga_nil)))))⟩
abbrev s_all_chance : Stmt := top 25
theorem sc_all_chance : FnScope ["lines", "many", "times", "found", "ways", "less"] ["lines", "many", "times"] (defScope s_all_chance) := ⟨rfl, rfl, rfl, by decide +kernel, rfl, by decide +kernel, by decide +kernel⟩
def b_all_chance : SS := seqS (parS [3, 4] (consA (cE (.int 0)) (consA (cE (.int 1)) (nilA)))) (seqS (forS (rangeI range1D (consA (binE addD (vE 1) (cE (.int 1))) (nilA))) t1 [5] (seqS (augS 3 addD (binE mulD (binE mulD (ifE (boolE (binE eqD (binE modD (vE 5) (cE (.int 2))) (cE (.int 0)))) (cE (.int 1)) (unE negD (cE (.int 1)))) (vE 4)) (callE 2 m_raised (consA (binE subD (vE 0) (vE 5)) (consA (vE 2) (nilA)))))) (setS 4 (binE fdivD (binE mulD (vE 4) (binE subD (vE 1) (vE 5))) (binE addD (vE 5) (cE (.int 1))))))) (retS (callE 2 m_lowered (consA (vE 3) (consA (callE 2 m_raised (consA (vE 0) (consA (vE 2) (nilA)))) (nilA))))))
def m_all_chance : List D → List D → RE D := defD 6 b_all_chance
theorem d_all_chance (T : Tx K mg) : DefOk P w K mg base CX0 r "all_chance" 3 3 m_all_chance := by
  obtain ⟨f, fd, F, hm⟩ := T.f_all_chance
  refine fn_def (k := 2) F sc_all_chance hm (fun _ _ _ _ _ _ us hl => match us, hl with | [_, _, _], _ => rfl) (fun cdv A outer s H E hr => ?_) (m := b_all_chance)
  exact ⟨_, _, (gss_cons (GS.post (On' := []) (by decide) (gs_tup (gak_st ge_int (gak_st ge_int gak_nil)) (ggs_cons 3 sc_all_chance.nd (ggs_cons 4 sc_all_chance.nd ggs_nil)))) (gss_cons (gs_for .never rfl (gi_range1 T.range (gao_cons ((ge_add ((ge_var 1)).go (ge_int).go)).go gao_nil)) (gg_name 5 sc_all_chance.nd) (GSs.post (On' := []) (by decide) (gss_cons (gs_augAdd 3 sc_all_chance.nd (ge_mul ((ge_mul ((ge_ifExp (gt_eq hr.units ((ge_mod ((ge_var 5)).go (ge_int).go)).go (ge_int).go) ge_int (ge_neg (ge_int).go))).go ((ge_var 4)).go)).go ((ge_call (d_raised T) (hr.mono (by decide)) pass0 (ga_cons (ge_sub ((ge_var 0)).go ((ge_var 5)).go) (ga_cons (ge_var 2) ga_nil)))).go)) (gss_one (GS.post (On' := []) (by decide) (gs_set 4 sc_all_chance.nd (ge_fdiv ((ge_mul ((ge_var 4)).go ((ge_sub ((ge_var 1)).go ((ge_var 5)).go)).go)).go ((ge_add ((ge_var 5)).go (ge_int).go)).go)))))) (by decide) (fun d ds h => by cases h; rfl)) (gss_one (gs_ret (On := []) (ge_call (d_lowered T) (hr.mono (by decide)) pass0 (ga_cons (ge_var 3) (ga_cons (ge_call (d_raised T) (hr.mono (by decide)) pass0 (ga_cons (ge_var 0) (ga_cons (ge_var 2) ga_nil))) ga_nil)))))))⟩
abbrev s_law_plus : Stmt := top 37
theorem sc_law_plus : FnScope ["_law_one", "_law_other"] ["_law_one", "_law_other"] (defScope s_law_plus) := ⟨rfl, rfl, rfl, by decide +kernel, rfl, by decide +kernel, by decide +kernel⟩
def b_law_plus : SS := retS (callE 2 m_law_lowered (consA (binE addD (binE mulD (binE ixD (vE 0) (cE (.int 0))) (binE ixD (vE 1) (cE (.int 1)))) (binE mulD (binE ixD (vE 1) (cE (.int 0))) (binE ixD (vE 0) (cE (.int 1))))) (consA (binE mulD (binE ixD (vE 0) (cE (.int 1))) (binE ixD (vE 1) (cE (.int 1)))) (nilA))))
def m_law_plus : List D → List D → RE D := defD 2 b_law_plus
theorem d_law_plus (T : Tx K mg) : DefOk P w K mg base CX0 r "_law_plus" 3 2 m_law_plus := by
  obtain ⟨f, fd, F, hm⟩ := T.f_law_plus
  refine fn_def (k := 2) F sc_law_plus hm (fun _ _ _ _ _ _ us hl => match us, hl with | [_, _], _ => rfl) (fun cdv A outer s H E hr => ?_) (m := b_law_plus)
  exact ⟨_, _, (gss_one (gs_ret (On := []) (ge_call (d_law_lowered T) (hr.mono (by decide)) pass0 (ga_cons (ge_add ((ge_mul ((ge_sub1 ((ge_var 0)).go (ge_int).go)).go ((ge_sub1 ((ge_var 1)).go (ge_int).go)).go)).go ((ge_mul ((ge_sub1 ((ge_var 1)).go (ge_int).go)).go ((ge_sub1 ((ge_var 0)).go (ge_int).go)).go)).go) (ga_cons (ge_mul ((ge_sub1 ((ge_var 0)).go (ge_int).go)).go ((ge_sub1 ((ge_var 1)).go (ge_int).go)).go) ga_nil)))))⟩
abbrev s_plain : Stmt := top 14
theorem sc_plain : FnScope ["rows", "columns", "is_black"] ["rows", "columns", "is_black"] (defScope s_plain) := ⟨rfl, rfl, rfl, by decide +kernel, rfl, by decide +kernel, by decide +kernel⟩
def b_plain : SS := seqS (dropS (callE 3 m_need_number (consA (vE 0) (consA (cE (.int 1)) (consA (cE (.int 30)) (nilA)))))) (seqS (dropS (callE 3 m_need_number (consA (vE 1) (consA (cE (.int 1)) (consA (cE (.int 30)) (nilA)))))) (seqS (dropS (callE 3 m_need_number (consA (vE 2) (consA (cE (.int 0)) (consA (cE (.int 1)) (nilA)))))) (retS (binE mulD (tupE (consA (binE mulD (ifE (boolE (binE eqD (vE 2) (cE (.int 1)))) (cE (.str "#")) (cE (.str "."))) (vE 1)) (nilA))) (vE 0)))))
def m_plain : List D → List D → RE D := defD 3 b_plain
theorem d_plain (T : Tx K mg) : DefOk P w K mg base CX0 r "plain" 4 3 m_plain := by
  obtain ⟨f, fd, F, hm⟩ := T.f_plain
  refine fn_def (k := 3) F sc_plain hm (fun _ _ _ _ _ _ us hl => match us, hl with | [_, _, _], _ => rfl) (fun cdv A outer s H E hr => ?_) (m := b_plain)
  exact ⟨_, _, (gss_cons (gs_drop (ge_call (d_need_number T) (hr.mono (by decide)) pass0 (ga_cons (ge_var 0) (ga_cons ge_int (ga_cons (ge_gint T.MOST_SIDE) ga_nil))))) (gss_cons (gs_drop (ge_call (d_need_number T) (hr.mono (by decide)) pass0 (ga_cons (ge_var 1) (ga_cons ge_int (ga_cons (ge_gint T.MOST_SIDE) ga_nil))))) (gss_cons (gs_drop (ge_call (d_need_number T) (hr.mono (by decide)) pass0 (ga_cons (ge_var 2) (ga_cons ge_int (ga_cons ge_int ga_nil))))) (gss_one (gs_ret (On := []) (ge_mul ((ge_tup (ga_cons (ge_mul ((ge_ifExp (gt_eq hr.units ((ge_var 2)).go (ge_int).go) (ge_gstr T.BLACK) (ge_gstr T.WHITE))).go ((ge_var 1)).go) ga_nil))).go ((ge_var 0)).go))))))⟩
abbrev s_need_painting : Stmt := top 22
theorem sc_need_painting : FnScope ["start", "times"] ["start", "times"] (defScope s_need_painting) := ⟨rfl, rfl, rfl, by decide +kernel, rfl, by decide +kernel, by decide +kernel⟩
def b_need_painting : SS := seqS (dropS (callE 1 m_need_picture (consA (vE 0) (nilA)))) (dropS (callE 3 m_need_number (consA (vE 1) (consA (cE (.int 0)) (consA (cE (.int 200)) (nilA))))))
def m_need_painting : List D → List D → RE D := defD 2 b_need_painting
theorem d_need_painting (T : Tx K mg) : DefOk P w K mg base CX0 r "need_painting" 4 2 m_need_painting := by
  obtain ⟨f, fd, F, hm⟩ := T.f_need_painting
  refine fn_def (k := 3) F sc_need_painting hm (fun _ _ _ _ _ _ us hl => match us, hl with | [_, _], _ => rfl) (fun cdv A outer s H E hr => ?_) (m := b_need_painting)
  exact ⟨_, _, (gss_cons (gs_drop (ge_call (d_need_picture T) (hr.mono (by decide)) pass0 (ga_cons (ge_var 0) ga_nil))) (gss_one (gs_drop (ge_call (d_need_number T) (hr.mono (by decide)) pass0 (ga_cons (ge_var 1) (ga_cons ge_int (ga_cons (ge_gint T.MOST_TIMES) ga_nil)))))))⟩
abbrev s_black_chance : Stmt := top 24
theorem sc_black_chance : FnScope ["start", "row", "column", "times", "whole", "kept", "black"] ["start", "row", "column", "times"] (defScope s_black_chance) := ⟨rfl, rfl, rfl, by decide +kernel, rfl, by decide +kernel, by decide +kernel⟩
def b_black_chance : SS := seqS (dropS (callE 1 m_need_picture (consA (vE 0) (nilA)))) (seqS (dropS (callE 3 m_need_number (consA (vE 1) (consA (cE (.int 0)) (consA (binE subD (callB lenD (consA (vE 0) (nilA))) (cE (.int 1))) (nilA)))))) (seqS (dropS (callE 3 m_need_number (consA (vE 2) (consA (cE (.int 0)) (consA (binE subD (callB lenD (consA (binE ixD (vE 0) (cE (.int 0))) (nilA))) (cE (.int 1))) (nilA)))))) (seqS (dropS (callE 3 m_need_number (consA (vE 3) (consA (cE (.int 0)) (consA (cE (.int 200)) (nilA)))))) (seqS (parS [4, 5] (consA (callE 2 m_raised (consA (callE 1 m_lines_of (consA (vE 0) (nilA))) (consA (vE 3) (nilA)))) (consA (callE 2 m_raised (consA (binE subD (callE 1 m_lines_of (consA (vE 0) (nilA))) (cE (.int 2))) (consA (vE 3) (nilA)))) (nilA)))) (seqS (setS 6 (ifE (boolE (binE eqD (binE ixD (binE ixD (vE 0) (vE 1)) (vE 2)) (cE (.str "#")))) (cE (.int 1)) (cE (.int 0)))) (retS (callE 2 m_lowered (consA (binE subD (binE addD (binE mulD (binE mulD (cE (.int 2)) (vE 6)) (vE 5)) (vE 4)) (vE 5)) (consA (binE mulD (cE (.int 2)) (vE 4)) (nilA))))))))))
def m_black_chance : List D → List D → RE D := defD 7 b_black_chance
theorem d_black_chance (T : Tx K mg) : DefOk P w K mg base CX0 r "black_chance" 4 4 m_black_chance := by
  obtain ⟨f, fd, F, hm⟩ := T.f_black_chance
  refine fn_def (k := 3) F sc_black_chance hm (fun _ _ _ _ _ _ us hl => match us, hl with | [_, _, _, _], _ => rfl) (fun cdv A outer s H E hr => ?_) (m := b_black_chance)
  exact ⟨_, _, (gss_cons (gs_drop (ge_call (d_need_picture T) (hr.mono (by decide)) pass0 (ga_cons (ge_var 0) ga_nil))) (gss_cons (gs_drop (ge_call (d_need_number T) (hr.mono (by decide)) pass0 (ga_cons (ge_var 1) (ga_cons ge_int (ga_cons (ge_sub ((ge_len T.len (gao_cons ((ge_var 0)).go gao_nil))).go (ge_int).go) ga_nil))))) (gss_cons (gs_drop (ge_call (d_need_number T) (hr.mono (by decide)) pass0 (ga_cons (ge_var 2) (ga_cons ge_int (ga_cons (ge_sub ((ge_len T.len (gao_cons ((ge_sub1 ((ge_var 0)).go (ge_int).go)).go gao_nil))).go (ge_int).go) ga_nil))))) (gss_cons (gs_drop (ge_call (d_need_number T) (hr.mono (by decide)) pass0 (ga_cons (ge_var 3) (ga_cons ge_int (ga_cons (ge_gint T.MOST_TIMES) ga_nil))))) (gss_cons (GS.post (On' := []) (by decide) (gs_par2 4 5 sc_black_chance.nd (gak_st (ge_call (d_raised T) (hr.mono (by decide)) pass0 (ga_cons (ge_call (d_lines_of T) (hr.mono (by decide)) pass0 (ga_cons (ge_var 0) ga_nil)) (ga_cons (ge_var 3) ga_nil))) (gak_st (ge_call (d_raised T) (hr.mono (by decide)) pass0 (ga_cons (ge_sub ((ge_call (d_lines_of T) (hr.mono (by decide)) pass0 (ga_cons (ge_var 0) ga_nil))).go (ge_int).go) (ga_cons (ge_var 3) ga_nil))) gak_nil)))) (gss_cons (GS.post (On' := []) (by decide) (gs_set 6 sc_black_chance.nd (ge_ifExp (gt_eq hr.units ((ge_sub1 ((ge_sub1 ((ge_var 0)).go ((ge_var 1)).go)).go ((ge_var 2)).go)).go ((ge_gstr T.BLACK)).go) ge_int ge_int))) (gss_one (gs_ret (On := []) (ge_call (d_lowered T) (hr.mono (by decide)) pass0 (ga_cons (ge_sub ((ge_add ((ge_mul ((ge_mul (ge_int).go ((ge_var 6)).go)).go ((ge_var 5)).go)).go ((ge_var 4)).go)).go ((ge_var 5)).go) (ga_cons (ge_mul (ge_int).go ((ge_var 4)).go) ga_nil)))))))))))⟩
abbrev s_need_board : Stmt := top 26
theorem sc_need_board : FnScope ["rows", "columns"] ["rows", "columns"] (defScope s_need_board) := ⟨rfl, rfl, rfl, by decide +kernel, rfl, by decide +kernel, by decide +kernel⟩
def b_need_board : SS := seqS (dropS (callE 3 m_need_number (consA (vE 0) (consA (cE (.int 1)) (consA (cE (.int 30)) (nilA)))))) (dropS (callE 3 m_need_number (consA (vE 1) (consA (cE (.int 1)) (consA (cE (.int 30)) (nilA))))))
def m_need_board : List D → List D → RE D := defD 2 b_need_board
theorem d_need_board (T : Tx K mg) : DefOk P w K mg base CX0 r "need_board" 4 2 m_need_board := by
  obtain ⟨f, fd, F, hm⟩ := T.f_need_board
  refine fn_def (k := 3) F sc_need_board hm (fun _ _ _ _ _ _ us hl => match us, hl with | [_, _], _ => rfl) (fun cdv A outer s H E hr => ?_) (m := b_need_board)
  exact ⟨_, _, (gss_cons (gs_drop (ge_call (d_need_number T) (hr.mono (by decide)) pass0 (ga_cons (ge_var 0) (ga_cons ge_int (ga_cons (ge_gint T.MOST_SIDE) ga_nil))))) (gss_one (gs_drop (ge_call (d_need_number T) (hr.mono (by decide)) pass0 (ga_cons (ge_var 1) (ga_cons ge_int (ga_cons (ge_gint T.MOST_SIDE) ga_nil)))))))⟩
abbrev s_parts_sum : Stmt := top 29
theorem sc_parts_sum : FnScope ["many", "found", "low"] ["many"] (defScope s_parts_sum) := ⟨rfl, rfl, rfl, by decide +kernel, rfl, by decide +kernel, by decide +kernel⟩
def b_parts_sum : SS := seqS (setS 1 (tupE (consA (cE (.int 0)) (consA (cE (.int 1)) (nilA))))) (seqS (forS (rangeI range2D (consA (cE (.int 1)) (consA (binE addD (vE 0) (cE (.int 1))) (nilA)))) t1 [2] (setS 1 (callE 2 m_plus (consA (vE 1) (consA (tupE (consA (cE (.int 1)) (consA (vE 2) (nilA)))) (nilA)))))) (retS (vE 1)))
def m_parts_sum : List D → List D → RE D := defD 3 b_parts_sum
theorem d_parts_sum (T : Tx K mg) : DefOk P w K mg base CX0 r "parts_sum" 4 1 m_parts_sum := by
  obtain ⟨f, fd, F, hm⟩ := T.f_parts_sum
  refine fn_def (k := 3) F sc_parts_sum hm (fun _ _ _ _ _ _ us hl => match us, hl with | [_], _ => rfl) (fun cdv A outer s H E hr => ?_) (m := b_parts_sum)
  exact ⟨_, _, (gss_cons (GS.post (On' := []) (by decide) (gs_set 1 sc_parts_sum.nd (ge_tup (ga_cons ge_int (ga_cons ge_int ga_nil))))) (gss_cons (gs_for .never rfl (gi_range2 T.range (gao_cons (ge_int).go (gao_cons ((ge_add ((ge_var 0)).go (ge_int).go)).go gao_nil))) (gg_name 2 sc_parts_sum.nd) (GSs.post (On' := []) (by decide) (gss_one (GS.post (On' := []) (by decide) (gs_set 1 sc_parts_sum.nd (ge_call (d_plus T) (hr.mono (by decide)) pass0 (ga_cons (ge_var 1) (ga_cons (ge_tup (ga_cons ge_int (ga_cons (ge_var 2) ga_nil))) ga_nil))))))) (by decide) (fun d ds h => by cases h; rfl)) (gss_one (gs_ret (On := []) (ge_var 1)))))⟩
abbrev s_mean_black : Stmt := top 23
theorem sc_mean_black : FnScope ["start", "times", "lines", "cells", "black", "sign", "row", "whole", "kept"] ["start", "times"] (defScope s_mean_black) := ⟨rfl, rfl, rfl, by decide +kernel, rfl, by decide +kernel, by decide +kernel⟩
def b_mean_black : SS := seqS (dropS (callE 2 m_need_painting (consA (vE 0) (consA (vE 1) (nilA))))) (seqS (parS [2, 3] (consA (callE 1 m_lines_of (consA (vE 0) (nilA))) (consA (binE mulD (callB lenD (consA (vE 0) (nilA))) (callB lenD (consA (binE ixD (vE 0) (cE (.int 0))) (nilA)))) (nilA)))) (seqS (setS 4 (callB sum2D (consA (compE (seqI (vE 0)) [6] t1 [6] (yesT) (callB lenD (consA (compE (seqI (vE 6)) [5] t1 [5] (boolE (binE eqD (vE 5) (cE (.str "#")))) (cE (.int 1))) (nilA)))) (nilA)))) (seqS (parS [7, 8] (consA (callE 2 m_raised (consA (vE 2) (consA (vE 1) (nilA)))) (consA (callE 2 m_raised (consA (binE subD (vE 2) (cE (.int 2))) (consA (vE 1) (nilA)))) (nilA)))) (retS (callE 2 m_lowered (consA (binE addD (binE mulD (binE mulD (cE (.int 2)) (vE 4)) (vE 8)) (binE mulD (vE 3) (binE subD (vE 7) (vE 8)))) (consA (binE mulD (cE (.int 2)) (vE 7)) (nilA))))))))
def m_mean_black : List D → List D → RE D := defD 9 b_mean_black
theorem d_mean_black (T : Tx K mg) : DefOk P w K mg base CX0 r "mean_black" 5 2 m_mean_black := by
  obtain ⟨f, fd, F, hm⟩ := T.f_mean_black
  refine fn_def (k := 4) F sc_mean_black hm (fun _ _ _ _ _ _ us hl => match us, hl with | [_, _], _ => rfl) (fun cdv A outer s H E hr => ?_) (m := b_mean_black)
  exact ⟨_, _, (gss_cons (gs_drop (ge_call (d_need_painting T) (hr.mono (by decide)) pass0 (ga_cons (ge_var 0) (ga_cons (ge_var 1) ga_nil)))) (gss_cons (GS.post (On' := []) (by decide) (gs_par2 2 3 sc_mean_black.nd (gak_st (ge_call (d_lines_of T) (hr.mono (by decide)) pass0 (ga_cons (ge_var 0) ga_nil)) (gak_st (ge_mul ((ge_len T.len (gao_cons ((ge_var 0)).go gao_nil))).go ((ge_len T.len (gao_cons ((ge_sub1 ((ge_var 0)).go (ge_int).go)).go gao_nil))).go) gak_nil)))) (gss_cons (GS.post (On' := []) (by decide) (gs_set 4 sc_mean_black.nd (ge_sum2 rfl T.sum (gao_cons (((gf_lc (own := [("row", 6)]) rfl sc_mean_black.nd (gi_seq (ge_var 0)) (blkOk_by (by kernel_rfl)) (fun _ _ _ _ _ => (gg_name 6 sc_mean_black.nd)) (fun _ _ _ _ _ => gts_nil) (fun _ _ _ _ _ => (ge_len T.len (gao_cons (((gf_lc (own := [("sign", 5)]) rfl sc_mean_black.nd (gi_seq (ge_var 6)) (blkOk_by (by kernel_rfl)) (fun _ _ _ _ _ => (gg_name 5 sc_mean_black.nd)) (fun _ _ _ _ _ => (gts_one (gt_eq hr.units ((ge_var 5)).go ((ge_gstr T.BLACK)).go))) (fun _ _ _ _ _ => ge_int) (by decide) (by decide))).ge).go gao_nil))) (by decide) (by decide))).ge).go gao_nil)))) (gss_cons (GS.post (On' := []) (by decide) (gs_par2 7 8 sc_mean_black.nd (gak_st (ge_call (d_raised T) (hr.mono (by decide)) pass0 (ga_cons (ge_var 2) (ga_cons (ge_var 1) ga_nil))) (gak_st (ge_call (d_raised T) (hr.mono (by decide)) pass0 (ga_cons (ge_sub ((ge_var 2)).go (ge_int).go) (ga_cons (ge_var 1) ga_nil))) gak_nil)))) (gss_one (gs_ret (On := []) (ge_call (d_lowered T) (hr.mono (by decide)) pass0 (ga_cons (ge_add ((ge_mul ((ge_mul (ge_int).go ((ge_var 4)).go)).go ((ge_var 8)).go)).go ((ge_mul ((ge_var 3)).go ((ge_sub ((ge_var 7)).go ((ge_var 8)).go)).go)).go) (ga_cons (ge_mul (ge_int).go ((ge_var 7)).go) ga_nil)))))))))⟩
abbrev s_whole_chance : Stmt := top 27
theorem sc_whole_chance : FnScope ["rows", "columns", "times"] ["rows", "columns", "times"] (defScope s_whole_chance) := ⟨rfl, rfl, rfl, by decide +kernel, rfl, by decide +kernel, by decide +kernel⟩
def b_whole_chance : SS := seqS (dropS (callE 2 m_need_board (consA (vE 0) (consA (vE 1) (nilA))))) (seqS (dropS (callE 3 m_need_number (consA (vE 2) (consA (cE (.int 0)) (consA (cE (.int 200)) (nilA)))))) (retS (callE 3 m_all_chance (consA (binE addD (vE 0) (vE 1)) (consA (binE addD (vE 0) (vE 1)) (consA (vE 2) (nilA)))))))
def m_whole_chance : List D → List D → RE D := defD 3 b_whole_chance
theorem d_whole_chance (T : Tx K mg) : DefOk P w K mg base CX0 r "whole_chance" 5 3 m_whole_chance := by
  obtain ⟨f, fd, F, hm⟩ := T.f_whole_chance
  refine fn_def (k := 4) F sc_whole_chance hm (fun _ _ _ _ _ _ us hl => match us, hl with | [_, _, _], _ => rfl) (fun cdv A outer s H E hr => ?_) (m := b_whole_chance)
  exact ⟨_, _, (gss_cons (gs_drop (ge_call (d_need_board T) (hr.mono (by decide)) pass0 (ga_cons (ge_var 0) (ga_cons (ge_var 1) ga_nil)))) (gss_cons (gs_drop (ge_call (d_need_number T) (hr.mono (by decide)) pass0 (ga_cons (ge_var 2) (ga_cons ge_int (ga_cons (ge_gint T.MOST_TIMES) ga_nil))))) (gss_one (gs_ret (On := []) (ge_call (d_all_chance T) (hr.mono (by decide)) pass0 (ga_cons (ge_add ((ge_var 0)).go ((ge_var 1)).go) (ga_cons (ge_add ((ge_var 0)).go ((ge_var 1)).go) (ga_cons (ge_var 2) ga_nil))))))))⟩
abbrev s_past_chance : Stmt := top 28
theorem sc_past_chance : FnScope ["rows", "columns", "times", "lines", "both"] ["rows", "columns", "times"] (defScope s_past_chance) := ⟨rfl, rfl, rfl, by decide +kernel, rfl, by decide +kernel, by decide +kernel⟩
def b_past_chance : SS := seqS (dropS (callE 2 m_need_board (consA (vE 0) (consA (vE 1) (nilA))))) (seqS (dropS (callE 3 m_need_number (consA (vE 2) (consA (cE (.int 0)) (consA (cE (.int 200)) (nilA)))))) (seqS (setS 3 (binE addD (vE 0) (vE 1))) (seqS (setS 4 (callE 3 m_all_chance (consA (vE 3) (consA (vE 3) (consA (vE 2) (nilA)))))) (retS (callE 2 m_plus (consA (callE 2 m_plus (consA (callE 3 m_all_chance (consA (vE 3) (consA (vE 0) (consA (vE 2) (nilA))))) (consA (callE 3 m_all_chance (consA (vE 3) (consA (vE 1) (consA (vE 2) (nilA))))) (nilA)))) (consA (tupE (consA (unE negD (binE ixD (vE 4) (cE (.int 0)))) (consA (binE ixD (vE 4) (cE (.int 1))) (nilA)))) (nilA))))))))
def m_past_chance : List D → List D → RE D := defD 5 b_past_chance
theorem d_past_chance (T : Tx K mg) : DefOk P w K mg base CX0 r "past_chance" 5 3 m_past_chance := by
  obtain ⟨f, fd, F, hm⟩ := T.f_past_chance
  refine fn_def (k := 4) F sc_past_chance hm (fun _ _ _ _ _ _ us hl => match us, hl with | [_, _, _], _ => rfl) (fun cdv A outer s H E hr => ?_) (m := b_past_chance)
  exact ⟨_, _, (gss_cons (gs_drop (ge_call (d_need_board T) (hr.mono (by decide)) pass0 (ga_cons (ge_var 0) (ga_cons (ge_var 1) ga_nil)))) (gss_cons (gs_drop (ge_call (d_need_number T) (hr.mono (by decide)) pass0 (ga_cons (ge_var 2) (ga_cons ge_int (ga_cons (ge_gint T.MOST_TIMES) ga_nil))))) (gss_cons (GS.post (On' := []) (by decide) (gs_set 3 sc_past_chance.nd (ge_add ((ge_var 0)).go ((ge_var 1)).go))) (gss_cons (GS.post (On' := []) (by decide) (gs_set 4 sc_past_chance.nd (ge_call (d_all_chance T) (hr.mono (by decide)) pass0 (ga_cons (ge_var 3) (ga_cons (ge_var 3) (ga_cons (ge_var 2) ga_nil)))))) (gss_one (gs_ret (On := []) (ge_call (d_plus T) (hr.mono (by decide)) pass0 (ga_cons (ge_call (d_plus T) (hr.mono (by decide)) pass0 (ga_cons (ge_call (d_all_chance T) (hr.mono (by decide)) pass0 (ga_cons (ge_var 3) (ga_cons (ge_var 0) (ga_cons (ge_var 2) ga_nil)))) (ga_cons (ge_call (d_all_chance T) (hr.mono (by decide)) pass0 (ga_cons (ge_var 3) (ga_cons (ge_var 1) (ga_cons (ge_var 2) ga_nil)))) ga_nil))) (ga_cons (ge_tup (ga_cons (ge_neg ((ge_sub1 ((ge_var 4)).go (ge_int).go)).go) (ga_cons (ge_sub1 ((ge_var 4)).go (ge_int).go) ga_nil))) ga_nil)))))))))⟩
abbrev s_mean_whole : Stmt := top 30
theorem sc_mean_whole : FnScope ["rows", "columns"] ["rows", "columns"] (defScope s_mean_whole) := ⟨rfl, rfl, rfl, by decide +kernel, rfl, by decide +kernel, by decide +kernel⟩
def b_mean_whole : SS := seqS (dropS (callE 2 m_need_board (consA (vE 0) (consA (vE 1) (nilA))))) (retS (callE 2 m_times_ratio (consA (tupE (consA (binE addD (vE 0) (vE 1)) (consA (cE (.int 1)) (nilA)))) (consA (callE 1 m_parts_sum (consA (binE addD (vE 0) (vE 1)) (nilA))) (nilA)))))
def m_mean_whole : List D → List D → RE D := defD 2 b_mean_whole
theorem d_mean_whole (T : Tx K mg) : DefOk P w K mg base CX0 r "mean_whole" 5 2 m_mean_whole := by
  obtain ⟨f, fd, F, hm⟩ := T.f_mean_whole
  refine fn_def (k := 4) F sc_mean_whole hm (fun _ _ _ _ _ _ us hl => match us, hl with | [_, _], _ => rfl) (fun cdv A outer s H E hr => ?_) (m := b_mean_whole)
  exact ⟨_, _, (gss_cons (gs_drop (ge_call (d_need_board T) (hr.mono (by decide)) pass0 (ga_cons (ge_var 0) (ga_cons (ge_var 1) ga_nil)))) (gss_one (gs_ret (On := []) (ge_call (d_times_ratio T) (hr.mono (by decide)) pass0 (ga_cons (ge_tup (ga_cons (ge_add ((ge_var 0)).go ((ge_var 1)).go) (ga_cons ge_int ga_nil))) (ga_cons (ge_call (d_parts_sum T) (hr.mono (by decide)) pass0 (ga_cons (ge_add ((ge_var 0)).go ((ge_var 1)).go) ga_nil)) ga_nil))))))⟩
abbrev s_mean_past : Stmt := top 31
theorem sc_mean_past : FnScope ["rows", "columns", "both"] ["rows", "columns"] (defScope s_mean_past) := ⟨rfl, rfl, rfl, by decide +kernel, rfl, by decide +kernel, by decide +kernel⟩
def b_mean_past : SS := seqS (dropS (callE 2 m_need_board (consA (vE 0) (consA (vE 1) (nilA))))) (seqS (setS 2 (callE 1 m_parts_sum (consA (binE addD (vE 0) (vE 1)) (nilA)))) (retS (callE 2 m_times_ratio (consA (tupE (consA (binE addD (vE 0) (vE 1)) (consA (cE (.int 1)) (nilA)))) (consA (callE 2 m_plus (consA (callE 2 m_plus (consA (callE 1 m_parts_sum (consA (vE 0) (nilA))) (consA (callE 1 m_parts_sum (consA (vE 1) (nilA))) (nilA)))) (consA (tupE (consA (unE negD (binE ixD (vE 2) (cE (.int 0)))) (consA (binE ixD (vE 2) (cE (.int 1))) (nilA)))) (nilA)))) (nilA))))))
def m_mean_past : List D → List D → RE D := defD 3 b_mean_past
theorem d_mean_past (T : Tx K mg) : DefOk P w K mg base CX0 r "mean_past" 5 2 m_mean_past := by
  obtain ⟨f, fd, F, hm⟩ := T.f_mean_past
  refine fn_def (k := 4) F sc_mean_past hm (fun _ _ _ _ _ _ us hl => match us, hl with | [_, _], _ => rfl) (fun cdv A outer s H E hr => ?_) (m := b_mean_past)
  exact ⟨_, _, (gss_cons (gs_drop (ge_call (d_need_board T) (hr.mono (by decide)) pass0 (ga_cons (ge_var 0) (ga_cons (ge_var 1) ga_nil)))) (gss_cons (GS.post (On' := []) (by decide) (gs_set 2 sc_mean_past.nd (ge_call (d_parts_sum T) (hr.mono (by decide)) pass0 (ga_cons (ge_add ((ge_var 0)).go ((ge_var 1)).go) ga_nil)))) (gss_one (gs_ret (On := []) (ge_call (d_times_ratio T) (hr.mono (by decide)) pass0 (ga_cons (ge_tup (ga_cons (ge_add ((ge_var 0)).go ((ge_var 1)).go) (ga_cons ge_int ga_nil))) (ga_cons (ge_call (d_plus T) (hr.mono (by decide)) pass0 (ga_cons (ge_call (d_plus T) (hr.mono (by decide)) pass0 (ga_cons (ge_call (d_parts_sum T) (hr.mono (by decide)) pass0 (ga_cons (ge_var 0) ga_nil)) (ga_cons (ge_call (d_parts_sum T) (hr.mono (by decide)) pass0 (ga_cons (ge_var 1) ga_nil)) ga_nil))) (ga_cons (ge_tup (ga_cons (ge_neg ((ge_sub1 ((ge_var 2)).go (ge_int).go)).go) (ga_cons (ge_sub1 ((ge_var 2)).go (ge_int).go) ga_nil))) ga_nil))) ga_nil)))))))⟩
abbrev s_law : Stmt := top 39
theorem sc_law : FnScope ["_law_script", "_law_row", "_law_high", "_law_wide", "_law_times", "_law_lines", "_law_power", "_law_turn", "_law_rows", "_law_columns", "_law_both", "_law_sums", "_law_many", "_law_due", "_law_kept", "_law_start", "_law_share", "_law_black"] ["_law_script"] (defScope s_law) := ⟨rfl, rfl, rfl, by decide +kernel, rfl, by decide +kernel, by decide +kernel⟩
def b_law : SS := seqS (parS [2, 3, 4] (consA (binE addD (cE (.int 1)) (callE 2 m_law_taken (consA (vE 1) (consA (cE (.int 30)) (nilA))))) (consA (binE addD (cE (.int 1)) (callE 2 m_law_taken (consA (vE 1) (consA (cE (.int 30)) (nilA))))) (consA (callE 2 m_law_taken (consA (vE 1) (consA (cE (.int 120)) (nilA)))) (nilA))))) (seqS (parS [5, 6] (consA (binE addD (vE 2) (vE 3)) (consA (cE (.int 1)) (nilA)))) (seqS (forS (rangeI range1D (consA (vE 4) (nilA))) t1 [7] (setS 6 (binE mulD (vE 6) (vE 5)))) (seqS (parS [8, 9, 10] (consA (callE 3 m_law_all_painted (consA (vE 5) (consA (vE 2) (consA (vE 4) (nilA))))) (consA (callE 3 m_law_all_painted (consA (vE 5) (consA (vE 3) (consA (vE 4) (nilA))))) (consA (callE 3 m_law_all_painted (consA (vE 5) (consA (vE 5) (consA (vE 4) (nilA))))) (nilA))))) (seqS (ifS (notT (boolE (callE 2 (m_law_alike 6) (consA (callE 3 m_whole_chance (consA (vE 2) (consA (vE 3) (consA (vE 4) (nilA))))) (consA (callE 2 m_law_lowered (consA (vE 10) (consA (vE 6) (nilA)))) (nilA)))))) (retS (cE (.bl false))) (skipS)) (seqS (ifS (notT (boolE (callE 2 (m_law_alike 6) (consA (callE 3 m_past_chance (consA (vE 2) (consA (vE 3) (consA (vE 4) (nilA))))) (consA (callE 2 m_law_lowered (consA (binE subD (binE addD (vE 8) (vE 9)) (vE 10)) (consA (vE 6) (nilA)))) (nilA)))))) (retS (cE (.bl false))) (skipS)) (seqS (setFS 11 (lstE (consA (tupE (consA (cE (.int 0)) (consA (cE (.int 1)) (nilA)))) (nilA)))) (seqS (forS (rangeI range2D (consA (cE (.int 1)) (consA (binE addD (vE 5) (cE (.int 1))) (nilA)))) t1 [12] (appS 11 (callE 2 m_law_plus (consA (binE ixD (vE 11) (unE negD (cE (.int 1)))) (consA (tupE (consA (cE (.int 1)) (consA (vE 12) (nilA)))) (nilA)))))) (seqS (setS 13 (callE 2 m_law_plus (consA (callE 2 m_law_plus (consA (binE ixD (vE 11) (vE 2)) (consA (binE ixD (vE 11) (vE 3)) (nilA)))) (consA (tupE (consA (binE subD (cE (.int 0)) (binE ixD (binE ixD (vE 11) (vE 5)) (cE (.int 0)))) (consA (binE ixD (binE ixD (vE 11) (vE 5)) (cE (.int 1))) (nilA)))) (nilA))))) (seqS (ifS (notT (boolE (callE 2 (m_law_alike 6) (consA (callE 2 m_mean_past (consA (vE 2) (consA (vE 3) (nilA)))) (consA (callE 2 m_law_lowered (consA (binE mulD (binE ixD (vE 13) (cE (.int 0))) (vE 5)) (consA (binE ixD (vE 13) (cE (.int 1))) (nilA)))) (nilA)))))) (retS (cE (.bl false))) (skipS)) (seqS (ifS (notT (boolE (callE 2 (m_law_alike 6) (consA (callE 2 m_mean_whole (consA (vE 2) (consA (vE 3) (nilA)))) (consA (callE 2 m_law_lowered (consA (binE mulD (binE ixD (binE ixD (vE 11) (vE 5)) (cE (.int 0))) (vE 5)) (consA (binE ixD (binE ixD (vE 11) (vE 5)) (cE (.int 1))) (nilA)))) (nilA)))))) (retS (cE (.bl false))) (skipS)) (seqS (setS 14 (cE (.int 1))) (seqS (forS (rangeI range1D (consA (vE 4) (nilA))) t1 [7] (setS 14 (binE mulD (vE 14) (binE subD (vE 5) (cE (.int 2)))))) (seqS (setS 15 (callE 3 m_plain (consA (vE 2) (consA (vE 3) (consA (callE 2 m_law_taken (consA (vE 1) (consA (cE (.int 2)) (nilA)))) (nilA)))))) (seqS (setS 16 (callE 4 m_black_chance (consA (vE 15) (consA (binE subD (vE 2) (cE (.int 1))) (consA (cE (.int 0)) (consA (vE 4) (nilA))))))) (seqS (setS 17 (ifE (boolE (binE eqD (binE ixD (binE ixD (vE 15) (cE (.int 0))) (cE (.int 0))) (cE (.str "#")))) (cE (.int 1)) (cE (.int 0)))) (seqS (ifS (notT (boolE (callE 2 (m_law_alike 6) (consA (vE 16) (consA (callE 2 m_law_lowered (consA (binE subD (binE addD (binE mulD (binE mulD (cE (.int 2)) (vE 14)) (vE 17)) (vE 6)) (vE 14)) (consA (binE mulD (cE (.int 2)) (vE 6)) (nilA)))) (nilA)))))) (retS (cE (.bl false))) (skipS)) (retS (callE 2 (m_law_alike 6) (consA (callE 2 m_mean_black (consA (vE 15) (consA (vE 4) (nilA)))) (consA (callE 2 m_law_lowered (consA (binE mulD (binE mulD (binE ixD (vE 16) (cE (.int 0))) (vE 2)) (vE 3)) (consA (binE ixD (vE 16) (cE (.int 1))) (nilA)))) (nilA)))))))))))))))))))))
theorem law_body (T : Tx K mg) {f : Addr} {qual : Str} (r : Addr) (cdv : Value) (A : Around) (outer : List Env) (s : Shared) (H : Hp) (E : XK) (hr : Room 7 (A.deeper (PyProof.Rows.envOfC qual (defScope s_law) s.heap.objs.size f cdv))) : ∃ On u, GSs K mg r (cxOf CX0 P w K mg base ["_law_script", "_law_row", "_law_high", "_law_wide", "_law_times", "_law_lines", "_law_power", "_law_turn", "_law_rows", "_law_columns", "_law_both", "_law_sums", "_law_many", "_law_due", "_law_kept", "_law_start", "_law_share", "_law_black"] qual (defScope s_law) f cdv A outer s H E).nox E0 [] On [] (defBody s_law).tail u b_law := by
  exact ⟨_, _, (gss_cons (GS.post (On' := []) (by decide) (gs_par3 2 3 4 sc_law.nd (gak_st (ge_add (ge_int).go ((ge_call (d_law_taken T) (hr.mono (by decide)) pass0 (ga_cons (ge_var 1) (ga_cons ge_int ga_nil)))).go) (gak_st (ge_add (ge_int).go ((ge_call (d_law_taken T) (hr.mono (by decide)) pass0 (ga_cons (ge_var 1) (ga_cons ge_int ga_nil)))).go) (gak_st (ge_call (d_law_taken T) (hr.mono (by decide)) pass0 (ga_cons (ge_var 1) (ga_cons ge_int ga_nil))) gak_nil))))) (gss_cons (GS.post (On' := []) (by decide) (gs_par2 5 6 sc_law.nd (gak_st (ge_add ((ge_var 2)).go ((ge_var 3)).go) (gak_st ge_int gak_nil)))) (gss_cons (gs_for .never rfl (gi_range1 T.range (gao_cons ((ge_var 4)).go gao_nil)) (gg_name 7 sc_law.nd) (GSs.post (On' := []) (by decide) (gss_one (GS.post (On' := []) (by decide) (gs_set 6 sc_law.nd (ge_mul ((ge_var 6)).go ((ge_var 5)).go))))) (by decide) (fun d ds h => by cases h; rfl)) (gss_cons (GS.post (On' := []) (by decide) (gs_par3 8 9 10 sc_law.nd (gak_st (ge_call (d_law_all_painted T) (hr.mono (by decide)) pass0 (ga_cons (ge_var 5) (ga_cons (ge_var 2) (ga_cons (ge_var 4) ga_nil)))) (gak_st (ge_call (d_law_all_painted T) (hr.mono (by decide)) pass0 (ga_cons (ge_var 5) (ga_cons (ge_var 3) (ga_cons (ge_var 4) ga_nil)))) (gak_st (ge_call (d_law_all_painted T) (hr.mono (by decide)) pass0 (ga_cons (ge_var 5) (ga_cons (ge_var 5) (ga_cons (ge_var 4) ga_nil)))) gak_nil))))) (gss_cons (gs_if (gt_not (gt_val (ge_call (d_law_alike T 6) (hr.mono (by decide)) pass0 (ga_cons (ge_call (d_whole_chance T) (hr.mono (by decide)) pass0 (ga_cons (ge_var 2) (ga_cons (ge_var 3) (ga_cons (ge_var 4) ga_nil)))) (ga_cons (ge_call (d_law_lowered T) (hr.mono (by decide)) pass0 (ga_cons (ge_var 10) (ga_cons (ge_var 6) ga_nil))) ga_nil))))) (gss_one (gs_ret (On := []) ge_bl)) (GSs.post (On' := []) (by decide) gss_nil)) (gss_cons (gs_if (gt_not (gt_val (ge_call (d_law_alike T 6) (hr.mono (by decide)) pass0 (ga_cons (ge_call (d_past_chance T) (hr.mono (by decide)) pass0 (ga_cons (ge_var 2) (ga_cons (ge_var 3) (ga_cons (ge_var 4) ga_nil)))) (ga_cons (ge_call (d_law_lowered T) (hr.mono (by decide)) pass0 (ga_cons (ge_sub ((ge_add ((ge_var 8)).go ((ge_var 9)).go)).go ((ge_var 10)).go) (ga_cons (ge_var 6) ga_nil))) ga_nil))))) (gss_one (gs_ret (On := []) ge_bl)) (GSs.post (On' := []) (by decide) gss_nil)) (gss_cons (GS.post (On' := [11]) (by decide) (gs_setF 11 sc_law.nd (gf_lst (ga_cons (ge_tup (ga_cons ge_int (ga_cons ge_int ga_nil))) ga_nil)))) (gss_cons (gs_for .never rfl (gi_range2 T.range (gao_cons (ge_int).go (gao_cons ((ge_add ((ge_var 5)).go (ge_int).go)).go gao_nil))) (gg_name 12 sc_law.nd) (GSs.post (On' := [11]) (by decide) (gss_one (gs_append 11 (by decide) (ge_call (d_law_plus T) (hr.mono (by decide)) pass0 (ga_cons (ge_sub1 (go_own 11) ((ge_neg (ge_int).go)).go) (ga_cons (ge_tup (ga_cons ge_int (ga_cons (ge_var 12) ga_nil))) ga_nil)))))) (by decide) (fun d ds h => by cases h; rfl)) (gss_cons (GS.post (On' := [11]) (by decide) (gs_set 13 sc_law.nd (ge_call (d_law_plus T) (hr.mono (by decide)) pass0 (ga_cons (ge_call (d_law_plus T) (hr.mono (by decide)) pass0 (ga_cons (ge_sub1 (go_own 11) ((ge_var 2)).go) (ga_cons (ge_sub1 (go_own 11) ((ge_var 3)).go) ga_nil))) (ga_cons (ge_tup (ga_cons (ge_sub (ge_int).go ((ge_sub1 ((ge_sub1 (go_own 11) ((ge_var 5)).go)).go (ge_int).go)).go) (ga_cons (ge_sub1 ((ge_sub1 (go_own 11) ((ge_var 5)).go)).go (ge_int).go) ga_nil))) ga_nil))))) (gss_cons (gs_if (gt_not (gt_val (ge_call (d_law_alike T 6) (hr.mono (by decide)) pass0 (ga_cons (ge_call (d_mean_past T) (hr.mono (by decide)) pass0 (ga_cons (ge_var 2) (ga_cons (ge_var 3) ga_nil))) (ga_cons (ge_call (d_law_lowered T) (hr.mono (by decide)) pass0 (ga_cons (ge_mul ((ge_sub1 ((ge_var 13)).go (ge_int).go)).go ((ge_var 5)).go) (ga_cons (ge_sub1 ((ge_var 13)).go (ge_int).go) ga_nil))) ga_nil))))) (gss_one (gs_ret (On := [11]) ge_bl)) (GSs.post (On' := [11]) (by decide) gss_nil)) (gss_cons (gs_if (gt_not (gt_val (ge_call (d_law_alike T 6) (hr.mono (by decide)) pass0 (ga_cons (ge_call (d_mean_whole T) (hr.mono (by decide)) pass0 (ga_cons (ge_var 2) (ga_cons (ge_var 3) ga_nil))) (ga_cons (ge_call (d_law_lowered T) (hr.mono (by decide)) pass0 (ga_cons (ge_mul ((ge_sub1 ((ge_sub1 (go_own 11) ((ge_var 5)).go)).go (ge_int).go)).go ((ge_var 5)).go) (ga_cons (ge_sub1 ((ge_sub1 (go_own 11) ((ge_var 5)).go)).go (ge_int).go) ga_nil))) ga_nil))))) (gss_one (gs_ret (On := [11]) ge_bl)) (GSs.post (On' := [11]) (by decide) gss_nil)) (gss_cons (GS.post (On' := [11]) (by decide) (gs_set 14 sc_law.nd ge_int)) (gss_cons (gs_for .never rfl (gi_range1 T.range (gao_cons ((ge_var 4)).go gao_nil)) (gg_name 7 sc_law.nd) (GSs.post (On' := [11]) (by decide) (gss_one (GS.post (On' := [11]) (by decide) (gs_set 14 sc_law.nd (ge_mul ((ge_var 14)).go ((ge_sub ((ge_var 5)).go (ge_int).go)).go))))) (by decide) (fun d ds h => by cases h; rfl)) (gss_cons (GS.post (On' := [11]) (by decide) (gs_set 15 sc_law.nd (ge_call (d_plain T) (hr.mono (by decide)) pass0 (ga_cons (ge_var 2) (ga_cons (ge_var 3) (ga_cons (ge_call (d_law_taken T) (hr.mono (by decide)) pass0 (ga_cons (ge_var 1) (ga_cons ge_int ga_nil))) ga_nil)))))) (gss_cons (GS.post (On' := [11]) (by decide) (gs_set 16 sc_law.nd (ge_call (d_black_chance T) (hr.mono (by decide)) pass0 (ga_cons (ge_var 15) (ga_cons (ge_sub ((ge_var 2)).go (ge_int).go) (ga_cons ge_int (ga_cons (ge_var 4) ga_nil))))))) (gss_cons (GS.post (On' := [11]) (by decide) (gs_set 17 sc_law.nd (ge_ifExp (gt_eq hr.units ((ge_sub1 ((ge_sub1 ((ge_var 15)).go (ge_int).go)).go (ge_int).go)).go (ge_str).go) ge_int ge_int))) (gss_cons (gs_if (gt_not (gt_val (ge_call (d_law_alike T 6) (hr.mono (by decide)) pass0 (ga_cons (ge_var 16) (ga_cons (ge_call (d_law_lowered T) (hr.mono (by decide)) pass0 (ga_cons (ge_sub ((ge_add ((ge_mul ((ge_mul (ge_int).go ((ge_var 14)).go)).go ((ge_var 17)).go)).go ((ge_var 6)).go)).go ((ge_var 14)).go) (ga_cons (ge_mul (ge_int).go ((ge_var 6)).go) ga_nil))) ga_nil))))) (gss_one (gs_ret (On := [11]) ge_bl)) (GSs.post (On' := [11]) (by decide) gss_nil)) (gss_one (gs_ret (On := []) (ge_call (d_law_alike T 6) (hr.mono (by decide)) pass0 (ga_cons (ge_call (d_mean_black T) (hr.mono (by decide)) pass0 (ga_cons (ge_var 15) (ga_cons (ge_var 4) ga_nil))) (ga_cons (ge_call (d_law_lowered T) (hr.mono (by decide)) pass0 (ga_cons (ge_mul ((ge_mul ((ge_sub1 ((ge_var 16)).go (ge_int).go)).go ((ge_var 2)).go)).go ((ge_var 3)).go) (ga_cons (ge_sub1 ((ge_var 16)).go (ge_int).go) ga_nil))) ga_nil))))))))))))))))))))))⟩
end
end W

set_option maxHeartbeats 1000000
namespace W
open PySem L2 G
/-! the tape's draws -/
theorem log_small {m : Int} (h : m ≤ 2 ^ 30) (h1 : 1 ≤ m) : cDiv m = true := by
  unfold cDiv
  have : m.natAbs.log2 < 9000 := by
    have : m.natAbs.log2 < 31 := (Nat.log2_lt (by omega)).mpr (by omega)
    omega
  simp [this]; omega
theorem mul_small {i j : Int} (hi : 0 ≤ i) (hi2 : i < 2147483648) (hj : 0 ≤ j) (hj2 : j < 2147483648) : cMul i j = true := by
  unfold cMul
  have k : ∀ x : Int, 0 ≤ x → x < 2147483648 → x.natAbs.log2 ≤ 32 := fun x h1 h2 => by
    rcases Nat.eq_zero_or_pos x.natAbs with e | e
    · rw [e]; decide
    · have : x.natAbs.log2 < 32 := (Nat.log2_lt (by omega)).mpr (by omega)
      omega
  have := k i hi hi2
  have := k j hj hj2
  exact decide_eq_true (by omega)
theorem taken_ok {tp : List D} {m : Int} (h : Tape tp) (hm : 1 ≤ m) (hM : m ≤ 2 ^ 30) : ∃ v tp', m_law_taken [.tape, .int m] tp = .ok (.int v) tp' ∧ Tape tp' ∧ 0 ≤ v ∧ v < m := by
  obtain ⟨⟨ns, pos, seed, rest, rfl, p0, s0, s1, nl⟩⟩ := h
  have cd := log_small hM hm
  have cm : cMul seed 48271 = true := mul_small s0 (by omega) (by decide) (by decide)
  have m0 : (0 : Int) < m := by omega
  have c7 : cDiv 7 = true := by decide +kernel
  have a0 : ∀ a b c d : D, atI [a, b, c, d] 0 = some a := fun _ _ _ _ => rfl
  have a1 : ∀ a b c d : D, atI [a, b, c, d] 1 = some b := fun _ _ _ _ => rfl
  have a2 : ∀ a b c d : D, atI [a, b, c, d] 2 = some c := fun _ _ _ _ => rfl
  have a3 : ∀ a b c d : D, atI [a, b, c, d] 3 = some d := fun _ _ _ _ => rfl
  have i1 : ixN 4 1 = some 1 := rfl
  have i2 : ixN 4 2 = some 2 := rfl
  have i3 : ixN 4 3 = some 3 := rfl
  have b7 : (0 : Int) < 2147483647 := by decide
  by_cases c1 : 0 < rest
  · refine ⟨rest % m, [.scr ns, .int pos, .int seed, .int (rest / m)], ?_, ⟨⟨ns, pos, seed, _, rfl, p0, s0, s1, nl⟩⟩, Int.emod_nonneg _ (by omega), Int.emod_lt_of_pos _ m0⟩
    simp -implicitDefEqProofs only [m_law_taken, b_law_taken, defD, retR, seqS, ifS, setS, retS, skipS, dropS, parS, setAll, vE, cE, binE, chainE, callB, consA, nilA, tupE, lstE, boolE, isB, notT, orT, andT, andE, orE, notE, callE, tixE, tsetS, sliceE, optI, methE, seqI, rangeI, RE.bind_ok, RE.bindS, RE.of_some, RE.of_none, List.map_cons, List.map_nil, List.length_cons, List.length_nil, List.replicate, List.cons_append, List.nil_append, List.getElem?_cons_zero, List.getElem?_cons_succ, List.set_cons_zero, List.set_cons_succ, if_true, if_false, Nat.zero_add, Nat.reduceAdd, Nat.reduceSub, decide_true, decide_false, Bool.false_eq_true, Option.map_some, Option.bind_some, a0, a1, a2, a3, i1, i2, i3, gtD, modD, fdivD, intD, c1, cd, m0]
  · by_cases c2 : (ns.length : Int) < pos + 1
    · refine ⟨((seed * 48271 + 11) % 2147483647 / 7) % m, [.scr ns, .int (pos + 1), .int ((seed * 48271 + 11) % 2147483647), .int rest], ?_, ⟨⟨ns, _, _, _, rfl, by omega, by omega, by omega, nl⟩⟩, Int.emod_nonneg _ (by omega), Int.emod_lt_of_pos _ m0⟩
      simp -implicitDefEqProofs only [m_law_taken, b_law_taken, defD, retR, seqS, ifS, setS, retS, skipS, dropS, parS, setAll, vE, cE, binE, chainE, callB, consA, nilA, tupE, lstE, boolE, isB, notT, orT, andT, andE, orE, notE, callE, tixE, tsetS, sliceE, optI, methE, seqI, rangeI, RE.bind_ok, RE.bindS, RE.of_some, RE.of_none, List.map_cons, List.map_nil, List.length_cons, List.length_nil, List.replicate, List.cons_append, List.nil_append, List.getElem?_cons_zero, List.getElem?_cons_succ, List.set_cons_zero, List.set_cons_succ, if_true, if_false, Nat.zero_add, Nat.reduceAdd, Nat.reduceSub, decide_true, decide_false, Bool.false_eq_true, Option.map_some, Option.bind_some, a0, a1, a2, a3, i1, i2, i3, gtD, modD, fdivD, intD, c1, cd, m0, addD, mulD, lenD, c2, cm, b7, c7]
    · have hp : pos.toNat < ns.length := by omega
      have e : atI ns (pos + 1 - 1) = some (ns[pos.toNat]) := by
        have : pos + 1 - 1 = pos := by omega
        rw [this, atI_int ns p0, List.getElem?_eq_getElem hp]
      have cp : cPow 10 18 = true := by decide +kernel
      generalize hc : ns[pos.toNat] = c at e
      have ev : ∀ q : Prop, ∀ [Decidable q], q = ((10 : Int) ^ (Int.toNat 18) ≤ c) → True := fun _ _ _ => trivial
      by_cases c3 : (10 : Int) ^ (Int.toNat 18) ≤ c
      · refine ⟨c % m, [.scr ns, .int (pos + 1), .int ((seed * 48271 + c + 11) % 2147483647), .int (c / m)], ?_, ⟨⟨ns, _, _, _, rfl, by omega, by omega, by omega, nl⟩⟩, Int.emod_nonneg _ (by omega), Int.emod_lt_of_pos _ m0⟩
        simp -implicitDefEqProofs only [m_law_taken, b_law_taken, defD, retR, seqS, ifS, setS, retS, skipS, dropS, parS, setAll, vE, cE, binE, chainE, callB, consA, nilA, tupE, lstE, boolE, isB, notT, orT, andT, andE, orE, notE, callE, tixE, tsetS, sliceE, optI, methE, seqI, rangeI, RE.bind_ok, RE.bindS, RE.of_some, RE.of_none, List.map_cons, List.map_nil, List.length_cons, List.length_nil, List.replicate, List.cons_append, List.nil_append, List.getElem?_cons_zero, List.getElem?_cons_succ, List.set_cons_zero, List.set_cons_succ, if_true, if_false, Nat.zero_add, Nat.reduceAdd, Nat.reduceSub, decide_true, decide_false, Bool.false_eq_true, Option.map_some, Option.bind_some, a0, a1, a2, a3, i1, i2, i3, gtD, geD, modD, fdivD, intD, c1, cd, m0, addD, subD, mulD, powD, lenD, ixD, c2, cm, b7, c7, e, cp, c3]
      · refine ⟨c % m, [.scr ns, .int (pos + 1), .int ((seed * 48271 + c + 11) % 2147483647), .int rest], ?_, ⟨⟨ns, _, _, _, rfl, by omega, by omega, by omega, nl⟩⟩, Int.emod_nonneg _ (by omega), Int.emod_lt_of_pos _ m0⟩
        simp -implicitDefEqProofs only [m_law_taken, b_law_taken, defD, retR, seqS, ifS, setS, retS, skipS, dropS, parS, setAll, vE, cE, binE, chainE, callB, consA, nilA, tupE, lstE, boolE, isB, notT, orT, andT, andE, orE, notE, callE, tixE, tsetS, sliceE, optI, methE, seqI, rangeI, RE.bind_ok, RE.bindS, RE.of_some, RE.of_none, List.map_cons, List.map_nil, List.length_cons, List.length_nil, List.replicate, List.cons_append, List.nil_append, List.getElem?_cons_zero, List.getElem?_cons_succ, List.set_cons_zero, List.set_cons_succ, if_true, if_false, Nat.zero_add, Nat.reduceAdd, Nat.reduceSub, decide_true, decide_false, Bool.false_eq_true, Option.map_some, Option.bind_some, a0, a1, a2, a3, i1, i2, i3, gtD, geD, modD, fdivD, intD, c1, cd, m0, addD, subD, mulD, powD, lenD, ixD, c2, cm, b7, c7, e, cp, c3]
end W

set_option maxHeartbeats 1000000
namespace W
open PySem L2 G
theorem eqD_int (a b : Int) : eqD (.int a) (.int b) = some (.bl (decide (a = b))) := by
  show some (D.bl (a == b)) = _
  by_cases h : a = b <;> simp [h]
theorem eqD_str (a b : Str) : eqD (.str a) (.str b) = some (.bl (a == b)) := rfl
theorem cRg_small {i : Int} (h0 : 0 ≤ i) (h : i ≤ 2 ^ 30) : cRg i = true := by
  unfold cRg
  have h1 : -(2 ^ 62) ≤ i := by omega
  have h2 : i < 2 ^ 62 := by omega
  rw [decide_eq_true h1, decide_eq_true h2]; rfl
theorem range1_ok {i : Int} (h0 : 0 ≤ i) (h : i ≤ 2 ^ 30) : range1D [.int i] = some (rangeL 0 i) := by
  show (if cRg i then some (rangeL 0 i) else none) = _
  rw [cRg_small h0 h, if_pos rfl]
theorem rangeL_len (n : Nat) : (rangeL 0 (n : Int)).length = n := by unfold rangeL; simp
theorem rangeL_get {n j : Nat} {d : D} (h : (rangeL 0 (n : Int))[j]? = some d) : d = .int j ∧ j < n := by
  unfold rangeL at h
  rw [List.getElem?_map] at h
  obtain ⟨x, h1, h2⟩ := Option.map_eq_some_iff.mp h
  have hl : j < (List.range ((n : Int) - 0).toNat).length := (List.getElem?_eq_some_iff.mp h1).1
  have e := (List.getElem?_eq_some_iff.mp h1).2
  rw [List.getElem_range] at e
  rw [List.length_range] at hl
  subst e
  refine ⟨by rw [← h2]; simp, by omega⟩
theorem rangeL_mem {n : Nat} {d : D} (h : d ∈ rangeL 0 (n : Int)) : ∃ j : Nat, d = .int j ∧ j < n := by
  obtain ⟨j, hj⟩ := List.getElem?_of_mem h
  exact ⟨j, rangeL_get hj⟩
theorem cut_to {α : Type} (xs : List α) (k : Nat) : cutD xs none (some (k : Int)) = xs.take k := by
  unfold cutD
  rw [HT.sIx_none, HT.sIx_nat, List.drop_zero, Nat.sub_zero]
  by_cases h : k ≤ xs.length
  · rw [Nat.min_eq_left h]
  · rw [Nat.min_eq_right (by omega), List.take_of_length_le (by omega), List.take_of_length_le (by omega)]
theorem cut_from {α : Type} (xs : List α) (k : Nat) : cutD xs (some (k : Int)) none = xs.drop k := by
  unfold cutD
  rw [HT.sIx_none, HT.sIx_nat]
  by_cases h : k ≤ xs.length
  · rw [Nat.min_eq_left h, List.take_of_length_le (by rw [List.length_drop]; omega)]
  · rw [Nat.min_eq_right (by omega), List.drop_of_length_le (by omega), List.drop_of_length_le (by omega)]; simp
theorem paired_len {α β : Type} {R : α → β → Prop} : ∀ {xs : List α} {ys : List β}, Paired R xs ys → ys.length = xs.length
  | _, _, .nil => rfl
  | _, _, .cons _ q => by simp [paired_len q]
theorem paired_all {α β γ : Type} {R : α → β → Prop} {f : γ → β} (h : ∀ x y, R x y → ∃ c, y = f c) : ∀ {xs : List α} {ys : List β}, Paired R xs ys → ∃ cs : List γ, ys = cs.map f ∧ cs.length = xs.length
  | _, _, .nil => ⟨[], rfl, rfl⟩
  | _, _, .cons r q => by
    obtain ⟨c, rfl⟩ := h _ _ r
    obtain ⟨cs, rfl, e⟩ := paired_all h q
    exact ⟨c :: cs, rfl, by simp [e]⟩
theorem paired_allP {α β γ : Type} {R : α → β → Prop} {f : γ → β} {P : γ → Prop} (h : ∀ x y, R x y → ∃ c, y = f c ∧ P c) : ∀ {xs : List α} {ys : List β}, Paired R xs ys → ∃ cs : List γ, ys = cs.map f ∧ cs.length = xs.length ∧ ∀ c ∈ cs, P c
  | _, _, .nil => ⟨[], rfl, rfl, fun _ h => nomatch h⟩
  | _, _, .cons r q => by
    obtain ⟨c, rfl, p⟩ := h _ _ r
    obtain ⟨cs, rfl, e, pp⟩ := paired_allP h q
    exact ⟨c :: cs, rfl, by simp [e], fun z hz => (List.mem_cons.mp hz).elim (fun q => q ▸ p) (pp z)⟩
theorem forS_eq {mi : SE (List D)} {tgt : D → Option (List D)} {is : List Nat} {body : SS} {env : DEnv} {tp tp1 : List D} {items : List D} (h : mi env tp = .ok items tp1) : forS mi tgt is body env tp = forL tgt is body items env tp1 := by
  unfold forS; rw [h]; rfl
theorem seqS_nx {m n : SS} {env env' : DEnv} {tp tp' : List D} (h : m env tp = .nx env' tp') : seqS m n env tp = n env' tp' := by
  unfold seqS; rw [h]
/-! ### pick -/
/-! ### any -/
theorem row_of_bits {bs : List Bool} (h : bs.length ≤ 1000) : joinD (.str "") (.lst (bs.map fun b => D.str (rowS [b]))) = some (.str (rowS bs)) := by
  have e : bs.map (fun b => D.str (rowS [b])) = (bs.map fun b => rowS [b]).map D.str := by rw [List.map_map]; rfl
  have e2 : bs.map (fun b => rowS [b]) = (bs.map fun b => [b]).map rowS := by rw [List.map_map]; rfl
  have sm : ((bs.map fun b => rowS [b]).map (·.length)).sum = bs.length := by
    clear h e e2
    induction bs with
    | nil => rfl
    | cons b bs ih => rw [List.map_cons, List.map_cons, List.sum_cons, ih, List.length_cons, rowS_len]; simp; omega
  rw [e]
  unfold joinD
  simp only [itemsD, Option.bind_some, unS_map, sm, List.length_map]
  rw [str_empty, rowS_len, if_pos (by simp; omega), e2, join_rows]
  have : (bs.map fun b => [b]).flatten = bs := by
    clear h e e2 sm
    induction bs with
    | nil => rfl
    | cons b bs ih => rw [List.map_cons, List.flatten_cons, ih]; rfl
  rw [this]
def signE : SE D := ifE (boolE (binE eqD (callE 2 m_law_taken (consA (vE 0) (consA (vE 3) (nilA)))) (cE (.int 0)))) (cE (.str "#")) (cE (.str "."))
def rowE : SE D := compE (rangeI range1D (consA (vE 2) (nilA))) [6] t1 [6] (yesT) signE
def anyB : SS := appS 4 (methE isStrD joinD (cE (.str "")) rowE)
theorem sign_ok {a1 a4 a5 a6 : Option D} {tp : List D} {o : Int} (ht : Tape tp) (o1 : 1 ≤ o) (o2 : o ≤ 4) {x7 : Option D} : ∃ x tp', signE [some .tape, a1, a4, some (.int o), a5, a6, x7] tp = .ok x tp' ∧ Tape tp' ∧ ∃ b : Bool, x = .str (rowS [b]) := by
  obtain ⟨v, tp3, e3, t3, v0, v1⟩ := taken_ok (m := o) ht (by omega) (by omega)
  by_cases c : v = 0
  · exact ⟨.str "#", tp3, by simp -implicitDefEqProofs only [signE, ifE, defD, retR, seqS, ifS, setS, retS, skipS, dropS, parS, setAll, vE, cE, binE, chainE, callB, consA, nilA, tupE, lstE, boolE, isB, notT, orT, andT, andE, orE, notE, callE, tixE, tsetS, sliceE, optI, methE, seqI, rangeI, RE.bind_ok, RE.bindS, RE.of_some, RE.of_none, List.map_cons, List.map_nil, List.length_cons, List.length_nil, List.replicate, List.cons_append, List.nil_append, List.getElem?_cons_zero, List.getElem?_cons_succ, List.set_cons_zero, List.set_cons_succ, if_true, if_false, Nat.zero_add, Nat.reduceAdd, Nat.reduceSub, decide_true, decide_false, Bool.false_eq_true, Option.map_some, Option.bind_some, e3, eqD_int, c], t3, true, by rw [str_black]⟩
  · exact ⟨.str ".", tp3, by simp -implicitDefEqProofs only [signE, ifE, defD, retR, seqS, ifS, setS, retS, skipS, dropS, parS, setAll, vE, cE, binE, chainE, callB, consA, nilA, tupE, lstE, boolE, isB, notT, orT, andT, andE, orE, notE, callE, tixE, tsetS, sliceE, optI, methE, seqI, rangeI, RE.bind_ok, RE.bindS, RE.of_some, RE.of_none, List.map_cons, List.map_nil, List.length_cons, List.length_nil, List.replicate, List.cons_append, List.nil_append, List.getElem?_cons_zero, List.getElem?_cons_succ, List.set_cons_zero, List.set_cons_succ, if_true, if_false, Nat.zero_add, Nat.reduceAdd, Nat.reduceSub, decide_true, decide_false, Bool.false_eq_true, Option.map_some, Option.bind_some, e3, eqD_int, c], t3, false, by rw [str_white]⟩
end W

set_option maxHeartbeats 1000000
namespace W
open PySem L2 G
theorem appS_ok {i : Nat} {m : SE D} {env : DEnv} {tp tp1 : List D} {ds : List D} {d : D} (h1 : env[i]? = some (some (.lst ds))) (h2 : m env tp = .ok d tp1) (h3 : ds.length < 1000000) : appS i m env tp = .nx (env.set i (some (.lst (ds ++ [d])))) tp1 := by
  unfold appS
  rw [h1]
  simp only
  rw [h2]
  show (if ds.length < sizeLine then RS.nx (env.set i (some (.lst (ds ++ [d])))) tp1 else .stuck) = _
  exact if_pos (show ds.length < sizeLine from small_line (n := ds.length + 1) h3)
theorem methE_ok {p : D → Bool} {f : D → D → Option D} {ma mb : SE D} {env : DEnv} {tp tp1 tp2 : List D} {d e z : D} (h1 : ma env tp = .ok d tp1) (hp : p d = true) (h2 : mb env tp1 = .ok e tp2) (h3 : f d e = some z) : methE p f ma mb env tp = .ok z tp2 := by
  unfold methE
  rw [h1]
  simp only [RE.bind_ok]
  rw [if_pos hp, h2]
  simp only [RE.bind_ok]
  rw [h3]; rfl
theorem lstE_ok {ms : SE (List D)} {env : DEnv} {tp tp1 : List D} {ds : List D} (h : ms env tp = .ok ds tp1) (hl : ds.length ≤ 1000000) : lstE ms env tp = .ok (.lst ds) tp1 := by
  unfold lstE; rw [h]; simp only [RE.bind_ok]; rw [if_pos (small_line hl)]
theorem tupE_ok {ms : SE (List D)} {env : DEnv} {tp tp1 : List D} {ds : List D} (h : ms env tp = .ok ds tp1) (hl : ds.length ≤ 1000000) : tupE ms env tp = .ok (.tup ds) tp1 := by
  unfold tupE; rw [h]; simp only [RE.bind_ok]; rw [if_pos (small_line hl)]
theorem if_small {α : Type} {n : Nat} {a b : α} (h : n ≤ 1000000) : (if n ≤ sizeLine then a else b) = a := if_pos (small_line h)
theorem if_small' {α : Type} {n : Nat} {a b : α} (h : n < 1000000) : (if n < sizeLine then a else b) = a := if_pos (small_line (n := n + 1) h)
theorem bitrow_ok {a1 a5 a6 : Option D} {tp : List D} {o : Int} {w : Nat} (ht : Tape tp) (o1 : 1 ≤ o) (o2 : o ≤ 4) (w2 : w ≤ 30) : ∃ (bs : List Bool) (tp' : List D), rowE [some .tape, a1, some (.int w), some (.int o), a5, a6, none] tp = .ok (.lst (bs.map fun b => .str (rowS [b]))) tp' ∧ Tape tp' ∧ bs.length = w := by
  have em : rangeI range1D (consA (vE 2) (nilA)) [some .tape, a1, some (.int w), some (.int o), a5, a6, none] tp = .ok (rangeL 0 (w : Int)) tp := by
    simp -implicitDefEqProofs only [defD, retR, seqS, ifS, setS, retS, skipS, dropS, parS, setAll, vE, cE, binE, chainE, callB, consA, nilA, tupE, lstE, boolE, isB, notT, orT, andT, andE, orE, notE, callE, tixE, tsetS, sliceE, optI, methE, seqI, rangeI, RE.bind_ok, RE.bindS, RE.of_some, RE.of_none, List.map_cons, List.map_nil, List.length_cons, List.length_nil, List.replicate, List.cons_append, List.nil_append, List.getElem?_cons_zero, List.getElem?_cons_succ, List.set_cons_zero, List.set_cons_succ, if_true, if_false, Nat.zero_add, Nat.reduceAdd, Nat.reduceSub, decide_true, decide_false, Bool.false_eq_true, Option.map_some, Option.bind_some, range1_ok (i := (w : Int)) (by omega) (by omega)]
  obtain ⟨xs, tp', e, t', pr⟩ := compE_eff (T := Tape) (R := fun d x => ∃ b : Bool, x = .str (rowS [b])) (vs := [6]) (i := 6) (m := signE) em ht (by rw [rangeL_len]; exact small_line (by omega)) (fun d2 hd2 tp2 tt2 => sign_ok tt2 o1 o2)
  obtain ⟨bs, rfl, hl⟩ := paired_all (f := fun b => D.str (rowS [b])) (fun x y hh => hh) pr
  rw [rangeL_len] at hl
  exact ⟨bs, tp', e, t', hl⟩
theorem any_step {a1 x : Option D} {tp : List D} {o : Int} {w : Nat} {rs : List Row} {d : Option D} (ht : Tape tp) (o1 : 1 ≤ o) (o2 : o ≤ 4) (w2 : w ≤ 30) (hk : rs.length ≤ 100) : ∃ (bs : List Bool) (tp' : List D), anyB [some .tape, a1, some (.int w), some (.int o), some (.lst (rs.map fun r => .str (rowS r))), d, none] tp = .nx [some .tape, a1, some (.int w), some (.int o), some (.lst ((rs ++ [bs]).map fun r => .str (rowS r))), d, none] tp' ∧ Tape tp' ∧ bs.length = w := by
  obtain ⟨bs, tp', e, t', hl⟩ := bitrow_ok (a1 := a1) (a5 := some (.lst (rs.map fun r => .str (rowS r)))) (a6 := d) ht o1 o2 w2
  have jn := row_of_bits (bs := bs) (by omega)
  refine ⟨bs, tp', ?_, t', hl⟩
  have q := appS_ok (i := 4) (env := [some .tape, a1, some (.int w), some (.int o), some (.lst (rs.map fun r => .str (rowS r))), d, none]) rfl (methE_ok (p := isStrD) (f := joinD) (ma := cE (.str "")) (tp := tp) rfl rfl e jn) (by rw [List.length_map]; omega)
  rw [List.map_append]
  exact q
theorem any_loop {tp1 : List D} {o : Int} {h w : Nat} (ht : Tape tp1) (o1 : 1 ≤ o) (o2 : o ≤ 4) (h2 : h ≤ 30) (w2 : w ≤ 30) : ∃ (rs : List Row) (x : Option D) (tp' : List D), forS (rangeI range1D (consA (vE 1) (nilA))) t1 [5] anyB [some .tape, some (.int h), some (.int w), some (.int o), some (.lst []), none, none] tp1 = .nx [some .tape, some (.int h), some (.int w), some (.int o), some (.lst (rs.map fun r => .str (rowS r))), x, none] tp' ∧ Tape tp' ∧ rs.length = h ∧ (∀ r ∈ rs, r.length = w) := by
  have ei : rangeI range1D (consA (vE 1) (nilA)) [some .tape, some (.int h), some (.int w), some (.int o), some (.lst []), none, none] tp1 = .ok (rangeL 0 (h : Int)) tp1 := by
    simp -implicitDefEqProofs only [defD, retR, seqS, ifS, setS, retS, skipS, dropS, parS, setAll, vE, cE, binE, chainE, callB, consA, nilA, tupE, lstE, boolE, isB, notT, orT, andT, andE, orE, notE, callE, tixE, tsetS, sliceE, optI, methE, seqI, rangeI, RE.bind_ok, RE.bindS, RE.of_some, RE.of_none, List.map_cons, List.map_nil, List.length_cons, List.length_nil, List.replicate, List.cons_append, List.nil_append, List.getElem?_cons_zero, List.getElem?_cons_succ, List.set_cons_zero, List.set_cons_succ, if_true, if_false, Nat.zero_add, Nat.reduceAdd, Nat.reduceSub, decide_true, decide_false, Bool.false_eq_true, Option.map_some, Option.bind_some, range1_ok (i := (h : Int)) (by omega) (by omega)]
  rw [forS_eq ei]
  obtain ⟨env', tp2, e2, t2, rs, x, hk, hr, rfl⟩ := forL_inv (i := 5) (tp := tp1) (env := [some .tape, some (.int h), some (.int w), some (.int o), some (.lst []), none, none]) (items := rangeL 0 (h : Int)) (body := anyB)
    (fun k env tp => Tape tp ∧ ∃ (rs : List Row) (x : Option D), rs.length = k ∧ (∀ r ∈ rs, r.length = w) ∧ env = [some .tape, some (.int h), some (.int w), some (.int o), some (.lst (rs.map fun r => .str (rowS r))), x, none]) 0
    ⟨ht, [], none, rfl, (fun _ h => nomatch h), rfl⟩ (fun j d env tp hj hI => by
      obtain ⟨tt, rs, x, hk, hr, rfl⟩ := hI
      have hj' := rangeL_get hj
      obtain ⟨bs, tp', e, t', hl⟩ := any_step (a1 := some (.int h)) (x := x) (d := some d) (rs := rs) tt o1 o2 w2 (by omega)
      refine ⟨_, tp', e, t', rs ++ [bs], some d, by simp [hk], ?_, rfl⟩
      intro r hr'
      rcases List.mem_append.mp hr' with q | q
      · exact hr r q
      · rw [List.mem_singleton.mp q]; exact hl)
  rw [rangeL_len] at hk
  exact ⟨rs, x, tp2, e2, t2, by omega, hr⟩
end W

set_option maxHeartbeats 1000000
namespace W
open PySem L2 G
theorem setS_ok {i : Nat} {m : SE D} {env : DEnv} {tp tp1 : List D} {d : D} (h : m env tp = .ok d tp1) : setS i m env tp = .nx (env.set i (some d)) tp1 := by
  unfold setS; rw [h]; rfl
theorem retS_ok {m : SE D} {env : DEnv} {tp tp1 : List D} {d : D} (h : m env tp = .ok d tp1) : retS m env tp = .rt d tp1 := by
  unfold retS; rw [h]; rfl
theorem dropS_ok {m : SE D} {env : DEnv} {tp tp1 : List D} {d : D} (h : m env tp = .ok d tp1) : dropS m env tp = .nx env tp1 := by
  unfold dropS; rw [h]; rfl
theorem callE_ok {n : Nat} {m : List D → List D → RE D} {ms : SE (List D)} {env : DEnv} {tp tp1 tp2 : List D} {ds : List D} {d : D} (h : ms env tp = .ok ds tp1) (hl : ds.length = n) (h2 : m ds tp1 = .ok d tp2) : callE n m ms env tp = .ok d tp2 := by
  unfold callE; rw [h]; simp only [RE.bind_ok]; rw [if_pos hl, h2]
theorem seqS_rt {m n : SS} {env : DEnv} {tp tp' : List D} {d : D} (h : m env tp = .rt d tp') : seqS m n env tp = .rt d tp' := by
  unfold seqS; rw [h]
theorem ifS_t {c : SE Bool} {m n : SS} {env : DEnv} {tp tp' : List D} (h : c env tp = .ok true tp') : ifS c m n env tp = m env tp' := by
  unfold ifS; rw [h]; rfl
theorem ifS_f {c : SE Bool} {m n : SS} {env : DEnv} {tp tp' : List D} (h : c env tp = .ok false tp') : ifS c m n env tp = n env tp' := by
  unfold ifS; rw [h]; rfl
theorem notT_ok {c : SE Bool} {env : DEnv} {tp tp' : List D} {b : Bool} (h : c env tp = .ok b tp') : notT c env tp = .ok (!b) tp' := by
  unfold notT; rw [h]; rfl
theorem boolE_ok {c : SE D} {env : DEnv} {tp tp' : List D} {b : Bool} (h : c env tp = .ok (.bl b) tp') : boolE c env tp = .ok b tp' := by
  unfold boolE; rw [h]; rfl
theorem orT_f {c d : SE Bool} {env : DEnv} {tp tp' : List D} (h : c env tp = .ok false tp') : orT c d env tp = d env tp' := by
  unfold orT; rw [h]; rfl
theorem andE_t {c d : SE D} {env : DEnv} {tp tp' : List D} (h : c env tp = .ok (.bl true) tp') : andE c d env tp = d env tp' := by
  unfold andE; rw [h]; rfl
theorem consA_ok {c : SE D} {d : SE (List D)} {env : DEnv} {tp tp' tp2 : List D} {x : D} {xs : List D} (h : c env tp = .ok x tp') (h2 : d env tp' = .ok xs tp2) : consA c d env tp = .ok (x :: xs) tp2 := by
  unfold consA; rw [h]; simp only [RE.bind_ok]; rw [h2]; rfl
theorem callB_ok {f : List D → Option D} {ms : SE (List D)} {env : DEnv} {tp tp1 : List D} {ds : List D} {d : D} (h : ms env tp = .ok ds tp1) (h2 : f ds = some d) : callB f ms env tp = .ok d tp1 := by
  unfold callB; rw [h]; simp only [RE.bind_ok]; rw [h2]; rfl
theorem binE_ok {f : D → D → Option D} {ma mb : SE D} {env : DEnv} {tp tp1 tp2 : List D} {d e z : D} (h1 : ma env tp = .ok d tp1) (h2 : mb env tp1 = .ok e tp2) (h3 : f d e = some z) : binE f ma mb env tp = .ok z tp2 := by
  unfold binE; rw [h1]; simp only [RE.bind_ok]; rw [h2]; simp only [RE.bind_ok]; rw [h3]; rfl
/-! ### pictures as data -/
theorem len_pic (p : Pic) : lenD [picD p] = some (.int (p.length : Int)) := by
  show some (D.int ((p.map fun r => D.str (rowS r)).length : Int)) = _
  rw [List.length_map]
theorem ix_pic {p : Pic} {i : Nat} {r : Row} (h : p[i]? = some r) : ixD (picD p) (.int (i : Int)) = some (.str (rowS r)) := by
  show atI (p.map fun r => D.str (rowS r)) (i : Int) = _
  rw [atI_nat', List.getElem?_map, h]; rfl
theorem ix_pic0 {p : Pic} {r : Row} (h : p[0]? = some r) : ixD (picD p) (.int 0) = some (.str (rowS r)) := ix_pic (i := 0) h
theorem len_row {r : Row} (h : r.length ≤ 1000000) : lenD [.str (rowS r)] = some (.int (r.length : Int)) := by
  show (if (rowS r).length ≤ sizeLine then some (D.int ((rowS r).length : Int)) else none) = _
  rw [rowS_len, if_small h]
theorem ix_row {r : Row} {j : Nat} {b : Bool} (hl : r.length ≤ 1000000) (h : r[j]? = some b) : ixD (.str (rowS r)) (.int (j : Int)) = some (.str (rowS [b])) := by
  show (if (rowS r).length ≤ sizeLine then (atI (rowS r).cps.toList (j : Int)).map fun c => D.str ⟨#[c]⟩ else none) = _
  rw [rowS_len, if_small hl, row_toList, atI_nat', List.getElem?_map, h]; rfl
theorem add_row {a b : Row} (h : a.length + b.length ≤ 1000000) : addD (.str (rowS a)) (.str (rowS b)) = some (.str (rowS (a ++ b))) := by
  show (if (rowS a).length + (rowS b).length ≤ sizeLine then some (D.str (rowS a ++ rowS b)) else none) = _
  rw [rowS_len, rowS_len, if_small h, rowS_app]
theorem _root_.G.PicOk.row0 {h w : Nat} {p : Pic} (k : PicOk h w p) : ∃ r, p[0]? = some r ∧ r.length = w := by
  have : 0 < p.length := by rw [k.len]; exact k.h1
  exact ⟨p[0], List.getElem?_eq_getElem this, k.row _ (List.getElem_mem this)⟩
theorem _root_.G.PicOk.get {h w : Nat} {p : Pic} (k : PicOk h w p) {i : Nat} (hi : i < h) : ∃ r, p[i]? = some r ∧ r.length = w ∧ p.getD i [] = r := by
  have : i < p.length := by rw [k.len]; exact hi
  exact ⟨p[i], List.getElem?_eq_getElem this, k.row _ (List.getElem_mem this), by rw [List.getD_eq_getElem?_getD, List.getElem?_eq_getElem this]; rfl⟩
/-- a line painted, cell by cell -/
def cellP (h : Nat) (p : Pic) (l i j : Nat) : Bool := if l = i then true else if l = h + j then false else (p.getD i []).getD j false
def lineP (h w : Nat) (p : Pic) (l : Nat) : Pic := (List.range h).map fun i => (List.range w).map fun j => cellP h p l i j
theorem lineP_ok {h w : Nat} {p : Pic} (k : PicOk h w p) (l : Nat) : PicOk h w (lineP h w p l) := by
  refine ⟨by unfold lineP; simp, fun r hr => ?_, k.h1, k.h30, k.w1, k.w30⟩
  obtain ⟨i, _, rfl⟩ := List.mem_map.mp hr
  simp
/-! ### the law's own painting -/
def lsignE : SE D := ifE (boolE (binE eqD (vE 1) (vE 3))) (cE (.str "#")) (ifE (boolE (binE eqD (vE 1) (binE addD (callB lenD (consA (vE 0) (nilA))) (vE 5)))) (cE (.str ".")) (binE ixD (binE ixD (vE 0) (vE 3)) (vE 5)))
def lspotB : SS := setS 4 (binE addD (vE 4) lsignE)
def lspotI : SE (List D) := rangeI range1D (consA (callB lenD (consA (binE ixD (vE 0) (cE (.int 0))) (nilA))) (nilA))
def lrowB : SS := seqS (setS 4 (cE (.str ""))) (seqS (forS lspotI t1 [5] lspotB) (appS 2 (vE 4)))
def lrowI : SE (List D) := rangeI range1D (consA (callB lenD (consA (vE 0) (nilA))) (nilA))
theorem lsign_ok {h w : Nat} {p : Pic} (k : PicOk h w p) {l i j : Nat} (hi : i < h) (hj : j < w) (tp : List D) (a2 a4 : Option D) : lsignE [some (picD p), some (.int l), a2, some (.int i), a4, some (.int j)] tp = .ok (.str (rowS [cellP h p l i j])) tp := by
  obtain ⟨r, h1, h2, h3⟩ := k.get hi
  have hj' : j < r.length := by omega
  have e1 := ix_pic h1
  have e2 := ix_row (r := r) (j := j) (b := r[j]) (by have := k.w30; omega) (List.getElem?_eq_getElem hj')
  have e3 : r.getD j false = r[j] := by rw [List.getD_eq_getElem?_getD, List.getElem?_eq_getElem hj']; rfl
  unfold cellP
  rw [h3, e3]
  by_cases c1 : l = i
  · rw [if_pos c1, ← str_black]
    have c1' : (l : Int) = i := by omega
    simp -implicitDefEqProofs only [lsignE, ifE, defD, retR, seqS, ifS, setS, retS, skipS, dropS, parS, setAll, vE, cE, binE, chainE, callB, consA, nilA, tupE, lstE, boolE, isB, notT, orT, andT, andE, orE, notE, callE, tixE, tsetS, sliceE, optI, methE, seqI, rangeI, RE.bind_ok, RE.bindS, RE.of_some, RE.of_none, List.map_cons, List.map_nil, List.length_cons, List.length_nil, List.replicate, List.cons_append, List.nil_append, List.getElem?_cons_zero, List.getElem?_cons_succ, List.set_cons_zero, List.set_cons_succ, if_true, if_false, Nat.zero_add, Nat.reduceAdd, Nat.reduceSub, decide_true, decide_false, Bool.false_eq_true, Option.map_some, Option.bind_some, eqD_int, c1']
  · rw [if_neg c1]
    have c1' : ¬ (l : Int) = i := by omega
    by_cases c2 : l = h + j
    · rw [if_pos c2, ← str_white]
      have c2' : (l : Int) = (h : Int) + j := by omega
      simp -implicitDefEqProofs only [lsignE, ifE, defD, retR, seqS, ifS, setS, retS, skipS, dropS, parS, setAll, vE, cE, binE, chainE, callB, consA, nilA, tupE, lstE, boolE, isB, notT, orT, andT, andE, orE, notE, callE, tixE, tsetS, sliceE, optI, methE, seqI, rangeI, RE.bind_ok, RE.bindS, RE.of_some, RE.of_none, List.map_cons, List.map_nil, List.length_cons, List.length_nil, List.replicate, List.cons_append, List.nil_append, List.getElem?_cons_zero, List.getElem?_cons_succ, List.set_cons_zero, List.set_cons_succ, if_true, if_false, Nat.zero_add, Nat.reduceAdd, Nat.reduceSub, decide_true, decide_false, Bool.false_eq_true, Option.map_some, Option.bind_some, eqD_int, c1', len_pic, addD, k.len, c2']
      have : ¬ ((h : Int) + j = i) := by omega
      simp -implicitDefEqProofs only [this, defD, retR, seqS, ifS, setS, retS, skipS, dropS, parS, setAll, vE, cE, binE, chainE, callB, consA, nilA, tupE, lstE, boolE, isB, notT, orT, andT, andE, orE, notE, callE, tixE, tsetS, sliceE, optI, methE, seqI, rangeI, RE.bind_ok, RE.bindS, RE.of_some, RE.of_none, List.map_cons, List.map_nil, List.length_cons, List.length_nil, List.replicate, List.cons_append, List.nil_append, List.getElem?_cons_zero, List.getElem?_cons_succ, List.set_cons_zero, List.set_cons_succ, if_true, if_false, Nat.zero_add, Nat.reduceAdd, Nat.reduceSub, decide_true, decide_false, Bool.false_eq_true, Option.map_some, Option.bind_some]
    · rw [if_neg c2]
      have c2' : ¬ (l : Int) = (h : Int) + j := by omega
      simp -implicitDefEqProofs only [lsignE, ifE, defD, retR, seqS, ifS, setS, retS, skipS, dropS, parS, setAll, vE, cE, binE, chainE, callB, consA, nilA, tupE, lstE, boolE, isB, notT, orT, andT, andE, orE, notE, callE, tixE, tsetS, sliceE, optI, methE, seqI, rangeI, RE.bind_ok, RE.bindS, RE.of_some, RE.of_none, List.map_cons, List.map_nil, List.length_cons, List.length_nil, List.replicate, List.cons_append, List.nil_append, List.getElem?_cons_zero, List.getElem?_cons_succ, List.set_cons_zero, List.set_cons_succ, if_true, if_false, Nat.zero_add, Nat.reduceAdd, Nat.reduceSub, decide_true, decide_false, Bool.false_eq_true, Option.map_some, Option.bind_some, eqD_int, c1', len_pic, addD, k.len, c2', e1, e2]
theorem lspots_ok {h w : Nat} {p : Pic} (k : PicOk h w p) {l i : Nat} (hi : i < h) (tp : List D) (a2 a5 : Option D) : ∃ x, forS lspotI t1 [5] lspotB [some (picD p), some (.int l), a2, some (.int i), some (.str ""), a5] tp = .nx [some (picD p), some (.int l), a2, some (.int i), some (.str (rowS ((List.range w).map fun j => cellP h p l i j))), x] tp := by
  obtain ⟨r, h1, h2⟩ := k.row0
  have w30 := k.w30
  have ei : lspotI [some (picD p), some (.int l), a2, some (.int i), some (.str ""), a5] tp = .ok (rangeL 0 (w : Int)) tp := by
    simp -implicitDefEqProofs only [lspotI, defD, retR, seqS, ifS, setS, retS, skipS, dropS, parS, setAll, vE, cE, binE, chainE, callB, consA, nilA, tupE, lstE, boolE, isB, notT, orT, andT, andE, orE, notE, callE, tixE, tsetS, sliceE, optI, methE, seqI, rangeI, RE.bind_ok, RE.bindS, RE.of_some, RE.of_none, List.map_cons, List.map_nil, List.length_cons, List.length_nil, List.replicate, List.cons_append, List.nil_append, List.getElem?_cons_zero, List.getElem?_cons_succ, List.set_cons_zero, List.set_cons_succ, if_true, if_false, Nat.zero_add, Nat.reduceAdd, Nat.reduceSub, decide_true, decide_false, Bool.false_eq_true, Option.map_some, Option.bind_some, ix_pic0 h1, len_row (r := r) (by omega), h2, range1_ok (i := (w : Int)) (by omega) (by omega)]
  rw [forS_eq ei]
  obtain ⟨env', tp2, e2, rfl, x, rfl⟩ := forL_inv (i := 5) (tp := tp) (env := [some (picD p), some (.int l), a2, some (.int i), some (.str ""), a5]) (items := rangeL 0 (w : Int)) (body := lspotB)
    (fun n env tp' => tp' = tp ∧ ∃ x : Option D, env = [some (picD p), some (.int l), a2, some (.int i), some (.str (rowS ((List.range n).map fun j => cellP h p l i j))), x]) 0
    ⟨rfl, a5, by rw [str_empty]; rfl⟩ (fun j d env tp' hj hI => by
      obtain ⟨rfl, x, rfl⟩ := hI
      obtain ⟨rfl, hjw⟩ := rangeL_get hj
      rw [Nat.zero_add]
      refine ⟨_, tp', ?_, rfl, some (.int j), rfl⟩
      have es := lsign_ok k (l := l) hi hjw tp' a2 (some (.str (rowS ((List.range j).map fun j => cellP h p l i j))))
      have ea := add_row (a := (List.range j).map fun j => cellP h p l i j) (b := [cellP h p l i j]) (by simp; omega)
      simp -implicitDefEqProofs only [lspotB, defD, retR, seqS, ifS, setS, retS, skipS, dropS, parS, setAll, vE, cE, binE, chainE, callB, consA, nilA, tupE, lstE, boolE, isB, notT, orT, andT, andE, orE, notE, callE, tixE, tsetS, sliceE, optI, methE, seqI, rangeI, RE.bind_ok, RE.bindS, RE.of_some, RE.of_none, List.map_cons, List.map_nil, List.length_cons, List.length_nil, List.replicate, List.cons_append, List.nil_append, List.getElem?_cons_zero, List.getElem?_cons_succ, List.set_cons_zero, List.set_cons_succ, if_true, if_false, Nat.zero_add, Nat.reduceAdd, Nat.reduceSub, decide_true, decide_false, Bool.false_eq_true, Option.map_some, Option.bind_some, es, ea]
      rw [List.range_succ, List.map_append]; rfl)
  rw [rangeL_len, Nat.zero_add] at e2
  exact ⟨x, e2⟩
theorem lrows_ok {h w : Nat} {p : Pic} (k : PicOk h w p) {l : Nat} (tp : List D) : ∃ x3 x4 x5, forS lrowI t1 [3] lrowB [some (picD p), some (.int l), some (.lst []), none, none, none] tp = .nx [some (picD p), some (.int l), some (.lst ((lineP h w p l).map fun r => .str (rowS r))), x3, x4, x5] tp := by
  have h30 := k.h30
  have ei : lrowI [some (picD p), some (.int l), some (.lst []), none, none, none] tp = .ok (rangeL 0 (h : Int)) tp := by
    simp -implicitDefEqProofs only [lrowI, defD, retR, seqS, ifS, setS, retS, skipS, dropS, parS, setAll, vE, cE, binE, chainE, callB, consA, nilA, tupE, lstE, boolE, isB, notT, orT, andT, andE, orE, notE, callE, tixE, tsetS, sliceE, optI, methE, seqI, rangeI, RE.bind_ok, RE.bindS, RE.of_some, RE.of_none, List.map_cons, List.map_nil, List.length_cons, List.length_nil, List.replicate, List.cons_append, List.nil_append, List.getElem?_cons_zero, List.getElem?_cons_succ, List.set_cons_zero, List.set_cons_succ, if_true, if_false, Nat.zero_add, Nat.reduceAdd, Nat.reduceSub, decide_true, decide_false, Bool.false_eq_true, Option.map_some, Option.bind_some, len_pic, k.len, range1_ok (i := (h : Int)) (by omega) (by omega)]
  rw [forS_eq ei]
  obtain ⟨env', tp2, e2, rfl, x3, x4, x5, rfl⟩ := forL_inv (i := 3) (tp := tp) (env := [some (picD p), some (.int l), some (.lst []), none, none, none]) (items := rangeL 0 (h : Int)) (body := lrowB)
    (fun n env tp' => tp' = tp ∧ ∃ x3 x4 x5 : Option D, env = [some (picD p), some (.int l), some (.lst (((List.range n).map fun i => (List.range w).map fun j => cellP h p l i j).map fun r => .str (rowS r))), x3, x4, x5]) 0
    ⟨rfl, none, none, none, rfl⟩ (fun i d env tp' hj hI => by
      obtain ⟨rfl, x3, x4, x5, rfl⟩ := hI
      obtain ⟨rfl, hi⟩ := rangeL_get hj
      rw [Nat.zero_add]
      obtain ⟨x, es⟩ := lspots_ok k (l := l) hi tp' (some (.lst (((List.range i).map fun i => (List.range w).map fun j => cellP h p l i j).map fun r => .str (rowS r)))) x5
      have eq := appS_ok (i := 2) (m := vE 4) (tp := tp') (tp1 := tp') (env := [some (picD p), some (.int l), some (.lst (((List.range i).map fun i => (List.range w).map fun j => cellP h p l i j).map fun r => .str (rowS r))), some (.int i), some (.str (rowS ((List.range w).map fun j => cellP h p l i j))), x]) rfl rfl (by rw [List.length_map, List.length_map, List.length_range]; omega)
      refine ⟨_, tp', ?_, rfl, some (.int i), some (.str (rowS ((List.range w).map fun j => cellP h p l i j))), x, rfl⟩
      have e0 : setS 4 (cE (.str "")) [some (picD p), some (.int l), some (.lst (((List.range i).map fun i => (List.range w).map fun j => cellP h p l i j).map fun r => .str (rowS r))), some (.int i), x4, x5] tp' = .nx [some (picD p), some (.int l), some (.lst (((List.range i).map fun i => (List.range w).map fun j => cellP h p l i j).map fun r => .str (rowS r))), some (.int i), some (.str ""), x5] tp' := rfl
      show lrowB [some (picD p), some (.int l), some (.lst (((List.range i).map fun i => (List.range w).map fun j => cellP h p l i j).map fun r => .str (rowS r))), some (.int i), x4, x5] tp' = _
      unfold lrowB
      rw [seqS_nx e0, seqS_nx es, eq, List.range_succ, List.map_append, List.map_append]
      rfl)
  rw [rangeL_len, Nat.zero_add] at e2
  exact ⟨x3, x4, x5, e2⟩
def linesP (h w : Nat) (p : Pic) (ls : List Nat) : Pic := ls.foldl (lineP h w) p
theorem linesP_ok {h w : Nat} : ∀ (ls : List Nat) {p : Pic}, PicOk h w p → PicOk h w (linesP h w p ls)
  | [], _, k => k
  | l :: ls, _, k => linesP_ok ls (lineP_ok k l)
def linesD (ls : List Nat) : D := .lst (ls.map fun l : Nat => .int (l : Int))
theorem lpainted_loop {h w : Nat} {b : SS} {x1 : Option D} (hb : ∀ (p : Pic) (l : Nat) (tp : List D), PicOk h w p → l < h + w → b [some (picD p), x1, some (.int l)] tp = .nx [some (picD (lineP h w p l)), x1, some (.int l)] tp) :
    ∀ (ls : List Nat) (p : Pic) (x : Option D) (tp : List D), PicOk h w p → (∀ l ∈ ls, l < h + w) → ∃ x', forL t1 [2] b (ls.map fun l : Nat => .int (l : Int)) [some (picD p), x1, x] tp = .nx [some (picD (linesP h w p ls)), x1, x'] tp
  | [], p, x, tp, k, _ => ⟨x, rfl⟩
  | l :: ls, p, x, tp, k, hl => by
    obtain ⟨x', e⟩ := lpainted_loop hb ls (lineP h w p l) (some (.int l)) tp (lineP_ok k l) fun l' h' => hl l' (List.mem_cons_of_mem _ h')
    refine ⟨x', ?_⟩
    have hb' := hb p l tp k (hl l List.mem_cons_self)
    rw [List.map_cons]
    unfold forL t1
    simp only [setAll, List.set_cons_succ, List.set_cons_zero]
    rw [hb']
    exact e
end W

set_option maxHeartbeats 1000000
namespace W
open PySem L2 G
theorem taken_nat {tp : List D} {m : Nat} (h : Tape tp) (hm : 1 ≤ m) (hM : m ≤ 2 ^ 30) : ∃ (n : Nat) (tp' : List D), m_law_taken [.tape, .int (m : Int)] tp = .ok (.int (n : Int)) tp' ∧ Tape tp' ∧ n < m := by
  obtain ⟨v, tp', e, t, v0, v1⟩ := taken_ok (m := (m : Int)) h (by omega) (by omega)
  exact ⟨v.toNat, tp', by rw [e]; congr 2; omega, t, by omega⟩
theorem taken_e {tp : List D} {m : Nat} {ms : SE (List D)} {env : DEnv} {tp0 : List D} (h : Tape tp) (hm : 1 ≤ m) (hM : m ≤ 2 ^ 30) (e : ms env tp0 = .ok [.tape, .int (m : Int)] tp) : ∃ (n : Nat) (tp' : List D), callE 2 m_law_taken ms env tp0 = .ok (.int (n : Int)) tp' ∧ Tape tp' ∧ n < m := by
  obtain ⟨n, tp', e1, t, l⟩ := taken_nat h hm hM
  exact ⟨n, tp', callE_ok e rfl e1, t, l⟩
theorem compE_of {T : List D → Prop} {R : D → D → Prop} {mi : SE (List D)} {vs : List Nat} {i : Nat} {m : SE D} {env : DEnv} {tp tp1 : List D} {items : List D} (h1 : mi env tp = .ok items tp1) (ht : T tp1) (hl : items.length ≤ 1000000)
    (h : ∀ d ∈ items, ∀ tp, T tp → ∃ x tp', m ((wipeE env vs).set i (some d)) tp = .ok x tp' ∧ T tp' ∧ R d x) : ∃ xs tp', compE mi vs t1 [i] yesT m env tp = .ok (.lst xs) tp' ∧ T tp' ∧ Paired R items xs := compE_eff h1 ht (small_line hl) h
theorem rangeI_ok {f : List D → Option (List D)} {ms : SE (List D)} {env : DEnv} {tp tp1 : List D} {ds items : List D} (h : ms env tp = .ok ds tp1) (h2 : f ds = some items) : rangeI f ms env tp = .ok items tp1 := by
  unfold rangeI; rw [h]; simp only [RE.bind_ok]; rw [h2]; rfl
/-- lines + columns -/
theorem sides_e {h w : Nat} {p : Pic} (k : PicOk h w p) {i : Nat} {env : DEnv} {tp : List D} (e : env[i]? = some (some (picD p))) : binE addD (callB lenD (consA (vE i) (nilA))) (callB lenD (consA (binE ixD (vE i) (cE (.int 0))) (nilA))) env tp = .ok (.int ((h + w : Nat) : Int)) tp := by
  obtain ⟨r, h1, h2⟩ := k.row0
  have w30 := k.w30
  have ev : vE i env tp = .ok (picD p) tp := by unfold vE; rw [e]
  refine binE_ok (callB_ok (consA_ok ev rfl) (len_pic p)) (callB_ok (consA_ok (binE_ok ev rfl (ix_pic0 h1)) rfl) (len_row (by omega))) ?_
  show some (D.int _) = _
  rw [k.len, h2]
  rfl
theorem len_e {h w : Nat} {p : Pic} (k : PicOk h w p) {i : Nat} {env : DEnv} {tp : List D} (e : env[i]? = some (some (picD p))) : callB lenD (consA (vE i) (nilA)) env tp = .ok (.int (h : Int)) tp := by
  have ev : vE i env tp = .ok (picD p) tp := by unfold vE; rw [e]
  have := callB_ok (consA_ok ev (rfl : nilA env tp = .ok [] tp)) (len_pic p)
  rw [k.len] at this
  exact this
theorem wide_e {h w : Nat} {p : Pic} (k : PicOk h w p) {i : Nat} {env : DEnv} {tp : List D} (e : env[i]? = some (some (picD p))) : callB lenD (consA (binE ixD (vE i) (cE (.int 0))) (nilA)) env tp = .ok (.int (w : Int)) tp := by
  obtain ⟨r, h1, h2⟩ := k.row0
  have w30 := k.w30
  have ev : vE i env tp = .ok (picD p) tp := by unfold vE; rw [e]
  have := callB_ok (consA_ok (binE_ok (mb := cE (.int 0)) (tp2 := tp) ev rfl (ix_pic0 h1)) (rfl : nilA env tp = .ok [] tp)) (len_row (r := r) (by omega))
  rw [h2] at this
  exact this
/-! ### deeds -/
/-! ### mixed -/
theorem appPop_z {i j : Nat} {m : SE D} {env : DEnv} {tp tp1 : List D} {ds es : List D} {z : Int} {y : D} (h1 : env[i]? = some (some (.lst ds))) (h2 : env[j]? = some (some (.lst es))) (h3 : m env tp = .ok (.int z) tp1) (hz : 0 ≤ z) (h4 : es[z.toNat]? = some y) (h5 : ds.length < 1000000) (h6 : es.length ≤ 1000000) :
    appPopS i j m env tp = .nx ((env.set j (some (.lst (es.eraseIdx z.toNat)))).set i (some (.lst (ds ++ [y])))) tp1 := by
  have hq : z.toNat < es.length := (List.getElem?_eq_some_iff.mp h4).1
  have c : (decide (-(2 ^ 63) ≤ z) && (decide (z < 2 ^ 63) && decide (ds.length < sizeLine))) = true := by
    have a1 : -(2 ^ 63) ≤ z := by omega
    have a2 : z < 2 ^ 63 := by omega
    have a3 : ds.length < sizeLine := small_line (n := ds.length + 1) h5
    rw [decide_eq_true a1, decide_eq_true a2, decide_eq_true a3]; rfl
  have cx : ixN es.length z = some z.toNat := by
    unfold ixN
    rw [if_pos hz, if_pos (by omega)]
  unfold appPopS
  rw [h1, h2]
  simp -implicitDefEqProofs only []
  rw [h3]
  simp -implicitDefEqProofs only [RE.bindS]
  rw [if_pos c, cx]
  simp -implicitDefEqProofs only []
  rw [h4]
theorem appPop_ok {i j : Nat} {m : SE D} {env : DEnv} {tp tp1 : List D} {ds es : List D} {q : Nat} {y : D} (h1 : env[i]? = some (some (.lst ds))) (h2 : env[j]? = some (some (.lst es))) (h3 : m env tp = .ok (.int (q : Int)) tp1) (h4 : es[q]? = some y) (h5 : ds.length < 1000000) (h6 : es.length ≤ 1000000) :
    appPopS i j m env tp = .nx ((env.set j (some (.lst (es.eraseIdx q)))).set i (some (.lst (ds ++ [y])))) tp1 := by
  have e : ((q : Int)).toNat = q := Int.toNat_natCast q
  have := appPop_z (z := (q : Int)) h1 h2 h3 (by omega) (by rw [e]; exact h4) h5 h6
  rw [e] at this
  exact this
theorem perm_erase {α : Type} : ∀ (es : List α) (q : Nat) (y : α), es[q]? = some y → (y :: es.eraseIdx q).Perm es
  | [], q, y, h => by simp at h
  | e :: es, 0, y, h => by simp at h; subst h; exact List.Perm.refl _
  | e :: es, q + 1, y, h => by
    have h' : es[q]? = some y := by simpa using h
    show (y :: e :: es.eraseIdx q).Perm (e :: es)
    exact (List.Perm.swap _ _ _).trans ((perm_erase es q y h').cons _)
end W

set_option maxHeartbeats 1000000
namespace W
open PySem L2 G
/-! ### a picture drawn -/
theorem list_nats {n : Nat} {xs : List D} (hp : xs.Perm (rangeL 0 (n : Int))) : ∃ ls : List Nat, xs = ls.map (fun l : Nat => D.int (l : Int)) ∧ ls.Perm (List.range n) := by
  have e : rangeL 0 (n : Int) = (List.range n).map (fun l : Nat => D.int (l : Int)) := by
    unfold rangeL
    rw [Int.sub_zero, Int.toNat_natCast]
    refine List.map_congr_left fun a _ => ?_
    rw [Int.zero_add]
  rw [e] at hp
  have hinj : ∀ xs ys : List D, xs.Perm ys → ∀ ls : List Nat, ys = ls.map (fun l : Nat => D.int (l : Int)) → ∃ ks : List Nat, xs = ks.map (fun l : Nat => D.int (l : Int)) ∧ ks.Perm ls := by
    intro xs ys h
    induction h with
    | nil => intro ls h; cases ls with
      | nil => exact ⟨[], rfl, .refl _⟩
      | cons a as => cases h
    | cons x h ih => intro ls h; cases ls with
      | nil => cases h
      | cons a as =>
        rw [List.map_cons] at h
        cases h
        obtain ⟨ks, rfl, p⟩ := ih as rfl
        exact ⟨a :: ks, rfl, p.cons a⟩
    | swap x y l => intro ls h; match ls, h with
      | [], h => cases h
      | [a], h => cases h
      | a :: b :: as, h =>
        rw [List.map_cons, List.map_cons] at h
        cases h
        exact ⟨b :: a :: as, rfl, .swap _ _ _⟩
    | trans h1 h2 ih1 ih2 =>
      intro ls h
      obtain ⟨ks, rfl, p⟩ := ih2 ls h
      obtain ⟨js, rfl, q⟩ := ih1 ks rfl
      exact ⟨js, rfl, q.trans p⟩
  exact hinj xs _ hp _ rfl
theorem cRgOk_small {n : Nat} (h : n ≤ 1000000) : cRgOk 0 (n : Int) = true := by
  unfold cRgOk
  rw [cRg_small (i := 0) (by decide) (by decide), cRg_small (i := (n : Int)) (by omega) (by omega), Bool.true_and, Bool.true_and]
  exact decide_eq_true (by omega)
theorem rg1E_ok {k : List D → D} {ma : SE D} {env : DEnv} {tp tp1 : List D} {n : Nat} (h : ma env tp = .ok (.int (n : Int)) tp1) (hn : n ≤ 1000000) : rg1E k ma env tp = .ok (k (rangeL 0 (n : Int))) tp1 := by
  have := cRgOk_small hn
  generalize (n : Int) = z at *
  unfold rg1E
  rw [h]
  simp -implicitDefEqProofs only [RE.bind_ok]
  rw [if_pos this]
theorem parS2_ok {i j : Nat} {ms : SE (List D)} {env : DEnv} {tp tp1 : List D} {a b : D} (h : ms env tp = .ok [a, b] tp1) (hi : i < env.length) (hj : j < env.length) : parS [i, j] ms env tp = .nx ((env.set i (some a)).set j (some b)) tp1 := by
  unfold parS
  rw [h]
  simp only [RE.bindS]
  rw [if_pos (by simp [hi, hj])]
  rfl
theorem eqI_e {i : Nat} {k c : Nat} {env : DEnv} {tp : List D} (e : env[i]? = some (some (.int (k : Int)))) : boolE (binE eqD (vE i) (cE (.int (c : Int)))) env tp = .ok (decide (k = c)) tp := by
  have ev : vE i env tp = .ok (.int (k : Int)) tp := by unfold vE; rw [e]
  refine boolE_ok (binE_ok (mb := cE (.int (c : Int))) (tp2 := tp) ev rfl ?_)
  rw [eqD_int]
  by_cases q : k = c
  · rw [decide_eq_true q, decide_eq_true (by omega)]
  · rw [decide_eq_false q, decide_eq_false (by omega)]
end W

set_option maxHeartbeats 1000000
namespace W
open PySem L2 G
/-! ### the program's guards -/
theorem compE_all {mi : SE (List D)} {vs : List Nat} {i : Nat} {m : SE D} {env : DEnv} {tp tp1 : List D} {items : List D} (h1 : mi env tp = .ok items tp1) (hl : items.length ≤ 1000000) (h : ∀ d ∈ items, m ((wipeE env vs).set i (some d)) tp1 = .ok (.bl true) tp1) : callB allD (consA (compE mi vs t1 [i] yesT m) (nilA)) env tp = .ok (.bl true) tp1 := by
  have e := compE_map (vs := vs) (i := i) (m := m) (g := fun _ => .bl true) h1 (small_line hl) h
  refine callB_ok (consA_ok e rfl) ?_
  have q : items.map (fun _ => D.bl true) = (items.map fun _ => true).map D.bl := by rw [List.map_map]; rfl
  show (unB (items.map fun _ => D.bl true)).map (fun bs => D.bl (bs.all id)) = _
  rw [q, unB_map]
  have : (items.map fun _ => true).all id = true := by simp
  show some (D.bl ((items.map fun _ => true).all id)) = _
  rw [this]
theorem chainE_ok {f g : D → D → Option D} {ma mb mc : SE D} {env : DEnv} {tp tp1 tp2 tp3 : List D} {d e c z : D} (h1 : ma env tp = .ok d tp1) (h2 : mb env tp1 = .ok e tp2) (h3 : f d e = some (.bl true)) (h4 : mc env tp2 = .ok c tp3) (h5 : g e c = some z) : chainE f g ma mb mc env tp = .ok z tp3 := by
  unfold chainE; rw [h1]; simp only [RE.bind_ok]; rw [h2]; simp only [RE.bind_ok]; rw [h3]; simp only; rw [h4]; simp only [RE.bind_ok]; rw [h5]; rfl
theorem leD_t {a b : Int} (h : a ≤ b) : leD (.int a) (.int b) = some (.bl true) := by
  show some (D.bl (decide (a ≤ b))) = _
  rw [decide_eq_true h]
theorem seqD_pic (p : Pic) : seqD (picD p) = some (p.map fun r => D.str (rowS r)) := rfl
theorem seqD_row (r : Row) : seqD (.str (rowS r)) = some (r.map fun b => D.str (rowS [b])) := by
  show some ((rowS r).cps.toList.map fun c => D.str ⟨#[c]⟩) = _
  rw [row_toList, List.map_map]
  rfl
theorem seqI_ok {m : SE D} {env : DEnv} {tp tp1 : List D} {d : D} {xs : List D} (h : m env tp = .ok d tp1) (h2 : seqD d = some xs) : seqI m env tp = .ok xs tp1 := by
  unfold seqI; rw [h]; simp only [RE.bind_ok]; rw [h2]; rfl
theorem in_signs (b : Bool) : inD (.str (rowS [b])) (.tup [.str "#", .str "."]) = some (.bl true) := by cases b <;> rfl
theorem PicOk.len_small {h w : Nat} {p : Pic} (k : PicOk h w p) : p.length ≤ 1000000 := by rw [k.len]; have := k.h30; omega
theorem is_picture_ok {h w : Nat} {p : Pic} (k : PicOk h w p) (tp : List D) : m_is_picture [picD p] tp = .ok (.bl true) tp := by
  have h30 := k.h30
  have h1 := k.h1
  have w30 := k.w30
  have w1 := k.w1
  have hl : p.length ≤ 1000000 := by rw [k.len]; omega
  have c1 : chainE leD leD (cE (.int 1)) (callB lenD (consA (vE 0) (nilA))) (cE (.int 30)) [some (picD p), none, none] tp = .ok (.bl true) tp :=
    chainE_ok rfl (len_e k rfl) (leD_t (by omega)) rfl (leD_t (by omega))
  have c2 : chainE leD leD (cE (.int 1)) (callB lenD (consA (binE ixD (vE 0) (cE (.int 0))) (nilA))) (cE (.int 30)) [some (picD p), none, none] tp = .ok (.bl true) tp :=
    chainE_ok rfl (wide_e k rfl) (leD_t (by omega)) rfl (leD_t (by omega))
  have ei : seqI (vE 0) [some (picD p), none, none] tp = .ok (p.map fun r => D.str (rowS r)) tp := rfl
  have a1 := compE_all (vs := [1]) (i := 1) (m := callB isiD (consA (vE 1) (consA (cE (.ty "str")) (nilA)))) ei (by rw [List.length_map]; exact hl) fun d hd => by
    obtain ⟨r, _, rfl⟩ := List.mem_map.mp hd
    rfl
  have a2 := compE_all (vs := [1]) (i := 1) (m := andE (binE eqD (callB lenD (consA (vE 1) (nilA))) (callB lenD (consA (binE ixD (vE 0) (cE (.int 0))) (nilA)))) (callB allD (consA (compE (seqI (vE 1)) [2] t1 [2] (yesT) (binE inD (vE 2) (tupE (consA (cE (.str "#")) (consA (cE (.str ".")) (nilA)))))) (nilA)))) ei (by rw [List.length_map]; exact hl) fun d hd => by
    obtain ⟨r, hr, rfl⟩ := List.mem_map.mp hd
    have rl := k.row r hr
    have el : eqD (.int (r.length : Int)) (.int (w : Int)) = some (.bl true) := by rw [eqD_int, rl, decide_eq_true rfl]
    refine (andE_t (binE_ok (callB_ok (consA_ok rfl rfl) (len_row (by omega))) (wide_e k rfl) el)).trans ?_
    refine compE_all (seqI_ok rfl (seqD_row r)) (by rw [List.length_map]; omega) fun d2 hd2 => ?_
    obtain ⟨b, _, rfl⟩ := List.mem_map.mp hd2
    exact binE_ok rfl (tupE_ok rfl (by decide)) (in_signs b)
  show retR (b_is_picture [some (picD p), none, none] tp) = _
  unfold b_is_picture
  refine (congrArg retR (seqS_nx ((ifS_f ((orT_f (notT_ok (boolE_ok (b := true) rfl))).trans (notT_ok (boolE_ok c1)))).trans rfl))).trans ?_
  refine (congrArg retR (seqS_nx ((ifS_f ((orT_f (notT_ok (boolE_ok a1))).trans (notT_ok (boolE_ok c2)))).trans rfl))).trans ?_
  refine (congrArg retR (retS_ok a2)).trans ?_
  rfl
theorem need_picture_ok {h w : Nat} {p : Pic} (k : PicOk h w p) (tp : List D) : m_need_picture [picD p] tp = .ok .non tp := by
  show retR (b_need_picture [some (picD p)] tp) = _
  unfold b_need_picture
  exact congrArg retR ((ifS_f (notT_ok (boolE_ok (callE_ok rfl rfl (is_picture_ok k tp))))).trans rfl)
theorem is_in_ok {a lo hi : Int} (h1 : lo ≤ a) (h2 : a ≤ hi) (tp : List D) : m_is_in [.int a, .int lo, .int hi] tp = .ok (.bl true) tp := by
  show retR (b_is_in [some (.int a), some (.int lo), some (.int hi)] tp) = _
  unfold b_is_in
  exact congrArg retR (retS_ok ((andE_t (callE_ok (d := .bl true) (ds := [.int a]) (tp1 := tp) (tp2 := tp) (ms := consA (vE 0) (nilA)) (m := m_is_int) rfl rfl rfl)).trans (chainE_ok (ma := vE 1) (mb := vE 0) (mc := vE 2) (env := [some (.int a), some (.int lo), some (.int hi)]) (c := .int hi) (tp1 := tp) (tp2 := tp) (tp3 := tp) rfl rfl (leD_t h1) rfl (leD_t h2))))
theorem lines_of_ok {h w : Nat} {p : Pic} (k : PicOk h w p) (tp : List D) : m_lines_of [picD p] tp = .ok (.int ((h + w : Nat) : Int)) tp := by
  show retR (b_lines_of [some (picD p)] tp) = _
  unfold b_lines_of
  exact congrArg retR (retS_ok (sides_e k rfl))
theorem in_line {h w : Nat} {p : Pic} (k : PicOk h w p) {l : Nat} (hl : l < h + w) {env : DEnv} {tp : List D} {i j : Nat} (e0 : env[i]? = some (some (picD p))) (e1 : env[j]? = some (some (.int (l : Int)))) : callE 3 m_is_in (consA (vE j) (consA (cE (.int 0)) (consA (binE subD (callE 1 m_lines_of (consA (vE i) (nilA))) (cE (.int 1))) (nilA)))) env tp = .ok (.bl true) tp := by
  have ev : vE i env tp = .ok (picD p) tp := by unfold vE; rw [e0]
  have ej : vE j env tp = .ok (.int (l : Int)) tp := by unfold vE; rw [e1]
  have es : subD (.int ((h + w : Nat) : Int)) (.int 1) = some (.int (((h + w : Nat) : Int) - 1)) := rfl
  exact callE_ok (consA_ok ej (consA_ok (c := cE (.int 0)) (tp' := tp) rfl (consA_ok (binE_ok (mb := cE (.int 1)) (tp2 := tp) (callE_ok (consA_ok ev rfl) rfl (lines_of_ok k tp)) rfl es) rfl))) rfl (is_in_ok (by omega) (by omega) tp)
/-! ### the program's painting -/
theorem ltD_nat (a b : Nat) : ltD (.int (a : Int)) (.int (b : Int)) = some (.bl (decide (a < b))) := by
  show some (D.bl (decide ((a : Int) < b))) = _
  by_cases h : a < b
  · rw [decide_eq_true h, decide_eq_true (by omega)]
  · rw [decide_eq_false h, decide_eq_false (by omega)]
theorem getD_of {α : Type} {xs : List α} {i : Nat} {x d : α} (h : xs[i]? = some x) : xs.getD i d = x := by rw [List.getD_eq_getElem?_getD, h]; rfl
theorem line_row_law {h w : Nat} {p : Pic} (k : PicOk h w p) {l : Nat} (hl : l < h) : p.take l ++ [List.replicate w true] ++ p.drop (l + 1) = lineP h w p l := by
  have kl := k.len
  refine List.ext_getElem? fun i => ?_
  unfold lineP
  rw [List.getElem?_map]
  by_cases hi : i < h
  · rw [List.getElem?_range hi]
    show _ = some ((List.range w).map fun j => cellP h p l i j)
    by_cases c : l = i
    · subst c
      rw [List.append_assoc, List.getElem?_append_right (by rw [List.length_take]; omega), List.length_take]
      have : l - min l p.length = 0 := by omega
      rw [this]
      show some (List.replicate w true) = _
      congr 1
      refine List.ext_getElem? fun j => ?_
      rw [List.getElem?_map]
      by_cases hj : j < w
      · rw [List.getElem?_range hj, List.getElem?_replicate, if_pos hj]
        unfold cellP
        simp
      · rw [List.getElem?_eq_none (by rw [List.length_replicate]; omega), List.getElem?_eq_none (by rw [List.length_range]; omega)]; rfl
    · obtain ⟨r, h1, h2, h3⟩ := k.get hi
      have e : (p.take l ++ [List.replicate w true] ++ p.drop (l + 1))[i]? = some r := by
        by_cases c2 : i < l
        · rw [List.append_assoc, List.getElem?_append_left (by rw [List.length_take]; omega), List.getElem?_take_of_lt c2, h1]
        · rw [List.getElem?_append_right (by simp; omega)]
          rw [List.getElem?_drop]
          have : l + 1 + (i - (p.take l ++ [List.replicate w true]).length) = i := by simp; omega
          rw [this, h1]
      rw [e]
      congr 1
      refine List.ext_getElem? fun j => ?_
      rw [List.getElem?_map]
      by_cases hj : j < w
      · rw [List.getElem?_range hj]
        have hj' : j < r.length := by omega
        show _ = some (cellP h p l i j)
        unfold cellP
        rw [List.getElem?_eq_getElem hj', if_neg c, if_neg (by omega), h3]
        exact congrArg some (getD_of (List.getElem?_eq_getElem hj')).symm
      · rw [List.getElem?_eq_none (by omega), List.getElem?_eq_none (by rw [List.length_range]; omega)]; rfl
  · rw [List.getElem?_eq_none (by simp; omega), List.getElem?_eq_none (by rw [List.length_range]; omega)]; rfl
theorem line_col_law {h w : Nat} {p : Pic} (k : PicOk h w p) {a : Nat} (ha : a < w) : (p.map fun r => r.take a ++ [false] ++ r.drop (a + 1)) = lineP h w p (h + a) := by
  have kl := k.len
  refine List.ext_getElem? fun i => ?_
  unfold lineP
  rw [List.getElem?_map, List.getElem?_map]
  by_cases hi : i < h
  · obtain ⟨r, h1, h2, h3⟩ := k.get hi
    rw [List.getElem?_range hi, h1]
 
    show some (r.take a ++ [false] ++ r.drop (a + 1)) = some ((List.range w).map fun j => cellP h p (h + a) i j)
    congr 1
    refine List.ext_getElem? fun j => ?_
    rw [List.getElem?_map]
    by_cases hj : j < w
    · have hj' : j < r.length := by omega
      rw [List.getElem?_range hj]
      show _ = some (cellP h p (h + a) i j)
      unfold cellP
      rw [if_neg (by omega), h3]
      by_cases c : j = a
      · subst c
        rw [if_pos rfl, List.append_assoc, List.getElem?_append_right (by rw [List.length_take]; omega), List.length_take]
        have : j - min j r.length = 0 := by omega
        rw [this]; rfl
      · rw [if_neg (by omega), getD_of (List.getElem?_eq_getElem hj')]
        by_cases c2 : j < a
        · rw [List.append_assoc, List.getElem?_append_left (by rw [List.length_take]; omega), List.getElem?_take_of_lt c2, List.getElem?_eq_getElem hj']
        · rw [List.getElem?_append_right (by simp; omega), List.getElem?_drop]
          have : a + 1 + (j - (r.take a ++ [false]).length) = j := by simp; omega
          rw [this, List.getElem?_eq_getElem hj']
    · rw [List.getElem?_eq_none (by simp; omega), List.getElem?_eq_none (by rw [List.length_range]; omega)]; rfl
  · rw [List.getElem?_eq_none (by omega), List.getElem?_eq_none (by rw [List.length_range]; omega)]; rfl
theorem sliceE_ok {m : SE D} {ml mh : SE (Option Int)} {env : DEnv} {tp : List D} {d z : D} {lo hi : Option Int} (h1 : m env tp = .ok d tp) (h2 : ml env tp = .ok lo tp) (h3 : mh env tp = .ok hi tp) (h4 : sliceD d lo hi = some z) : sliceE m ml mh env tp = .ok z tp := by
  unfold sliceE; rw [h1]; simp only [RE.bind_ok]; rw [h2]; simp only [RE.bind_ok]; rw [h3]; simp only [RE.bind_ok]; rw [h4]; rfl
theorem slice_pic_to (p : Pic) (l : Nat) : sliceD (picD p) none (some (l : Int)) = some (picD (p.take l)) := by
  show some (D.tup (cutD (p.map fun r => D.str (rowS r)) none (some (l : Int)))) = _
  rw [cut_to, ← List.map_take]; rfl
theorem slice_pic_from (p : Pic) (l : Nat) : sliceD (picD p) (some ((l + 1 : Nat) : Int)) none = some (picD (p.drop (l + 1))) := by
  show some (D.tup (cutD (p.map fun r => D.str (rowS r)) (some ((l + 1 : Nat) : Int)) none)) = _
  rw [cut_from, ← List.map_drop]; rfl
theorem slice_row_to {r : Row} (h : r.length ≤ 1000000) (l : Nat) : sliceD (.str (rowS r)) none (some (l : Int)) = some (.str (rowS (r.take l))) := by
  show (if (rowS r).length ≤ sizeLine then some (D.str (cutS (rowS r) none (some (l : Int)))) else none) = _
  rw [rowS_len, if_small h, row_cut, cut_to]
theorem slice_row_from {r : Row} (h : r.length ≤ 1000000) (l : Nat) : sliceD (.str (rowS r)) (some ((l + 1 : Nat) : Int)) none = some (.str (rowS (r.drop (l + 1)))) := by
  show (if (rowS r).length ≤ sizeLine then some (D.str (cutS (rowS r) (some ((l + 1 : Nat) : Int)) none)) else none) = _
  rw [rowS_len, if_small h, row_cut, cut_from]
theorem mul_black {w : Nat} (h : w ≤ 1000) : mulD (.str "#") (.int (w : Int)) = some (.str (rowS (List.replicate w true))) := by
  have c : cRep ("#" : Str).length (w : Int) = true := by
    rw [str_black, rowS_len]
    unfold cRep
    have a1 : (0 : Int) ≤ w := by omega
    have a2 : (([true] : Row).length : Int) * (w : Int) ≤ 16777216 := by simp; omega
    have a3 : (w : Int) ≤ 16777216 := by omega
    rw [decide_eq_true a1, decide_eq_true a2, decide_eq_true a3]; rfl
  show (if cRep ("#" : Str).length (w : Int) then some (D.str (Txt.mul "#" (w : Int))) else none) = _
  rw [if_pos c, str_black, mul_row]
theorem add_pic {a b : Pic} (h : a.length + b.length ≤ 1000000) : addD (picD a) (picD b) = some (picD (a ++ b)) := by
  show (if (a.map fun r => D.str (rowS r)).length + (b.map fun r => D.str (rowS r)).length ≤ sizeLine then some (D.tup ((a.map fun r => D.str (rowS r)) ++ b.map fun r => D.str (rowS r))) else none) = _
  rw [List.length_map, List.length_map, if_small h, ← List.map_append]; rfl
end W

set_option maxHeartbeats 1000000
namespace W
open PySem L2 G
theorem eqvAll_refl : ∀ xs : List PyData, (∀ x ∈ xs, PyData.eqv x x = true) → PyData.eqvAll xs xs = true
  | [], _ => rfl
  | x :: xs, h => by
    show (PyData.eqv x x && PyData.eqvAll xs xs) = true
    rw [h x List.mem_cons_self, eqvAll_refl xs fun y hy => h y (List.mem_cons_of_mem _ hy)]; rfl
theorem pdAll_map : ∀ xs : List D, pdAll xs = xs.map D.pd
  | [] => rfl
  | x :: xs => by
    show x.pd :: pdAll xs = _
    rw [pdAll_map xs]; rfl
theorem okq_ints (ls : List Nat) : (linesD ls).okq = true := by
  have hp : ∀ ls : List Nat, PyData.plainAll (pdAll (ls.map fun l : Nat => D.int (l : Int))) = true := by
    intro ls
    induction ls with
    | nil => rfl
    | cons l ls ih => show (true && PyData.plainAll _) = true; rw [ih]; rfl
  have hd : ∀ ls : List Nat, PyData.depthAll (pdAll (ls.map fun l : Nat => D.int (l : Int))) ≤ 10 := by
    intro ls
    induction ls with
    | nil => decide
    | cons l ls ih =>
      show PyData.depthAll (PyData.int (l : Int) :: pdAll (ls.map fun l : Nat => D.int (l : Int))) ≤ 10
      simp only [PyData.depthAll, PyData.depth]
      omega
  unfold D.okq
  have e : (linesD ls).pd = .list (pdAll (ls.map fun l : Nat => D.int (l : Int))) := rfl
  rw [e]
  have h1 : (PyData.list (pdAll (ls.map fun l : Nat => D.int (l : Int)))).plain = true := by
    simp only [PyData.plain]; exact hp ls
  have h2 : (PyData.list (pdAll (ls.map fun l : Nat => D.int (l : Int)))).depth ≤ 60 := by
    have := hd ls
    simp only [PyData.depth]; omega
  rw [h1, decide_eq_true h2]; rfl
theorem eq_lines (ls : List Nat) : eqD (linesD ls) (linesD ls) = some (.bl true) := by
  unfold eqD
  rw [okq_ints ls]
  show some (D.bl (PyData.eqvAll (pdAll (ls.map fun l : Nat => D.int (l : Int))) (pdAll (ls.map fun l : Nat => D.int (l : Int))))) = _
  rw [eqvAll_refl]
  intro x hx
  rw [pdAll_map, List.map_map] at hx
  obtain ⟨l, _, rfl⟩ := List.mem_map.mp hx
  show ((l : Int) == (l : Int)) = true
  simp
end W

set_option maxHeartbeats 1000000
namespace W
open PySem L2 G
/-! ### alike -/
def Alk : Nat → D → Prop
  | _, .non => True
  | _, .bl _ => True
  | _, .int _ => True
  | _, .str _ => True
  | n + 1, .tup xs => xs.length ≤ 1000000 ∧ ∀ x ∈ xs, Alk n x
  | n + 1, .lst xs => xs.length ≤ 1000000 ∧ ∀ x ∈ xs, Alk n x
  | _, _ => False
theorem neD_int (a b : Int) : neD (.int a) (.int b) = some (.bl (decide (a ≠ b))) := by
  show some (D.bl (!(a == b))) = _
  by_cases h : a = b <;> simp [h]
theorem compE_none {mi : SE (List D)} {vs : List Nat} {i : Nat} {c : SE Bool} {m : SE D} {env : DEnv} {tp tp1 : List D} {items : List D} (h1 : mi env tp = .ok items tp1) (hl : items.length ≤ 1000000) (h : ∀ d ∈ items, c ((wipeE env vs).set i (some d)) tp1 = .ok false tp1) : compE mi vs t1 [i] c m env tp = .ok (.lst []) tp1 := by
  have := compE_filter (b := fun _ => false) (g := fun d => d) (m := m) h1 (small_line hl) h (fun _ _ q => nomatch q)
  rw [this]
  have : items.filter (fun _ => false) = [] := by simp
  rw [this]; rfl
theorem alike_int (n : Nat) (i : Int) (tp : List D) : m_law_alike (n + 1) [.int i, .int i] tp = .ok (.bl true) tp := by
  have e : eqD (.int i) (.int i) = some (.bl true) := by rw [eqD_int, decide_eq_true rfl]
  show retR (b_law_alike (m_law_alike n) [some (.int i), some (.int i), none] tp) = _
  unfold b_law_alike
  refine (congrArg retR (seqS_nx (ifS_f rfl))).trans ?_
  refine (congrArg retR (seqS_nx (ifS_f rfl))).trans ?_
  refine (congrArg retR (retS_ok ((andE_t rfl).trans ((andE_t rfl).trans (binE_ok rfl rfl e))))).trans ?_
  rfl
theorem alike_bl (n : Nat) (i : Bool) (tp : List D) : m_law_alike (n + 1) [.bl i, .bl i] tp = .ok (.bl true) tp := by
  cases i <;> rfl
theorem alike_str (n : Nat) (i : Str) (tp : List D) : m_law_alike (n + 1) [.str i, .str i] tp = .ok (.bl true) tp := by
  have e : eqD (.str i) (.str i) = some (.bl true) := by rw [eqD_str]; simp
  show retR (b_law_alike (m_law_alike n) [some (.str i), some (.str i), none] tp) = _
  unfold b_law_alike
  refine (congrArg retR (seqS_nx (ifS_f rfl))).trans ?_
  refine (congrArg retR (seqS_rt ((ifS_t rfl).trans (retS_ok ((andE_t (binE_ok rfl rfl e)).trans rfl))))).trans ?_
  rfl
theorem alike_seq {n : Nat} {d : D} {xs : List D} (hd : d = .tup xs ∨ d = .lst xs) (hl : xs.length ≤ 1000000) (tp : List D) (ih : ∀ x ∈ xs, m_law_alike n [x, x] tp = .ok (.bl true) tp) : m_law_alike (n + 1) [d, d] tp = .ok (.bl true) tp := by
  have el : lenD [d] = some (.int (xs.length : Int)) := by rcases hd with rfl | rfl <;> rfl
  have ec : compE (rangeI range1D (consA (callB lenD (consA (vE 1) (nilA))) (nilA))) [2] t1 [2] (notT (boolE (callE 2 (m_law_alike n) (consA (binE ixD (vE 0) (vE 2)) (consA (binE ixD (vE 1) (vE 2)) (nilA)))))) (vE 2) [some d, some d, none] tp = .ok (.lst []) tp := by
    refine compE_none (rangeI_ok (consA_ok (callB_ok (consA_ok rfl rfl) el) rfl) (range1_ok (by omega) (by omega))) (by rw [rangeL_len]; exact hl) fun x hx => ?_
    obtain ⟨j, rfl, hj⟩ := rangeL_mem hx
    have ex : ixD d (.int (j : Int)) = some xs[j] := by
      rcases hd with rfl | rfl
      · show atI xs (j : Int) = _
        rw [atI_nat', List.getElem?_eq_getElem hj]
      · show atI xs (j : Int) = _
        rw [atI_nat', List.getElem?_eq_getElem hj]
    exact notT_ok (boolE_ok (callE_ok (consA_ok (binE_ok rfl rfl ex) (consA_ok (binE_ok rfl rfl ex) rfl)) rfl (ih _ (List.getElem_mem hj))))
  have en : neD (.int (xs.length : Int)) (.int (xs.length : Int)) = some (.bl false) := by rw [neD_int]; simp
  show retR (b_law_alike (m_law_alike n) [some d, some d, none] tp) = _
  unfold b_law_alike
  refine (congrArg retR (seqS_rt (d := .bl true) (tp' := tp) ((ifS_t (tp' := tp) (by rcases hd with rfl | rfl <;> rfl)).trans ?_))).trans ?_
  · refine (seqS_nx (ifS_f (by rcases hd with rfl | rfl <;> rfl))).trans ?_
    refine (seqS_nx (ifS_f (boolE_ok (binE_ok (callB_ok (consA_ok rfl rfl) el) (callB_ok (consA_ok rfl rfl) el) en)))).trans ?_
    exact retS_ok (binE_ok ec (lstE_ok (ds := []) rfl (by decide)) rfl)
  · rfl
theorem alike_refl : ∀ (n : Nat) (d : D), Alk n d → ∀ tp, m_law_alike (n + 1) [d, d] tp = .ok (.bl true) tp
  | n, .non, _, tp => by
    cases n <;> rfl
  | n, .bl b, _, tp => alike_bl n b tp
  | n, .int b, _, tp => alike_int n b tp
  | n, .str b, _, tp => alike_str n b tp
  | n + 1, .tup xs, h, tp => alike_seq (.inl rfl) h.1 tp fun x hx => alike_refl n x (h.2 x hx) tp
  | n + 1, .lst xs, h, tp => alike_seq (.inr rfl) h.1 tp fun x hx => alike_refl n x (h.2 x hx) tp
  | 0, .tup _, h, _ => by cases h
  | 0, .lst _, h, _ => by cases h
  | _, .dic _, h, _ => by unfold Alk at h; exact h.elim
  | _, .dct _, h, _ => by unfold Alk at h; exact h.elim
  | _, .scr _, h, _ => by unfold Alk at h; exact h.elim
  | _, .tape, h, _ => by unfold Alk at h; exact h.elim
  | _, .fn _, h, _ => by unfold Alk at h; exact h.elim
  | _, .ty _, h, _ => by unfold Alk at h; exact h.elim
end W

set_option maxHeartbeats 1000000
namespace W
open PySem L2 G
theorem alk_pic {h w : Nat} {p : Pic} (k : PicOk h w p) (n : Nat) : Alk (n + 1) (picD p) := by
  refine ⟨by rw [List.length_map, k.len]; have := k.h30; omega, fun x hx => ?_⟩
  obtain ⟨r, _, rfl⟩ := List.mem_map.mp hx
  cases n <;> trivial
/-- two alike, as a test's value -/
theorem alike_e {ma mb : SE D} {env : DEnv} {tp tp1 tp2 : List D} {d : D} (h1 : ma env tp = .ok d tp1) (h2 : mb env tp1 = .ok d tp2) (a : Alk 5 d) : callE 2 (m_law_alike 6) (consA ma (consA mb (nilA))) env tp = .ok (.bl true) tp2 :=
  callE_ok (consA_ok h1 (consA_ok h2 rfl)) rfl (alike_refl 5 d a tp2)
end W

set_option maxHeartbeats 1000000
namespace W
open PySem L2 G T
/-! the draws, typed -/
/-- a picture by itself -/
structure PicP (p : Pic) : Prop where
  row : ∀ r ∈ p, r.length = p[0]!.length
  h1 : 1 ≤ p.length
  h30 : p.length ≤ 30
  w1 : 1 ≤ p[0]!.length
  w30 : p[0]!.length ≤ 30
theorem PicOk_pp {h w : Nat} {p : Pic} (k : PicOk h w p) : PicP p ∧ p.length = h ∧ p[0]!.length = w := by
  have h1 := k.h1
  have l := k.len
  have e : p[0]!.length = w := by
    rw [getElem!_pos p 0 (by omega)]
    exact k.row _ (List.getElem_mem _)
  exact ⟨⟨fun r hr => by rw [e]; exact k.row r hr, by omega, by have := k.h30; omega, by have := k.w1; omega, by have := k.w30; omega⟩, l, e⟩
theorem PicP.ok {p : Pic} (k : PicP p) : PicOk p.length p[0]!.length p := ⟨rfl, k.row, k.h1, k.h30, k.w1, k.w30⟩
abbrev P_law_taken (many : Nat) : Prop := 1 ≤ many ∧ many ≤ 1073741824
abbrev D_law_taken (many r : Nat) : Prop := r < many
theorem t_law_taken {many : Nat} {tp : List D} (ht : Tape tp) (hP : P_law_taken many) : ∃ (r : Nat) (tp' : List D), m_law_taken [.tape, eN many] tp = .ok (eN r) tp' ∧ Tape tp' ∧ D_law_taken many r :=
  taken_nat ht hP.1 hP.2
theorem perm_map {α : Type} {e : α → D} : ∀ {xs ys : List D}, xs.Perm ys → ∀ ls : List α, ys = ls.map e → ∃ ks : List α, xs = ks.map e ∧ ks.Perm ls := by
  intro xs ys h
  induction h with
  | nil => intro ls h; cases ls with
    | nil => exact ⟨[], rfl, .refl _⟩
    | cons a as => cases h
  | cons x h ih => intro ls h; cases ls with
    | nil => cases h
    | cons a as =>
      rw [List.map_cons] at h
      cases h
      obtain ⟨ks, rfl, p⟩ := ih as rfl
      exact ⟨a :: ks, rfl, p.cons a⟩
  | swap x y l => intro ls h; match ls, h with
    | [], h => cases h
    | [a], h => cases h
    | a :: b :: as, h =>
      rw [List.map_cons, List.map_cons] at h
      cases h
      exact ⟨b :: a :: as, rfl, .swap _ _ _⟩
  | trans h1 h2 ih1 ih2 =>
    intro ls h
    obtain ⟨ks, rfl, p⟩ := ih2 ls h
    obtain ⟨js, rfl, q⟩ := ih1 ks rfl
    exact ⟨js, rfl, q.trans p⟩
abbrev P_law_any (h w : Nat) : Prop := (1 ≤ h ∧ h ≤ 30) ∧ 1 ≤ w ∧ w ≤ 30
abbrev D_law_any (h w : Nat) (p : Pic) : Prop := PicP p ∧ p.length = h ∧ p[0]!.length = w
abbrev P_law_deeds (p : Pic) (most : Nat) : Prop := PicP p ∧ most ≤ 1000
abbrev D_law_deeds (p : Pic) (most : Nat) (r : List Nat) : Prop := r.length ≤ most ∧ ∀ l ∈ r, l < p.length + p[0]!.length
abbrev P_law_picture (most : Nat) : Prop := 1 ≤ most ∧ most ≤ 30
abbrev D_law_picture (most : Nat) (p : Pic) : Prop := PicP p ∧ p.length ≤ most ∧ p[0]!.length ≤ most
/-! alike -/
theorem alkN (n i : Nat) : Alk n (eN i) := by cases n <;> trivial
theorem alkZ (n : Nat) (i : Int) : Alk n (eZ i) := by cases n <;> trivial
theorem alkB (n : Nat) (i : Bool) : Alk n (eB i) := by cases n <;> trivial
theorem alkS (n : Nat) (i : Str) : Alk n (eS i) := by cases n <;> trivial
theorem alkR (n : Nat) (i : Row) : Alk n (eR i) := by cases n <;> trivial
theorem alkG (n : Nat) (i : Bool) : Alk n (eG i) := by cases n <;> trivial
theorem alkL {α : Type} {e : α → D} {n : Nat} {xs : List α} (h : xs.length ≤ 1000000) (k : ∀ x ∈ xs, Alk n (e x)) : Alk (n + 1) (eL e xs) :=
  ⟨by rw [List.length_map]; exact h, fun d hd => by obtain ⟨x, hx, rfl⟩ := List.mem_map.mp hd; exact k x hx⟩
theorem alkT {α : Type} {e : α → D} {n : Nat} {xs : List α} (h : xs.length ≤ 1000000) (k : ∀ x ∈ xs, Alk n (e x)) : Alk (n + 1) (eT e xs) :=
  ⟨by rw [List.length_map]; exact h, fun d hd => by obtain ⟨x, hx, rfl⟩ := List.mem_map.mp hd; exact k x hx⟩
theorem alkP {α β : Type} {e : α → D} {e1 : β → D} {n : Nat} {x : α × β} (h : Alk n (e x.1)) (k : Alk n (e1 x.2)) : Alk (n + 1) (eP e e1 x) :=
  ⟨by simp, fun d hd => by
    rcases List.mem_cons.mp hd with rfl | hd
    · exact h
    · have := List.mem_singleton.mp hd; subst this; exact k⟩
theorem alkNon (n : Nat) : Alk n .non := by cases n <;> trivial
theorem alkPic (n : Nat) {p : Pic} (h : p.length ≤ 1000000) : Alk (n + 1) (ePic p) := alkT h fun x _ => alkR n x
theorem ev_alike {α : Type} {e : α → D} {a b : α} {ma mb : SE D} {env : DEnv} {tp t1 t2 : List D} (h : a = b ∧ Alk 5 (e a)) (ha : ma env tp = .ok (e a) t1) (hb : mb env t1 = .ok (e b) t2) : callE 2 (m_law_alike 6) (consA ma (consA mb nilA)) env tp = .ok (eB true) t2 := by
  obtain ⟨rfl, k⟩ := h
  exact alike_e ha hb k
end W

set_option maxHeartbeats 1000000
namespace W
open PySem L2 G T
/-! plain facts: lists, pictures -/
theorem take_snoc {α : Type} {xs : List α} {k : Nat} {x : α} (h : xs[k]? = some x) : xs.take (k + 1) = xs.take k ++ [x] := by
  rw [List.take_succ, h]; rfl
theorem range_get {n k x : Nat} (h : (List.range n)[k]? = some x) : x = k ∧ k < n := by
  obtain ⟨h1, h2⟩ := List.getElem?_eq_some_iff.mp h
  rw [List.getElem_range] at h2
  rw [List.length_range] at h1
  exact ⟨h2.symm, h1⟩
theorem enumP_eq {α : Type} [Inhabited α] (xs : List α) : enumP xs = (List.range xs.length).map fun i => (i, xs[i]!) := by
  unfold enumP
  refine List.ext_getElem (by simp) fun i h1 h2 => ?_
  rw [List.getElem_mapIdx, List.getElem_map, List.getElem_range, getElem!_pos xs i (by simpa using h1)]
theorem map_eq_range {α β : Type} [Inhabited α] (f : α → β) (xs : List α) : xs.map f = (List.range xs.length).map fun i => f xs[i]! := by
  refine List.ext_getElem (by simp) fun i h1 h2 => ?_
  rw [List.getElem_map, List.getElem_map, List.getElem_range, getElem!_pos xs i (by simpa using h1)]
theorem mem_enumP {α : Type} [Inhabited α] {xs : List α} {x : Nat × α} (h : x ∈ enumP xs) : x.1 < xs.length ∧ x.2 = xs[x.1]! := by
  rw [enumP_eq] at h
  obtain ⟨i, hi, rfl⟩ := List.mem_map.mp h
  exact ⟨List.mem_range.mp hi, rfl⟩
theorem mem_get! {α : Type} [Inhabited α] {xs : List α} {i : Nat} (h : i < xs.length) : xs[i]! ∈ xs := by
  rw [getElem!_pos xs i h]; exact List.getElem_mem h
theorem flatMap_congr' {α β : Type} {xs : List α} {f g : α → List β} (h : ∀ x ∈ xs, f x = g x) : xs.flatMap f = xs.flatMap g := by
  induction xs with
  | nil => rfl
  | cons x xs ih => rw [List.flatMap_cons, List.flatMap_cons, h x List.mem_cons_self, ih fun y hy => h y (List.mem_cons_of_mem _ hy)]
theorem len_filter_le {α : Type} (f : α → Bool) (xs : List α) : (xs.filter f).length ≤ xs.length := List.length_filter_le f xs
theorem get!_map' {α β : Type} [Inhabited α] [Inhabited β] (f : α → β) {xs : List α} {i : Nat} (h : i < xs.length) : (xs.map f)[i]! = f xs[i]! := by
  rw [getElem!_pos (xs.map f) i (by simpa using h), List.getElem_map, getElem!_pos xs i h]
theorem get!_range {n i : Nat} (h : i < n) : (List.range n)[i]! = i := by
  rw [getElem!_pos (List.range n) i (by simpa using h), List.getElem_range]
theorem get!_cons_succ {α : Type} [Inhabited α] (x : α) (xs : List α) (i : Nat) : (x :: xs)[i + 1]! = xs[i]! := rfl
theorem get!_append_left {α : Type} [Inhabited α] {xs ys : List α} {i : Nat} (h : i < xs.length) : (xs ++ ys)[i]! = xs[i]! := by
  rw [getElem!_pos _ i (by rw [List.length_append]; omega), getElem!_pos xs i h, List.getElem_append_left h]
theorem get!_append_right {α : Type} [Inhabited α] {xs ys : List α} {i : Nat} (h : xs.length ≤ i) (h2 : i < xs.length + ys.length) : (xs ++ ys)[i]! = ys[i - xs.length]! := by
  rw [getElem!_pos _ i (by rw [List.length_append]; omega), getElem!_pos ys _ (by omega), List.getElem_append_right h]
theorem ext_get! {α : Type} [Inhabited α] {xs ys : List α} (hl : xs.length = ys.length) (h : ∀ i, i < xs.length → xs[i]! = ys[i]!) : xs = ys := by
  refine List.ext_getElem hl fun i h1 h2 => ?_
  have := h i h1
  rwa [getElem!_pos xs i h1, getElem!_pos ys i h2] at this
section
variable {p q : Pic}
theorem PicP.get (k : PicP p) {i : Nat} (h : i < p.length) : (p[i]!).length = p[0]!.length := k.row _ (mem_get! h)
theorem PicP.pos (k : PicP p) : 0 < p.length := k.h1
/-- the sides of a picture -/
structure Sides (h w : Nat) (p : Pic) : Prop where
  pp : PicP p
  hh : p.length = h
  ww : p[0]!.length = w
theorem PicP.sd (k : PicP p) : Sides p.length p[0]!.length p := ⟨k, rfl, rfl⟩
/-- two pictures of the same sides are the same if all cells are -/
theorem pic_ext (k : PicP p) (l : PicP q) (h : p.length = q.length) (w : p[0]!.length = q[0]!.length) (e : ∀ i j, i < p.length → j < p[0]!.length → (p[i]!)[j]! = (q[i]!)[j]!) : p = q := by
  refine ext_get! h fun i hi => ?_
  have a := k.get hi
  have b := l.get (i := i) (by omega)
  exact ext_get! (by omega) fun j hj => e i j hi (by omega)
/-- a picture told by its cells -/
def mkP (h w : Nat) (f : Nat → Nat → Bool) : Pic := (List.range h).map fun i => (List.range w).map fun j => f i j
theorem mkP_len (h w : Nat) (f : Nat → Nat → Bool) : (mkP h w f).length = h := by simp [mkP]
theorem mkP_row {h w : Nat} {f : Nat → Nat → Bool} {i : Nat} (hi : i < h) : (mkP h w f)[i]! = (List.range w).map fun j => f i j := by
  unfold mkP
  rw [get!_map' _ (by simpa using hi), get!_range hi]
theorem mkP_get {h w : Nat} {f : Nat → Nat → Bool} {i j : Nat} (hi : i < h) (hj : j < w) : ((mkP h w f)[i]!)[j]! = f i j := by
  rw [mkP_row hi, get!_map' _ (by simpa using hj), get!_range hj]
theorem mkP_wid {h w : Nat} {f : Nat → Nat → Bool} {i : Nat} (hi : i < h) : ((mkP h w f)[i]!).length = w := by rw [mkP_row hi]; simp
theorem mkP_pp {h w : Nat} {f : Nat → Nat → Bool} (h1 : 1 ≤ h) (h30 : h ≤ 30) (w1 : 1 ≤ w) (w30 : w ≤ 30) : PicP (mkP h w f) := by
  have e := mkP_wid (f := f) (w := w) (show 0 < h by omega)
  refine ⟨fun r hr => ?_, by rw [mkP_len]; exact h1, by rw [mkP_len]; exact h30, by rw [e]; exact w1, by rw [e]; exact w30⟩
  rw [e]
  obtain ⟨i, hi, rfl⟩ := List.mem_map.mp hr
  simp
theorem mkP_eta (k : PicP p) : mkP p.length p[0]!.length (fun i j => (p[i]!)[j]!) = p := by
  refine pic_ext (mkP_pp k.h1 k.h30 k.w1 k.w30) k (mkP_len _ _ _) (mkP_wid k.h1) fun i j hi hj => ?_
  rw [mkP_len] at hi
  rw [mkP_wid k.h1] at hj
  exact mkP_get hi hj
theorem eq_mkP (k : PicP p) {h w : Nat} {f : Nat → Nat → Bool} (hh : p.length = h) (ww : p[0]!.length = w) (e : ∀ i j, i < h → j < w → (p[i]!)[j]! = f i j) : p = mkP h w f := by
  subst hh ww
  refine pic_ext k (mkP_pp k.h1 k.h30 k.w1 k.w30) (mkP_len _ _ _).symm (mkP_wid k.h1).symm fun i j hi hj => ?_
  rw [mkP_get hi hj]; exact e i j hi hj
/-! a line painted -/
def lineQ (p : Pic) (l : Nat) : Pic := mkP p.length p[0]!.length fun i j => if l = i then true else if l = p.length + j then false else (p[i]!)[j]!
def linesQ (p : Pic) (ls : List Nat) : Pic := ls.foldl lineQ p
theorem lineQ_pp (k : PicP p) (l : Nat) : PicP (lineQ p l) := mkP_pp k.h1 k.h30 k.w1 k.w30
theorem lineQ_len (p : Pic) (l : Nat) : (lineQ p l).length = p.length := mkP_len _ _ _
theorem lineQ_wid (k : PicP p) (l : Nat) : (lineQ p l)[0]!.length = p[0]!.length := mkP_wid k.h1
theorem lineQ_get {l i j : Nat} (hi : i < p.length) (hj : j < p[0]!.length) : ((lineQ p l)[i]!)[j]! = if l = i then true else if l = p.length + j then false else (p[i]!)[j]! := mkP_get hi hj
theorem linesQ_pp (k : PicP p) (ls : List Nat) : PicP (linesQ p ls) ∧ (linesQ p ls).length = p.length ∧ (linesQ p ls)[0]!.length = p[0]!.length := by
  induction ls generalizing p with
  | nil => exact ⟨k, rfl, rfl⟩
  | cons l ls ih =>
    obtain ⟨a, b, c⟩ := ih (lineQ_pp k l)
    exact ⟨a, b.trans (lineQ_len p l), c.trans (lineQ_wid k l)⟩
theorem linesQ_snoc (p : Pic) (ls : List Nat) (l : Nat) : linesQ p (ls ++ [l]) = lineQ (linesQ p ls) l := by
  unfold linesQ; rw [List.foldl_append]; rfl
theorem linesQ_app (p : Pic) (ls ms : List Nat) : linesQ p (ls ++ ms) = linesQ (linesQ p ls) ms := by
  unfold linesQ; rw [List.foldl_append]
theorem alk5 (h : p.length ≤ 30) : Alk 5 (ePic p) := alkPic 4 (by omega)
end
end W

set_option maxHeartbeats 1000000
namespace W
open PySem L2 G T
/-! layers, plainly -/
/-- the rows that are full among the columns left, and the columns that are empty -/
def fullQ (p : Pic) (rs cs : List Nat) : List Nat := rs.filter fun i => decide (∀ j ∈ cs, (p[i]!)[j]! = true)
def empQ (p : Pic) (rs cs : List Nat) : List Nat := cs.filter fun j => decide (∀ i ∈ rs, (p[i]!)[j]! = false)
/-- what a turn does: layers found, rows left, columns left -/
def lstep (p : Pic) (s : List (List Nat) × List Nat × List Nat) : List (List Nat) × List Nat × List Nat :=
  if fullQ p s.2.1 s.2.2 ≠ [] then (s.1 ++ [fullQ p s.2.1 s.2.2], s.2.1.filter fun i => decide (i ∉ fullQ p s.2.1 s.2.2), s.2.2)
  else if empQ p s.2.1 s.2.2 ≠ [] then (s.1 ++ [(empQ p s.2.1 s.2.2).map fun j => p.length + j], s.2.1, s.2.2.filter fun j => decide (j ∉ empQ p s.2.1 s.2.2))
  else s
def liter (p : Pic) : Nat → List (List Nat) × List Nat × List Nat
  | 0 => ([], List.range p.length, List.range p[0]!.length)
  | n + 1 => lstep p (liter p n)
def layersQ (p : Pic) : List (List Nat) := (liter p (p.length + p[0]!.length)).1
def coreQ (p : Pic) : List Nat := (List.range (p.length + p[0]!.length)).filter fun l => decide (l ∉ (layersQ p).flatten)
theorem ones_full (p : Pic) (rs cs : List Nat) : (rs.filter fun i => decide (((cs.filter fun j => decide ((p[i]!)[j]! = false)).map fun _ => 1) = [])) = fullQ p rs cs := by
  unfold fullQ
  refine List.filter_congr fun i _ => decide_eq_decide.mpr ?_
  rw [List.map_eq_nil_iff, List.filter_eq_nil_iff]
  exact forall_congr' fun j => forall_congr' fun _ => by cases (p[i]!)[j]! <;> simp
theorem ones_emp (p : Pic) (rs cs : List Nat) : (cs.filter fun j => decide (((rs.filter fun i => decide ((p[i]!)[j]! = true)).map fun _ => 1) = [])) = empQ p rs cs := by
  unfold empQ
  refine List.filter_congr fun i _ => decide_eq_decide.mpr ?_
  rw [List.map_eq_nil_iff, List.filter_eq_nil_iff]
  exact forall_congr' fun j => forall_congr' fun _ => by cases (p[j]!)[i]! <;> simp
theorem liter_sub (p : Pic) : ∀ n, (liter p n).2.1.Sublist (List.range p.length) ∧ (liter p n).2.2.Sublist (List.range p[0]!.length) ∧ (liter p n).1.length ≤ n
  | 0 => ⟨.refl _, .refl _, Nat.le_refl _⟩
  | n + 1 => by
    obtain ⟨a, b, c⟩ := liter_sub p n
    unfold liter lstep
    split
    · exact ⟨(List.filter_sublist).trans a, b, by simp; omega⟩
    · split
      · exact ⟨a, (List.filter_sublist).trans b, by simp; omega⟩
      · exact ⟨a, b, by omega⟩
theorem sub_len {α : Type} {n : Nat} : ∀ {xs : List (List α)}, (∀ x ∈ xs, x.length ≤ n) → xs.flatten.length ≤ xs.length * n
  | [], _ => by simp
  | x :: xs, h => by
    rw [List.flatten_cons, List.length_append, List.length_cons, Nat.add_mul]
    have := h x List.mem_cons_self
    have := sub_len fun y hy => h y (List.mem_cons_of_mem _ hy)
    omega
theorem liter_row {p : Pic} {n i : Nat} (h : i ∈ (liter p n).2.1) : i < p.length := List.mem_range.mp ((liter_sub p n).1.subset h)
theorem liter_col {p : Pic} {n j : Nat} (h : j ∈ (liter p n).2.2) : j < p[0]!.length := List.mem_range.mp ((liter_sub p n).2.1.subset h)
/-- what a layer is -/
theorem liter_layer {p : Pic} : ∀ n, ∀ x ∈ (liter p n).1, x ≠ [] ∧ x.Pairwise (· < ·) ∧ ((∀ l ∈ x, l < p.length) ∨ ∀ l ∈ x, p.length ≤ l ∧ l < p.length + p[0]!.length)
  | 0, x, hx => by cases hx
  | n + 1, x, hx => by
    obtain ⟨s1, s2, s3⟩ := liter_sub p n
    unfold liter lstep at hx
    split at hx
    · rename_i ne
      rcases List.mem_append.mp hx with hx | hx
      · exact liter_layer n x hx
      · have := List.mem_singleton.mp hx
        subst this
        exact ⟨ne, (List.pairwise_lt_range.sublist s1).sublist List.filter_sublist, .inl fun l hl => liter_row (List.mem_filter.mp hl).1⟩
    · split at hx
      · rename_i ne
        rcases List.mem_append.mp hx with hx | hx
        · exact liter_layer n x hx
        · have := List.mem_singleton.mp hx
          subst this
          refine ⟨fun e => ne (List.map_eq_nil_iff.mp e), List.pairwise_map.mpr (((List.pairwise_lt_range.sublist s2).sublist List.filter_sublist).imp fun h => by omega), .inr fun l hl => ?_⟩
          obtain ⟨j, hj, rfl⟩ := List.mem_map.mp hl
          have := liter_col (List.mem_filter.mp hj).1
          omega
      · exact liter_layer n x hx
theorem liter_len {p : Pic} (k : PicP p) (n : Nat) : ∀ x ∈ (liter p n).1, x.length ≤ 30 := by
  induction n with
  | zero => intro x hx; cases hx
  | succ n ih =>
    intro x hx
    obtain ⟨s1, s2, s3⟩ := liter_sub p n
    have l1 := s1.length_le
    have l2 := s2.length_le
    rw [List.length_range] at l1 l2
    have := k.h30; have := k.w30
    unfold liter lstep at hx
    split at hx
    · rcases List.mem_append.mp hx with hx | hx
      · exact ih x hx
      · have := List.mem_singleton.mp hx
        subst this
        have : (fullQ p (liter p n).2.1 (liter p n).2.2).length ≤ (liter p n).2.1.length := len_filter_le _ _
        omega
    · split at hx
      · rcases List.mem_append.mp hx with hx | hx
        · exact ih x hx
        · have := List.mem_singleton.mp hx
          subst this
          rw [List.length_map]
          have : (empQ p (liter p n).2.1 (liter p n).2.2).length ≤ (liter p n).2.2.length := len_filter_le _ _
          omega
      · exact ih x hx
theorem layersQ_len {p : Pic} (k : PicP p) : (layersQ p).length ≤ 60 ∧ ∀ x ∈ layersQ p, x.length ≤ 30 := by
  have := k.h30; have := k.w30
  exact ⟨Nat.le_trans (liter_sub p _).2.2 (by omega), liter_len k _⟩
theorem layersQ_flat {p : Pic} (k : PicP p) : (layersQ p).flatten.length ≤ 1800 := by
  obtain ⟨a, b⟩ := layersQ_len k
  exact Nat.le_trans (sub_len b) (Nat.le_trans (Nat.mul_le_mul_right 30 a) (by omega))
theorem layersQ_layer {p : Pic} : ∀ x ∈ layersQ p, x ≠ [] ∧ x.Pairwise (· < ·) ∧ ((∀ l ∈ x, l < p.length) ∨ ∀ l ∈ x, p.length ≤ l ∧ l < p.length + p[0]!.length) := liter_layer _
theorem coreQ_lt {p : Pic} {l : Nat} (h : l ∈ coreQ p) : l < p.length + p[0]!.length := List.mem_range.mp (List.mem_filter.mp h).1
theorem coreQ_len {p : Pic} (k : PicP p) : (coreQ p).length ≤ 60 := by
  have := k.h30; have := k.w30
  have h := len_filter_le (fun l => decide (l ∉ (layersQ p).flatten)) (List.range (p.length + p[0]!.length))
  rw [List.length_range] at h
  unfold coreQ
  omega
/-! arrows -/
def leadsQ (p : Pic) (l : Nat) : List Nat := if l < p.length then ((List.range p[0]!.length).filter fun j => decide ((p[l]!)[j]! = false)).map fun j => p.length + j else (List.range p.length).filter fun i => decide ((p[i]!)[l - p.length]! = true)
/-- the lines left -/
def lv (p : Pic) (s : List (List Nat) × List Nat × List Nat) : List Nat := s.2.1 ++ s.2.2.map fun j => p.length + j
/-- the lines left without arrows to lines left -/
def freeQ (p : Pic) (s : List (List Nat) × List Nat × List Nat) : List Nat := (lv p s).filter fun l => decide (¬∃ o ∈ leadsQ p l, o ∈ lv p s)
theorem mem_lv {p : Pic} {s : List (List Nat) × List Nat × List Nat} (hr : ∀ i ∈ s.2.1, i < p.length) (l : Nat) : l ∈ lv p s ↔ (l < p.length ∧ l ∈ s.2.1) ∨ (p.length ≤ l ∧ l - p.length ∈ s.2.2) := by
  unfold lv
  rw [List.mem_append, List.mem_map]
  constructor
  · rintro (h | ⟨j, hj, rfl⟩)
    · exact .inl ⟨hr l h, h⟩
    · exact .inr ⟨by omega, by rw [Nat.add_sub_cancel_left]; exact hj⟩
  · rintro (⟨_, h⟩ | ⟨h1, h2⟩)
    · exact .inl h
    · exact .inr ⟨_, h2, by omega⟩
theorem freeQ_eq {p : Pic} {s : List (List Nat) × List Nat × List Nat} (hr : ∀ i ∈ s.2.1, i < p.length) (hc : ∀ j ∈ s.2.2, j < p[0]!.length) : freeQ p s = fullQ p s.2.1 s.2.2 ++ (empQ p s.2.1 s.2.2).map fun j => p.length + j := by
  unfold freeQ
  have e : lv p s = s.2.1 ++ s.2.2.map fun j => p.length + j := rfl
  conv => lhs; arg 2; rw [e]
  rw [List.filter_append]
  congr 1
  · unfold fullQ
    refine List.filter_congr fun i hi => decide_eq_decide.mpr ?_
    have hi' := hr i hi
    unfold leadsQ
    rw [if_pos hi']
    constructor
    · intro h j hj
      cases q : (p[i]!)[j]! with
      | true => rfl
      | false => exact (h ⟨p.length + j, List.mem_map.mpr ⟨j, List.mem_filter.mpr ⟨List.mem_range.mpr (hc j hj), decide_eq_true q⟩, rfl⟩, (mem_lv hr _).mpr (.inr ⟨by omega, by rw [Nat.add_sub_cancel_left]; exact hj⟩)⟩).elim
    · rintro h ⟨o, ho, hl⟩
      obtain ⟨j, hj, rfl⟩ := List.mem_map.mp ho
      have q := of_decide_eq_true (List.mem_filter.mp hj).2
      rcases (mem_lv hr _).mp hl with ⟨a, _⟩ | ⟨_, b⟩
      · omega
      · rw [Nat.add_sub_cancel_left] at b
        rw [h j b] at q; cases q
  · rw [List.filter_map]
    congr 1
    unfold empQ
    refine List.filter_congr fun j hj => decide_eq_decide.mpr ?_
    show (¬∃ o ∈ leadsQ p (p.length + j), o ∈ lv p s) ↔ _
    unfold leadsQ
    rw [if_neg (by omega), Nat.add_sub_cancel_left]
    constructor
    · intro h i hi
      cases q : (p[i]!)[j]! with
      | false => rfl
      | true => exact (h ⟨i, List.mem_filter.mpr ⟨List.mem_range.mpr (hr i hi), decide_eq_true q⟩, (mem_lv hr _).mpr (.inl ⟨hr i hi, hi⟩)⟩).elim
    · rintro h ⟨o, ho, hl⟩
      obtain ⟨a, b⟩ := List.mem_filter.mp ho
      have q := of_decide_eq_true b
      have a := List.mem_range.mp a
      rcases (mem_lv hr _).mp hl with ⟨_, y⟩ | ⟨y, _⟩
      · rw [h o y] at q; cases q
      · omega
/-- a full row and an empty column are not both there -/
theorem full_emp {p : Pic} {rs cs : List Nat} (h : fullQ p rs cs ≠ []) : empQ p rs cs = [] := by
  obtain ⟨i, hi⟩ := List.exists_mem_of_ne_nil _ h
  obtain ⟨i1, i2⟩ := List.mem_filter.mp hi
  have i2 := of_decide_eq_true i2
  refine List.filter_eq_nil_iff.mpr fun j hj q => ?_
  have q := of_decide_eq_true q i i1
  rw [i2 j hj] at q; cases q
/-- the turn by the free lines -/
theorem lstep_free {p : Pic} {s : List (List Nat) × List Nat × List Nat} (hr : ∀ i ∈ s.2.1, i < p.length) (hc : ∀ j ∈ s.2.2, j < p[0]!.length) (h : freeQ p s ≠ []) :
    (lstep p s).1 = s.1 ++ [freeQ p s] ∧ lv p (lstep p s) = (lv p s).filter fun l => decide (l ∉ freeQ p s) := by
  have e := freeQ_eq hr hc
  by_cases q : fullQ p s.2.1 s.2.2 ≠ []
  · have z := full_emp q
    rw [z, List.map_nil, List.append_nil] at e
    rw [e]
    unfold lstep
    rw [if_pos q]
    refine ⟨rfl, ?_⟩
    unfold lv
    rw [List.filter_append]
    congr 1
    refine (List.filter_eq_self.mpr fun l hl => ?_).symm
    obtain ⟨j, hj, rfl⟩ := List.mem_map.mp hl
    refine decide_eq_true fun y => ?_
    have := hr _ (List.mem_filter.mp y).1
    omega
  · have z : fullQ p s.2.1 s.2.2 = [] := Classical.not_not.mp q
    rw [z, List.nil_append] at e
    have q2 : empQ p s.2.1 s.2.2 ≠ [] := fun y => h (by rw [e, y]; rfl)
    rw [e]
    unfold lstep
    rw [if_neg q, if_pos q2]
    refine ⟨rfl, ?_⟩
    unfold lv
    rw [List.filter_append]
    have a : s.2.1.filter (fun l => decide (l ∉ (empQ p s.2.1 s.2.2).map fun j => p.length + j)) = s.2.1 := List.filter_eq_self.mpr fun l hl => by
      refine decide_eq_true fun y => ?_
      obtain ⟨j, _, rfl⟩ := List.mem_map.mp y
      have := hr _ hl
      omega
    rw [a]
    congr 1
    rw [List.filter_map]
    congr 1
    refine List.filter_congr fun j hj => decide_eq_decide.mpr ?_
    constructor
    · intro y y2
      obtain ⟨j', h1, h2⟩ := List.mem_map.mp y2
      have h2 : p.length + j' = p.length + j := h2
      have : j' = j := by omega
      exact y (this ▸ h1)
    · intro y y2
      exact y (List.mem_map.mpr ⟨j, y2, rfl⟩)
theorem lstep_stop {p : Pic} {s : List (List Nat) × List Nat × List Nat} (hr : ∀ i ∈ s.2.1, i < p.length) (hc : ∀ j ∈ s.2.2, j < p[0]!.length) (h : freeQ p s = []) : lstep p s = s := by
  have e := freeQ_eq hr hc
  rw [h] at e
  have e := (List.append_eq_nil_iff.mp e.symm)
  have e2 := List.map_eq_nil_iff.mp e.2
  unfold lstep
  rw [if_neg (by simp [e.1]), if_neg (by simp [e2])]
theorem liter_stop {p : Pic} {n : Nat} (h : freeQ p (liter p n) = []) : ∀ m, liter p (n + m) = liter p n
  | 0 => rfl
  | m + 1 => by
    show lstep p (liter p (n + m)) = _
    rw [liter_stop h m]
    exact lstep_stop (fun i hi => liter_row hi) (fun j hj => liter_col hj) h
end W

set_option maxHeartbeats 1000000
namespace W
open PySem L2 G T
/-! layers by their places -/
section
variable {q : Pic}
theorem lv_lt {n l : Nat} (h : l ∈ lv q (liter q n)) : l < q.length + q[0]!.length := by
  rcases (mem_lv (fun i hi => liter_row hi) l).mp h with ⟨a, _⟩ | ⟨_, b⟩
  · omega
  · have := liter_col b; omega
/-- what a turn adds -/
theorem liter_succ (n : Nat) : (freeQ q (liter q n) = [] ∧ liter q (n + 1) = liter q n) ∨ (freeQ q (liter q n) ≠ [] ∧ (liter q (n + 1)).1 = (liter q n).1 ++ [freeQ q (liter q n)] ∧ lv q (liter q (n + 1)) = (lv q (liter q n)).filter fun l => decide (l ∉ freeQ q (liter q n))) := by
  have hr : ∀ i ∈ (liter q n).2.1, i < q.length := fun i hi => liter_row hi
  have hc : ∀ j ∈ (liter q n).2.2, j < q[0]!.length := fun j hj => liter_col hj
  by_cases h : freeQ q (liter q n) = []
  · exact .inl ⟨h, lstep_stop hr hc h⟩
  · obtain ⟨a, b⟩ := lstep_free hr hc h
    exact .inr ⟨h, a, b⟩
/-- a line is left, or it is in a layer -/
theorem lv_flat : ∀ (n : Nat) (l : Nat), l < q.length + q[0]!.length → (l ∈ lv q (liter q n) ↔ l ∉ (liter q n).1.flatten)
  | 0, l, hl => by
    refine ⟨fun _ h => (by cases h), fun _ => ?_⟩
    refine (mem_lv (fun i hi => liter_row (n := 0) hi) l).mpr ?_
    by_cases h : l < q.length
    · exact .inl ⟨h, List.mem_range.mpr h⟩
    · exact .inr ⟨by omega, List.mem_range.mpr (by omega)⟩
  | n + 1, l, hl => by
    have ih := lv_flat n l hl
    rcases liter_succ (q := q) n with ⟨_, e⟩ | ⟨_, e1, e2⟩
    · rw [e]; exact ih
    · rw [e1, e2, List.mem_filter, decide_eq_true_iff, ih, List.flatten_append, List.mem_append]
      simp
theorem nodup_flat : ∀ n : Nat, (liter q n).1.flatten.Nodup ∧ (lv q (liter q n)).Nodup
  | 0 => by
    refine ⟨.nil, ?_⟩
    show (List.range q.length ++ (List.range q[0]!.length).map fun j => q.length + j).Nodup
    rw [← List.range_add]
    exact List.nodup_range
  | n + 1 => by
    obtain ⟨a, b⟩ := nodup_flat n
    rcases liter_succ (q := q) n with ⟨_, e⟩ | ⟨_, e1, e2⟩
    · rw [e]; exact ⟨a, b⟩
    · rw [e1, e2]
      refine ⟨?_, b.sublist List.filter_sublist⟩
      rw [List.flatten_append]
      refine List.nodup_append.mpr ⟨a, ?_, fun x hx y hy e => ?_⟩
      · simp only [List.flatten_cons, List.flatten_nil, List.append_nil]
        exact b.sublist List.filter_sublist
      · simp only [List.flatten_cons, List.flatten_nil, List.append_nil] at hy
        subst e
        have hy := (List.mem_filter.mp hy).1
        exact (lv_flat n x (lv_lt hy)).mp hy hx
theorem free_end : freeQ q (liter q (q.length + q[0]!.length)) = [] := by
  refine Classical.byContradiction fun h => ?_
  have all : ∀ n, n ≤ q.length + q[0]!.length → freeQ q (liter q n) ≠ [] := fun n hn e => by
    obtain ⟨m, hm⟩ : ∃ m, q.length + q[0]!.length = n + m := ⟨_, (Nat.add_sub_cancel' hn).symm⟩
    rw [hm, liter_stop e m] at h
    exact h e
  have len : ∀ n, n ≤ q.length + q[0]!.length → (lv q (liter q n)).length + n ≤ q.length + q[0]!.length := by
    intro n
    induction n with
    | zero =>
      intro _
      show (List.range q.length ++ (List.range q[0]!.length).map fun j => q.length + j).length + 0 ≤ _
      rw [← List.range_add, List.length_range]; exact Nat.le_refl _
    | succ n ih =>
      intro hn
      have ih := ih (by omega)
      have ne := all n (by omega)
      rcases liter_succ (q := q) n with ⟨e, _⟩ | ⟨_, _, e2⟩
      · exact (ne e).elim
      · rw [e2]
        obtain ⟨z, hz⟩ := List.exists_mem_of_ne_nil _ ne
        have hz2 : z ∈ lv q (liter q n) := (List.mem_filter.mp hz).1
        have : ((lv q (liter q n)).filter fun l => decide (l ∉ freeQ q (liter q n))).length < (lv q (liter q n)).length := by
          refine Nat.lt_of_le_of_ne (len_filter_le _ _) fun e => ?_
          have := List.length_filter_eq_length_iff.mp e z hz2
          exact of_decide_eq_true this hz
        omega
  have z := len _ (Nat.le_refl _)
  have : lv q (liter q (q.length + q[0]!.length)) = [] := List.eq_nil_of_length_eq_zero (by omega)
  unfold freeQ at h
  rw [this] at h
  exact h rfl
theorem core_lv (l : Nat) : l ∈ coreQ q ↔ l ∈ lv q (liter q (q.length + q[0]!.length)) := by
  unfold coreQ
  rw [List.mem_filter, List.mem_range, decide_eq_true_iff]
  constructor
  · rintro ⟨a, b⟩; exact (lv_flat _ l a).mpr b
  · intro h; exact ⟨lv_lt h, (lv_flat _ l (lv_lt h)).mp h⟩
/-- a line of the core leads to one -/
theorem core_leads {l : Nat} (h : l ∈ coreQ q) : ∃ o ∈ leadsQ q l, o ∈ coreQ q := by
  refine Classical.byContradiction fun z => ?_
  have hl := (core_lv l).mp h
  have : l ∈ freeQ q (liter q (q.length + q[0]!.length)) := by
    refine List.mem_filter.mpr ⟨hl, decide_eq_true ?_⟩
    rintro ⟨o, ho, h2⟩
    exact z ⟨o, ho, (core_lv o).mpr h2⟩
  rw [free_end] at this
  cases this
theorem layer_or_core {l : Nat} (h : l < q.length + q[0]!.length) : l ∈ coreQ q ∨ l ∈ (layersQ q).flatten := by
  by_cases z : l ∈ (layersQ q).flatten
  · exact .inr z
  · exact .inl ((core_lv l).mpr ((lv_flat _ l h).mpr z))
theorem mem_flat {l : Nat} {L : List (List Nat)} (h : l ∈ L.flatten) : ∃ k, k < L.length ∧ l ∈ L[k]! := by
  obtain ⟨s, h1, h2⟩ := List.mem_flatten.mp h
  obtain ⟨k, hk, e⟩ := List.getElem_of_mem h1
  exact ⟨k, hk, by rw [getElem!_pos L k hk, e]; exact h2⟩
theorem flat_mem {l k : Nat} {L : List (List Nat)} (hk : k < L.length) (h : l ∈ L[k]!) : l ∈ L.flatten := List.mem_flatten.mpr ⟨L[k]!, mem_get! hk, h⟩
/-- the colour of a line against one of the other kind that is in no layer up to its own -/
theorem liter_color : ∀ (n k : Nat), k < (liter q n).1.length →
    (∀ i ∈ (liter q n).1[k]!, i < q.length → ∀ j, j < q[0]!.length → (∀ m ≤ k, q.length + j ∉ (liter q n).1[m]!) → (q[i]!)[j]! = true) ∧
    (∀ j, q.length + j ∈ (liter q n).1[k]! → ∀ i, i < q.length → (∀ m ≤ k, i ∉ (liter q n).1[m]!) → (q[i]!)[j]! = false)
  | 0, k, hk => by cases hk
  | n + 1, k, hk => by
    rcases liter_succ (q := q) n with ⟨_, e⟩ | ⟨ne, e1, e2⟩
    · rw [e] at hk ⊢; exact liter_color n k hk
    · rw [e1] at hk ⊢
      rw [List.length_append, List.length_singleton] at hk
      by_cases hlt : k < (liter q n).1.length
      · obtain ⟨a, b⟩ := liter_color n k hlt
        have eq : ∀ m ≤ k, ((liter q n).1 ++ [freeQ q (liter q n)])[m]! = (liter q n).1[m]! := fun m hm => get!_append_left (by omega)
        rw [eq k (Nat.le_refl _)]
        exact ⟨fun i hi h1 j h2 hm => a i hi h1 j h2 fun m h => by rw [← eq m h]; exact hm m h, fun j hj i h1 hm => b j hj i h1 fun m h => by rw [← eq m h]; exact hm m h⟩
      · have ek : k = (liter q n).1.length := by omega
        have hr : ∀ i ∈ (liter q n).2.1, i < q.length := fun i hi => liter_row hi
        have hc : ∀ j ∈ (liter q n).2.2, j < q[0]!.length := fun j hj => liter_col hj
        have gk : ((liter q n).1 ++ [freeQ q (liter q n)])[k]! = freeQ q (liter q n) := by
          rw [get!_append_right (by omega) (by rw [List.length_singleton]; omega), ek, Nat.sub_self]; rfl
        rw [gk]
        -- a line in no list so far is left
        have left : ∀ o, o < q.length + q[0]!.length → (∀ m ≤ k, o ∉ ((liter q n).1 ++ [freeQ q (liter q n)])[m]!) → o ∈ lv q (liter q n) := fun o ho hm => by
          refine (lv_flat n o ho).mpr fun z => ?_
          obtain ⟨m, h1, h2⟩ := mem_flat z
          refine hm m (by omega) ?_
          rw [get!_append_left h1]; exact h2
        rw [freeQ_eq hr hc] at gk ⊢
        refine ⟨fun i hi h1 j h2 hm => ?_, fun j hj i h1 hm => ?_⟩
        · have hl := left (q.length + j) (by omega) (by rw [freeQ_eq hr hc]; exact hm)
          have hj : j ∈ (liter q n).2.2 := by
            rcases (mem_lv hr _).mp hl with ⟨y, _⟩ | ⟨_, y⟩
            · omega
            · rwa [Nat.add_sub_cancel_left] at y
          rcases List.mem_append.mp hi with hi | hi
          · exact of_decide_eq_true (List.mem_filter.mp hi).2 j hj
          · obtain ⟨j', _, rfl⟩ := List.mem_map.mp hi
            omega
        · have hl := left i (by omega) (by rw [freeQ_eq hr hc]; exact hm)
          have hi : i ∈ (liter q n).2.1 := by
            rcases (mem_lv hr _).mp hl with ⟨_, y⟩ | ⟨y, _⟩
            · exact y
            · omega
          rcases List.mem_append.mp hj with hj | hj
          · have := hr _ (List.mem_filter.mp hj).1
            omega
          · obtain ⟨j', h3, h4⟩ := List.mem_map.mp hj
            have h4 : q.length + j' = q.length + j := h4
            have : j' = j := by omega
            subst this
            exact of_decide_eq_true (List.mem_filter.mp h3).2 i hi
/-- layers go by turns: the lists of a kind that was told last are used up -/
theorem liter_turn : ∀ n : Nat, ((liter q n).1 ≠ [] → ((∀ l ∈ (liter q n).1[(liter q n).1.length - 1]!, l < q.length) → fullQ q (liter q n).2.1 (liter q n).2.2 = []) ∧ ((∀ l ∈ (liter q n).1[(liter q n).1.length - 1]!, q.length ≤ l) → empQ q (liter q n).2.1 (liter q n).2.2 = [])) ∧
    ∀ k, k + 1 < (liter q n).1.length → ((∀ l ∈ (liter q n).1[k]!, l < q.length) ∧ ∀ l ∈ (liter q n).1[k + 1]!, q.length ≤ l) ∨ ((∀ l ∈ (liter q n).1[k]!, q.length ≤ l) ∧ ∀ l ∈ (liter q n).1[k + 1]!, l < q.length)
  | 0 => ⟨fun h => (h rfl).elim, fun k hk => by simp [liter] at hk⟩
  | n + 1 => by
    obtain ⟨a, b⟩ := liter_turn n
    have hr : ∀ i ∈ (liter q n).2.1, i < q.length := fun i hi => liter_row hi
    by_cases f : fullQ q (liter q n).2.1 (liter q n).2.2 ≠ []
    · have e : liter q (n + 1) = ((liter q n).1 ++ [fullQ q (liter q n).2.1 (liter q n).2.2], (liter q n).2.1.filter fun i => decide (i ∉ fullQ q (liter q n).2.1 (liter q n).2.2), (liter q n).2.2) := by
        show lstep q (liter q n) = _
        unfold lstep; rw [if_pos f]
      rw [e]
      have g : ((liter q n).1 ++ [fullQ q (liter q n).2.1 (liter q n).2.2])[(liter q n).1.length]! = fullQ q (liter q n).2.1 (liter q n).2.2 := by
        rw [get!_append_right (Nat.le_refl _) (by rw [List.length_singleton]; omega), Nat.sub_self]; rfl
      have rows : ∀ l ∈ fullQ q (liter q n).2.1 (liter q n).2.2, l < q.length := fun l hl => hr l (List.mem_filter.mp hl).1
      refine ⟨fun _ => ⟨fun _ => ?_, fun h => ?_⟩, fun k hk => ?_⟩
      · refine List.filter_eq_nil_iff.mpr fun i hi z => ?_
        obtain ⟨h1, h2⟩ := List.mem_filter.mp hi
        exact of_decide_eq_true h2 (List.mem_filter.mpr ⟨h1, z⟩)
      · simp only [List.length_append, List.length_singleton, Nat.add_sub_cancel] at h
        rw [g] at h
        obtain ⟨z, hz⟩ := List.exists_mem_of_ne_nil _ f
        have := h z hz; have := rows z hz; omega
      · simp only [List.length_append, List.length_singleton] at hk
        by_cases hlt : k + 1 < (liter q n).1.length
        · rw [get!_append_left (by omega), get!_append_left hlt]; exact b k hlt
        · have ek : k + 1 = (liter q n).1.length := by omega
          have kk : k = (liter q n).1.length - 1 := by omega
          have ne : (liter q n).1 ≠ [] := fun z => by rw [z] at ek; simp at ek
          rw [ek, g, get!_append_left (by omega), kk]
          refine .inr ⟨?_, rows⟩
          have hm := mem_get! (xs := (liter q n).1) (i := (liter q n).1.length - 1) (by omega)
          rcases (liter_layer n _ hm).2.2 with h | h
          · exact (f ((a ne).1 h)).elim
          · exact fun l hl => (h l hl).1
    · have f0 : fullQ q (liter q n).2.1 (liter q n).2.2 = [] := Classical.not_not.mp f
      by_cases m : empQ q (liter q n).2.1 (liter q n).2.2 ≠ []
      · have e : liter q (n + 1) = ((liter q n).1 ++ [(empQ q (liter q n).2.1 (liter q n).2.2).map fun j => q.length + j], (liter q n).2.1, (liter q n).2.2.filter fun j => decide (j ∉ empQ q (liter q n).2.1 (liter q n).2.2)) := by
          show lstep q (liter q n) = _
          unfold lstep; rw [if_neg f, if_pos m]
        rw [e]
        have g : ((liter q n).1 ++ [(empQ q (liter q n).2.1 (liter q n).2.2).map fun j => q.length + j])[(liter q n).1.length]! = (empQ q (liter q n).2.1 (liter q n).2.2).map fun j => q.length + j := by
          rw [get!_append_right (Nat.le_refl _) (by rw [List.length_singleton]; omega), Nat.sub_self]; rfl
        have cols : ∀ l ∈ (empQ q (liter q n).2.1 (liter q n).2.2).map (fun j => q.length + j), q.length ≤ l := fun l hl => by
          obtain ⟨j, _, rfl⟩ := List.mem_map.mp hl; omega
        have mne : (empQ q (liter q n).2.1 (liter q n).2.2).map (fun j => q.length + j) ≠ [] := fun z => m (List.map_eq_nil_iff.mp z)
        refine ⟨fun _ => ⟨fun h => ?_, fun _ => ?_⟩, fun k hk => ?_⟩
        · simp only [List.length_append, List.length_singleton, Nat.add_sub_cancel] at h
          rw [g] at h
          obtain ⟨z, hz⟩ := List.exists_mem_of_ne_nil _ mne
          have := h z hz; have := cols z hz; omega
        · refine List.filter_eq_nil_iff.mpr fun i hi z => ?_
          obtain ⟨h1, h2⟩ := List.mem_filter.mp hi
          exact of_decide_eq_true h2 (List.mem_filter.mpr ⟨h1, z⟩)
        · simp only [List.length_append, List.length_singleton] at hk
          by_cases hlt : k + 1 < (liter q n).1.length
          · rw [get!_append_left (by omega), get!_append_left hlt]; exact b k hlt
          · have ek : k + 1 = (liter q n).1.length := by omega
            have kk : k = (liter q n).1.length - 1 := by omega
            have ne : (liter q n).1 ≠ [] := fun z => by rw [z] at ek; simp at ek
            rw [ek, g, get!_append_left (by omega), kk]
            refine .inl ⟨?_, cols⟩
            have hm := mem_get! (xs := (liter q n).1) (i := (liter q n).1.length - 1) (by omega)
            rcases (liter_layer n _ hm).2.2 with h | h
            · exact h
            · exact (m ((a ne).2 fun l hl => (h l hl).1)).elim
      · have e : liter q (n + 1) = liter q n := by
          show lstep q (liter q n) = _
          unfold lstep; rw [if_neg f, if_neg m]
        rw [e]; exact ⟨a, b⟩
theorem color_row {i j k : Nat} (hk : k < (layersQ q).length) (hi : i ∈ (layersQ q)[k]!) (h1 : i < q.length) (h2 : j < q[0]!.length) (hm : ∀ m ≤ k, q.length + j ∉ (layersQ q)[m]!) : (q[i]!)[j]! = true := (liter_color _ k hk).1 i hi h1 j h2 hm
theorem color_col {i j k : Nat} (hk : k < (layersQ q).length) (hj : q.length + j ∈ (layersQ q)[k]!) (h1 : i < q.length) (hm : ∀ m ≤ k, i ∉ (layersQ q)[m]!) : (q[i]!)[j]! = false := (liter_color _ k hk).2 j hj i h1 hm
theorem layers_turn {k : Nat} (hk : k + 1 < (layersQ q).length) : ((∀ l ∈ (layersQ q)[k]!, l < q.length) ∧ ∀ l ∈ (layersQ q)[k + 1]!, q.length ≤ l) ∨ ((∀ l ∈ (layersQ q)[k]!, q.length ≤ l) ∧ ∀ l ∈ (layersQ q)[k + 1]!, l < q.length) := (liter_turn _).2 k hk
theorem layers_nodup : (layersQ q).flatten.Nodup := (nodup_flat _).1
theorem layers_lt {l : Nat} (h : l ∈ (layersQ q).flatten) : l < q.length + q[0]!.length := by
  obtain ⟨s, h1, h2⟩ := List.mem_flatten.mp h
  rcases (layersQ_layer s h1).2.2 with z | z
  · have := z l h2; omega
  · exact (z l h2).2
theorem nodup_idx {L : List (List Nat)} (h : L.flatten.Nodup) {a b l : Nat} (ha : a < L.length) (hb : b < L.length) (h1 : l ∈ L[a]!) (h2 : l ∈ L[b]!) : a = b := by
  induction L generalizing a b with
  | nil => cases ha
  | cons s L ih =>
    rw [List.flatten_cons] at h
    obtain ⟨n1, n2, n3⟩ := List.nodup_append.mp h
    cases a with
    | zero =>
      cases b with
      | zero => rfl
      | succ b => exact (n3 l h1 l (flat_mem (by simpa using hb) h2) rfl).elim
    | succ a =>
      cases b with
      | zero => exact (n3 l h2 l (flat_mem (by simpa using ha) h1) rfl).elim
      | succ b => rw [ih n2 (by simpa using ha) (by simpa using hb) h1 h2]
end
end W

set_option maxHeartbeats 1000000
namespace W
open PySem L2 G T
/-! what comes from what, plainly -/
/-- the last deed that meets a cell: its colour -/
def hit (h i j : Nat) : List Nat → Option Bool
  | [] => none
  | l :: ls => (hit h i j ls).or (if l = i then some true else if l = h + j then some false else none)
theorem hit_cons (h i j l : Nat) (ls : List Nat) : hit h i j (l :: ls) = (hit h i j ls).or (if l = i then some true else if l = h + j then some false else none) := rfl
theorem hit_app (h i j : Nat) (a b : List Nat) : hit h i j (a ++ b) = (hit h i j b).or (hit h i j a) := by
  induction a with
  | nil => simp [hit]
  | cons l a ih =>
    rw [List.cons_append, hit_cons, hit_cons, ih, Option.or_assoc]
theorem hit_none {h i j : Nat} : ∀ {ls : List Nat}, i ∉ ls → h + j ∉ ls → hit h i j ls = none
  | [], _, _ => rfl
  | l :: ls, h1, h2 => by
    rw [hit_cons]
    rw [hit_none (fun z => h1 (List.mem_cons_of_mem _ z)) (fun z => h2 (List.mem_cons_of_mem _ z)), if_neg (fun e => h1 (by rw [e]; exact List.mem_cons_self)), if_neg (fun e => h2 (by rw [e]; exact List.mem_cons_self))]; rfl
theorem hit_true {h i j : Nat} : ∀ {ls : List Nat}, hit h i j ls = some true → i ∈ ls
  | l :: ls, e => by
    rw [hit_cons] at e
    cases q : hit h i j ls with
    | some b =>
      rw [q] at e
      have e : some b = some true := e
      exact List.mem_cons_of_mem _ (hit_true (q.trans e))
    | none =>
      rw [q] at e
      have e : (if l = i then some true else if l = h + j then some false else none) = some true := e
      split at e
      · rename_i z; rw [z]; exact List.mem_cons_self
      · split at e <;> cases e
theorem hit_false {h i j : Nat} : ∀ {ls : List Nat}, hit h i j ls = some false → h + j ∈ ls
  | l :: ls, e => by
    rw [hit_cons] at e
    cases q : hit h i j ls with
    | some b =>
      rw [q] at e
      have e : some b = some false := e
      exact List.mem_cons_of_mem _ (hit_false (q.trans e))
    | none =>
      rw [q] at e
      have e : (if l = i then some true else if l = h + j then some false else none) = some false := e
      split at e
      · cases e
      · split at e
        · rename_i z; rw [← z]; exact List.mem_cons_self
        · cases e
theorem hit_some {h i j : Nat} : ∀ {ls : List Nat}, (i ∈ ls ∨ h + j ∈ ls) → ∃ b, hit h i j ls = some b
  | [], e => by simp at e
  | l :: ls, e => by
    rw [hit_cons]
    cases q : hit h i j ls with
    | some b => exact ⟨b, rfl⟩
    | none =>
      by_cases z : l = i
      · rw [if_pos z]; exact ⟨true, rfl⟩
      · rw [if_neg z]
        by_cases y : l = h + j
        · rw [if_pos y]; exact ⟨false, rfl⟩
        · have : i ∈ ls ∨ h + j ∈ ls := e.imp (fun e => (List.mem_cons.mp e).resolve_left fun x => z x.symm) (fun e => (List.mem_cons.mp e).resolve_left fun x => y x.symm)
          obtain ⟨b, hb⟩ := hit_some (ls := ls) this
          rw [hb] at q; cases q
section
variable {p q : Pic}
theorem linesQ_get (k : PicP p) {i j : Nat} (hi : i < p.length) (hj : j < p[0]!.length) (ls : List Nat) : ((linesQ p ls)[i]!)[j]! = (hit p.length i j ls).getD ((p[i]!)[j]!) := by
  induction ls generalizing p with
  | nil => rfl
  | cons l ls ih =>
    have e := ih (p := lineQ p l) (lineQ_pp k l) (by rw [lineQ_len]; exact hi) (by rw [lineQ_wid k]; exact hj)
    show ((linesQ (lineQ p l) ls)[i]!)[j]! = _
    rw [e, lineQ_len, lineQ_get hi hj]
    rw [hit_cons]
    cases hit p.length i j ls with
    | some b => rfl
    | none =>
      show (if l = i then true else if l = p.length + j then false else (p[i]!)[j]!) = _
      by_cases z : l = i
      · rw [if_pos z, if_pos z]; rfl
      · rw [if_neg z, if_neg z]
        by_cases y : l = p.length + j
        · rw [if_pos y, if_pos y]; rfl
        · rw [if_neg y, if_neg y]; rfl
/-- the cells where two pictures differ, row by row -/
def diffQ (p q : Pic) : List (Nat × Nat) := (List.range p.length).flatMap fun i => ((List.range p[0]!.length).filter fun j => decide ((p[i]!)[j]! ≠ (q[i]!)[j]!)).map fun j => (i, j)
/-- both pictures are on one board -/
structure Like (p q : Pic) : Prop where
  pp : PicP p
  qq : PicP q
  hh : p.length = q.length
  ww : p[0]!.length = q[0]!.length
theorem mem_diff {c : Nat × Nat} : c ∈ diffQ p q ↔ c.1 < p.length ∧ c.2 < p[0]!.length ∧ (p[c.1]!)[c.2]! ≠ (q[c.1]!)[c.2]! := by
  unfold diffQ
  rw [List.mem_flatMap]
  constructor
  · rintro ⟨i, hi, h⟩
    obtain ⟨j, hj, rfl⟩ := List.mem_map.mp h
    obtain ⟨a, b⟩ := List.mem_filter.mp hj
    exact ⟨List.mem_range.mp hi, List.mem_range.mp a, of_decide_eq_true b⟩
  · rintro ⟨a, b, c'⟩
    exact ⟨c.1, List.mem_range.mpr a, List.mem_map.mpr ⟨c.2, List.mem_filter.mpr ⟨List.mem_range.mpr b, decide_eq_true c'⟩, rfl⟩⟩
/-- a cell lies in one of some lines -/
abbrev Touch (h : Nat) (c : Nat × Nat) (s : List Nat) : Prop := c.1 ∈ s ∨ h + c.2 ∈ s
def leastL (h : Nat) : List (List Nat) → List (Nat × Nat) → Option (List (List Nat))
  | [], left => if left = [] then some [] else none
  | s :: ls, left => if left = [] then some [] else
    if left.filter (fun c => decide (¬Touch h c s)) = [] then some [s.filter fun l => decide (∃ c ∈ left, l = c.1 ∨ l = h + c.2)]
    else (leastL h ls (left.filter fun c => decide (¬Touch h c s))).map (s :: ·)
def leastQ (p q : Pic) : Option (List (List Nat)) := leastL p.length (layersQ q) (diffQ p q)
/-- the cells of difference in no layer ahead of the n-th -/
def leftQ (p q : Pic) (n : Nat) : List (Nat × Nat) := (diffQ p q).filter fun c => decide (∀ m < n, ¬Touch p.length c (layersQ q)[m]!)
theorem leftQ_zero (p q : Pic) : leftQ p q 0 = diffQ p q := List.filter_eq_self.mpr fun c _ => decide_eq_true fun m hm => by omega
theorem leftQ_succ (p q : Pic) (n : Nat) : (leftQ p q n).filter (fun c => decide (¬Touch p.length c (layersQ q)[n]!)) = leftQ p q (n + 1) := by
  unfold leftQ
  rw [List.filter_filter]
  refine List.filter_congr fun c _ => ?_
  rw [← Bool.decide_and]
  refine decide_eq_decide.mpr ⟨fun ⟨a, b⟩ m hm => ?_, fun a => ⟨a n (by omega), fun m hm => a m (by omega)⟩⟩
  by_cases e : m = n
  · rw [e]; exact a
  · exact b m (by omega)
theorem drop_cons {α : Type} [Inhabited α] {L : List α} {n : Nat} {s : α} {ls : List α} (h : L.drop n = s :: ls) : n < L.length ∧ s = L[n]! ∧ ls = L.drop (n + 1) := by
  have hn : n < L.length := by
    refine Classical.byContradiction fun z => ?_
    rw [List.drop_of_length_le (by omega)] at h; cases h
  rw [List.drop_eq_getElem_cons hn] at h
  injection h with h1 h2
  exact ⟨hn, by rw [getElem!_pos L n hn, h1], h2.symm⟩
theorem drop_nil {α : Type} {L : List α} {n : Nat} (h : L.drop n = []) : L.length ≤ n := by
  have := congrArg List.length h
  rw [List.length_drop] at this
  simp at this; omega
/-- the least set, told from the n-th layer on, makes the goal at the cells in no layer ahead of it -/
theorem least_makes (k : Like p q) : ∀ (ls : List (List Nat)) (n : Nat) (told : List (List Nat)), (layersQ q).drop n = ls → leastL p.length ls (leftQ p q n) = some told →
    ∀ i j, i < p.length → j < p[0]!.length → (∀ m < n, ¬Touch p.length (i, j) (layersQ q)[m]!) → (hit p.length i j told.reverse.flatten).getD ((p[i]!)[j]!) = (q[i]!)[j]! := by
  have same : ∀ n i j, leftQ p q n = [] → i < p.length → j < p[0]!.length → (∀ m < n, ¬Touch p.length (i, j) (layersQ q)[m]!) → (p[i]!)[j]! = (q[i]!)[j]! := fun n i j e hi hj hm => by
    refine Classical.byContradiction fun z => ?_
    have : (i, j) ∈ leftQ p q n := List.mem_filter.mpr ⟨mem_diff.mpr ⟨hi, hj, z⟩, decide_eq_true hm⟩
    rw [e] at this; cases this
  intro ls
  induction ls with
  | nil =>
    intro n told hd he i j hi hj hm
    unfold leastL at he
    split at he
    · rename_i e
      cases he
      exact same n i j e hi hj hm
    · cases he
  | cons s ls ih =>
    intro n told hd he i j hi hj hm
    obtain ⟨hn, es, el⟩ := drop_cons hd
    subst es
    unfold leastL at he
    split at he
    · rename_i e
      cases he
      exact same n i j e hi hj hm
    · rename_i ne
      rw [leftQ_succ] at he
      -- the layer's own colour
      have row : i ∈ (layersQ q)[n]! → (q[i]!)[j]! = true := fun h => by
        refine color_row hn h (by rw [← k.hh]; exact hi) (by rw [← k.ww]; exact hj) fun m hmn z => ?_
        rw [← k.hh] at z
        by_cases e : m = n
        · subst e
          rcases (layersQ_layer _ (mem_get! hn)).2.2 with y | y
          · have := y _ z; rw [← k.hh] at this; omega
          · have := (y _ h).1; rw [← k.hh] at this; omega
        · exact hm m (by omega) (.inr z)
      have col : p.length + j ∈ (layersQ q)[n]! → (q[i]!)[j]! = false := fun h => by
        rw [k.hh] at h
        refine color_col hn h (by rw [← k.hh]; exact hi) fun m hmn z => ?_
        by_cases e : m = n
        · subst e
          rcases (layersQ_layer _ (mem_get! hn)).2.2 with y | y
          · have := y _ h; omega
          · have := (y _ z).1; rw [← k.hh] at this; omega
        · exact hm m (by omega) (.inl z)
      -- what a list of lines of the layer does
      have one : ∀ s', (∀ l ∈ s', l ∈ (layersQ q)[n]!) → (i ∈ s' ∨ p.length + j ∈ s') → hit p.length i j s' = some ((q[i]!)[j]!) := fun s' hs' h => by
        obtain ⟨b, hb⟩ := hit_some h
        rw [hb]
        cases b with
        | true => rw [row (hs' _ (hit_true hb))]
        | false => rw [col (hs' _ (hit_false hb))]
      split at he
      · rename_i e
        cases he
        simp only [List.reverse_cons, List.reverse_nil, List.nil_append, List.flatten_cons, List.flatten_nil, List.append_nil]
        by_cases t : i ∈ ((layersQ q)[n]!).filter (fun l => decide (∃ c ∈ leftQ p q n, l = c.1 ∨ l = p.length + c.2)) ∨ p.length + j ∈ ((layersQ q)[n]!).filter (fun l => decide (∃ c ∈ leftQ p q n, l = c.1 ∨ l = p.length + c.2))
        · rw [one _ (fun l hl => (List.mem_filter.mp hl).1) t]; rfl
        · rw [hit_none (fun z => t (.inl z)) (fun z => t (.inr z))]
          show (p[i]!)[j]! = _
          refine Classical.byContradiction fun z => ?_
          have hc : (i, j) ∈ leftQ p q n := List.mem_filter.mpr ⟨mem_diff.mpr ⟨hi, hj, z⟩, decide_eq_true hm⟩
          by_cases u : Touch p.length (i, j) (layersQ q)[n]!
          · rcases u with u | u
            · exact t (.inl (List.mem_filter.mpr ⟨u, decide_eq_true ⟨_, hc, .inl rfl⟩⟩))
            · exact t (.inr (List.mem_filter.mpr ⟨u, decide_eq_true ⟨_, hc, .inr rfl⟩⟩))
          · have : (i, j) ∈ leftQ p q (n + 1) := by rw [← leftQ_succ]; exact List.mem_filter.mpr ⟨hc, decide_eq_true u⟩
            rw [e] at this; cases this
      · obtain ⟨told', ht, rfl⟩ := Option.map_eq_some_iff.mp he
        rw [List.reverse_cons, List.flatten_append, hit_app]
        simp only [List.flatten_cons, List.flatten_nil, List.append_nil]
        by_cases t : i ∈ (layersQ q)[n]! ∨ p.length + j ∈ (layersQ q)[n]!
        · rw [one _ (fun l hl => hl) t]; rfl
        · rw [hit_none (fun z => t (.inl z)) (fun z => t (.inr z)), Option.none_or]
          refine ih (n + 1) told' el.symm ht i j hi hj fun m hmn => ?_
          by_cases e : m = n
          · rw [e]; exact t
          · exact hm m (by omega)
theorem Like.sd (k : Like p q) (ls : List Nat) : Like (linesQ p ls) q := by
  obtain ⟨a, b, c⟩ := linesQ_pp k.pp ls
  exact ⟨a, k.qq, by rw [b, k.hh], by rw [c, k.ww]⟩
/-- painting the least set, the last layers first, makes the goal -/
theorem least_way (k : Like p q) {told : List (List Nat)} (h : leastQ p q = some told) : linesQ p told.reverse.flatten = q := by
  have s := k.sd told.reverse.flatten
  obtain ⟨a, b, c⟩ := linesQ_pp k.pp told.reverse.flatten
  refine pic_ext s.pp s.qq s.hh s.ww fun i j hi hj => ?_
  rw [b] at hi
  rw [c] at hj
  rw [linesQ_get k.pp hi hj]
  refine least_makes k (layersQ q) 0 told rfl ?_ i j hi hj fun m hm => by omega
  rw [leftQ_zero]; exact h
/-! deeds that make the goal -/
theorem made_closed (k : Like p q) {ds : List Nat} (h : linesQ p ds = q) {i j : Nat} (hi : i < p.length) (hj : j < p[0]!.length) :
    (i ∈ ds → (q[i]!)[j]! = false → p.length + j ∈ ds) ∧ (p.length + j ∈ ds → (q[i]!)[j]! = true → i ∈ ds) ∧ ((p[i]!)[j]! ≠ (q[i]!)[j]! → ((q[i]!)[j]! = true → i ∈ ds) ∧ ((q[i]!)[j]! = false → p.length + j ∈ ds)) := by
  have e : (q[i]!)[j]! = (hit p.length i j ds).getD ((p[i]!)[j]!) := by rw [← linesQ_get k.pp hi hj, h]
  refine ⟨fun a b => ?_, fun a b => ?_, fun ne => ?_⟩
  · obtain ⟨c, hc⟩ := hit_some (h := p.length) (j := j) (.inl a)
    rw [hc] at e
    have e : (q[i]!)[j]! = c := e
    rw [b] at e; subst e
    exact hit_false hc
  · obtain ⟨c, hc⟩ := hit_some (h := p.length) (i := i) (j := j) (.inr a)
    rw [hc] at e
    have e : (q[i]!)[j]! = c := e
    rw [b] at e; subst e
    exact hit_true hc
  · cases hc : hit p.length i j ds with
    | none => rw [hc] at e; exact (ne e.symm).elim
    | some c =>
      rw [hc] at e
      have e : (q[i]!)[j]! = c := e
      rw [e]
      exact ⟨fun y => by subst y; exact hit_true hc, fun y => by subst y; exact hit_false hc⟩
/-- no line that is painted is in the core of what it makes -/
theorem made_core (k : Like p q) {ds : List Nat} (h : linesQ p ds = q) {l : Nat} (hl : l ∈ ds) : l ∉ coreQ q := by
  -- the last line of the core that is painted
  have key : ∀ (b a : List Nat), ds = a ++ b → (∀ x ∈ b, x ∉ coreQ q) → ∀ x ∈ a, x ∉ coreQ q := by
    intro b a
    induction hn : a.length generalizing a b with
    | zero => intro _ _ x hx; rw [List.length_eq_zero_iff.mp hn] at hx; cases hx
    | succ n ih =>
      rcases List.eq_nil_or_concat a with ea | ⟨a', x, ea⟩
      · rw [ea] at hn; cases hn
      rw [List.concat_eq_append] at ea
      subst ea
      have hn' : a'.length = n := by simp at hn; exact hn
      generalize a' = a at hn' ⊢
      have ih := fun b => ih b a hn'
      intro e hb y hy
      have hx : x ∉ coreQ q := fun hx => by
        obtain ⟨o, ho, hoc⟩ := core_leads hx
        have e2 : ds = a ++ ([x] ++ b) := by rw [e, List.append_assoc]
        have xl := coreQ_lt hx
        unfold leadsQ at ho
        split at ho
        · rename_i lt
          obtain ⟨j, hj, rfl⟩ := List.mem_map.mp ho
          obtain ⟨j1, j2⟩ := List.mem_filter.mp hj
          have j1 := List.mem_range.mp j1
          have j2 := of_decide_eq_true j2
          have c := linesQ_get k.pp (i := x) (j := j) (by rw [k.hh]; exact lt) (by rw [k.ww]; exact j1) ds
          rw [h, j2, e2, hit_app, hit_app, hit_none (fun z => hb _ z hx) (fun z => hb _ z (by rw [k.hh]; exact hoc))] at c
          have c2 : hit p.length x j [x] = some true := by rw [hit_cons, if_pos rfl]; rfl
          rw [c2] at c
          have c : false = true := c
          cases c
        · rename_i nlt
          obtain ⟨j1, j2⟩ := List.mem_filter.mp ho
          have j1 := List.mem_range.mp j1
          have j2 := of_decide_eq_true j2
          have c := linesQ_get k.pp (i := o) (j := x - q.length) (by rw [k.hh]; exact j1) (by rw [k.ww]; omega) ds
          have ex : p.length + (x - q.length) = x := by rw [k.hh]; omega
          rw [h, j2, e2, hit_app, hit_app, hit_none (fun z => hb _ z hoc) (fun z => hb _ z (by rw [ex]; exact hx))] at c
          have c2 : hit p.length o (x - q.length) [x] = some false := by
            rw [hit_cons, if_neg (by omega), if_pos ex.symm]; rfl
          rw [c2] at c
          have c : true = false := c
          cases c
      rcases List.mem_append.mp hy with hy | hy
      · exact ih ([x] ++ b) (by rw [e, List.append_assoc]) (fun z hz => by
          rcases List.mem_append.mp hz with hz | hz
          · rw [List.mem_singleton.mp hz]; exact hx
          · exact hb z hz) y hy
      · rw [List.mem_singleton.mp hy]; exact hx
  exact key [] ds (by simp) (fun x hx => by cases hx) l hl
/-- the least set, told from the n-th layer on: it is there, and all of it is painted -/
theorem least_in (k : Like p q) {ds : List Nat} (h : linesQ p ds = q) (hds : ∀ l ∈ ds, l < p.length + p[0]!.length) : ∀ (ls : List (List Nat)) (n : Nat), (layersQ q).drop n = ls →
    ∃ told, leastL p.length ls (leftQ p q n) = some told ∧ (∀ l ∈ told.flatten, l ∈ ds) ∧ (leftQ p q n ≠ [] → ∃ x, x ∈ told.flatten ∧ x ∈ (layersQ q)[n]!) := by
  intro ls
  induction ls with
  | nil =>
    intro n hd
    have e : leftQ p q n = [] := by
      refine List.filter_eq_nil_iff.mpr fun c hc z => ?_
      have z := of_decide_eq_true z
      obtain ⟨c1, c2, c3⟩ := mem_diff.mp hc
      obtain ⟨m1, m2⟩ := (made_closed k h c1 c2).2.2 c3
      have : ∃ x, x ∈ ds ∧ (x = c.1 ∨ x = p.length + c.2) := by
        cases y : (q[c.1]!)[c.2]! with
        | true => exact ⟨_, m1 y, .inl rfl⟩
        | false => exact ⟨_, m2 y, .inr rfl⟩
      obtain ⟨x, hx, hxc⟩ := this
      have hl := hds x hx
      rw [k.hh, k.ww] at hl
      rcases layer_or_core hl with y | y
      · exact made_core k h hx y
      · obtain ⟨m, hm, hxm⟩ := mem_flat y
        have := drop_nil hd
        refine z m (by omega) ?_
        rcases hxc with e | e
        · exact .inl (e ▸ hxm)
        · exact .inr (e ▸ hxm)
    refine ⟨[], ?_, (fun l hl => (by cases hl)), fun ne => (ne e).elim⟩
    unfold leastL; rw [if_pos e]
  | cons s ls ih =>
    intro n hd
    obtain ⟨hn, es, el⟩ := drop_cons hd
    subst es
    by_cases e : leftQ p q n = []
    · refine ⟨[], ?_, (fun l hl => (by cases hl)), fun ne => (ne e).elim⟩
      unfold leastL; rw [if_pos e]
    -- a cell left, met by a line of this layer, makes that line painted
    have need : ∀ c ∈ leftQ p q n, ∀ l ∈ (layersQ q)[n]!, (l = c.1 ∨ l = p.length + c.2) → l ∈ ds := fun c hc l hl hlc => by
      obtain ⟨c0, z⟩ := List.mem_filter.mp hc
      have z := of_decide_eq_true z
      obtain ⟨c1, c2, c3⟩ := mem_diff.mp c0
      obtain ⟨m1, m2⟩ := (made_closed k h c1 c2).2.2 c3
      have kind := (layersQ_layer _ (mem_get! hn)).2.2
      rcases hlc with rfl | rfl
      · refine m1 (color_row hn hl (by rw [← k.hh]; exact c1) (by rw [← k.ww]; exact c2) fun m hm y => ?_)
        rw [← k.hh] at y
        by_cases e : m = n
        · subst e
          rcases kind with u | u
          · have := u _ y; rw [← k.hh] at this; omega
          · have := (u _ hl).1; rw [← k.hh] at this; omega
        · exact z m (by omega) (.inr y)
      · refine m2 (color_col hn (by rw [← k.hh]; exact hl) (by rw [← k.hh]; exact c1) fun m hm y => ?_)
        by_cases e : m = n
        · subst e
          rcases kind with u | u
          · have := u _ hl; rw [← k.hh] at this; omega
          · have := (u _ y).1; rw [← k.hh] at this; omega
        · exact z m (by omega) (.inl y)
    by_cases e2 : leftQ p q (n + 1) = []
    · refine ⟨_, by unfold leastL; rw [if_neg e, leftQ_succ, if_pos e2], fun l hl => ?_, fun _ => ?_⟩
      · simp only [List.flatten_cons, List.flatten_nil, List.append_nil] at hl
        obtain ⟨l1, l2⟩ := List.mem_filter.mp hl
        obtain ⟨c, hc, hlc⟩ := of_decide_eq_true l2
        exact need c hc l l1 hlc
      · obtain ⟨c, hc⟩ := List.exists_mem_of_ne_nil _ e
        have t : Touch p.length c (layersQ q)[n]! := Classical.byContradiction fun y => by
          have : c ∈ leftQ p q (n + 1) := by rw [← leftQ_succ]; exact List.mem_filter.mpr ⟨hc, decide_eq_true y⟩
          rw [e2] at this; cases this
        simp only [List.flatten_cons, List.flatten_nil, List.append_nil]
        rcases t with t | t
        · exact ⟨_, List.mem_filter.mpr ⟨t, decide_eq_true ⟨c, hc, .inl rfl⟩⟩, t⟩
        · exact ⟨_, List.mem_filter.mpr ⟨t, decide_eq_true ⟨c, hc, .inr rfl⟩⟩, t⟩
    · obtain ⟨told', h1, h2, h3⟩ := ih (n + 1) el.symm
      obtain ⟨x, hx, hxl⟩ := h3 e2
      have xd := h2 x hx
      have hn1 : n + 1 < (layersQ q).length := by
        refine Classical.byContradiction fun y => ?_
        have : (layersQ q)[n + 1]! = [] := by
          rw [List.getElem!_eq_getElem?_getD, List.getElem?_eq_none (by omega)]; rfl
        rw [this] at hxl; cases hxl
      -- the next layer's line leads to all of this layer
      have all : ∀ l ∈ (layersQ q)[n]!, l ∈ ds := fun l hl => by
        have xl := hds x xd
        have no : ∀ m ≤ n, x ∉ (layersQ q)[m]! := fun m hm y => by
          have := nodup_idx layers_nodup (show m < (layersQ q).length by omega) hn1 y hxl
          omega
        have ll := layers_lt (flat_mem hn hl)
        rw [← k.hh, ← k.ww] at ll
        rcases layers_turn hn1 with ⟨a, b⟩ | ⟨a, b⟩
        · -- rows, then columns
          have l1 := a l hl
          have x1 := b x hxl
          rw [← k.hh] at l1 x1
          have ex : p.length + (x - p.length) = x := by omega
          have c := color_row hn hl (j := x - p.length) (by rw [← k.hh]; exact l1) (by rw [← k.ww]; omega) (by rw [← k.hh, ex]; exact no)
          exact (made_closed k h l1 (show x - p.length < p[0]!.length by omega)).2.1 (by rw [ex]; exact xd) c
        · have l1 := a l hl
          have x1 := b x hxl
          rw [← k.hh] at l1 x1
          have ex : p.length + (l - p.length) = l := by omega
          have c := color_col hn (j := l - p.length) (i := x) (by rw [← k.hh, ex]; exact hl) (by rw [← k.hh]; exact x1) no
          have := (made_closed k h x1 (show l - p.length < p[0]!.length by omega)).1 xd c
          rwa [ex] at this
      refine ⟨(layersQ q)[n]! :: told', by unfold leastL; rw [if_neg e, leftQ_succ, if_neg e2, h1]; rfl, fun l hl => ?_, fun _ => ?_⟩
      · rw [List.flatten_cons] at hl
        rcases List.mem_append.mp hl with hl | hl
        · exact all l hl
        · exact h2 l hl
      · obtain ⟨z, hz⟩ := List.exists_mem_of_ne_nil _ (layersQ_layer _ (mem_get! hn)).1
        exact ⟨z, by rw [List.flatten_cons]; exact List.mem_append_left _ hz, hz⟩
/-- what deeds make comes, and all lines of the least set are among them -/
theorem least_made (k : Like p q) {ds : List Nat} (h : linesQ p ds = q) (hds : ∀ l ∈ ds, l < p.length + p[0]!.length) : ∃ told, leastQ p q = some told ∧ ∀ l ∈ told.flatten, l ∈ ds := by
  obtain ⟨told, a, b, _⟩ := least_in k h hds (layersQ q) 0 rfl
  rw [leftQ_zero] at a
  exact ⟨told, a, b⟩
/-- the least set's lists are parts of the layers, in their order -/
inductive Parts : List (List Nat) → List (List Nat) → Prop
  | nil {L : List (List Nat)} : Parts [] L
  | last {s t : List Nat} {L : List (List Nat)} : t.Sublist s → Parts [t] (s :: L)
  | cons {s : List Nat} {T L : List (List Nat)} : Parts T L → Parts (s :: T) (s :: L)
theorem least_parts {h : Nat} : ∀ {ls : List (List Nat)} {left : List (Nat × Nat)} {told : List (List Nat)}, leastL h ls left = some told → Parts told ls
  | [], left, told, e => by
    unfold leastL at e
    split at e
    · cases e; exact .nil
    · cases e
  | s :: ls, left, told, e => by
    unfold leastL at e
    split at e
    · cases e; exact .nil
    · split at e
      · cases e; exact .last List.filter_sublist
      · obtain ⟨t, h1, rfl⟩ := Option.map_eq_some_iff.mp e
        exact .cons (least_parts h1)
theorem Parts.sub {T L : List (List Nat)} (h : Parts T L) : T.flatten.Sublist L.flatten := by
  induction h with
  | nil => exact List.nil_sublist _
  | last h =>
    simp only [List.flatten_cons, List.flatten_nil, List.append_nil]
    exact h.trans (List.sublist_append_left _ _)
  | cons _ ih =>
    rw [List.flatten_cons, List.flatten_cons]
    exact (List.Sublist.refl _).append ih
theorem least_nodup {told : List (List Nat)} (h : leastQ p q = some told) : told.flatten.Nodup := layers_nodup.sublist (least_parts h).sub
theorem sub_filter {t s : List Nat} (h : t.Sublist s) (nd : s.Nodup) : s.filter (fun l => decide (l ∈ t)) = t := by
  induction h with
  | slnil => rfl
  | cons a h ih =>
    obtain ⟨n1, n2⟩ := List.nodup_cons.mp nd
    rename_i t s
    rw [List.filter_cons_of_neg (p := fun l => decide (l ∈ t)) (fun z => n1 (h.subset (of_decide_eq_true z)))]
    exact ih n2
  | cons_cons a h ih =>
    obtain ⟨n1, n2⟩ := List.nodup_cons.mp nd
    rename_i t s
    rw [List.filter_cons_of_pos (p := fun l => decide (l ∈ a :: t)) (decide_eq_true List.mem_cons_self)]
    congr 1
    refine Eq.trans (List.filter_congr fun x hx => decide_eq_decide.mpr ⟨fun z => ?_, fun z => List.mem_cons_of_mem _ z⟩) (ih n2)
    exact (List.mem_cons.mp z).resolve_left fun y => n1 (y ▸ hx)
theorem cut_none {L : List (List Nat)} {t : List Nat} (h : ∀ l ∈ L.flatten, l ∉ t) : L.flatMap (fun s => s.filter fun l => decide (l ∈ t)) = [] :=
  List.flatMap_eq_nil_iff.mpr fun s hs => List.filter_eq_nil_iff.mpr fun l hl z => h l (List.mem_flatten.mpr ⟨s, hs, hl⟩) (of_decide_eq_true z)
/-- the layers, cut to the lines of the least set, are its lists -/
theorem Parts.cut {T L : List (List Nat)} (h : Parts T L) (nd : L.flatten.Nodup) : L.flatMap (fun s => s.filter fun l => decide (l ∈ T.flatten)) = T.flatten := by
  induction h with
  | nil => exact cut_none fun l _ z => by simp at z
  | last h =>
    rename_i s t L
    rw [List.flatten_cons] at nd
    obtain ⟨n1, n2, n3⟩ := List.nodup_append.mp nd
    simp only [List.flatten_cons, List.flatten_nil, List.append_nil]
    rw [List.flatMap_cons, sub_filter h n1, cut_none fun l hl z => n3 l (h.subset z) l hl rfl, List.append_nil]
  | cons _ ih =>
    rename_i s T L _
    rw [List.flatten_cons] at nd
    obtain ⟨n1, n2, n3⟩ := List.nodup_append.mp nd
    rw [List.flatMap_cons, List.flatten_cons]
    have e1 : s.filter (fun l => decide (l ∈ s ++ T.flatten)) = s := List.filter_eq_self.mpr fun l hl => decide_eq_true (List.mem_append_left _ hl)
    rw [e1]
    congr 1
    refine Eq.trans (flatMap_congr' fun x hx => List.filter_congr fun l hl => decide_eq_decide.mpr ⟨fun z => ?_, fun z => List.mem_append_right _ z⟩) (ih n2)
    exact (List.mem_append.mp z).resolve_left fun y => n3 l y l (List.mem_flatten.mpr ⟨x, hx, hl⟩) rfl
end
end W

set_option maxHeartbeats 1000000
namespace W
open PySem L2 G T
/-! lists of deeds, plainly -/
theorem enumP_get {α : Type} [Inhabited α] {xs : List α} {i : Nat} {x : Nat × α} (h : (enumP xs)[i]? = some x) : x = (i, xs[i]!) ∧ xs[i]? = some xs[i]! ∧ i < xs.length := by
  rw [enumP_eq] at h
  have hi : i < xs.length := by
    have := (List.getElem?_eq_some_iff.mp h).1
    simpa using this
  rw [List.getElem?_map, List.getElem?_range hi] at h
  exact ⟨(Option.some.inj h).symm, by rw [List.getElem?_eq_getElem hi, getElem!_pos xs i hi], hi⟩
theorem get?_get! {α : Type} [Inhabited α] {xs : List α} {i : Nat} {x : α} (h : xs[i]? = some x) : x = xs[i]! ∧ i < xs.length := by
  obtain ⟨h1, h2⟩ := List.getElem?_eq_some_iff.mp h
  exact ⟨by rw [getElem!_pos xs i h1, h2], h1⟩
theorem get!_get? {α : Type} [Inhabited α] {xs : List α} {i : Nat} (h : i < xs.length) : xs[i]? = some xs[i]! := by rw [List.getElem?_eq_getElem h, getElem!_pos xs i h]
theorem range_get? {n i : Nat} (h : i < n) : (List.range n)[i]? = some i := List.getElem?_range h
theorem get!_set {α : Type} [Inhabited α] {xs : List α} {n i : Nat} {x : α} (h : i < xs.length) : (xs.set n x)[i]! = if n = i then x else xs[i]! := by
  rw [getElem!_pos _ i (by rw [List.length_set]; exact h), List.getElem_set, getElem!_pos xs i h]
theorem set_cut {α : Type} {xs : List α} {n : Nat} {x : α} (h : n < xs.length) : (xs.take n ++ [x]) ++ xs.drop (n + 1) = xs.set n x := by
  rw [List.set_eq_take_append_cons_drop, if_pos h, List.append_assoc]; rfl
theorem len_sub {a b : List Nat} (nd : a.Nodup) (h : ∀ x ∈ a, x ∈ b) : a.length ≤ b.length := by
  induction a generalizing b with
  | nil => exact Nat.zero_le _
  | cons x a ih =>
    obtain ⟨n1, n2⟩ := List.nodup_cons.mp nd
    have hx := h x List.mem_cons_self
    have := ih (b := b.erase x) n2 fun y hy => (List.mem_erase_of_ne (fun e => n1 (by rw [← e]; exact hy))).mpr (h y (List.mem_cons_of_mem _ hy))
    rw [List.length_erase_of_mem hx] at this
    have : 0 < b.length := List.length_pos_of_mem hx
    rw [List.length_cons]; omega
/-- the lines in the order of their last deeds -/
def lastQ : List Nat → List Nat
  | [] => []
  | l :: ls => if l ∈ ls then lastQ ls else l :: lastQ ls
theorem lastQ_cons (l : Nat) (ls : List Nat) : lastQ (l :: ls) = if l ∈ ls then lastQ ls else l :: lastQ ls := rfl
theorem mem_lastQ {x : Nat} : ∀ {ls : List Nat}, x ∈ lastQ ls ↔ x ∈ ls
  | [] => Iff.rfl
  | l :: ls => by
    rw [lastQ_cons]
    split
    · rename_i h
      rw [mem_lastQ (ls := ls), List.mem_cons]
      exact ⟨.inr, fun e => e.elim (fun e => e ▸ h) id⟩
    · rw [List.mem_cons, List.mem_cons, mem_lastQ (ls := ls)]
theorem len_lastQ : ∀ (ls : List Nat), (lastQ ls).length ≤ ls.length
  | [] => Nat.le_refl _
  | l :: ls => by
    have := len_lastQ ls
    rw [lastQ_cons]
    split
    · rw [List.length_cons]; omega
    · rw [List.length_cons, List.length_cons]; omega
theorem hit_last (h i j : Nat) : ∀ ls : List Nat, hit h i j (lastQ ls) = hit h i j ls
  | [] => rfl
  | l :: ls => by
    rw [lastQ_cons, hit_cons]
    split
    · rename_i hm
      rw [hit_last h i j ls]
      by_cases e : l = i
      · obtain ⟨b, hb⟩ := hit_some (h := h) (i := i) (j := j) (ls := ls) (.inl (e ▸ hm))
        rw [hb]; rfl
      · by_cases e2 : l = h + j
        · obtain ⟨b, hb⟩ := hit_some (h := h) (i := i) (j := j) (ls := ls) (.inr (e2 ▸ hm))
          rw [hb]; rfl
        · rw [if_neg e, if_neg e2, Option.or_none]
    · rw [hit_cons, hit_last h i j ls]
theorem last_same {p : Pic} (k : PicP p) (ls : List Nat) : linesQ p (lastQ ls) = linesQ p ls := by
  obtain ⟨a, b, c⟩ := linesQ_pp k (lastQ ls)
  obtain ⟨a2, b2, c2⟩ := linesQ_pp k ls
  refine pic_ext a a2 (by omega) (by omega) fun i j hi hj => ?_
  rw [linesQ_get k (by omega) (by omega), linesQ_get k (by omega) (by omega), hit_last]
theorem last_told : ∀ ds : List Nat, ((List.range ds.length).filter fun i => decide (ds[i]! ∉ ds.drop (i + 1))).map (fun i => ds[i]!) = lastQ ds
  | [] => rfl
  | l :: ls => by
    have ih := last_told ls
    rw [lastQ_cons, List.length_cons, List.range_succ_eq_map, List.filter_cons, List.filter_map, ]
    have e : ((fun i => decide ((l :: ls)[i]! ∉ (l :: ls).drop (i + 1))) ∘ Nat.succ) = fun i => decide (ls[i]! ∉ ls.drop (i + 1)) := by
      funext i; rfl
    rw [e]
    have e2 : ((l :: ls)[0]! ∉ (l :: ls).drop (0 + 1)) ↔ l ∉ ls := Iff.rfl
    have e3 : (((List.range ls.length).filter fun i => decide (ls[i]! ∉ ls.drop (i + 1))).map Nat.succ).map (fun i => (l :: ls)[i]!) = lastQ ls := by
      rw [← ih, List.map_map]; rfl
    by_cases q : l ∈ ls
    · rw [if_neg (by simp [q]), if_pos q, e3]
    · rw [if_pos (decide_eq_true (e2.mpr q)), if_neg q, List.map_cons, e3]; rfl
theorem filter_take {n i : Nat} (f : Nat → Bool) (h : i < n) : ((List.range n).take (i + 1)).filter f = ((List.range n).take i).filter f ++ if f i then [i] else [] := by
  rw [take_snoc (range_get? h), List.filter_append]
  congr 1
  rw [List.filter_cons]; rfl
theorem leastL_empty (h : Nat) (ls : List (List Nat)) : leastL h ls [] = some [] := by
  cases ls <;> · unfold leastL; rw [if_pos rfl]
theorem leastL_nil {h : Nat} {ls : List (List Nat)} {left : List (Nat × Nat)} (e : leastL h ls left = some []) : left = [] := by
  cases ls with
  | nil =>
    unfold leastL at e
    split at e
    · assumption
    · cases e
  | cons s ls =>
    unfold leastL at e
    split at e
    · assumption
    · split at e
      · cases e
      · obtain ⟨t, _, z⟩ := Option.map_eq_some_iff.mp e
        cases z
theorem leastL_cons {h : Nat} {s : List Nat} {ls : List (List Nat)} {left : List (Nat × Nat)} (ne : left ≠ []) : leastL h (s :: ls) left = if left.filter (fun c => decide (¬Touch h c s)) = [] then some [s.filter fun l => decide (∃ c ∈ left, l = c.1 ∨ l = h + c.2)] else (leastL h ls (left.filter fun c => decide (¬Touch h c s))).map (s :: ·) := by
  show (if left = [] then some [] else _) = _
  rw [if_neg ne]
theorem drop_at {α : Type} [Inhabited α] {L : List α} {i : Nat} {x : α} (h : L[i]? = some x) : L.drop i = x :: L.drop (i + 1) := by
  obtain ⟨h1, h2⟩ := List.getElem?_eq_some_iff.mp h
  rw [List.drop_eq_getElem_cons h1, h2]
theorem cut_back {L : List (List Nat)} {t : List Nat} (h : ∀ l ∈ L.flatten, l ∉ t) : L.reverse.flatMap (fun s => s.filter fun l => decide (l ∈ t)) = [] :=
  List.flatMap_eq_nil_iff.mpr fun s hs => List.filter_eq_nil_iff.mpr fun l hl z => h l (List.mem_flatten.mpr ⟨s, List.mem_reverse.mp hs, hl⟩) (of_decide_eq_true z)
/-- the layers from the last one on, cut to the lines of the least set -/
theorem Parts.back {T L : List (List Nat)} (h : Parts T L) (nd : L.flatten.Nodup) : L.reverse.flatMap (fun s => s.filter fun l => decide (l ∈ T.flatten)) = T.reverse.flatten := by
  induction h with
  | nil => exact cut_back fun l _ z => by simp at z
  | last h =>
    rename_i s t L
    rw [List.flatten_cons] at nd
    obtain ⟨n1, n2, n3⟩ := List.nodup_append.mp nd
    simp only [List.flatten_cons, List.flatten_nil, List.append_nil, List.reverse_cons, List.reverse_nil, List.nil_append, List.flatMap_append, List.flatMap_cons, List.flatMap_nil]
    rw [sub_filter h n1, cut_back fun l hl z => n3 l (h.subset z) l hl rfl, List.nil_append]
  | cons _ ih =>
    rename_i s T L _
    rw [List.flatten_cons] at nd
    obtain ⟨n1, n2, n3⟩ := List.nodup_append.mp nd
    simp only [List.flatten_cons, List.flatten_nil, List.append_nil, List.reverse_cons, List.flatMap_append, List.flatMap_cons, List.flatMap_nil, List.flatten_append]
    have e1 : s.filter (fun l => decide (l ∈ s ++ T.flatten)) = s := List.filter_eq_self.mpr fun l hl => decide_eq_true (List.mem_append_left _ hl)
    rw [e1]
    congr 1
    refine Eq.trans (flatMap_congr' fun x hx => List.filter_congr fun l hl => decide_eq_decide.mpr ⟨fun z => ?_, fun z => List.mem_append_right _ z⟩) (ih n2)
    exact (List.mem_append.mp z).resolve_left fun y => n3 l y l (List.mem_flatten.mpr ⟨x, List.mem_reverse.mp hx, hl⟩) rfl
theorem dput_nodup {d : List (Nat × Bool)} {k : Nat} {v : Bool} (h : (dkeys d).Nodup) : (dkeys (dput d k v)).Nodup := by
  unfold dput
  split
  · have e : dkeys (d.map fun p => if p.1 = k then (p.1, v) else p) = dkeys d := by
      unfold dkeys
      rw [List.map_map]
      refine List.map_congr_left fun p _ => ?_
      show (if p.1 = k then (p.1, v) else p).1 = p.1
      split <;> rfl
    rw [e]; exact h
  · rename_i n
    have n : k ∉ dkeys d := fun z => n (dget_isSome.mpr z)
    unfold dkeys
    rw [List.map_append]
    refine List.nodup_append.mpr ⟨h, by simp, fun a ha b hb e => ?_⟩
    have : b = k := by simpa using hb
    exact n (this ▸ e ▸ ha)
/-- a list of deeds for the board of a picture -/
structure Deeds (p : Pic) (ds : List Nat) : Prop where
  k : PicP p
  n : ds.length ≤ 1000
  l : ∀ x ∈ ds, x < p.length + p[0]!.length
end W

set_option maxHeartbeats 1000000
namespace T
open PySem L2 G
theorem ev_anyB {xs : List Bool} {env : DEnv} {tp t1' : List D} {m : SE D} (h : m env tp = .ok (eL eB xs) t1') : callB anyD (consA m nilA) env tp = .ok (eB (xs.any id)) t1' :=
  ev_callB (ev_cons h ev_nil) (by
    show (unB (xs.map eB)).map (fun bs => D.bl (bs.any id)) = _
    rw [unB_map]; rfl)
theorem ev_allB {xs : List Bool} {env : DEnv} {tp t1' : List D} {m : SE D} (h : m env tp = .ok (eL eB xs) t1') : callB allD (consA m nilA) env tp = .ok (eB (xs.all id)) t1' :=
  ev_callB (ev_cons h ev_nil) (by
    show (unB (xs.map eB)).map (fun bs => D.bl (bs.all id)) = _
    rw [unB_map]; rfl)
end T
namespace W
open PySem L2 G T
theorem keys_true (xs : List Nat) (x : Nat) : x ∈ dkeys (dictOf (xs.map fun x => (x, true))) ↔ x ∈ xs := by
  rw [mem_dictOf]
  unfold dkeys
  rw [List.map_map]
  have : ((fun p : Nat × Bool => p.1) ∘ fun x => (x, true)) = id := rfl
  rw [this, List.map_id]
theorem keys_flat (xs : List (List Nat)) (x : Nat) : x ∈ dkeys (dictOf (xs.flatMap fun s => s.map fun y => (y, true))) ↔ x ∈ xs.flatten := by
  rw [mem_dictOf]
  unfold dkeys
  rw [List.map_flatMap]
  have : (fun s : List Nat => (s.map fun y => (y, true)).map (fun p : Nat × Bool => p.1)) = fun s => s := by
    funext s
    rw [List.map_map]
    exact List.map_id _
  rw [this]
  exact Iff.of_eq (congrArg (x ∈ ·) (List.flatMap_id'))
theorem flat_id (xs : List (List Nat)) : (xs.flatMap fun x => x.map fun y => y) = xs.flatten := by
  have : (fun x : List Nat => x.map fun y => y) = fun x => x := by funext x; exact List.map_id' x
  rw [this, List.flatMap_id']
theorem cPow_of {a b : Nat} (ha : a < 2 ^ 64) (hb : b ≤ 1000000) : cPow ((a : Nat) : Int) ((b : Nat) : Int) = true := by
  unfold cPow
  rw [Bool.and_eq_true, Bool.and_eq_true]
  exact ⟨decide_eq_true (by omega), decide_eq_true (by omega), decide_eq_true (by rw [Int.natAbs_natCast]; exact ha)⟩
theorem sum_len (T : List (List Nat)) : (T.map fun x => x.length).sum = T.flatten.length := by rw [List.length_flatten]
theorem sorted_lt {xs : List Nat} (nd : xs.Nodup) : (sortN xs).Pairwise (· < ·) :=
  ((sortN_le xs).and ((sortN_perm xs).nodup_iff.mpr nd)).imp fun ⟨a, b⟩ => Nat.lt_of_le_of_ne a b
theorem pair_filter {a b l : Nat} {M : List Nat} (ne : a ≠ b) (hl : l ∈ M) : ([a, b].filter fun x => decide (x ∈ M)) = [l] ↔ l ∈ [a, b] ∧ ¬∃ y ∈ [a, b], y ∈ M ∧ y ≠ l := by
  by_cases ha : a ∈ M <;> by_cases hb : b ∈ M
  · rw [List.filter_cons_of_pos (p := fun x => decide (x ∈ M)) (decide_eq_true ha), List.filter_cons_of_pos (p := fun x => decide (x ∈ M)) (decide_eq_true hb)]
    constructor
    · intro h; cases h
    · rintro ⟨h1, h2⟩
      refine (h2 ?_).elim
      by_cases e : a = l
      · exact ⟨b, by simp, hb, fun z => ne (e.trans z.symm)⟩
      · exact ⟨a, by simp, ha, e⟩
  · rw [List.filter_cons_of_pos (p := fun x => decide (x ∈ M)) (decide_eq_true ha), List.filter_cons_of_neg (p := fun x => decide (x ∈ M)) (by simpa using hb)]
    constructor
    · intro h
      cases h
      refine ⟨by simp, ?_⟩
      rintro ⟨y, hy, hm, hn⟩
      rcases List.mem_cons.mp hy with e | e
      · exact hn e
      · rw [List.mem_singleton.mp e] at hm; exact hb hm
    · rintro ⟨h1, h2⟩
      rcases List.mem_cons.mp h1 with e | e
      · rw [e]; rfl
      · rw [List.mem_singleton.mp e] at hl; exact (hb hl).elim
  · rw [List.filter_cons_of_neg (p := fun x => decide (x ∈ M)) (by simpa using ha), List.filter_cons_of_pos (p := fun x => decide (x ∈ M)) (decide_eq_true hb)]
    constructor
    · intro h
      cases h
      refine ⟨by simp, ?_⟩
      rintro ⟨y, hy, hm, hn⟩
      rcases List.mem_cons.mp hy with e | e
      · rw [e] at hm; exact ha hm
      · exact hn (List.mem_singleton.mp e)
    · rintro ⟨h1, h2⟩
      rcases List.mem_cons.mp h1 with e | e
      · rw [e] at hl; exact (ha hl).elim
      · rw [List.mem_singleton.mp e]; rfl
  · rw [List.filter_cons_of_neg (p := fun x => decide (x ∈ M)) (by simpa using ha), List.filter_cons_of_neg (p := fun x => decide (x ∈ M)) (by simpa using hb)]
    constructor
    · intro h; cases h
    · rintro ⟨h1, h2⟩
      rcases List.mem_cons.mp h1 with e | e
      · rw [e] at hl; exact (ha hl).elim
      · rw [List.mem_singleton.mp e] at hl; exact (hb hl).elim
section
variable {p q : Pic}
theorem least_lt (k : Like p q) {told : List (List Nat)} (h : leastQ p q = some told) : ∀ l ∈ told.flatten, l < p.length + p[0]!.length := fun l hl => by
  have := layers_lt ((least_parts h).sub.subset hl)
  rw [← k.hh, ← k.ww] at this; exact this
theorem least_len (k : Like p q) {told : List (List Nat)} (h : leastQ p q = some told) : told.flatten.length ≤ p.length + p[0]!.length := by
  have := len_sub (b := List.range (p.length + p[0]!.length)) (least_nodup h) fun l hl => List.mem_range.mpr (least_lt k h l hl)
  rwa [List.length_range] at this
theorem Parts.len {T L : List (List Nat)} (h : Parts T L) : T.length ≤ L.length := by
  induction h with
  | nil => exact Nat.zero_le _
  | last _ => simp
  | cons _ ih => rw [List.length_cons, List.length_cons]; omega
theorem least_ne {h : Nat} : ∀ {ls : List (List Nat)} {left : List (Nat × Nat)} {told : List (List Nat)}, leastL h ls left = some told → (∀ s ∈ ls, s ≠ []) → ∀ t ∈ told, t ≠ []
  | [], left, told, e, _ => by
    unfold leastL at e
    split at e
    · cases e; intro t ht; cases ht
    · cases e
  | s :: ls, left, told, e, hs => by
    unfold leastL at e
    split at e
    · cases e; intro t ht; cases ht
    · rename_i ne
      split at e
      · rename_i z
        cases e
        intro t ht
        rw [List.mem_singleton.mp ht]
        obtain ⟨c, hc⟩ := List.exists_mem_of_ne_nil _ ne
        have tc : Touch h c s := Classical.byContradiction fun y => by
          have : c ∈ left.filter (fun c => decide (¬Touch h c s)) := List.mem_filter.mpr ⟨hc, decide_eq_true y⟩
          rw [z] at this; cases this
        rcases tc with tc | tc
        · exact List.ne_nil_of_mem (List.mem_filter.mpr ⟨tc, decide_eq_true ⟨c, hc, .inl rfl⟩⟩)
        · exact List.ne_nil_of_mem (List.mem_filter.mpr ⟨tc, decide_eq_true ⟨c, hc, .inr rfl⟩⟩)
      · obtain ⟨t, h1, rfl⟩ := Option.map_eq_some_iff.mp e
        intro y hy
        rcases List.mem_cons.mp hy with e | e
        · rw [e]; exact hs s List.mem_cons_self
        · exact least_ne h1 (fun s hs2 => hs s (List.mem_cons_of_mem _ hs2)) y e
/-- every cell of difference lies in a line of the least set -/
theorem diff_touch (k : Like p q) {told : List (List Nat)} (h : leastQ p q = some told) {c : Nat × Nat} (hc : c ∈ diffQ p q) : Touch p.length c told.flatten := by
  obtain ⟨c1, c2, c3⟩ := mem_diff.mp hc
  refine Classical.byContradiction fun z => c3 ?_
  have e := least_way k h
  have g := linesQ_get k.pp c1 c2 told.reverse.flatten
  have m : ∀ x, x ∈ told.reverse.flatten ↔ x ∈ told.flatten := fun x => (List.reverse_perm told).flatten.mem_iff
  rw [e, hit_none (fun y => z (.inl ((m _).mp y))) (fun y => z (.inr ((m _).mp y)))] at g
  exact g.symm
/-- cells first met by each list of lines, and the cells left -/
def runQ (h : Nat) : List (List Nat) → List (Nat × Nat) → List Nat × List (Nat × Nat)
  | [], left => ([], left)
  | s :: T, left => ((left.filter fun c => decide (Touch h c s)).length :: (runQ h T (left.filter fun c => decide (¬Touch h c s))).1, (runQ h T (left.filter fun c => decide (¬Touch h c s))).2)
theorem runQ_cons (h : Nat) (s : List Nat) (T : List (List Nat)) (left : List (Nat × Nat)) : runQ h (s :: T) left = ((left.filter fun c => decide (Touch h c s)).length :: (runQ h T (left.filter fun c => decide (¬Touch h c s))).1, (runQ h T (left.filter fun c => decide (¬Touch h c s))).2) := rfl
theorem runQ_left {h : Nat} : ∀ (T : List (List Nat)) (left : List (Nat × Nat)), (runQ h T left).2 = left.filter fun c => decide (¬Touch h c T.flatten)
  | [], left => by
    refine (List.filter_eq_self.mpr fun c _ => decide_eq_true ?_).symm
    rintro (y | y) <;> simp at y
  | s :: T, left => by
    rw [runQ_cons]
    show (runQ h T _).2 = _
    rw [runQ_left T, List.filter_filter]
    refine List.filter_congr fun c _ => ?_
    rw [← Bool.decide_and]
    refine decide_eq_decide.mpr ?_
    rw [← not_or]
    refine not_congr ?_
    unfold Touch
    rw [List.flatten_cons, List.mem_append, List.mem_append]
    constructor
    · rintro ((a | a) | (a | a))
      · exact .inl (.inr a)
      · exact .inr (.inr a)
      · exact .inl (.inl a)
      · exact .inr (.inl a)
    · rintro ((a | a) | (a | a))
      · exact .inr (.inl a)
      · exact .inl (.inl a)
      · exact .inr (.inr a)
      · exact .inl (.inr a)
theorem run_left (k : Like p q) {told : List (List Nat)} (h : leastQ p q = some told) : (runQ p.length told (diffQ p q)).2 = [] := by
  rw [runQ_left]
  exact List.filter_eq_nil_iff.mpr fun c hc z => of_decide_eq_true z (diff_touch k h hc)
/-- one layer of a walk over the layers, cut to the least set -/
theorem Parts.one {T : List (List Nat)} {s : List Nat} {L : List (List Nat)} {M : List Nat} (h : Parts T (s :: L)) (ne : ∀ t ∈ T, t ≠ []) (nd : (s :: L).flatten.Nodup) (hM : ∀ l ∈ (s :: L).flatten, l ∈ M ↔ l ∈ T.flatten) :
    ((s.filter fun l => decide (l ∈ M)) = [] ∧ T = []) ∨ ((s.filter fun l => decide (l ∈ M)) ≠ [] ∧ ∃ T', T = (s.filter fun l => decide (l ∈ M)) :: T' ∧ Parts T' L ∧ ∀ l ∈ L.flatten, l ∈ M ↔ l ∈ T'.flatten) := by
  rw [List.flatten_cons] at nd hM
  obtain ⟨n1, n2, n3⟩ := List.nodup_append.mp nd
  have inS : ∀ l ∈ s, l ∈ M ↔ l ∈ T.flatten := fun l hl => hM l (List.mem_append_left _ hl)
  have inL : ∀ l ∈ L.flatten, l ∈ M ↔ l ∈ T.flatten := fun l hl => hM l (List.mem_append_right _ hl)
  cases h with
  | nil => exact .inl ⟨List.filter_eq_nil_iff.mpr fun l hl z => by have := (inS l hl).mp (of_decide_eq_true z); simp at this, rfl⟩
  | last h =>
    rename_i t
    have e : (s.filter fun l => decide (l ∈ M)) = t := by
      refine Eq.trans (List.filter_congr fun l hl => decide_eq_decide.mpr ?_) (sub_filter h n1)
      rw [inS l hl]; simp
    rw [e]
    refine .inr ⟨ne t List.mem_cons_self, [], rfl, .nil, fun l hl => ?_⟩
    rw [inL l hl]
    simp only [List.flatten_cons, List.flatten_nil, List.append_nil]
    exact ⟨fun z => (n3 l (h.subset z) l hl rfl).elim, fun z => by cases z⟩
  | cons h =>
    rename_i T'
    have e : (s.filter fun l => decide (l ∈ M)) = s := List.filter_eq_self.mpr fun l hl => decide_eq_true ((inS l hl).mpr (by rw [List.flatten_cons]; exact List.mem_append_left _ hl))
    rw [e]
    refine .inr ⟨ne s List.mem_cons_self, T', rfl, h, fun l hl => ?_⟩
    rw [inL l hl, List.flatten_cons, List.mem_append]
    exact ⟨fun z => z.resolve_left fun y => n3 l y l hl rfl, .inr⟩
end
end W

set_option maxHeartbeats 1000000
namespace T
open PySem L2 G
theorem ev_index {xs : List Nat} {x : Nat} {env : DEnv} {tp t1' t2' : List D} {ma mb : SE D} (h : x ∈ xs) (ha : ma env tp = .ok (eL eN xs) t1') (hb : mb env t1' = .ok (eN x) t2') : methE isLstD indexD ma mb env tp = .ok (eN (xs.idxOf x)) t2' :=
  ev_meth ha rfl hb (by
    show (unI (xs.map eN)).bind (fun ns => if ns.findIdx (fun n => decide (n = (x : Int))) < ns.length then some (D.int ((ns.findIdx (fun n => decide (n = (x : Int))) : Nat) : Int)) else none) = _
    rw [unI_mapN]
    have e : (xs.map fun n : Nat => (n : Int)).findIdx (fun n => decide (n = (x : Int))) = xs.idxOf x := by
      rw [List.findIdx_map]
      unfold List.idxOf
      congr 1
      funext n
      show decide ((n : Int) = (x : Int)) = (n == x)
      by_cases q : n = x
      · rw [q]; simp
      · rw [decide_eq_false (by omega)]; simp [q]
    show (if _ < _ then _ else _) = _
    rw [e, List.length_map, if_pos (List.idxOf_lt_length_of_mem h)])
theorem cRg_int {i : Int} (h1 : -1000000 ≤ i) (h2 : i ≤ 1073741824) : cRg i = true := by
  unfold cRg
  have h1 : -(2 ^ 62) ≤ i := by omega
  have h2 : i < 2 ^ 62 := by omega
  rw [decide_eq_true h1, decide_eq_true h2]; rfl
theorem rangeL_S (a b : Nat) : rangeL 0 ((a : Int) - (b : Int)) = (List.range (a - b)).map eN := by
  unfold rangeL
  have e : ((a : Int) - (b : Int) - 0).toNat = a - b := by omega
  rw [e]
  exact List.map_congr_left fun a _ => by rw [Int.zero_add]
/-- range(x - y), nothing where y is the greater one -/
theorem it_rangeS {x y : Nat} {env : DEnv} {tp t1' t2' : List D} {ma mb : SE D} (hx : x ≤ 1073741824) (hy : y ≤ 1000000) (ha : ma env tp = .ok (eN x) t1') (hb : mb env t1' = .ok (eN y) t2') : rangeI range1D (consA (binE subD ma mb) nilA) env tp = .ok ((List.range (x - y)).map eN) t2' :=
  ev_rangeI (ev_cons ((ev_bin ha hb rfl).trans (show RE.ok (D.int ((x : Int) - (y : Int))) t2' = _ from rfl)) ev_nil) (by rw [range1D_i (cRg_int (by omega) (by omega)), rangeL_S])
/-- pictures in their order -/
abbrev txP (p : Pic) : List Str := p.map rowS
def insP (x : Pic) : List Pic → List Pic
  | [] => [x]
  | y :: ys => if ltTx (txP y) (txP x) then y :: insP x ys else x :: y :: ys
def sortP : List Pic → List Pic
  | [] => []
  | x :: xs => insP x (sortP xs)
theorem insP_tx (x : Pic) : ∀ ys, insTx (txP x) (ys.map txP) = (insP x ys).map txP
  | [] => rfl
  | y :: ys => by
    show (if ltTx (txP y) (txP x) then txP y :: insTx (txP x) (ys.map txP) else txP x :: txP y :: ys.map txP) = (if ltTx (txP y) (txP x) then y :: insP x ys else x :: y :: ys).map txP
    rw [insP_tx x ys]
    split <;> rfl
theorem sortP_tx : ∀ xs, sortTx (xs.map txP) = (sortP xs).map txP
  | [] => rfl
  | x :: xs => by
    show insTx (txP x) (sortTx (xs.map txP)) = _
    rw [sortP_tx xs, insP_tx]; rfl
theorem insP_perm (x : Pic) : ∀ ys, (insP x ys).Perm (x :: ys)
  | [] => .refl _
  | y :: ys => by
    unfold insP
    split
    · exact ((insP_perm x ys).cons y).trans (.swap _ _ _)
    · exact .refl _
theorem sortP_perm : ∀ xs, (sortP xs).Perm xs
  | [] => .refl _
  | x :: xs => (insP_perm x _).trans ((sortP_perm xs).cons x)
theorem unS_rows : ∀ p : Pic, unS (p.map eR) = some (p.map rowS)
  | [] => rfl
  | r :: p => by show (unS (p.map eR)).map (rowS r :: ·) = _; rw [unS_rows p]; rfl
theorem texts_pics : ∀ {ps : List Pic}, (∀ p ∈ ps, p ≠ []) → textsD (ps.map ePic) = some (ps.map txP)
  | [], _ => rfl
  | p :: ps, h => by
    show (unS (p.map eR)).bind (fun ss => if ss = [] then none else (textsD (ps.map ePic)).map (ss :: ·)) = _
    rw [unS_rows p, texts_pics fun q hq => h q (List.mem_cons_of_mem _ hq)]
    show (if p.map rowS = [] then none else _) = _
    rw [if_neg (fun e => h p List.mem_cons_self (List.map_eq_nil_iff.mp e))]; rfl
theorem ev_sortP {ps : List Pic} {env : DEnv} {tp t1' : List D} {m : SE D} (h : ∀ p ∈ ps, p ≠ []) (hm : m env tp = .ok (eL ePic ps) t1') : callB sortTD (consA m nilA) env tp = .ok (eL ePic (sortP ps)) t1' :=
  ev_callB (ev_cons hm ev_nil) (by
    show (textsD (ps.map ePic)).map (fun ss => D.lst ((sortTx ss).map fun s => .tup (s.map .str))) = _
    rw [texts_pics h]
    show some (D.lst ((sortTx (ps.map txP)).map fun s => .tup (s.map .str))) = _
    rw [sortP_tx, List.map_map]
    show _ = some (D.lst ((sortP ps).map ePic))
    congr 2
    refine List.map_congr_left fun p _ => ?_
    show D.tup ((p.map rowS).map D.str) = D.tup (p.map eR)
    rw [List.map_map]; rfl)
theorem ev_band {x y : Nat} {env : DEnv} {tp t1' t2' : List D} {ma mb : SE D} (ha : ma env tp = .ok (eN x) t1') (hb : mb env t1' = .ok (eN y) t2') : binE bandD ma mb env tp = .ok (eN (x &&& y)) t2' :=
  ev_bin ha hb (by
    show some (D.int (Builtin.bitAnd (x : Int) (y : Int))) = some (D.int ((x &&& y : Nat) : Int))
    have e : Builtin.bitAnd (x : Int) (y : Int) = ((x &&& y : Nat) : Int) := by simp [Builtin.bitAnd]
    rw [e])
end T

set_option maxHeartbeats 1000000
namespace T
open PySem L2 G
section
variable {α : Type} {e : α → D} {env : DEnv} {tp t1' t2' : List D} {m : SE D} {ms : SE (List D)}
/-! displays with starred items -/
theorem ev_nilM : nilA env tp = .ok (([] : List α).map e) tp := rfl
theorem ev_consM {x : α} {xs : List α} (h : m env tp = .ok (e x) t1') (hs : ms env t1' = .ok (xs.map e) t2') : consA m ms env tp = .ok ((x :: xs).map e) t2' := ev_cons h hs
theorem ev_starL {xs ys : List α} (h : m env tp = .ok (eL e xs) t1') (hs : ms env t1' = .ok (ys.map e) t2') : starA m ms env tp = .ok ((xs ++ ys).map e) t2' := by
  unfold starA; rw [h]; simp only [RE.bind_ok]
  show (ms env t1').bind (fun ys tp2 => RE.ok (xs.map e ++ ys) tp2) = _
  rw [hs]; simp only [RE.bind_ok]; rw [List.map_append]
theorem ev_starT {xs ys : List α} (h : m env tp = .ok (eT e xs) t1') (hs : ms env t1' = .ok (ys.map e) t2') : starA m ms env tp = .ok ((xs ++ ys).map e) t2' := by
  unfold starA; rw [h]; simp only [RE.bind_ok]
  show (ms env t1').bind (fun ys tp2 => RE.ok (xs.map e ++ ys) tp2) = _
  rw [hs]; simp only [RE.bind_ok]; rw [List.map_append]
theorem ev_starL0 {xs : List α} (h : m env tp = .ok (eL e xs) t1') : starA m nilA env tp = .ok (xs.map e) t1' := by
  have := ev_starL (ys := []) h (ms := nilA) rfl
  rwa [List.append_nil] at this
theorem ev_starT0 {xs : List α} (h : m env tp = .ok (eT e xs) t1') : starA m nilA env tp = .ok (xs.map e) t1' := by
  have := ev_starT (ys := []) h (ms := nilA) rfl
  rwa [List.append_nil] at this
theorem ev_lstM {xs : List α} (hn : xs.length ≤ 1000000) (h : ms env tp = .ok (xs.map e) t1') : lstE ms env tp = .ok (eL e xs) t1' := ev_lst h (decide_eq_true (by rw [List.length_map]; exact hn))
theorem ev_tupM {xs : List α} (hn : xs.length ≤ 1000000) (h : ms env tp = .ok (xs.map e) t1') : tupE ms env tp = .ok (eT e xs) t1' := ev_tup h (decide_eq_true (by rw [List.length_map]; exact hn))
end
end T

set_option maxHeartbeats 1000000
namespace T
open PySem L2 G
section
variable {env : DEnv} {tp t1' t2' : List D} {m ma mb : SE D}
theorem max_cast {xs : List Nat} (h : xs ≠ []) : (xs.map fun n : Nat => (n : Int)).max? = some ((xs.max?.getD 0 : Nat) : Int) := by
  cases q : xs.max? with
  | none => exact (h (List.max?_eq_none_iff.mp q)).elim
  | some a =>
    obtain ⟨a1, a2⟩ := List.max?_eq_some_iff.mp q
    refine List.max?_eq_some_iff.mpr ⟨List.mem_map.mpr ⟨a, a1, rfl⟩, fun b hb => ?_⟩
    obtain ⟨c, hc, rfl⟩ := List.mem_map.mp hb
    have := a2 c hc
    show (c : Int) ≤ (a : Int)
    omega
theorem min_cast {xs : List Nat} (h : xs ≠ []) : (xs.map fun n : Nat => (n : Int)).min? = some ((xs.min?.getD 0 : Nat) : Int) := by
  cases q : xs.min? with
  | none => exact (h (List.min?_eq_none_iff.mp q)).elim
  | some a =>
    obtain ⟨a1, a2⟩ := List.min?_eq_some_iff.mp q
    refine List.min?_eq_some_iff.mpr ⟨List.mem_map.mpr ⟨a, a1, rfl⟩, fun b hb => ?_⟩
    obtain ⟨c, hc, rfl⟩ := List.mem_map.mp hb
    have := a2 c hc
    show (a : Int) ≤ (c : Int)
    omega
theorem ev_maxL {xs : List Nat} (h : xs ≠ []) (hm : m env tp = .ok (eL eN xs) t1') : callB maxD (consA m nilA) env tp = .ok (eN (xs.max?.getD 0)) t1' :=
  ev_callB (ev_cons hm ev_nil) (by
    show (unI (xs.map eN)).bind (fun ns => ns.max?.map D.int) = _
    rw [unI_mapN]
    show (xs.map fun n : Nat => (n : Int)).max?.map D.int = _
    rw [max_cast h]; rfl)
theorem ev_minL {xs : List Nat} (h : xs ≠ []) (hm : m env tp = .ok (eL eN xs) t1') : callB minD (consA m nilA) env tp = .ok (eN (xs.min?.getD 0)) t1' :=
  ev_callB (ev_cons hm ev_nil) (by
    show (unI (xs.map eN)).bind (fun ns => ns.min?.map D.int) = _
    rw [unI_mapN]
    show (xs.map fun n : Nat => (n : Int)).min?.map D.int = _
    rw [min_cast h]; rfl)
theorem ev_max2 {x y : Nat} (ha : ma env tp = .ok (eN x) t1') (hb : mb env t1' = .ok (eN y) t2') : callB maxD (consA ma (consA mb nilA)) env tp = .ok (eN (max x y)) t2' :=
  ev_callB (ev_cons ha (ev_cons hb ev_nil)) (by
    show some (D.int (if (y : Int) > (x : Int) then (y : Int) else (x : Int))) = some (D.int ((max x y : Nat) : Int))
    by_cases q : y > x
    · rw [if_pos (by omega), Nat.max_eq_right (by omega)]
    · rw [if_neg (by omega), Nat.max_eq_left (by omega)])
theorem ev_min2 {x y : Nat} (ha : ma env tp = .ok (eN x) t1') (hb : mb env t1' = .ok (eN y) t2') : callB minD (consA ma (consA mb nilA)) env tp = .ok (eN (min x y)) t2' :=
  ev_callB (ev_cons ha (ev_cons hb ev_nil)) (by
    show some (D.int (if (y : Int) < (x : Int) then (y : Int) else (x : Int))) = some (D.int ((min x y : Nat) : Int))
    by_cases q : y < x
    · rw [if_pos (by omega), Nat.min_eq_right (by omega)]
    · rw [if_neg (by omega), Nat.min_eq_left (by omega)])
theorem ev_strN {x : Nat} (h : ((x : Nat) : Int).natAbs.log2 < 1920) (hm : m env tp = .ok (eN x) t1') : callB strD (consA m nilA) env tp = .ok (eS (toString (x : Int) : PySem.Str)) t1' :=
  ev_callB (ev_cons hm ev_nil) (by
    show (if ((x : Nat) : Int).natAbs.log2 < 1920 then some (D.str (toString ((x : Nat) : Int))) else none) = _
    rw [if_pos h])
end
end T

set_option maxHeartbeats 1000000
namespace T
open PySem L2 G
theorem ixN_nat {n k : Nat} (h : k < n) : ixN n (k : Int) = some k := by
  unfold ixN
  split <;> simp_all <;> omega
/-- a store into an own list -/
theorem wp_lset {α : Type} {e : α → D} {env : DEnv} {tp t1' t2' : List D} {mk mv : SE D} {N : Wn} {R : Wr} {B C : Wn} {i k : Nat} {x : α} {xs : List α} (he : env[i]? = some (some (eL e xs))) (hv : mv env tp = .ok (e x) t1') (hk : mk env t1' = .ok (eN k) t2') (hl : k < xs.length) (hn : N (env.set i (some (eL e (xs.set k x)))) t2') : WP N R B C (lsetS i mk mv env tp) := by
  unfold lsetS
  rw [hv]
  show WP N R B C (match env[i]? with
    | some (some (.lst xs)) => (mk env t1').bindS fun k tp2 => (match k with
      | .int n => (match ixN xs.length n with
        | some j => RS.nx (env.set i (some (.lst (xs.set j (e x))))) tp2
        | none => RS.stuck)
      | _ => RS.stuck)
    | _ => RS.stuck)
  rw [he]
  show WP N R B C ((mk env t1').bindS fun k tp2 => (match k with
      | .int n => (match ixN (xs.map e).length n with
        | some j => RS.nx (env.set i (some (.lst ((xs.map e).set j (e x))))) tp2
        | none => RS.stuck)
      | _ => RS.stuck))
  rw [hk]
  show WP N R B C (match ixN (xs.map e).length (k : Int) with
        | some j => RS.nx (env.set i (some (.lst ((xs.map e).set j (e x))))) t2'
        | none => RS.stuck)
  rw [List.length_map, ixN_nat hl]
  show WP N R B C (RS.nx (env.set i (some (.lst ((xs.map e).set k (e x))))) t2')
  rw [← List.map_set]
  exact .nx hn
end T

set_option maxHeartbeats 1000000
namespace T
open PySem L2 G
theorem rep_flat {α : Type} (x : α) : ∀ n : Nat, (List.replicate n [x]).flatten = List.replicate n x
  | 0 => rfl
  | n + 1 => by rw [List.replicate_succ, List.replicate_succ, List.flatten_cons, rep_flat x n]; rfl
/-- [x] * n -/
theorem ev_lrep1 {α : Type} {e : α → D} {env : DEnv} {tp t1' t2' : List D} {ma mb : SE D} {x : α} {n : Nat} (h : n ≤ 16777216) (ha : ma env tp = .ok (eL e [x]) t1') (hb : mb env t1' = .ok (eN n) t2') : binE lrepD ma mb env tp = .ok (eL e (List.replicate n x)) t2' :=
  ev_bin ha hb (by
    show (if cRep 1 (n : Int) then some (D.lst (List.replicate ((n : Int)).toNat [e x]).flatten) else none) = _
    have c : cRep 1 (n : Int) = true := by
      unfold cRep
      rw [Bool.and_eq_true, Bool.and_eq_true]
      exact ⟨decide_eq_true (by omega), decide_eq_true (by omega), decide_eq_true (by omega)⟩
    rw [if_pos c, Int.toNat_natCast, rep_flat, ← List.map_replicate])
theorem unS_txt : ∀ xs : List PySem.Str, unS (xs.map eS) = some xs
  | [] => rfl
  | x :: xs => by show (unS (xs.map eS)).map (x :: ·) = _; rw [unS_txt xs]; rfl
/-- sep.join(xs) -/
theorem ev_joinS {sep : PySem.Str} {xs : List PySem.Str} {env : DEnv} {tp t1' : List D} {m : SE D} (h : (xs.map (·.length)).sum + xs.length * sep.length ≤ 16777216) (hm : m env tp = .ok (eL eS xs) t1') : methE isStrD joinD (cE (.str sep)) m env tp = .ok (eS (Txt.join sep xs)) t1' :=
  ev_meth rfl rfl hm (by
    show (unS (xs.map eS)).bind (fun ys => if (ys.map (·.length)).sum + ys.length * sep.length ≤ 16777216 then some (D.str (Txt.join sep ys)) else none) = _
    rw [unS_txt]
    show (if _ then _ else _) = _
    rw [if_pos h])
/-- the number that a text of figures tells -/
def numOf (a : PySem.Str) : Nat := ((PySem.intText? a).getD 0).toNat
theorem ev_intS {a : PySem.Str} {env : DEnv} {tp t1' : List D} {m : SE D} (h : a.length ≤ 640 ∧ ∃ n : Nat, PySem.intText? a = some (n : Int)) (hm : m env tp = .ok (eS a) t1') : callB intSD (consA m nilA) env tp = .ok (eN (numOf a)) t1' :=
  ev_callB (ev_cons hm ev_nil) (by
    obtain ⟨h1, n, h2⟩ := h
    show (if a.length ≤ 640 then (PySem.intText? a).map D.int else none) = _
    rw [if_pos h1, h2]
    show some (D.int (n : Int)) = some (D.int ((((PySem.intText? a).getD 0).toNat : Nat) : Int))
    rw [h2]
    show _ = some (D.int (((n : Int).toNat : Nat) : Int))
    rw [Int.toNat_natCast])
end T

set_option maxHeartbeats 1000000
namespace W
open PySem L2 G T
/-! counts of cells -/
/-- sum over a range -/
def sumQ (n : Nat) (f : Nat → Nat) : Nat := ((List.range n).map f).sum
abbrev one (b : Bool) : Nat := if b then 1 else 0
def cntQ (h w : Nat) (f : Nat → Nat → Bool) : Nat := sumQ h fun i => sumQ w fun j => one (f i j)
theorem sumQ_succ (n : Nat) (f : Nat → Nat) : sumQ (n + 1) f = sumQ n f + f n := by
  unfold sumQ
  rw [List.range_succ, List.map_append, List.sum_append]
  simp
theorem sumQ_congr {n : Nat} {f g : Nat → Nat} (h : ∀ i, i < n → f i = g i) : sumQ n f = sumQ n g := by
  unfold sumQ
  exact congrArg List.sum (List.map_congr_left fun i hi => h i (List.mem_range.mp hi))
theorem sumQ_add (n : Nat) (f g : Nat → Nat) : sumQ n (fun i => f i + g i) = sumQ n f + sumQ n g := by
  induction n with
  | zero => rfl
  | succ n ih => rw [sumQ_succ, sumQ_succ, sumQ_succ, ih]; omega
theorem sumQ_zero (n : Nat) : sumQ n (fun _ => 0) = 0 := by
  induction n with
  | zero => rfl
  | succ n ih => rw [sumQ_succ, ih]
theorem sumQ_swap (n m : Nat) (f : Nat → Nat → Nat) : sumQ n (fun i => sumQ m fun j => f i j) = sumQ m fun j => sumQ n fun i => f i j := by
  induction n with
  | zero => show 0 = sumQ m fun _ => 0; exact (sumQ_zero m).symm
  | succ n ih =>
    rw [sumQ_succ, ih, ← sumQ_add]
    exact sumQ_congr fun j _ => (sumQ_succ n fun i => f i j).symm
theorem cnt_congr {h w : Nat} {f g : Nat → Nat → Bool} (e : ∀ i j, i < h → j < w → f i j = g i j) : cntQ h w f = cntQ h w g :=
  sumQ_congr fun i hi => sumQ_congr fun j hj => by rw [e i j hi hj]
/-- the count of the turned board -/
theorem cnt_swap (h w : Nat) (f : Nat → Nat → Bool) : cntQ h w f = cntQ w h fun j i => f i j := sumQ_swap h w fun i j => one (f i j)
/-- what holds at each cell of four tests holds of their counts -/
theorem cnt_lin {h w : Nat} {a b c d : Nat → Nat → Bool} (e : ∀ i j, i < h → j < w → one (a i j) + one (b i j) = one (c i j) + (one (d i j) + one (d i j))) : cntQ h w a + cntQ h w b = cntQ h w c + (cntQ h w d + cntQ h w d) := by
  unfold cntQ
  rw [← sumQ_add, ← sumQ_add, ← sumQ_add]
  refine sumQ_congr fun i hi => ?_
  rw [← sumQ_add, ← sumQ_add, ← sumQ_add]
  exact sumQ_congr fun j hj => e i j hi hj
theorem cnt_all (h w : Nat) (f : Nat → Nat → Bool) : cntQ h w f + cntQ h w (fun i j => !f i j) = h * w := by
  have row : ∀ i, sumQ w (fun j => one (f i j)) + sumQ w (fun j => one (!f i j)) = w := fun i => by
    rw [← sumQ_add]
    have : sumQ w (fun j => one (f i j) + one (!f i j)) = sumQ w fun _ => 1 := sumQ_congr fun j _ => by cases f i j <;> rfl
    rw [this]
    clear this
    induction w with
    | zero => rfl
    | succ w ih => rw [sumQ_succ, ih]
  unfold cntQ
  rw [← sumQ_add]
  have : sumQ h (fun i => sumQ w (fun j => one (f i j)) + sumQ w (fun j => one (!f i j))) = sumQ h fun _ => w := sumQ_congr fun i _ => row i
  rw [this]
  clear this
  induction h with
  | zero => simp [sumQ]
  | succ h ih => rw [sumQ_succ, ih, Nat.succ_mul]
theorem len_sumQ (w : Nat) (f : Nat → Bool) : ((List.range w).filter f).length = sumQ w fun j => one (f j) := by
  induction w with
  | zero => rfl
  | succ w ih =>
    rw [List.range_succ, List.filter_append, List.length_append, ih, sumQ_succ]
    congr 1
    rw [List.filter_cons]
    cases f w <;> rfl
theorem len_flat (h : Nat) (g : Nat → List (Nat × Nat)) : ((List.range h).flatMap g).length = sumQ h fun i => (g i).length := by
  induction h with
  | zero => rfl
  | succ h ih => rw [List.range_succ, List.flatMap_append, List.length_append, ih, sumQ_succ]; simp
theorem diff_cnt (p q : Pic) : (diffQ p q).length = cntQ p.length p[0]!.length fun i j => decide ((p[i]!)[j]! ≠ (q[i]!)[j]!) := by
  unfold diffQ cntQ
  rw [len_flat]
  exact sumQ_congr fun i _ => by rw [List.length_map, len_sumQ]
theorem row_cnt (r : Row) : r.count true = sumQ r.length fun j => one r[j]! := by
  rw [← len_sumQ r.length fun j => r[j]!]
  have e : r = (List.range r.length).map fun j => r[j]! := by
    have := map_eq_range (fun x : Bool => x) r
    rwa [List.map_id'] at this
  have : r.count true = ((List.range r.length).map fun j => r[j]!).count true := by rw [← e]
  rw [this, List.count, List.countP_map, List.countP_eq_length_filter]
  congr 1
  refine List.filter_congr fun j _ => ?_
  show (r[j]! == true) = r[j]!
  cases r[j]! <;> rfl
theorem black_cnt {p : Pic} (k : PicP p) : (p.map fun r => r.count true).sum = cntQ p.length p[0]!.length fun i j => (p[i]!)[j]! := by
  rw [map_eq_range (fun r : Row => r.count true) p]
  show sumQ p.length _ = _
  refine sumQ_congr fun i hi => ?_
  show (p[i]!).count true = _
  rw [row_cnt, k.get hi]
end W

set_option maxHeartbeats 1000000
namespace W
/-! ratios, sizes of numbers -/
def Lg (x : Int) (n : Nat) : Prop := x.natAbs < 2 ^ n
theorem log_lt {x k : Nat} (h : x < 2 ^ k) (hk : 0 < k) : x.log2 < k := by
  by_cases q : x = 0
  · subst q; simpa using hk
  · exact (Nat.log2_lt q).mpr h
theorem Lg.mono {x : Int} {n m : Nat} (a : Lg x n) (h : n ≤ m) : Lg x m := Nat.lt_of_lt_of_le a (Nat.pow_le_pow_right (by decide) h)
theorem Lg.mul {x y : Int} {n m : Nat} (a : Lg x n) (b : Lg y m) : Lg (x * y) (n + m) := by
  unfold Lg at *; rw [Int.natAbs_mul, Nat.pow_add]; exact Nat.mul_lt_mul'' a b
theorem Lg.add {x y : Int} {n : Nat} (a : Lg x n) (b : Lg y n) : Lg (x + y) (n + 1) := by
  unfold Lg at *
  have := Int.natAbs_add_le x y
  rw [Nat.pow_succ]; omega
theorem Lg.neg {x : Int} {n : Nat} (a : Lg x n) : Lg (-x) n := by unfold Lg at *; rw [Int.natAbs_neg]; exact a
theorem Lg.le {x y : Int} {n : Nat} (a : Lg y n) (h : x.natAbs ≤ y.natAbs) : Lg x n := Nat.lt_of_le_of_lt h a
theorem Lg.nat {x n : Nat} (h : x < 2 ^ n) : Lg (x : Int) n := by unfold Lg; rw [Int.natAbs_natCast]; exact h
/-- the lowest terms -/
def low (a b : Int) : Int × Int := (a / (Int.gcd a b : Int), b / (Int.gcd a b : Int))
theorem gcd_pos {a b : Int} (h : 0 < b) : 0 < (Int.gcd a b : Int) := by
  have : 0 < Int.gcd a b := Int.gcd_pos_of_ne_zero_right a (by omega)
  omega
theorem low_spec {a b : Int} (h : 0 < b) : ∃ g : Int, 0 < g ∧ a = g * (low a b).1 ∧ b = g * (low a b).2 := by
  refine ⟨Int.gcd a b, gcd_pos h, ?_, ?_⟩
  · exact (Int.mul_ediv_cancel' (Int.gcd_dvd_left a b)).symm
  · exact (Int.mul_ediv_cancel' (Int.gcd_dvd_right a b)).symm
theorem low_pos {a b : Int} (h : 0 < b) : 0 < (low a b).2 := by
  obtain ⟨g, h1, _, h3⟩ := low_spec (a := a) h
  have : 0 < g * (low a b).2 := by rw [← h3]; exact h
  rcases Int.lt_or_le 0 (low a b).2 with q | q
  · exact q
  · have := Int.mul_le_mul_of_nonneg_left q (Int.le_of_lt h1)
    omega
theorem low_cop {a b : Int} (h : 0 < b) : Nat.Coprime (low a b).1.natAbs (low a b).2.natAbs := by
  have hp := gcd_pos (a := a) h
  have e1 : (low a b).1.natAbs = a.natAbs / Int.gcd a b := by
    show (a / (Int.gcd a b : Int)).natAbs = _
    rw [Int.natAbs_ediv_of_dvd (Int.gcd_dvd_left a b), Int.natAbs_natCast]
  have e2 : (low a b).2.natAbs = b.natAbs / Int.gcd a b := by
    show (b / (Int.gcd a b : Int)).natAbs = _
    rw [Int.natAbs_ediv_of_dvd (Int.gcd_dvd_right a b), Int.natAbs_natCast]
  rw [e1, e2, Int.gcd_eq_natAbs_gcd_natAbs]
  exact Nat.coprime_div_gcd_div_gcd (by rw [← Int.gcd_eq_natAbs_gcd_natAbs]; omega)
theorem low_eq {a b c d : Int} (hb : 0 < b) (hd : 0 < d) (h : a * d = c * b) : low a b = low c d := by
  obtain ⟨g, g0, ga, gb⟩ := low_spec (a := a) hb
  obtain ⟨k, k0, kc, kd⟩ := low_spec (a := c) hd
  have c1 := low_cop (a := a) hb
  have c2 := low_cop (a := c) hd
  have p1 := low_pos (a := a) hb
  have p2 := low_pos (a := c) hd
  generalize low a b = x at *
  generalize low c d = y at *
  obtain ⟨x1, x2⟩ := x
  obtain ⟨y1, y2⟩ := y
  simp only at *
  have e : x1 * y2 = y1 * x2 := by
    have e0 : (g * k) * (x1 * y2) = (g * k) * (y1 * x2) := by
      have : (g * x1) * (k * y2) = (k * y1) * (g * x2) := by rw [← ga, ← gb, ← kc, ← kd]; exact h
      calc (g * k) * (x1 * y2) = (g * x1) * (k * y2) := by ac_rfl
        _ = (k * y1) * (g * x2) := this
        _ = _ := by ac_rfl
    exact Int.eq_of_mul_eq_mul_left (Int.ne_of_gt (Int.mul_pos g0 k0)) e0
  have en : x1.natAbs * y2.natAbs = y1.natAbs * x2.natAbs := by rw [← Int.natAbs_mul, e, Int.natAbs_mul]
  have d1 : x2.natAbs ∣ y2.natAbs := by
    refine Nat.Coprime.dvd_of_dvd_mul_left (m := x1.natAbs) c1.symm ?_
    rw [en]; exact Nat.dvd_mul_left _ _
  have d2 : y2.natAbs ∣ x2.natAbs := by
    refine Nat.Coprime.dvd_of_dvd_mul_left (m := y1.natAbs) c2.symm ?_
    rw [← en]; exact Nat.dvd_mul_left _ _
  have q : x2.natAbs = y2.natAbs := Nat.dvd_antisymm d1 d2
  have q : x2 = y2 := by omega
  subst q
  have := Int.eq_of_mul_eq_mul_right (Int.ne_of_gt p1) e
  rw [this]
theorem low_le {a b : Int} (h : 0 < b) : (low a b).1.natAbs ≤ a.natAbs ∧ (low a b).2.natAbs ≤ b.natAbs := by
  have hp := gcd_pos (a := a) h
  refine ⟨?_, ?_⟩
  · show (a / (Int.gcd a b : Int)).natAbs ≤ _
    rw [Int.natAbs_ediv_of_dvd (Int.gcd_dvd_left a b)]; exact Nat.div_le_self _ _
  · show (b / (Int.gcd a b : Int)).natAbs ≤ _
    rw [Int.natAbs_ediv_of_dvd (Int.gcd_dvd_right a b)]; exact Nat.div_le_self _ _
/-- a ratio that stands for a / b, its size -/
structure Rat' (x : Int × Int) (a b : Int) (n : Nat) : Prop where
  e : x = low a b
  p : 0 < b
  l1 : Lg a n
  l2 : Lg b n
theorem Rat'.pos {x : Int × Int} {a b : Int} {n : Nat} (h : Rat' x a b n) : 0 < x.2 := by rw [h.e]; exact low_pos h.p
theorem Rat'.lg {x : Int × Int} {a b : Int} {n : Nat} (h : Rat' x a b n) : Lg x.1 n ∧ Lg x.2 n := by
  rw [h.e]; exact ⟨h.l1.le (low_le h.p).1, h.l2.le (low_le h.p).2⟩
theorem Rat'.cross {x : Int × Int} {a b : Int} {n : Nat} (h : Rat' x a b n) : x.1 * b = a * x.2 := by
  obtain ⟨g, _, h1, h2⟩ := low_spec (a := a) h.p
  rw [← h.e] at h1 h2
  conv => lhs; rw [h2]
  conv => rhs; rw [h1]
  ac_rfl
theorem rat_mk {a b : Int} {n : Nat} (p : 0 < b) (l1 : Lg a n) (l2 : Lg b n) : Rat' (low a b) a b n := ⟨rfl, p, l1, l2⟩
/-- another name of the same ratio -/
theorem Rat'.as {x : Int × Int} {a b c d : Int} {n m : Nat} (h : Rat' x a b n) (hd : 0 < d) (e : a * d = c * b) (l1 : Lg c m) (l2 : Lg d m) : Rat' x c d m :=
  ⟨by rw [h.e]; exact low_eq h.p hd e, hd, l1, l2⟩
theorem Rat'.plus {x y : Int × Int} {a b c d : Int} {n m : Nat} (h : Rat' x a b n) (k : Rat' y c d m) : low (x.1 * y.2 + y.1 * x.2) (x.2 * y.2) = low (a * d + c * b) (b * d) := by
  refine low_eq (Int.mul_pos h.pos k.pos) (Int.mul_pos h.p k.p) ?_
  have e1 := h.cross
  have e2 := k.cross
  calc (x.1 * y.2 + y.1 * x.2) * (b * d) = (x.1 * b) * (y.2 * d) + (y.1 * d) * (x.2 * b) := by rw [Int.add_mul]; congr 1 <;> ac_rfl
    _ = (a * x.2) * (y.2 * d) + (c * y.2) * (x.2 * b) := by rw [e1, e2]
    _ = (a * d + c * b) * (x.2 * y.2) := by rw [Int.add_mul]; congr 1 <;> ac_rfl
theorem Rat'.times {x y : Int × Int} {a b c d : Int} {n m : Nat} (h : Rat' x a b n) (k : Rat' y c d m) : low (x.1 * y.1) (x.2 * y.2) = low (a * c) (b * d) := by
  refine low_eq (Int.mul_pos h.pos k.pos) (Int.mul_pos h.p k.p) ?_
  have e1 := h.cross
  have e2 := k.cross
  calc (x.1 * y.1) * (b * d) = (x.1 * b) * (y.1 * d) := by ac_rfl
    _ = (a * x.2) * (c * y.2) := by rw [e1, e2]
    _ = _ := by ac_rfl
/-- the steps of the greatest common divisor -/
def gcdM (a b : Nat) : Nat := if b = 0 then 0 else (if a < b then 2 else 1) + (a * b).log2
theorem gcdM_lt {a b : Nat} (hb : b ≠ 0) : gcdM b (a % b) < gcdM a b := by
  unfold gcdM
  rw [if_neg hb]
  by_cases hr : a % b = 0
  · rw [if_pos hr]; split <;> omega
  · rw [if_neg hr]
    have hlt := Nat.mod_lt a (Nat.pos_of_ne_zero hb)
    rw [if_neg (by omega)]
    by_cases q : a < b
    · rw [if_pos q, Nat.mod_eq_of_lt q, Nat.mul_comm b a]; omega
    · rw [if_neg q]
      have h1 : b + a % b ≤ a := by
        have := Nat.div_add_mod a b
        have h2 : 1 ≤ a / b := (Nat.one_le_div_iff (Nat.pos_of_ne_zero hb)).mpr (by omega)
        have h3 : b * 1 ≤ b * (a / b) := Nat.mul_le_mul_left _ h2
        omega
      have h2 : 2 * (b * (a % b)) < a * b := by
        have h3 : 2 * (a % b) < a := by omega
        have h4 := Nat.mul_lt_mul_of_pos_right h3 (Nat.pos_of_ne_zero hb)
        calc 2 * (b * (a % b)) = 2 * (a % b) * b := by ac_rfl
          _ < a * b := h4
      have h0 : b * (a % b) ≠ 0 := Nat.mul_ne_zero hb hr
      have h5 : (2 * (b * (a % b))).log2 = (b * (a % b)).log2 + 1 := Nat.log2_two_mul h0
      have h6 : (2 * (b * (a % b))).log2 ≤ (a * b).log2 := by
        rcases Nat.lt_or_ge (a * b).log2 (2 * (b * (a % b))).log2 with q | q
        · have h7 := (Nat.log2_lt (n := a * b) (by omega)).mp q
          have h8 := Nat.log2_self_le (n := 2 * (b * (a % b))) (by omega)
          omega
        · exact q
      omega
theorem gcdM_le {a b n m : Nat} (ha : a < 2 ^ n) (hb : b < 2 ^ m) (h0 : 0 < n + m) : gcdM a b < n + m + 2 := by
  unfold gcdM
  split
  · omega
  · have : a * b < 2 ^ (n + m) := by rw [Nat.pow_add]; exact Nat.mul_lt_mul'' ha hb
    have := log_lt this h0
    split <;> omega
theorem gcd_mod {a b : Int} : Int.gcd b (a % b) = Int.gcd a b := by
  have h := Int.gcd_add_mul_right_right b (a % b) (a / b)
  have e : a % b + a / b * b = a := by have := Int.mul_ediv_add_emod a b; rw [Int.mul_comm] at this; omega
  rw [e] at h
  rw [← h, Int.gcd_comm]
end W
namespace W
/-! binomials, the numbers of lists that paint all told lines -/
def ch : Nat → Nat → Nat
  | _, 0 => 1
  | 0, _ + 1 => 0
  | n + 1, k + 1 => ch n k + ch n (k + 1)
theorem ch_zero (n : Nat) : ch n 0 = 1 := by cases n <;> rfl
theorem ch_gt : ∀ {n k : Nat}, n < k → ch n k = 0
  | 0, 0, h => by omega
  | 0, k + 1, _ => rfl
  | n + 1, 0, h => by omega
  | n + 1, k + 1, h => by show ch n k + ch n (k + 1) = 0; rw [ch_gt (by omega), ch_gt (by omega)]
theorem ch_self : ∀ n : Nat, ch n n = 1
  | 0 => rfl
  | n + 1 => by show ch n n + ch n (n + 1) = 1; rw [ch_self n, ch_gt (by omega)]
theorem ch_mul : ∀ n k : Nat, (k + 1) * ch (n + 1) (k + 1) = (n + 1) * ch n k
  | 0, 0 => rfl
  | 0, k + 1 => by show (k + 1 + 1) * (ch 0 (k + 1) + ch 0 (k + 2)) = _; rw [ch_gt (n := 0) (k := k + 1) (by omega), ch_gt (n := 0) (k := k + 2) (by omega)]; omega
  | n + 1, 0 => by
    have h := ch_mul n 0
    show (0 + 1) * (ch (n + 1) 0 + ch (n + 1) 1) = _
    rw [ch_zero] at h ⊢
    rw [Nat.mul_add, h]; omega
  | n + 1, k + 1 => by
    have h1 := ch_mul n k
    have h2 := ch_mul n (k + 1)
    show (k + 1 + 1) * (ch (n + 1) (k + 1) + ch (n + 1) (k + 2)) = (n + 1 + 1) * ch (n + 1) (k + 1)
    have e : ch (n + 1) (k + 1) = ch n k + ch n (k + 1) := rfl
    rw [Nat.mul_add, h2, Nat.add_mul (k + 1), h1, Nat.one_mul, Nat.add_mul (n + 1) 1, Nat.one_mul, e, Nat.mul_add]; omega
theorem ch_step (n k : Nat) : (k + 1) * ch n (k + 1) = ch n k * (n - k) := by
  cases n with
  | zero => cases k with
    | zero => rfl
    | succ k => rw [ch_gt (n := 0) (k := k + 1 + 1) (by omega)]; simp
  | succ n =>
    rw [ch_mul]
    -- (n+1) * ch n k = ch (n+1) k * (n + 1 - k)
    cases k with
    | zero => rw [ch_zero, ch_zero]; omega
    | succ k =>
      by_cases hk : k + 1 ≤ n + 1
      · have h1 := ch_mul n k
        have e : ch (n + 1) (k + 1) = ch n k + ch n (k + 1) := rfl
        have h2 : (k + 1) * ch (n + 1) (k + 1) = (n + 1) * ch n k := h1
        obtain ⟨m, hm⟩ : ∃ m, n + 1 = k + 1 + m := ⟨n + 1 - (k + 1), by omega⟩
        have e3 : n + 1 - (k + 1) = m := by omega
        rw [e3]
        have h3 : (n + 1) * ch (n + 1) (k + 1) = (n + 1) * ch n k + (n + 1) * ch n (k + 1) := by rw [e, Nat.mul_add]
        have h4 : (n + 1) * ch (n + 1) (k + 1) = (k + 1) * ch (n + 1) (k + 1) + m * ch (n + 1) (k + 1) := by rw [← Nat.add_mul, ← hm]
        rw [Nat.mul_comm (ch (n + 1) (k + 1)) m]
        omega
      · rw [ch_gt (n := n) (k := k + 1) (by omega), ch_gt (n := n + 1) (k := k + 1) (by omega)]; simp
theorem ch_div (n k : Nat) : ch n k * (n - k) / (k + 1) = ch n (k + 1) := by
  rw [← ch_step, Nat.mul_div_cancel_left _ (by omega)]
theorem ch_le : ∀ n k : Nat, ch n k ≤ 2 ^ n
  | n, 0 => by rw [ch_zero]; exact Nat.one_le_two_pow
  | 0, k + 1 => Nat.zero_le _
  | n + 1, k + 1 => by
    have h1 := ch_le n k
    have h2 := ch_le n (k + 1)
    show ch n k + ch n (k + 1) ≤ _
    rw [Nat.pow_succ]; omega
/-- a sum over 0 .. n - 1 -/
def sm (f : Nat → Int) : Nat → Int
  | 0 => 0
  | n + 1 => sm f n + f n
theorem sm_congr {f g : Nat → Int} : ∀ {n : Nat}, (∀ i, i < n → f i = g i) → sm f n = sm g n
  | 0, _ => rfl
  | n + 1, h => by show sm f n + f n = sm g n + g n; rw [sm_congr fun i hi => h i (by omega), h n (by omega)]
theorem sm_add {f g : Nat → Int} : ∀ n : Nat, sm (fun i => f i + g i) n = sm f n + sm g n
  | 0 => rfl
  | n + 1 => by show sm _ n + (f n + g n) = _ ; rw [sm_add n]; show _ = sm f n + f n + (sm g n + g n); omega
theorem sm_mul {f : Nat → Int} (c : Int) : ∀ n : Nat, sm (fun i => c * f i) n = c * sm f n
  | 0 => by show (0 : Int) = c * 0; simp
  | n + 1 => by show sm _ n + c * f n = c * (sm f n + f n); rw [sm_mul c n, Int.mul_add]
theorem sm_shift {f : Nat → Int} (h : f 0 = 0) : ∀ n : Nat, sm f (n + 1) = sm (fun i => f (i + 1)) n
  | 0 => by show 0 + f 0 = 0; rw [h]; rfl
  | n + 1 => by show sm f (n + 1) + f (n + 1) = _; rw [sm_shift h n]; rfl
def sg (j : Nat) : Int := if j % 2 = 0 then 1 else -1
theorem sg_succ (j : Nat) : sg (j + 1) = - sg j := by
  unfold sg
  by_cases h : j % 2 = 0
  · rw [if_pos h, if_neg (by omega)]
  · rw [if_neg h, if_pos (by omega)]; rfl
/-- the alternating sum -/
def alt (t d L : Nat) : Int := sm (fun j => sg j * (ch d j : Int) * (((L + d - j : Nat) : Int) ^ t)) (d + 1)
theorem alt_zero : ∀ (m d : Nat), sm (fun j => sg j * (ch (d + 1) j : Int)) (m + 1) = sg m * (ch d m : Int)
  | 0, d => by show 0 + sg 0 * (ch (d + 1) 0 : Int) = _; rw [ch_zero, ch_zero]; simp
  | m + 1, d => by
    show sm _ (m + 1) + sg (m + 1) * (ch (d + 1) (m + 1) : Int) = _
    rw [alt_zero m d]
    have e : (ch (d + 1) (m + 1) : Int) = (ch d m : Int) + (ch d (m + 1) : Int) := by
      have : ch (d + 1) (m + 1) = ch d m + ch d (m + 1) := rfl
      rw [this]; omega
    rw [e, sg_succ, Int.mul_add, Int.neg_mul]; omega
theorem alt_t0 (d L : Nat) : alt 0 d L = if d = 0 then 1 else 0 := by
  unfold alt
  cases d with
  | zero => rfl
  | succ d =>
    rw [if_neg (by omega), sm_congr (g := fun j => sg j * (ch (d + 1) j : Int)) fun i _ => by simp]
    rw [alt_zero, ch_gt (by omega)]; simp
theorem alt_step (t d L : Nat) : alt (t + 1) (d + 1) L = ((L + (d + 1) : Nat) : Int) * alt t (d + 1) L + ((d + 1 : Nat) : Int) * alt t d L := by
  have e1 : alt (t + 1) (d + 1) L = sm (fun j => ((L + (d + 1) : Nat) : Int) * (sg j * (ch (d + 1) j : Int) * (((L + (d + 1) - j : Nat) : Int) ^ t)) + (-(j : Int)) * (sg j * (ch (d + 1) j : Int) * (((L + (d + 1) - j : Nat) : Int) ^ t))) (d + 1 + 1) := by
    refine sm_congr fun j hj => ?_
    have hc : (((L + (d + 1) - j : Nat) : Int)) = ((L + (d + 1) : Nat) : Int) + -(j : Int) := by omega
    show sg j * (ch (d + 1) j : Int) * (((L + (d + 1) - j : Nat) : Int) ^ (t + 1)) = _
    rw [Int.pow_succ, ← Int.add_mul, ← hc]
    generalize (((L + (d + 1) - j : Nat) : Int)) = z
    ac_rfl
  rw [e1, sm_add, sm_mul]
  congr 1
  rw [sm_shift (by simp)]
  have e2 : alt t d L = sm (fun j => sg j * (ch d j : Int) * (((L + d - j : Nat) : Int) ^ t)) (d + 1) := rfl
  rw [e2, ← sm_mul]
  refine sm_congr fun j hj => ?_
  have h := ch_mul d j
  have h2 : ((j + 1 : Nat) : Int) * (ch (d + 1) (j + 1) : Int) = ((d + 1 : Nat) : Int) * (ch d j : Int) := by exact_mod_cast h
  have e3 : L + (d + 1) - (j + 1) = L + d - j := by omega
  rw [e3, sg_succ]
  generalize (((L + d - j : Nat) : Int) ^ t) = z
  calc -((j + 1 : Nat) : Int) * (-sg j * (ch (d + 1) (j + 1) : Int) * z) = (((j + 1 : Nat) : Int) * (ch (d + 1) (j + 1) : Int)) * (sg j * z) := by
        rw [Int.neg_mul, Int.neg_mul, Int.neg_mul, Int.mul_neg, Int.neg_neg]; ac_rfl
    _ = (((d + 1 : Nat) : Int) * (ch d j : Int)) * (sg j * z) := by rw [h2]
    _ = _ := by ac_rfl
theorem alt_step0 (t L : Nat) : alt (t + 1) 0 L = (L : Int) * alt t 0 L := by
  show 0 + sg 0 * (ch 0 0 : Int) * (((L + 0 - 0 : Nat) : Int) ^ (t + 1)) = (L : Int) * (0 + sg 0 * (ch 0 0 : Int) * (((L + 0 - 0 : Nat) : Int) ^ t))
  have : (L + 0 - 0) = L := by omega
  rw [this, Int.pow_succ]
  show 0 + 1 * 1 * ((L : Int) ^ t * L) = L * (0 + 1 * 1 * (L : Int) ^ t)
  simp [Int.mul_comm]
end W
namespace W
/-- how many lists of t lines paint just d of m told lines, L other lines being free -/
def cnt (m L : Nat) : Nat → Nat → Nat
  | 0, d => if d = 0 then 1 else 0
  | t + 1, 0 => cnt m L t 0 * (L + 0)
  | t + 1, d + 1 => cnt m L t (d + 1) * (L + (d + 1)) + cnt m L t d * (m - d)
theorem cnt_alt (m L : Nat) : ∀ t d : Nat, d ≤ m → (cnt m L t d : Int) = (ch m d : Int) * alt t d L
  | 0, d, h => by
    rw [alt_t0]
    show ((if d = 0 then 1 else 0 : Nat) : Int) = _
    by_cases q : d = 0
    · subst q; rw [if_pos rfl, if_pos rfl, ch_zero]; rfl
    · rw [if_neg q, if_neg q]; simp
  | t + 1, 0, h => by
    show ((cnt m L t 0 * (L + 0) : Nat) : Int) = _
    rw [Int.natCast_mul, cnt_alt m L t 0 h, alt_step0, ch_zero, Nat.add_zero]
    ac_rfl
  | t + 1, d + 1, h => by
    show ((cnt m L t (d + 1) * (L + (d + 1)) + cnt m L t d * (m - d) : Nat) : Int) = _
    rw [Int.natCast_add, Int.natCast_mul, Int.natCast_mul, cnt_alt m L t (d + 1) h, cnt_alt m L t d (by omega), alt_step]
    have h2 : ((d + 1 : Nat) : Int) * (ch m (d + 1) : Int) = (ch m d : Int) * ((m - d : Nat) : Int) := by exact_mod_cast ch_step m d
    rw [Int.mul_add]
    congr 1
    · ac_rfl
    · calc (ch m d : Int) * alt t d L * ((m - d : Nat) : Int) = ((ch m d : Int) * ((m - d : Nat) : Int)) * alt t d L := by ac_rfl
        _ = (((d + 1 : Nat) : Int) * (ch m (d + 1) : Int)) * alt t d L := by rw [h2]
        _ = _ := by ac_rfl
theorem cnt_le (m L : Nat) : ∀ t d : Nat, d ≤ m → cnt m L t d ≤ (L + m + 1) ^ t
  | 0, d, h => by show (if d = 0 then 1 else 0) ≤ 1; split <;> omega
  | t + 1, 0, h => by
    show cnt m L t 0 * (L + 0) ≤ _
    rw [Nat.pow_succ]
    exact Nat.mul_le_mul (cnt_le m L t 0 h) (by omega)
  | t + 1, d + 1, h => by
    show cnt m L t (d + 1) * (L + (d + 1)) + cnt m L t d * (m - d) ≤ _
    rw [Nat.pow_succ]
    have h1 := Nat.mul_le_mul_right (L + (d + 1)) (cnt_le m L t (d + 1) h)
    have h2 := Nat.mul_le_mul_right (m - d) (cnt_le m L t d (by omega))
    have h3 : (L + m + 1) ^ t * (L + (d + 1)) + (L + m + 1) ^ t * (m - d) = (L + m + 1) ^ t * (L + m + 1) := by rw [← Nat.mul_add]; congr 1; omega
    omega
theorem alt_cnt (m L t : Nat) : alt t m L = (cnt m L t m : Int) := by rw [cnt_alt m L t m (Nat.le_refl _), ch_self]; simp
theorem pow_lt' {b t : Nat} (hb : b ≤ 64) (ht : t ≤ 200) : b ^ t < 2 ^ 1300 := by
  have h1 : b ^ t ≤ 64 ^ t := Nat.pow_le_pow_left hb t
  have h2 : (64 : Nat) ^ t = 2 ^ (6 * t) := by rw [Nat.pow_mul]
  have h3 : 2 ^ (6 * t) < 2 ^ 1300 := Nat.pow_lt_pow_right (by decide) (by omega)
  omega
/-- a list that is told by a function -/
theorem map_range_set {f : Nat → Nat} {n i v : Nat} : ((List.range n).map f).set i v = (List.range n).map fun j => if j = i then v else f j := by
  apply List.ext_getElem?
  intro j
  rw [List.getElem?_set, List.getElem?_map, List.getElem?_map, List.length_map, List.length_range]
  by_cases h : i = j
  · subst h
    by_cases q : i < n
    · rw [if_pos rfl, if_pos q, List.getElem?_range q]; simp
    · rw [if_pos rfl, if_neg q, List.getElem?_eq_none (by rw [List.length_range]; omega)]; rfl
  · rw [if_neg h]
    by_cases q : j < n
    · rw [List.getElem?_range q]
      show some (f j) = some (if j = i then v else f j)
      rw [if_neg (by omega)]
    · rw [List.getElem?_eq_none (by rw [List.length_range]; omega)]; rfl
theorem map_range_get {f : Nat → Nat} {n i : Nat} (h : i < n) : ((List.range n).map f)[i]! = f i := by
  rw [getElem!_pos _ i (by rw [List.length_map, List.length_range]; exact h)]
  simp
theorem map_range_eq {f g : Nat → Nat} {n : Nat} (h : ∀ i, i < n → f i = g i) : (List.range n).map f = (List.range n).map g :=
  List.map_congr_left fun i hi => h i (List.mem_range.mp hi)
theorem range_rep (n c : Nat) : List.replicate n c = (List.range n).map fun _ => c := by
  apply List.ext_getElem
  · simp
  · intro i h1 h2; simp
/-- the turn's row -/
def part1 (m L t k d : Nat) : Nat := (if d < k then cnt m L t d * (L + d) else 0) + (if 1 ≤ d ∧ d - 1 < k then cnt m L t (d - 1) * (m - (d - 1)) else 0)
theorem part1_0 (m L t d : Nat) : part1 m L t 0 d = 0 := by unfold part1; rw [if_neg (by omega), if_neg (by omega)]
theorem part1_end (m L t d : Nat) (h : d ≤ m) : part1 m L t (m + 1) d = cnt m L (t + 1) d := by
  unfold part1
  rw [if_pos (by omega)]
  cases d with
  | zero => rw [if_neg (by omega)]; rfl
  | succ d => rw [if_pos ⟨by omega, by omega⟩]; rfl
/-- the sums of parts -/
def hs : Nat → Int × Int
  | 0 => (0, 1)
  | n + 1 => low ((hs n).1 * ((n + 1 : Nat) : Int) + 1 * (hs n).2) ((hs n).2 * ((n + 1 : Nat) : Int))
def hnum : Nat → Nat
  | 0 => 0
  | n + 1 => hnum n * (n + 1) + fac n
where fac : Nat → Nat
  | 0 => 1
  | n + 1 => fac n * (n + 1)
abbrev hfac := hnum.fac
theorem hfac_pos : ∀ n, 0 < hfac n
  | 0 => Nat.one_pos
  | n + 1 => Nat.mul_pos (hfac_pos n) (Nat.succ_pos n)
theorem hfac_le : ∀ n, n ≤ 63 → hfac n ≤ 64 ^ n
  | 0, _ => Nat.le_refl _
  | n + 1, h => by
    show hfac n * (n + 1) ≤ _
    rw [Nat.pow_succ]; exact Nat.mul_le_mul (hfac_le n (by omega)) (by omega)
theorem hnum_le : ∀ n, n ≤ 63 → hnum n ≤ n * 64 ^ n
  | 0, _ => Nat.le_refl _
  | n + 1, h => by
    show hnum n * (n + 1) + hfac n ≤ _
    have h1 := Nat.mul_le_mul (hnum_le n (by omega)) (show n + 1 ≤ 64 by omega)
    have h2 := hfac_le n (by omega)
    rw [Nat.pow_succ, Nat.add_mul, Nat.one_mul]
    have h3 : n * 64 ^ n * 64 = n * (64 ^ n * 64) := Nat.mul_assoc _ _ _
    omega
theorem pow400 {n : Nat} (h : n ≤ 61) : n * 64 ^ n < 2 ^ 400 ∧ 64 ^ n < 2 ^ 400 := by
  have h2 : (64 : Nat) ^ n = 2 ^ (6 * n) := by rw [Nat.pow_mul]
  have h3 : 2 ^ (6 * n) ≤ 2 ^ 366 := Nat.pow_le_pow_right (by decide) (by omega)
  have h4 : n * 64 ^ n ≤ 2 ^ 6 * 2 ^ 366 := Nat.mul_le_mul (by show n ≤ 64; omega) (by omega)
  rw [← Nat.pow_add] at h4
  have h5 : (2 : Nat) ^ (6 + 366) < 2 ^ 400 := Nat.pow_lt_pow_right (by decide) (by decide)
  have h6 : (2 : Nat) ^ 366 < 2 ^ 400 := Nat.pow_lt_pow_right (by decide) (by decide)
  omega
theorem low_one (n : Nat) : low 1 ((n + 1 : Nat) : Int) = (1, ((n + 1 : Nat) : Int)) := by
  unfold low
  have : Int.gcd 1 ((n + 1 : Nat) : Int) = 1 := by simp
  rw [this]; simp
theorem low_neg (a b : Int) : low (-a) b = (-(low a b).1, (low a b).2) := by
  unfold low
  rw [Int.neg_gcd]
  rw [Int.neg_ediv_of_dvd (Int.gcd_dvd_left a b)]
theorem Rat'.neg {x : Int × Int} {a b : Int} {n : Nat} (h : Rat' x a b n) : Rat' (-x.1, x.2) (-a) b n :=
  ⟨by rw [low_neg, ← h.e], h.p, h.l1.neg, h.l2⟩
theorem hs_rat : ∀ n, n ≤ 61 → Rat' (hs n) (hnum n : Int) (hfac n : Int) 400
  | 0, _ => ⟨by decide, by decide, (by unfold Lg; show 0 < 2 ^ 400; exact Nat.two_pow_pos 400), (by unfold Lg; show 1 < 2 ^ 400; exact Nat.one_lt_two_pow (by decide))⟩
  | n + 1, h => by
    have ih := hs_rat n (by omega)
    have one : Rat' ((1 : Int), ((n + 1 : Nat) : Int)) 1 ((n + 1 : Nat) : Int) 400 := by
      refine ⟨(low_one n).symm, by omega, Lg.nat (x := 1) (Nat.one_lt_two_pow (by decide)), Lg.nat ?_⟩
      have : (2 : Nat) ^ 6 ≤ 2 ^ 400 := Nat.pow_le_pow_right (by decide) (by decide)
      omega
    have e := ih.plus one
    obtain ⟨p1, p2⟩ := pow400 h
    have l1 := hnum_le (n + 1) (by omega)
    have l2 := hfac_le (n + 1) (by omega)
    have e1 : ((hnum n : Nat) : Int) * ((n + 1 : Nat) : Int) + 1 * ((hfac n : Nat) : Int) = ((hnum (n + 1) : Nat) : Int) := by
      show _ = ((hnum n * (n + 1) + hfac n : Nat) : Int)
      rw [show ((hnum n * (n + 1) + hfac n : Nat) : Int) = (hnum n : Int) * ((n + 1 : Nat) : Int) + (hfac n : Int) from by rw [Int.natCast_add, Int.natCast_mul], Int.one_mul]
    have e2 : ((hfac n : Nat) : Int) * ((n + 1 : Nat) : Int) = ((hfac (n + 1) : Nat) : Int) := by
      exact (Int.natCast_mul _ _).symm
    refine ⟨?_, ?_, Lg.nat (by omega), Lg.nat (by omega)⟩
    · rw [← e1, ← e2, ← e]; rfl
    · have := hfac_pos (n + 1); omega
open PySem L2 G T
theorem cMul_lg {x y : Int} {n m : Nat} (a : Lg x n) (b : Lg y m) (hn : 0 < n) (hm : 0 < m) (h : n + m ≤ 900000) : cMul x y = true := by
  have h1 := log_lt a hn
  have h2 := log_lt b hm
  exact decide_eq_true (by omega)
theorem cDiv_lg {y : Int} {n : Nat} (h0 : 0 < y) (b : Lg y n) (hn : 0 < n) (h : n ≤ 9000) : cDiv y = true := by
  have h2 := log_lt b hn
  unfold cDiv
  rw [decide_eq_true h0, decide_eq_true (by omega : y.natAbs.log2 < 9000)]; rfl
theorem cMul_nat {x y n m : Nat} (a : x < 2 ^ n) (b : y < 2 ^ m) (hn : 0 < n) (hm : 0 < m) (h : n + m ≤ 900000) : cMul ((x : Nat) : Int) ((y : Nat) : Int) = true := by
  have h1 := log_lt a hn
  have h2 := log_lt b hm
  refine decide_eq_true ?_
  rw [Int.natAbs_natCast, Int.natAbs_natCast]; omega
theorem gcd_lg {a b : Int} {n : Nat} (lb : Lg b n) (hb : 0 < b) : Lg (Int.gcd a b : Int) n := by
  refine lb.le ?_
  rw [Int.natAbs_natCast]
  have h : Int.gcd a b ∣ b.natAbs := by
    rw [Int.gcd_eq_natAbs_gcd_natAbs]; exact Nat.gcd_dvd_right _ _
  exact Nat.le_of_dvd (by omega) h
theorem Rat'.ok {x : Int × Int} {a b : Int} {n : Nat} (h : Rat' x a b n) (hn : n ≤ 4000) : Lg x.1 4000 ∧ Lg x.2 4000 ∧ 0 < x.2 := ⟨h.lg.1.mono hn, h.lg.2.mono hn, h.pos⟩
theorem Rat'.plus' {x y : Int × Int} {a b c d : Int} {n m : Nat} (h : Rat' x a b n) (k : Rat' y c d m) : Rat' (low (x.1 * y.2 + y.1 * x.2) (x.2 * y.2)) (a * d + c * b) (b * d) (n + m + 1) :=
  ⟨h.plus k, Int.mul_pos h.p k.p, by
    have l1 := h.l1.mul k.l2
    have l2 := k.l1.mul h.l2
    rw [Nat.add_comm m n] at l2
    exact l1.add l2, (h.l2.mul k.l2).mono (by omega)⟩
end W

set_option maxHeartbeats 1000000
namespace W
open PySem L2 G T
def V_is_int (value : Nat) (Q : Bool → Prop) : Prop := Q (decide (True ∧ (¬False)))
theorem snd_is_int (value : Nat) {Q : Bool → Prop} (h : V_is_int value Q) (tp : List D) : ∃ r : Bool, Q r ∧ m_is_int [eN value] tp = .ok (eB r) tp := by
  obtain ⟨d, t, e1, rfl, r, rfl, q⟩ := T.wp_def (n := 1) (s := b_is_int) (ds := [eN value]) (tp := tp) (Q := fun d t => t = tp ∧ ∃ r : Bool, d = eB r ∧ Q r) (by
    unfold V_is_int at h
    change WP _ _ _ _ (b_is_int [some (eN value)] _)
    unfold b_is_int
    exact T.wp_ret (T.ev_andE (P := True) (Q := (¬False)) (T.ev_isi (d := eN value) (T.ev_v rfl) rfl kb_int_int) (fun hp => (T.ev_notE (P := False) (T.ev_isi (d := eN value) (T.ev_v rfl) rfl kb_int_bool)))) ⟨rfl, (decide (True ∧ (¬False))), rfl, h⟩)
  exact ⟨r, q, e1⟩
abbrev F_is_int (_ : Nat) : Bool := true
theorem ok_is_int (v : Nat) : V_is_int v (· = F_is_int v) := by simp [V_is_int]
theorem t_is_int {value : Nat} (_ : True) (tp : List D) : m_is_int [eN value] tp = .ok (eB (F_is_int value)) tp := by
  obtain ⟨r, rfl, e⟩ := snd_is_int value (ok_is_int value) tp
  exact e
end W

set_option maxHeartbeats 1000000
namespace W
open PySem L2 G T
def V_is_picture (value : (List Row)) (Q : Bool → Prop) : Prop := ((((¬True) ∨ (¬(1 ≤ value.length ∧ value.length ≤ 30))) → Q false) ∧ (¬((¬True) ∨ (¬(1 ≤ value.length ∧ value.length ≤ 30))) → (value.length ≤ 1000000) ∧ (¬(¬(∀ x1 ∈ value, True)) → (0 < value.length) ∧ ((value[0]!).length ≤ 1000000)) ∧ ((((¬(∀ x1 ∈ value, True)) ∨ (¬(1 ≤ (value[0]!).length ∧ (value[0]!).length ≤ 30))) → Q false) ∧ (¬((¬(∀ x1 ∈ value, True)) ∨ (¬(1 ≤ (value[0]!).length ∧ (value[0]!).length ≤ 30))) → (value.length ≤ 1000000) ∧ (∀ x6, x6 ∈ value → (x6.length ≤ 1000000) ∧ (0 < value.length) ∧ ((value[0]!).length ≤ 1000000) ∧ ((x6.length = (value[0]!).length) → (x6.length ≤ 1000000))) ∧ Q (decide (∀ x6 ∈ value, ((x6.length = (value[0]!).length) ∧ (∀ x11 ∈ x6, (x11 ∈ [true, false])))))))))
theorem snd_is_picture (value : (List Row)) {Q : Bool → Prop} (h : V_is_picture value Q) (tp : List D) : ∃ r : Bool, Q r ∧ m_is_picture [(eT eR) value] tp = .ok (eB r) tp := by
  obtain ⟨d, t, e1, rfl, r, rfl, q⟩ := T.wp_def (n := 3) (s := b_is_picture) (ds := [(eT eR) value]) (tp := tp) (Q := fun d t => t = tp ∧ ∃ r : Bool, d = eB r ∧ Q r) (by
    unfold V_is_picture at h
    change WP _ _ _ _ (b_is_picture [some ((eT eR) value), none, none] _)
    unfold b_is_picture
    refine T.wp_seq (T.wp_if (P := ((¬True) ∨ (¬(1 ≤ value.length ∧ value.length ≤ 30)))) (T.ev_orT (P := (¬True)) (Q := (¬(1 ≤ value.length ∧ value.length ≤ 30))) (T.ev_notT (P := True) (T.ev_bool (T.ev_isi (d := (eT eR) value) (T.ev_v rfl) rfl kb_tuple_tuple))) (fun hp => (T.ev_notT (P := (1 ≤ value.length ∧ value.length ≤ 30)) (T.ev_bool (T.ev_chLeLe (x := 1) (y := value.length) (z := 30) (T.ev_cN 1) (T.ev_lenT (e := eR) (xs := value) (T.ev_v rfl)) (T.ev_cN 30)))))) (fun hp => ?_) (fun hn => ?_))
    · replace h := h.1 hp
      exact T.wp_ret (T.ev_c rfl) ⟨rfl, false, rfl, h⟩
    · replace h := h.2 hn
      refine T.wp_skip ?_
      change WP _ _ _ _ (At _ [some ((eT eR) value), none, none] _)
      obtain ⟨c2, h⟩ := h
      obtain ⟨c5, h⟩ := h
      refine T.wp_seq (T.wp_if (P := ((¬(∀ x1 ∈ value, True)) ∨ (¬(1 ≤ (value[0]!).length ∧ (value[0]!).length ≤ 30)))) (T.ev_orT (P := (¬(∀ x1 ∈ value, True))) (Q := (¬(1 ≤ (value[0]!).length ∧ (value[0]!).length ≤ 30))) (T.ev_notT (P := (∀ x1 ∈ value, True)) (T.ev_bool (T.ev_allY (xs := value) (R := fun x1 => True) (T.ev_compY (e := eR) (e1 := eB) (xs := value) (ds := fun x1 => [eR x1]) (g := fun x1 => (decide True)) (T.it_T (e := eR) (xs := value) (T.ev_v rfl)) c2 (fun _ => rfl) (fun x1 hx => (T.ev_isi (d := eR x1) (T.ev_v rfl) rfl kb_str_str)))))) (fun hp => match c5 hp with | ⟨c3, c4⟩ => (T.ev_notT (P := (1 ≤ (value[0]!).length ∧ (value[0]!).length ≤ 30)) (T.ev_bool (T.ev_chLeLe (x := 1) (y := (value[0]!).length) (z := 30) (T.ev_cN 1) (T.ev_lenR (r := value[0]!) c4 (T.ev_ixT (e := eR) (xs := value) (i := 0) c3 (T.ev_v rfl) (T.ev_cN 0))) (T.ev_cN 30)))))) (fun hp => ?_) (fun hn => ?_))
      · replace h := h.1 hp
        exact T.wp_ret (T.ev_c rfl) ⟨rfl, false, rfl, h⟩
      · replace h := h.2 hn
        refine T.wp_skip ?_
        change WP _ _ _ _ (At _ [some ((eT eR) value), none, none] _)
        obtain ⟨c7, h⟩ := h
        obtain ⟨c14, h⟩ := h
        exact T.wp_ret (T.ev_allY (xs := value) (R := fun x6 => ((x6.length = (value[0]!).length) ∧ (∀ x11 ∈ x6, (x11 ∈ [true, false])))) (T.ev_compY (e := eR) (e1 := eB) (xs := value) (ds := fun x6 => [eR x6]) (g := fun x6 => (decide ((x6.length = (value[0]!).length) ∧ (∀ x11 ∈ x6, (x11 ∈ [true, false]))))) (T.it_T (e := eR) (xs := value) (T.ev_v rfl)) c7 (fun _ => rfl) (fun x6 hx => match c14 x6 hx with | ⟨c8, c9, c10, c13⟩ => (T.ev_andE (P := (x6.length = (value[0]!).length)) (Q := (∀ x11 ∈ x6, (x11 ∈ [true, false]))) (T.ev_eq (x := x6.length) (y := (value[0]!).length) qN rfl (T.ev_lenR (r := x6) c8 (T.ev_v rfl)) (T.ev_lenR (r := value[0]!) c10 (T.ev_ixT (e := eR) (xs := value) (i := 0) c9 (T.ev_v rfl) (T.ev_cN 0)))) (fun hp => have c12 := c13 hp; (T.ev_allY (xs := x6) (R := fun x11 => (x11 ∈ [true, false])) (T.ev_compY (e := eG) (e1 := eB) (xs := x6) (ds := fun x11 => [eG x11]) (g := fun x11 => (decide (x11 ∈ [true, false]))) (T.it_R (r := x6) (T.ev_v rfl)) c12 (fun _ => rfl) (fun x11 hx => (T.ev_inT (x := x11) (xs := [true, false]) qG rfl (T.ev_v rfl) (T.ev_tup (ds := [eG true, eG false]) (T.ev_cons (T.ev_c (congrArg D.str str_black)) (T.ev_cons (T.ev_c (congrArg D.str str_white)) T.ev_nil)) rfl)))))))))) ⟨rfl, (decide (∀ x6 ∈ value, ((x6.length = (value[0]!).length) ∧ (∀ x11 ∈ x6, (x11 ∈ [true, false]))))), rfl, h⟩)
  exact ⟨r, q, e1⟩
abbrev P_is_picture (p : Pic) : Prop := PicP p
abbrev F_is_picture (_ : Pic) : Bool := true
theorem ok_is_picture {p : Pic} (k : P_is_picture p) : V_is_picture p (· = F_is_picture p) := by
  have h1 := k.h1; have h30 := k.h30; have w1 := k.w1; have w30 := k.w30
  unfold V_is_picture
  refine ⟨fun h => ?_, fun _ => ⟨by omega, fun _ => ⟨by omega, by omega⟩, fun h => ?_, fun _ => ⟨by omega, fun r hr => ?_, ?_⟩⟩⟩
  · rcases h with h | h
    · exact (h trivial).elim
    · exact (h ⟨h1, h30⟩).elim
  · rcases h with h | h
    · exact (h fun _ _ => trivial).elim
    · exact (h ⟨w1, w30⟩).elim
  · have := k.row r hr
    exact ⟨by omega, by omega, by omega, fun _ => by omega⟩
  · refine decide_eq_true fun r hr => ⟨k.row r hr, fun b _ => ?_⟩
    cases b <;> simp
theorem t_is_picture {value : (List Row)} (hP : P_is_picture value) (tp : List D) : m_is_picture [(eT eR) value] tp = .ok (eB (F_is_picture value)) tp := by
  obtain ⟨r, rfl, e⟩ := snd_is_picture value (ok_is_picture hP) tp
  exact e
end W

set_option maxHeartbeats 1000000
namespace W
open PySem L2 G T
def V_lines_of (picture : (List Row)) (Q : Nat → Prop) : Prop := (0 < picture.length) ∧ ((picture[0]!).length ≤ 1000000) ∧ Q (picture.length + (picture[0]!).length)
theorem snd_lines_of (picture : (List Row)) {Q : Nat → Prop} (h : V_lines_of picture Q) (tp : List D) : ∃ r : Nat, Q r ∧ m_lines_of [(eT eR) picture] tp = .ok (eN r) tp := by
  obtain ⟨d, t, e1, rfl, r, rfl, q⟩ := T.wp_def (n := 1) (s := b_lines_of) (ds := [(eT eR) picture]) (tp := tp) (Q := fun d t => t = tp ∧ ∃ r : Nat, d = eN r ∧ Q r) (by
    unfold V_lines_of at h
    change WP _ _ _ _ (b_lines_of [some ((eT eR) picture)] _)
    unfold b_lines_of
    obtain ⟨c1, h⟩ := h
    obtain ⟨c2, h⟩ := h
    exact T.wp_ret (T.ev_add (x := picture.length) (y := (picture[0]!).length) (T.ev_lenT (e := eR) (xs := picture) (T.ev_v rfl)) (T.ev_lenR (r := picture[0]!) c2 (T.ev_ixT (e := eR) (xs := picture) (i := 0) c1 (T.ev_v rfl) (T.ev_cN 0)))) ⟨rfl, (picture.length + (picture[0]!).length), rfl, h⟩)
  exact ⟨r, q, e1⟩
abbrev P_lines_of (p : Pic) : Prop := PicP p
def F_lines_of (p : Pic) : Nat := p.length + p[0]!.length
theorem ok_lines_of {p : Pic} (k : P_lines_of p) : V_lines_of p (· = F_lines_of p) := ⟨k.h1, by have := k.w30; omega, rfl⟩
theorem t_lines_of {picture : (List Row)} (hP : P_lines_of picture) (tp : List D) : m_lines_of [(eT eR) picture] tp = .ok (eN (F_lines_of picture)) tp := by
  obtain ⟨r, rfl, e⟩ := snd_lines_of picture (ok_lines_of hP) tp
  exact e
end W

set_option maxHeartbeats 1000000
namespace W
open PySem L2 G T
def V_common (one : Int) (other : Int) (Q : Int → Prop) : Prop := ∃ (I1 : Int → Int → Prop) (M2 : Int → Int → Nat), I1 one other ∧ M2 one other < 1000000 ∧ (∀ one_1 : Int, ∀ other_1 : Int, I1 one_1 other_1 → (((other_1 ≠ (0 : Int)) → (0 < other_1) ∧ ∀ other_2 : Int, other_2 = (one_1 % other_1) → (I1 other_1 other_2 ∧ M2 other_1 other_2 < M2 one_1 other_1)) ∧ (¬(other_1 ≠ (0 : Int)) → Q ((one_1.natAbs : Nat) : Int))))
theorem snd_common (one : Int) (other : Int) {Q : Int → Prop} (h : V_common one other Q) (tp : List D) : ∃ r : Int, Q r ∧ m_common [eZ one, eZ other] tp = .ok (eZ r) tp := by
  obtain ⟨d, t, e1, rfl, r, rfl, q⟩ := T.wp_def (n := 2) (s := b_common) (ds := [eZ one, eZ other]) (tp := tp) (Q := fun d t => t = tp ∧ ∃ r : Int, d = eZ r ∧ Q r) (by
    unfold V_common at h
    change WP _ _ _ _ (b_common [some (eZ one), some (eZ other)] _)
    unfold b_common
    obtain ⟨I1, M2, h3, h4, h5⟩ := h
    refine T.wp_seq (T.wp_while (fun n env tz => tp = tz ∧ ∃ one_1 : Int, ∃ other_1 : Int, env = [some (eZ one_1), some (eZ other_1)] ∧ I1 one_1 other_1 ∧ M2 one_1 other_1 = n) ⟨_, h4, rfl, one, other, rfl, h3, rfl⟩ ?_)
    intro n6 env t hI
    obtain ⟨rfl, one_1, other_1, rfl, h, rfl⟩ := hI
    replace h := h5 one_1 other_1 h
    refine ⟨(other_1 ≠ (0 : Int)), inferInstance, (T.ev_bool (T.ev_ne (x := other_1) (y := (0 : Int)) qZ rfl (T.ev_v rfl) (T.ev_c rfl))), fun hp => ?_, fun hn => ?_⟩
    · replace h := h.1 hp
      obtain ⟨c8, h⟩ := h
      obtain ⟨other_2, d9⟩ : ∃ other_2 : Int, other_2 = (one_1 % other_1) := ⟨_, rfl⟩
      replace h := h other_2 d9
      refine T.wp_par (T.ev_cons (T.ev_v rfl) (T.ev_cons (T.ev_as d9 (e := eZ) (T.ev_modZ (x := one_1) (y := other_1) c8 (T.ev_v rfl) (T.ev_v rfl))) T.ev_nil)) rfl ?_
      exact ⟨_, h.2, rfl, other_1, other_2, rfl, h.1, rfl⟩
    · replace h := h.2 hn
      change WP _ _ _ _ (At _ [some (eZ one_1), some (eZ other_1)] _)
      exact T.wp_ret (T.ev_absZ (x := one_1) (T.ev_v rfl)) ⟨rfl, ((one_1.natAbs : Nat) : Int), rfl, h⟩)
  exact ⟨r, q, e1⟩
def gcdZ (one other : Int) : Nat := if other = 0 then 0 else if one < 0 then 2 * other.natAbs.log2 + 4 else gcdM one.natAbs other.natAbs
abbrev P_common (a b : Int) : Prop := Lg a 400000 ∧ Lg b 9000 ∧ 0 < b
abbrev F_common (a b : Int) : Int := (Int.gcd a b : Int)
theorem ok_common {a b : Int} (k : P_common a b) : V_common a b (· = F_common a b) := by
  obtain ⟨la, lb, hb⟩ := k
  refine ⟨fun x y => 0 ≤ y ∧ Int.gcd x y = Int.gcd a b, gcdZ, ⟨by omega, rfl⟩, ?_, fun x y h => ⟨fun hy => ⟨by omega, fun z hz => ?_⟩, fun hy => ?_⟩⟩
  · unfold gcdZ
    split
    · omega
    · split
      · have := log_lt lb (by omega); omega
      · have := gcdM_le la lb (by omega); omega
  · subst hz
    have yp : 0 < y := by omega
    have m0 := Int.emod_nonneg x hy
    have m1 := Int.emod_lt_of_pos x yp
    refine ⟨⟨m0, by rw [gcd_mod]; exact h.2⟩, ?_⟩
    unfold gcdZ
    rw [if_neg hy, if_neg (by omega : ¬ y < 0)]
    by_cases xn : x < 0
    · rw [if_pos xn]
      have h1 : (x % y).natAbs < 2 ^ (y.natAbs.log2 + 1) := by
        have := Nat.lt_log2_self (n := y.natAbs)
        omega
      have := gcdM_le (a := y.natAbs) (b := (x % y).natAbs) (Nat.lt_log2_self) h1 (by omega)
      split <;> omega
    · rw [if_neg xn]
      have e : (x % y).natAbs = x.natAbs % y.natAbs := by
        rw [Int.natAbs_emod x hy, if_pos (.inl (by omega))]
      have := gcdM_lt (a := x.natAbs) (b := y.natAbs) (by omega)
      rw [e]
      split <;> omega
  · have e : y = 0 := by omega
    subst e
    show ((x.natAbs : Nat) : Int) = (Int.gcd a b : Int)
    rw [← h.2, Int.gcd_zero_right]
theorem t_common {one : Int} {other : Int} (hP : P_common one other) (tp : List D) : m_common [eZ one, eZ other] tp = .ok (eZ (F_common one other)) tp := by
  obtain ⟨r, rfl, e⟩ := snd_common one other (ok_common hP) tp
  exact e
end W

set_option maxHeartbeats 1000000
namespace W
open PySem L2 G T
def V_raised (base : Nat) (times : Nat) (Q : Nat → Prop) : Prop := (times ≤ 1073741824) ∧ ∃ I3 : Nat → Nat → Prop, I3 0 1 ∧ (∀ (i7 : Nat) (x8 : Nat), (List.range times)[i7]? = some x8 → ∀ found : Nat, I3 i7 found → (cMul ((found : Nat) : Int) ((base : Nat) : Int) = true) ∧ ∀ found_1 : Nat, found_1 = (found * base) → I3 (i7 + 1) found_1) ∧ (∀ found : Nat, I3 (List.range times).length found → Q found)
theorem snd_raised (base : Nat) (times : Nat) {Q : Nat → Prop} (h : V_raised base times Q) (tp : List D) : ∃ r : Nat, Q r ∧ m_raised [eN base, eN times] tp = .ok (eN r) tp := by
  obtain ⟨d, t, e1, rfl, r, rfl, q⟩ := T.wp_def (n := 4) (s := b_raised) (ds := [eN base, eN times]) (tp := tp) (Q := fun d t => t = tp ∧ ∃ r : Nat, d = eN r ∧ Q r) (by
    unfold V_raised at h
    change WP _ _ _ _ (b_raised [some (eN base), some (eN times), none, none] _)
    unfold b_raised
    refine T.wp_seq (T.wp_set (T.ev_cN 1) ?_)
    change WP _ _ _ _ (At _ [some (eN base), some (eN times), some (eN 1), none] _)
    obtain ⟨c1, h⟩ := h
    obtain ⟨I3, h4, h5, h6⟩ := h
    refine T.wp_seq (T.wp_for (e := eN) (xs := (List.range times)) (ds := fun x8 => [eN x8]) (fun k env tz => tp = tz ∧ ∃ found : Nat, ∃ g2 : Option D, env = [some (eN base), some (eN times), some (eN found), g2] ∧ I3 k found) (T.it_range (n := times) c1 (T.ev_v rfl)) (fun _ => rfl) ⟨rfl, 1, _, rfl, h4⟩ ?_ ?_)
    · intro i7 x8 env t hk hI
      obtain ⟨rfl, found, g2, rfl, h⟩ := hI
      replace h := h5 i7 x8 hk found h
      change WP _ _ _ _ (At _ [some (eN base), some (eN times), some (eN found), some (eN x8)] _)
      obtain ⟨c11, h⟩ := h
      obtain ⟨found_1, d12⟩ : ∃ found_1 : Nat, found_1 = (found * base) := ⟨_, rfl⟩
      replace h := h found_1 d12
      refine T.wp_set (T.ev_as d12 (e := eN) (T.ev_mul (x := found) (y := base) c11 (T.ev_v rfl) (T.ev_v rfl))) ?_
      exact ⟨rfl, found_1, _, rfl, h⟩
    rintro _ _ ⟨rfl, found, g2, rfl, h⟩
    replace h := h6 found h
    change WP _ _ _ _ (At _ [some (eN base), some (eN times), some (eN found), g2] _)
    exact T.wp_ret (T.ev_v rfl) ⟨rfl, found, rfl, h⟩)
  exact ⟨r, q, e1⟩
abbrev P_raised (b t : Nat) : Prop := b ≤ 64 ∧ t ≤ 200
abbrev F_raised (b t : Nat) : Nat := b ^ t
theorem ok_raised {b t : Nat} (k : P_raised b t) : V_raised b t (· = F_raised b t) := by
  refine ⟨by omega, fun i f => f = b ^ i, rfl, fun i x hx f hf => ⟨?_, fun g hg => ?_⟩, fun f hf => ?_⟩
  · subst hf
    have hi : i < t := by
      have := (List.getElem?_eq_some_iff.mp hx).1; rwa [List.length_range] at this
    exact cMul_nat (pow_lt' k.1 (by omega)) (show b < 2 ^ 7 by have := k.1; omega) (by omega) (by omega) (by omega)
  · subst hg hf; rw [Nat.pow_succ]
  · rw [List.length_range] at hf; exact hf
theorem t_raised {base : Nat} {times : Nat} (hP : P_raised base times) (tp : List D) : m_raised [eN base, eN times] tp = .ok (eN (F_raised base times)) tp := by
  obtain ⟨r, rfl, e⟩ := snd_raised base times (ok_raised hP) tp
  exact e
end W

set_option maxHeartbeats 1000000
namespace W
open PySem L2 G T
def V_law_common (one : Int) (other : Int) (Q : Nat → Prop) : Prop := ∃ (I1 : Nat → Nat → Prop) (M2 : Nat → Nat → Nat), I1 one.natAbs other.natAbs ∧ M2 one.natAbs other.natAbs < 1000000 ∧ (∀ one_1 : Nat, ∀ other_1 : Nat, I1 one_1 other_1 → (((other_1 ≠ 0) → (0 < other_1) ∧ ∀ other_2 : Nat, other_2 = (one_1 % other_1) → (I1 other_1 other_2 ∧ M2 other_1 other_2 < M2 one_1 other_1)) ∧ (¬(other_1 ≠ 0) → Q one_1)))
theorem snd_law_common (one : Int) (other : Int) {Q : Nat → Prop} (h : V_law_common one other Q) (tp : List D) : ∃ r : Nat, Q r ∧ m_law_common [eZ one, eZ other] tp = .ok (eN r) tp := by
  obtain ⟨d, t, e1, rfl, r, rfl, q⟩ := T.wp_def (n := 2) (s := b_law_common) (ds := [eZ one, eZ other]) (tp := tp) (Q := fun d t => t = tp ∧ ∃ r : Nat, d = eN r ∧ Q r) (by
    unfold V_law_common at h
    change WP _ _ _ _ (b_law_common [some (eZ one), some (eZ other)] _)
    unfold b_law_common
    refine T.wp_seq (T.wp_par (T.ev_cons (T.ev_absZ (x := one) (T.ev_v rfl)) (T.ev_cons (T.ev_absZ (x := other) (T.ev_v rfl)) T.ev_nil)) rfl ?_)
    change WP _ _ _ _ (At _ [some (eN one.natAbs), some (eN other.natAbs)] _)
    obtain ⟨I1, M2, h3, h4, h5⟩ := h
    refine T.wp_seq (T.wp_while (fun n env tz => tp = tz ∧ ∃ one_1 : Nat, ∃ other_1 : Nat, env = [some (eN one_1), some (eN other_1)] ∧ I1 one_1 other_1 ∧ M2 one_1 other_1 = n) ⟨_, h4, rfl, one.natAbs, other.natAbs, rfl, h3, rfl⟩ ?_)
    intro n6 env t hI
    obtain ⟨rfl, one_1, other_1, rfl, h, rfl⟩ := hI
    replace h := h5 one_1 other_1 h
    refine ⟨(other_1 ≠ 0), inferInstance, (T.ev_bool (T.ev_ne (x := other_1) (y := 0) qN rfl (T.ev_v rfl) (T.ev_cN 0))), fun hp => ?_, fun hn => ?_⟩
    · replace h := h.1 hp
      obtain ⟨c8, h⟩ := h
      obtain ⟨other_2, d9⟩ : ∃ other_2 : Nat, other_2 = (one_1 % other_1) := ⟨_, rfl⟩
      replace h := h other_2 d9
      refine T.wp_par (T.ev_cons (T.ev_v rfl) (T.ev_cons (T.ev_as d9 (e := eN) (T.ev_mod (x := one_1) (y := other_1) c8 (T.ev_v rfl) (T.ev_v rfl))) T.ev_nil)) rfl ?_
      exact ⟨_, h.2, rfl, other_1, other_2, rfl, h.1, rfl⟩
    · replace h := h.2 hn
      change WP _ _ _ _ (At _ [some (eN one_1), some (eN other_1)] _)
      exact T.wp_ret (T.ev_v rfl) ⟨rfl, one_1, rfl, h⟩)
  exact ⟨r, q, e1⟩
abbrev P_law_common (a b : Int) : Prop := Lg a 400000 ∧ Lg b 400000
abbrev F_law_common (a b : Int) : Nat := Int.gcd a b
theorem ok_law_common {a b : Int} (k : P_law_common a b) : V_law_common a b (· = F_law_common a b) := by
  obtain ⟨la, lb⟩ := k
  refine ⟨fun x y => Nat.gcd x y = Nat.gcd a.natAbs b.natAbs, gcdM, rfl, ?_, fun x y h => ⟨fun hy => ⟨by omega, fun z hz => ?_⟩, fun hy => ?_⟩⟩
  · have := gcdM_le la lb (by omega); omega
  · subst hz
    exact ⟨by rw [← h, Nat.gcd_comm x y, Nat.gcd_rec y x, Nat.gcd_comm], gcdM_lt hy⟩
  · have e : y = 0 := by omega
    subst e
    show x = Int.gcd a b
    rw [Int.gcd_eq_natAbs_gcd_natAbs, ← h, Nat.gcd_zero_right]
theorem t_law_common {one : Int} {other : Int} (hP : P_law_common one other) (tp : List D) : m_law_common [eZ one, eZ other] tp = .ok (eN (F_law_common one other)) tp := by
  obtain ⟨r, rfl, e⟩ := snd_law_common one other (ok_law_common hP) tp
  exact e
end W

set_option maxHeartbeats 1000000
namespace W
open PySem L2 G T
def V_law_all_painted (lines : Nat) (many : Nat) (times : Nat) (Q : Int → Prop) : Prop := (many ≤ 16777216) ∧ ([1].length + (List.replicate many 0).length ≤ 1000000) ∧ ∀ counts : (List Nat), counts = ([1] ++ (List.replicate many 0)) → (times ≤ 1073741824) ∧ ∃ I8 : Nat → (List Nat) → Prop, I8 0 counts ∧ (∀ (i12 : Nat) (x13 : Nat), (List.range times)[i12]? = some x13 → ∀ counts_1 : (List Nat), I8 i12 counts_1 → ((many + 1) ≤ 16777216) ∧ ∀ later : (List Nat), later = (List.replicate (many + 1) 0) → ((many + 1) ≤ 1073741824) ∧ ∃ I20 : Nat → (List Nat) → Prop, I20 0 later ∧ (∀ (i24 : Nat) (x25 : Nat), (List.range (many + 1))[i24]? = some x25 → ∀ later_1 : (List Nat), I20 i24 later_1 → (x25 < later_1.length) ∧ (x25 < counts_1.length) ∧ (many ≤ lines) ∧ (cMul ((counts_1[x25]! : Nat) : Int) ((((lines - many) + x25) : Nat) : Int) = true) ∧ ∀ later_2 : (List Nat), later_2 = (later_1.set x25 (later_1[x25]! + (counts_1[x25]! * ((lines - many) + x25)))) → ∃ J33 : (List Nat) → Prop, ((x25 < many) → ((x25 + 1) < later_2.length) ∧ (x25 < counts_1.length) ∧ (x25 ≤ many) ∧ (cMul ((counts_1[x25]! : Nat) : Int) (((many - x25) : Nat) : Int) = true) ∧ ∀ later_4 : (List Nat), later_4 = (later_2.set (x25 + 1) (later_2[(x25 + 1)]! + (counts_1[x25]! * (many - x25)))) → J33 later_4) ∧ (¬(x25 < many) → J33 later_2) ∧ (∀ later_3 : (List Nat), J33 later_3 → I20 (i24 + 1) later_3)) ∧ (∀ later_1 : (List Nat), I20 (List.range (many + 1)).length later_1 → I8 (i12 + 1) later_1)) ∧ (∀ counts_1 : (List Nat), I8 (List.range times).length counts_1 → (many < counts_1.length) ∧ Q ((counts_1[many]! : Nat) : Int))
theorem snd_law_all_painted (lines : Nat) (many : Nat) (times : Nat) {Q : Int → Prop} (h : V_law_all_painted lines many times Q) (tp : List D) : ∃ r : Int, Q r ∧ m_law_all_painted [eN lines, eN many, eN times] tp = .ok (eZ r) tp := by
  obtain ⟨d, t, e1, rfl, r, rfl, q⟩ := T.wp_def (n := 7) (s := b_law_all_painted) (ds := [eN lines, eN many, eN times]) (tp := tp) (Q := fun d t => t = tp ∧ ∃ r : Int, d = eZ r ∧ Q r) (by
    unfold V_law_all_painted at h
    change WP _ _ _ _ (b_law_all_painted [some (eN lines), some (eN many), some (eN times), none, none, none, none] _)
    unfold b_law_all_painted
    obtain ⟨c1, h⟩ := h
    obtain ⟨c2, h⟩ := h
    obtain ⟨counts, d3⟩ : ∃ counts : (List Nat), counts = ([1] ++ (List.replicate many 0)) := ⟨_, rfl⟩
    replace h := h counts d3
    refine T.wp_seq (T.wp_set (T.ev_as d3 (e := (eL eN)) (T.ev_catL (e := eN) (xs := [1]) (ys := (List.replicate many 0)) c2 (T.ev_lst (ds := [eN 1]) (T.ev_cons (T.ev_cN 1) T.ev_nil) rfl) (T.ev_repL1 (e := eN) (x := 0) (n := many) c1 (T.ev_lst (ds := [eN 0]) (T.ev_cons (T.ev_cN 0) T.ev_nil) rfl) (T.ev_v rfl)))) ?_)
    change WP _ _ _ _ (At _ [some (eN lines), some (eN many), some (eN times), some ((eL eN) counts), none, none, none] _)
    obtain ⟨c4, h⟩ := h
    obtain ⟨I8, h9, h10, h11⟩ := h
    refine T.wp_seq (T.wp_for (e := eN) (xs := (List.range times)) (ds := fun x13 => [eN x13]) (fun k env tz => tp = tz ∧ ∃ counts_1 : (List Nat), ∃ g5 : Option D, ∃ g6 : Option D, ∃ g7 : Option D, env = [some (eN lines), some (eN many), some (eN times), some ((eL eN) counts_1), g5, g6, g7] ∧ I8 k counts_1) (T.it_range (n := times) c4 (T.ev_v rfl)) (fun _ => rfl) ⟨rfl, counts, _, _, _, rfl, h9⟩ ?_ ?_)
    · intro i12 x13 env t hk hI
      obtain ⟨rfl, counts_1, g5, g6, g7, rfl, h⟩ := hI
      replace h := h10 i12 x13 hk counts_1 h
      change WP _ _ _ _ (At _ [some (eN lines), some (eN many), some (eN times), some ((eL eN) counts_1), some (eN x13), g6, g7] _)
      obtain ⟨c16, h⟩ := h
      obtain ⟨later, d17⟩ : ∃ later : (List Nat), later = (List.replicate (many + 1) 0) := ⟨_, rfl⟩
      replace h := h later d17
      refine T.wp_seq (T.wp_setF (T.ev_as d17 (e := (eL eN)) (T.ev_lrep1 (e := eN) (x := 0) (n := (many + 1)) c16 (T.ev_lst (ds := [eN 0]) (T.ev_cons (T.ev_cN 0) T.ev_nil) rfl) (T.ev_add (x := many) (y := 1) (T.ev_v rfl) (T.ev_cN 1)))) rfl ?_)
      change WP _ _ _ _ (At _ [some (eN lines), some (eN many), some (eN times), some ((eL eN) counts_1), some (eN x13), some ((eL eN) later), g7] _)
      obtain ⟨c18, h⟩ := h
      obtain ⟨I20, h21, h22, h23⟩ := h
      refine T.wp_seq (T.wp_for (e := eN) (xs := (List.range (many + 1))) (ds := fun x25 => [eN x25]) (fun k env tz => tp = tz ∧ ∃ later_1 : (List Nat), ∃ g19 : Option D, env = [some (eN lines), some (eN many), some (eN times), some ((eL eN) counts_1), some (eN x13), some ((eL eN) later_1), g19] ∧ I20 k later_1) (T.it_range (n := (many + 1)) c18 (T.ev_add (x := many) (y := 1) (T.ev_v rfl) (T.ev_cN 1))) (fun _ => rfl) ⟨rfl, later, _, rfl, h21⟩ ?_ ?_)
      · intro i24 x25 env t hk hI
        obtain ⟨rfl, later_1, g19, rfl, h⟩ := hI
        replace h := h22 i24 x25 hk later_1 h
        change WP _ _ _ _ (At _ [some (eN lines), some (eN many), some (eN times), some ((eL eN) counts_1), some (eN x13), some ((eL eN) later_1), some (eN x25)] _)
        obtain ⟨c28, h⟩ := h
        obtain ⟨c29, h⟩ := h
        obtain ⟨c30, h⟩ := h
        obtain ⟨c31, h⟩ := h
        obtain ⟨later_2, d32⟩ : ∃ later_2 : (List Nat), later_2 = (later_1.set x25 (later_1[x25]! + (counts_1[x25]! * ((lines - many) + x25)))) := ⟨_, rfl⟩
        replace h := h later_2 d32
        refine T.wp_seq (T.wp_lset (e := eN) (xs := later_1) (k := x25) (x := (later_1[x25]! + (counts_1[x25]! * ((lines - many) + x25)))) rfl (T.ev_add (x := later_1[x25]!) (y := (counts_1[x25]! * ((lines - many) + x25))) (T.ev_ixL (e := eN) (xs := later_1) (i := x25) c28 (T.ev_v rfl) (T.ev_v rfl)) (T.ev_mul (x := counts_1[x25]!) (y := ((lines - many) + x25)) c31 (T.ev_ixL (e := eN) (xs := counts_1) (i := x25) c29 (T.ev_v rfl) (T.ev_v rfl)) (T.ev_add (x := (lines - many)) (y := x25) (T.ev_sub (x := lines) (y := many) c30 (T.ev_v rfl) (T.ev_v rfl)) (T.ev_v rfl)))) (T.ev_v rfl) c28 ?_)
        rw [← d32]
        change WP _ _ _ _ (At _ [some (eN lines), some (eN many), some (eN times), some ((eL eN) counts_1), some (eN x13), some ((eL eN) later_2), some (eN x25)] _)
        obtain ⟨J33, h34, h35, h36⟩ := h
        refine T.wp_ifJ (P := (x25 < many)) (J := fun env tz => tp = tz ∧ ∃ later_3 : (List Nat), env = [some (eN lines), some (eN many), some (eN times), some ((eL eN) counts_1), some (eN x13), some ((eL eN) later_3), some (eN x25)] ∧ J33 later_3) (T.ev_bool (T.ev_lt (x := x25) (y := many) (T.ev_v rfl) (T.ev_v rfl))) (fun hp => ?_) (fun hn => ?_) ?_
        · replace h := h34 hp
          obtain ⟨c37, h⟩ := h
          obtain ⟨c38, h⟩ := h
          obtain ⟨c39, h⟩ := h
          obtain ⟨c40, h⟩ := h
          obtain ⟨later_4, d41⟩ : ∃ later_4 : (List Nat), later_4 = (later_2.set (x25 + 1) (later_2[(x25 + 1)]! + (counts_1[x25]! * (many - x25)))) := ⟨_, rfl⟩
          replace h := h later_4 d41
          refine T.wp_lset (e := eN) (xs := later_2) (k := (x25 + 1)) (x := (later_2[(x25 + 1)]! + (counts_1[x25]! * (many - x25)))) rfl (T.ev_add (x := later_2[(x25 + 1)]!) (y := (counts_1[x25]! * (many - x25))) (T.ev_ixL (e := eN) (xs := later_2) (i := (x25 + 1)) c37 (T.ev_v rfl) (T.ev_add (x := x25) (y := 1) (T.ev_v rfl) (T.ev_cN 1))) (T.ev_mul (x := counts_1[x25]!) (y := (many - x25)) c40 (T.ev_ixL (e := eN) (xs := counts_1) (i := x25) c38 (T.ev_v rfl) (T.ev_v rfl)) (T.ev_sub (x := many) (y := x25) c39 (T.ev_v rfl) (T.ev_v rfl)))) (T.ev_add (x := x25) (y := 1) (T.ev_v rfl) (T.ev_cN 1)) c37 ?_
          rw [← d41]
          exact ⟨rfl, later_4, rfl, h⟩
        · replace h := h35 hn
          refine T.wp_skip ?_
          exact ⟨rfl, later_2, rfl, h⟩
        rintro _ _ ⟨rfl, later_3, rfl, h⟩
        replace h := h36 later_3 h
        exact ⟨rfl, later_3, _, rfl, h⟩
      rintro _ _ ⟨rfl, later_1, g19, rfl, h⟩
      replace h := h23 later_1 h
      change WP _ _ _ _ (At _ [some (eN lines), some (eN many), some (eN times), some ((eL eN) counts_1), some (eN x13), some ((eL eN) later_1), g19] _)
      refine T.wp_set (T.ev_v rfl) ?_
      exact ⟨rfl, later_1, _, _, _, rfl, h⟩
    rintro _ _ ⟨rfl, counts_1, g5, g6, g7, rfl, h⟩
    replace h := h11 counts_1 h
    change WP _ _ _ _ (At _ [some (eN lines), some (eN many), some (eN times), some ((eL eN) counts_1), g5, g6, g7] _)
    obtain ⟨c48, h⟩ := h
    exact T.wp_ret (T.ev_ixL (e := eN) (xs := counts_1) (i := many) c48 (T.ev_v rfl) (T.ev_v rfl)) ⟨rfl, ((counts_1[many]! : Nat) : Int), rfl, h⟩)
  exact ⟨r, q, e1⟩
abbrev P_law_all_painted (n m t : Nat) : Prop := m ≤ n ∧ n ≤ 60 ∧ t ≤ 200
abbrev F_law_all_painted (n m t : Nat) : Int := ((cnt m (n - m) t m : Nat) : Int)
theorem ok_law_all_painted {n m t : Nat} (k : P_law_all_painted n m t) : V_law_all_painted n m t (· = F_law_all_painted n m t) := by
  obtain ⟨hm, hn, ht⟩ := k
  have cl : ∀ i d, i ≤ 200 → d ≤ m → cnt m (n - m) i d < 2 ^ 1300 := fun i d hi hd =>
    Nat.lt_of_le_of_lt (cnt_le m (n - m) i d hd) (pow_lt' (by omega) hi)
  refine ⟨by omega, by simp; omega, fun counts hc => ⟨by omega, fun i cs => cs = (List.range (m + 1)).map (cnt m (n - m) i), ?_, fun i x hx cs hI => ?_, fun cs hI => ?_⟩⟩
  · rw [hc, range_rep]
    apply List.ext_getElem
    · simp
    · intro j h1 h2
      simp only [List.getElem_map, List.getElem_range]
      cases j with
      | zero => rfl
      | succ j => simp [cnt]
  · have hi : i < t := by have := (List.getElem?_eq_some_iff.mp hx).1; rwa [List.length_range] at this
    refine ⟨by omega, fun later hl => ⟨by omega, fun j ls => ls = (List.range (m + 1)).map (part1 m (n - m) i j), ?_, fun j y hy ls hJ => ?_, fun ls hJ => ?_⟩⟩
    · rw [hl, range_rep]
      exact map_range_eq fun d _ => (part1_0 _ _ _ _).symm
    · have hj : j < m + 1 := by have := (List.getElem?_eq_some_iff.mp hy).1; rwa [List.length_range] at this
      have ey : y = j := by rw [List.getElem?_range hj] at hy; exact (Option.some.inj hy).symm
      subst ey
      have lc : cs[y]! = cnt m (n - m) i y := by rw [hI]; exact map_range_get hj
      have cly := cl i y (by omega) (by omega)
      refine ⟨by rw [hJ]; simpa using hj, by rw [hI]; simpa using hj, hm, ?_, fun l2 h2 => ?_⟩
      · rw [lc]; exact cMul_nat cly (show (n - m + y) < 2 ^ 7 by omega) (by omega) (by omega) (by omega)
      have e2 : l2 = (List.range (m + 1)).map fun d => if d = y then part1 m (n - m) i y y + cnt m (n - m) i y * (n - m + y) else part1 m (n - m) i y d := by
        rw [h2, lc, hJ, map_range_get hj, map_range_set]
      refine ⟨fun ls => ls = (List.range (m + 1)).map (part1 m (n - m) i (y + 1)), fun hlt => ⟨by rw [e2]; simp; omega, by rw [hI]; simp; omega, by omega, ?_, fun l4 h4 => ?_⟩, fun hge => ?_, fun l3 h3 => h3⟩
      · rw [lc]; exact cMul_nat cly (show (m - y) < 2 ^ 7 by omega) (by omega) (by omega) (by omega)
      · rw [h4, lc, e2, map_range_get (show y + 1 < m + 1 by omega), map_range_set]
        refine map_range_eq fun d hd => ?_
        unfold part1
        by_cases q1 : d = y + 1
        · subst q1
          rw [if_pos rfl, if_neg (show ¬ y + 1 = y by omega), if_neg (show ¬ y + 1 < y by omega), if_neg (show ¬ (1 ≤ y + 1 ∧ y + 1 - 1 < y) by omega), if_neg (show ¬ y + 1 < y + 1 by omega), if_pos (show (1 ≤ y + 1 ∧ y + 1 - 1 < y + 1) by omega)]
          have : y + 1 - 1 = y := by omega
          rw [this]; try omega
        · rw [if_neg q1]
          by_cases q2 : d = y
          · subst q2
            rw [if_pos rfl, if_neg (show ¬ d < d by omega), if_pos (show d < d + 1 by omega)]
            by_cases q3 : 1 ≤ d
            · rw [if_pos ⟨q3, by omega⟩, if_pos ⟨q3, by omega⟩]; omega
            · rw [if_neg (by omega), if_neg (by omega)]; omega
          · rw [if_neg q2]
            have i1 : (d < y) = (d < y + 1) := propext ⟨fun h => by omega, fun h => by omega⟩
            have i2 : (1 ≤ d ∧ d - 1 < y) = (1 ≤ d ∧ d - 1 < y + 1) := propext ⟨fun h => ⟨h.1, by omega⟩, fun h => ⟨h.1, by omega⟩⟩
            simp only [i1, i2]
      · rw [e2]
        refine map_range_eq fun d hd => ?_
        have ym : y = m := by omega
        unfold part1
        by_cases q2 : d = y
        · subst q2
          rw [if_pos rfl, if_neg (show ¬ d < d by omega), if_pos (show d < d + 1 by omega)]
          by_cases q3 : 1 ≤ d
          · rw [if_pos ⟨q3, by omega⟩, if_pos ⟨q3, by omega⟩]; omega
          · rw [if_neg (by omega), if_neg (by omega)]; omega
        · rw [if_neg q2]
          have i1 : (d < y) = (d < y + 1) := propext ⟨fun h => by omega, fun h => by omega⟩
          have i2 : (1 ≤ d ∧ d - 1 < y) = (1 ≤ d ∧ d - 1 < y + 1) := propext ⟨fun h => ⟨h.1, by omega⟩, fun h => ⟨h.1, by omega⟩⟩
          simp only [i1, i2]
    · show ls = (List.range (m + 1)).map (cnt m (n - m) (i + 1))
      rw [List.length_range] at hJ
      rw [hJ]
      exact map_range_eq fun d hd => part1_end _ _ _ _ (by omega)
  · rw [List.length_range] at hI
    refine ⟨by rw [hI]; simp, ?_⟩
    rw [hI, map_range_get (show m < m + 1 by omega)]
theorem t_law_all_painted {lines : Nat} {many : Nat} {times : Nat} (hP : P_law_all_painted lines many times) (tp : List D) : m_law_all_painted [eN lines, eN many, eN times] tp = .ok (eZ (F_law_all_painted lines many times)) tp := by
  obtain ⟨r, rfl, e⟩ := snd_law_all_painted lines many times (ok_law_all_painted hP) tp
  exact e
end W

set_option maxHeartbeats 1000000
namespace W
open PySem L2 G T
def V_is_in (value : Nat) (least : Nat) (most : Nat) (Q : Bool → Prop) : Prop := Q (decide (((F_is_int value) = true) ∧ (least ≤ value ∧ value ≤ most)))
theorem snd_is_in (value : Nat) (least : Nat) (most : Nat) {Q : Bool → Prop} (h : V_is_in value least most Q) (tp : List D) : ∃ r : Bool, Q r ∧ m_is_in [eN value, eN least, eN most] tp = .ok (eB r) tp := by
  obtain ⟨d, t, e1, rfl, r, rfl, q⟩ := T.wp_def (n := 3) (s := b_is_in) (ds := [eN value, eN least, eN most]) (tp := tp) (Q := fun d t => t = tp ∧ ∃ r : Bool, d = eB r ∧ Q r) (by
    unfold V_is_in at h
    change WP _ _ _ _ (b_is_in [some (eN value), some (eN least), some (eN most)] _)
    unfold b_is_in
    exact T.wp_ret (T.ev_andE (P := ((F_is_int value) = true)) (Q := (least ≤ value ∧ value ≤ most)) (T.ev_decB (F_is_int value) (T.ev_call (T.ev_cons (T.ev_v rfl) T.ev_nil) rfl (t_is_int True.intro _))) (fun hp => (T.ev_chLeLe (x := least) (y := value) (z := most) (T.ev_v rfl) (T.ev_v rfl) (T.ev_v rfl)))) ⟨rfl, (decide (((F_is_int value) = true) ∧ (least ≤ value ∧ value ≤ most))), rfl, h⟩)
  exact ⟨r, q, e1⟩
def F_is_in (v l m : Nat) : Bool := decide (l ≤ v ∧ v ≤ m)
theorem ok_is_in (v l m : Nat) : V_is_in v l m (· = F_is_in v l m) := by simp [V_is_in, F_is_in]
theorem t_is_in {value : Nat} {least : Nat} {most : Nat} (_ : True) (tp : List D) : m_is_in [eN value, eN least, eN most] tp = .ok (eB (F_is_in value least most)) tp := by
  obtain ⟨r, rfl, e⟩ := snd_is_in value least most (ok_is_in value least most) tp
  exact e
end W

set_option maxHeartbeats 1000000
namespace W
open PySem L2 G T
def V_need_picture (value : (List Row)) (Q : Unit → Prop) : Prop := (P_is_picture value) ∧ ((F_is_picture value) = true) ∧ Q ()
theorem snd_need_picture (value : (List Row)) {Q : Unit → Prop} (h : V_need_picture value Q) (tp : List D) : ∃ r : Unit, Q r ∧ m_need_picture [(eT eR) value] tp = .ok (eU r) tp := by
  obtain ⟨d, t, e1, rfl, r, rfl, q⟩ := T.wp_def (n := 1) (s := b_need_picture) (ds := [(eT eR) value]) (tp := tp) (Q := fun d t => t = tp ∧ ∃ r : Unit, d = eU r ∧ Q r) (by
    unfold V_need_picture at h
    change WP _ _ _ _ (b_need_picture [some ((eT eR) value)] _)
    unfold b_need_picture
    obtain ⟨c1, h⟩ := h
    obtain ⟨hf, h⟩ := h
    refine T.wp_if (P := (¬((F_is_picture value) = true))) (T.ev_notT (P := ((F_is_picture value) = true)) (T.ev_dec (F_is_picture value) (T.ev_call (T.ev_cons (T.ev_v rfl) T.ev_nil) rfl (t_is_picture c1 _)))) (fun hp => ?_) (fun hn => ?_)
    · exact absurd hp ((fun h0 => h0 (hf)))
    · refine T.wp_skip ?_
      exact ⟨rfl, (), rfl, h⟩)
  exact ⟨r, q, e1⟩
abbrev P_need_picture (p : Pic) : Prop := PicP p
abbrev F_need_picture (_ : Pic) : Unit := ()
theorem ok_need_picture {p : Pic} (k : P_need_picture p) : V_need_picture p (· = F_need_picture p) := ⟨k, rfl, rfl⟩
theorem t_need_picture {value : (List Row)} (hP : P_need_picture value) (tp : List D) : m_need_picture [(eT eR) value] tp = .ok (eU (F_need_picture value)) tp := by
  obtain ⟨r, rfl, e⟩ := snd_need_picture value (ok_need_picture hP) tp
  exact e
end W

set_option maxHeartbeats 1000000
namespace W
open PySem L2 G T
def V_lowered (above : Int) (low : Int) (Q : (Int × Int) → Prop) : Prop := (P_common above low) ∧ ∀ shared : Int, shared = (F_common above low) → (cDiv shared = true) ∧ Q ((above / shared), (low / shared))
theorem snd_lowered (above : Int) (low : Int) {Q : (Int × Int) → Prop} (h : V_lowered above low Q) (tp : List D) : ∃ r : (Int × Int), Q r ∧ m_lowered [eZ above, eZ low] tp = .ok ((eP eZ eZ) r) tp := by
  obtain ⟨d, t, e1, rfl, r, rfl, q⟩ := T.wp_def (n := 3) (s := b_lowered) (ds := [eZ above, eZ low]) (tp := tp) (Q := fun d t => t = tp ∧ ∃ r : (Int × Int), d = (eP eZ eZ) r ∧ Q r) (by
    unfold V_lowered at h
    change WP _ _ _ _ (b_lowered [some (eZ above), some (eZ low), none] _)
    unfold b_lowered
    obtain ⟨c1, h⟩ := h
    obtain ⟨shared, d2⟩ : ∃ shared : Int, shared = (F_common above low) := ⟨_, rfl⟩
    replace h := h shared d2
    refine T.wp_seq (T.wp_set (T.ev_as d2 (e := eZ) (T.ev_call (T.ev_cons (T.ev_v rfl) (T.ev_cons (T.ev_v rfl) T.ev_nil)) rfl (t_common c1 _))) ?_)
    change WP _ _ _ _ (At _ [some (eZ above), some (eZ low), some (eZ shared)] _)
    obtain ⟨c3, h⟩ := h
    exact T.wp_ret (T.ev_tup (ds := [eZ (above / shared), eZ (low / shared)]) (T.ev_cons (T.ev_fdivZ (x := above) (y := shared) c3 (T.ev_v rfl) (T.ev_v rfl)) (T.ev_cons (T.ev_fdivZ (x := low) (y := shared) c3 (T.ev_v rfl) (T.ev_v rfl)) T.ev_nil)) rfl) ⟨rfl, ((above / shared), (low / shared)), rfl, h⟩)
  exact ⟨r, q, e1⟩
abbrev P_lowered (a b : Int) : Prop := Lg a 400000 ∧ Lg b 9000 ∧ 0 < b
abbrev F_lowered (a b : Int) : Int × Int := low a b
theorem ok_lowered {a b : Int} (k : P_lowered a b) : V_lowered a b (· = F_lowered a b) := by
  refine ⟨k, fun s hs => ?_⟩
  subst hs
  exact ⟨cDiv_lg (gcd_pos k.2.2) (gcd_lg k.2.1 k.2.2) (by omega) (by omega), rfl⟩
theorem t_lowered {above : Int} {low : Int} (hP : P_lowered above low) (tp : List D) : m_lowered [eZ above, eZ low] tp = .ok ((eP eZ eZ) (F_lowered above low)) tp := by
  obtain ⟨r, rfl, e⟩ := snd_lowered above low (ok_lowered hP) tp
  exact e
end W

set_option maxHeartbeats 1000000
namespace W
open PySem L2 G T
def V_law_lowered (above : Int) (low : Int) (Q : (Int × Int) → Prop) : Prop := (P_law_common above low) ∧ ∀ shared : Nat, shared = (F_law_common above low) → (cDiv ((shared : Nat) : Int) = true) ∧ Q ((above / ((shared : Nat) : Int)), (low / ((shared : Nat) : Int)))
theorem snd_law_lowered (above : Int) (low : Int) {Q : (Int × Int) → Prop} (h : V_law_lowered above low Q) (tp : List D) : ∃ r : (Int × Int), Q r ∧ m_law_lowered [eZ above, eZ low] tp = .ok ((eP eZ eZ) r) tp := by
  obtain ⟨d, t, e1, rfl, r, rfl, q⟩ := T.wp_def (n := 3) (s := b_law_lowered) (ds := [eZ above, eZ low]) (tp := tp) (Q := fun d t => t = tp ∧ ∃ r : (Int × Int), d = (eP eZ eZ) r ∧ Q r) (by
    unfold V_law_lowered at h
    change WP _ _ _ _ (b_law_lowered [some (eZ above), some (eZ low), none] _)
    unfold b_law_lowered
    obtain ⟨c1, h⟩ := h
    obtain ⟨shared, d2⟩ : ∃ shared : Nat, shared = (F_law_common above low) := ⟨_, rfl⟩
    replace h := h shared d2
    refine T.wp_seq (T.wp_set (T.ev_as d2 (e := eN) (T.ev_call (T.ev_cons (T.ev_v rfl) (T.ev_cons (T.ev_v rfl) T.ev_nil)) rfl (t_law_common c1 _))) ?_)
    change WP _ _ _ _ (At _ [some (eZ above), some (eZ low), some (eN shared)] _)
    obtain ⟨c3, h⟩ := h
    exact T.wp_ret (T.ev_tup (ds := [eZ (above / ((shared : Nat) : Int)), eZ (low / ((shared : Nat) : Int))]) (T.ev_cons (T.ev_fdivZ (x := above) (y := ((shared : Nat) : Int)) c3 (T.ev_v rfl) (T.ev_v rfl)) (T.ev_cons (T.ev_fdivZ (x := low) (y := ((shared : Nat) : Int)) c3 (T.ev_v rfl) (T.ev_v rfl)) T.ev_nil)) rfl) ⟨rfl, ((above / ((shared : Nat) : Int)), (low / ((shared : Nat) : Int))), rfl, h⟩)
  exact ⟨r, q, e1⟩
abbrev P_law_lowered (a b : Int) : Prop := Lg a 400000 ∧ Lg b 9000 ∧ 0 < b
abbrev F_law_lowered (a b : Int) : Int × Int := low a b
theorem ok_law_lowered {a b : Int} (k : P_law_lowered a b) : V_law_lowered a b (· = F_law_lowered a b) := by
  refine ⟨⟨k.1, k.2.1.mono (by omega)⟩, fun s hs => ?_⟩
  subst hs
  exact ⟨cDiv_lg (gcd_pos k.2.2) (gcd_lg k.2.1 k.2.2) (by omega) (by omega), rfl⟩
theorem t_law_lowered {above : Int} {low : Int} (hP : P_law_lowered above low) (tp : List D) : m_law_lowered [eZ above, eZ low] tp = .ok ((eP eZ eZ) (F_law_lowered above low)) tp := by
  obtain ⟨r, rfl, e⟩ := snd_law_lowered above low (ok_law_lowered hP) tp
  exact e
end W

set_option maxHeartbeats 1000000
namespace W
open PySem L2 G T
def V_need_number (value : Nat) (least : Nat) (most : Nat) (Q : Unit → Prop) : Prop := ((F_is_in value least most) = true) ∧ Q ()
theorem snd_need_number (value : Nat) (least : Nat) (most : Nat) {Q : Unit → Prop} (h : V_need_number value least most Q) (tp : List D) : ∃ r : Unit, Q r ∧ m_need_number [eN value, eN least, eN most] tp = .ok (eU r) tp := by
  obtain ⟨d, t, e1, rfl, r, rfl, q⟩ := T.wp_def (n := 3) (s := b_need_number) (ds := [eN value, eN least, eN most]) (tp := tp) (Q := fun d t => t = tp ∧ ∃ r : Unit, d = eU r ∧ Q r) (by
    unfold V_need_number at h
    change WP _ _ _ _ (b_need_number [some (eN value), some (eN least), some (eN most)] _)
    unfold b_need_number
    obtain ⟨hf, h⟩ := h
    refine T.wp_if (P := (¬((F_is_in value least most) = true))) (T.ev_notT (P := ((F_is_in value least most) = true)) (T.ev_dec (F_is_in value least most) (T.ev_call (T.ev_cons (T.ev_v rfl) (T.ev_cons (T.ev_v rfl) (T.ev_cons (T.ev_v rfl) T.ev_nil))) rfl (t_is_in True.intro _)))) (fun hp => ?_) (fun hn => ?_)
    · exact absurd hp ((fun h0 => h0 (hf)))
    · refine T.wp_skip ?_
      exact ⟨rfl, (), rfl, h⟩)
  exact ⟨r, q, e1⟩
abbrev P_need_number (v l m : Nat) : Prop := l ≤ v ∧ v ≤ m
abbrev F_need_number (_ _ _ : Nat) : Unit := ()
theorem ok_need_number {v l m : Nat} (h : P_need_number v l m) : V_need_number v l m (· = F_need_number v l m) := by
  unfold V_need_number
  exact ⟨by unfold F_is_in; exact decide_eq_true h, rfl⟩
theorem t_need_number {value : Nat} {least : Nat} {most : Nat} (hP : P_need_number value least most) (tp : List D) : m_need_number [eN value, eN least, eN most] tp = .ok (eU (F_need_number value least most)) tp := by
  obtain ⟨r, rfl, e⟩ := snd_need_number value least most (ok_need_number hP) tp
  exact e
end W

set_option maxHeartbeats 1000000
namespace W
open PySem L2 G T
def V_plus (one : (Int × Int)) (other : (Int × Int)) (Q : (Int × Int) → Prop) : Prop := (cMul one.1 other.2 = true) ∧ (cMul other.1 one.2 = true) ∧ (cMul one.2 other.2 = true) ∧ (P_lowered ((one.1 * other.2) + (other.1 * one.2)) (one.2 * other.2)) ∧ Q (F_lowered ((one.1 * other.2) + (other.1 * one.2)) (one.2 * other.2))
theorem snd_plus (one : (Int × Int)) (other : (Int × Int)) {Q : (Int × Int) → Prop} (h : V_plus one other Q) (tp : List D) : ∃ r : (Int × Int), Q r ∧ m_plus [(eP eZ eZ) one, (eP eZ eZ) other] tp = .ok ((eP eZ eZ) r) tp := by
  obtain ⟨d, t, e1, rfl, r, rfl, q⟩ := T.wp_def (n := 2) (s := b_plus) (ds := [(eP eZ eZ) one, (eP eZ eZ) other]) (tp := tp) (Q := fun d t => t = tp ∧ ∃ r : (Int × Int), d = (eP eZ eZ) r ∧ Q r) (by
    unfold V_plus at h
    change WP _ _ _ _ (b_plus [some ((eP eZ eZ) one), some ((eP eZ eZ) other)] _)
    unfold b_plus
    obtain ⟨c1, h⟩ := h
    obtain ⟨c2, h⟩ := h
    obtain ⟨c3, h⟩ := h
    obtain ⟨c4, h⟩ := h
    exact T.wp_ret (T.ev_call (T.ev_cons (T.ev_addZ (x := (one.1 * other.2)) (y := (other.1 * one.2)) (T.ev_mulZ (x := one.1) (y := other.2) c1 (T.ev_fst (x := one) (T.ev_v rfl) rfl) (T.ev_snd (x := other) (T.ev_v rfl) rfl)) (T.ev_mulZ (x := other.1) (y := one.2) c2 (T.ev_fst (x := other) (T.ev_v rfl) rfl) (T.ev_snd (x := one) (T.ev_v rfl) rfl))) (T.ev_cons (T.ev_mulZ (x := one.2) (y := other.2) c3 (T.ev_snd (x := one) (T.ev_v rfl) rfl) (T.ev_snd (x := other) (T.ev_v rfl) rfl)) T.ev_nil)) rfl (t_lowered c4 _)) ⟨rfl, (F_lowered ((one.1 * other.2) + (other.1 * one.2)) (one.2 * other.2)), rfl, h⟩)
  exact ⟨r, q, e1⟩
abbrev P_plus (x y : Int × Int) : Prop := (Lg x.1 4000 ∧ Lg x.2 4000 ∧ 0 < x.2) ∧ Lg y.1 4000 ∧ Lg y.2 4000 ∧ 0 < y.2
abbrev F_plus (x y : Int × Int) : Int × Int := low (x.1 * y.2 + y.1 * x.2) (x.2 * y.2)
theorem cMul_plus {x y : Int} (a : Lg x 4000) (b : Lg y 4000) : cMul x y = true := by
  have h1 := log_lt a (by omega)
  have h2 := log_lt b (by omega)
  exact decide_eq_true (by omega)
theorem ok_plus {x y : Int × Int} (k : P_plus x y) : V_plus x y (· = F_plus x y) := by
  obtain ⟨⟨a, b, c⟩, d, e, f⟩ := k
  exact ⟨cMul_plus a e, cMul_plus d b, cMul_plus b e, ⟨((a.mul e).add (d.mul b)).mono (by omega), (b.mul e).mono (by omega), Int.mul_pos c f⟩, rfl⟩
theorem t_plus {one : (Int × Int)} {other : (Int × Int)} (hP : P_plus one other) (tp : List D) : m_plus [(eP eZ eZ) one, (eP eZ eZ) other] tp = .ok ((eP eZ eZ) (F_plus one other)) tp := by
  obtain ⟨r, rfl, e⟩ := snd_plus one other (ok_plus hP) tp
  exact e
end W

set_option maxHeartbeats 1000000
namespace W
open PySem L2 G T
def V_times_ratio (one : (Int × Int)) (other : (Int × Int)) (Q : (Int × Int) → Prop) : Prop := (cMul one.1 other.1 = true) ∧ (cMul one.2 other.2 = true) ∧ (P_lowered (one.1 * other.1) (one.2 * other.2)) ∧ Q (F_lowered (one.1 * other.1) (one.2 * other.2))
theorem snd_times_ratio (one : (Int × Int)) (other : (Int × Int)) {Q : (Int × Int) → Prop} (h : V_times_ratio one other Q) (tp : List D) : ∃ r : (Int × Int), Q r ∧ m_times_ratio [(eP eZ eZ) one, (eP eZ eZ) other] tp = .ok ((eP eZ eZ) r) tp := by
  obtain ⟨d, t, e1, rfl, r, rfl, q⟩ := T.wp_def (n := 2) (s := b_times_ratio) (ds := [(eP eZ eZ) one, (eP eZ eZ) other]) (tp := tp) (Q := fun d t => t = tp ∧ ∃ r : (Int × Int), d = (eP eZ eZ) r ∧ Q r) (by
    unfold V_times_ratio at h
    change WP _ _ _ _ (b_times_ratio [some ((eP eZ eZ) one), some ((eP eZ eZ) other)] _)
    unfold b_times_ratio
    obtain ⟨c1, h⟩ := h
    obtain ⟨c2, h⟩ := h
    obtain ⟨c3, h⟩ := h
    exact T.wp_ret (T.ev_call (T.ev_cons (T.ev_mulZ (x := one.1) (y := other.1) c1 (T.ev_fst (x := one) (T.ev_v rfl) rfl) (T.ev_fst (x := other) (T.ev_v rfl) rfl)) (T.ev_cons (T.ev_mulZ (x := one.2) (y := other.2) c2 (T.ev_snd (x := one) (T.ev_v rfl) rfl) (T.ev_snd (x := other) (T.ev_v rfl) rfl)) T.ev_nil)) rfl (t_lowered c3 _)) ⟨rfl, (F_lowered (one.1 * other.1) (one.2 * other.2)), rfl, h⟩)
  exact ⟨r, q, e1⟩
abbrev P_times_ratio (x y : Int × Int) : Prop := (Lg x.1 4000 ∧ Lg x.2 4000 ∧ 0 < x.2) ∧ Lg y.1 4000 ∧ Lg y.2 4000 ∧ 0 < y.2
abbrev F_times_ratio (x y : Int × Int) : Int × Int := low (x.1 * y.1) (x.2 * y.2)
theorem cMul_times_ratio {x y : Int} (a : Lg x 4000) (b : Lg y 4000) : cMul x y = true := by
  have h1 := log_lt a (by omega)
  have h2 := log_lt b (by omega)
  exact decide_eq_true (by omega)
theorem ok_times_ratio {x y : Int × Int} (k : P_times_ratio x y) : V_times_ratio x y (· = F_times_ratio x y) := by
  obtain ⟨⟨a, b, c⟩, d, e, f⟩ := k
  exact ⟨cMul_times_ratio a d, cMul_times_ratio b e, ⟨(a.mul d).mono (by omega), (b.mul e).mono (by omega), Int.mul_pos c f⟩, rfl⟩
theorem t_times_ratio {one : (Int × Int)} {other : (Int × Int)} (hP : P_times_ratio one other) (tp : List D) : m_times_ratio [(eP eZ eZ) one, (eP eZ eZ) other] tp = .ok ((eP eZ eZ) (F_times_ratio one other)) tp := by
  obtain ⟨r, rfl, e⟩ := snd_times_ratio one other (ok_times_ratio hP) tp
  exact e
end W

set_option maxHeartbeats 1000000
namespace W
open PySem L2 G T
def V_all_chance (lines : Nat) (many : Nat) (times : Nat) (Q : (Int × Int) → Prop) : Prop := ∀ found : Int, found = (0 : Int) → ((many + 1) ≤ 1073741824) ∧ ∃ I4 : Nat → Int → Nat → Prop, I4 0 found 1 ∧ (∀ (i8 : Nat) (x9 : Nat), (List.range (many + 1))[i8]? = some x9 → ∀ found_1 : Int, ∀ ways : Nat, I4 i8 found_1 ways → (0 < 2) ∧ (cMul (if ((x9 % 2) = 0) then (1 : Int) else (-(1 : Int))) ((ways : Nat) : Int) = true) ∧ (x9 ≤ lines) ∧ (P_raised (lines - x9) times) ∧ (cMul ((if ((x9 % 2) = 0) then (1 : Int) else (-(1 : Int))) * ((ways : Nat) : Int)) (((F_raised (lines - x9) times) : Nat) : Int) = true) ∧ ∀ found_2 : Int, found_2 = (found_1 + (((if ((x9 % 2) = 0) then (1 : Int) else (-(1 : Int))) * ((ways : Nat) : Int)) * (((F_raised (lines - x9) times) : Nat) : Int))) → (x9 ≤ many) ∧ (cMul ((ways : Nat) : Int) (((many - x9) : Nat) : Int) = true) ∧ (cDiv (((x9 + 1) : Nat) : Int) = true) ∧ ∀ ways_1 : Nat, ways_1 = ((ways * (many - x9)) / (x9 + 1)) → I4 (i8 + 1) found_2 ways_1) ∧ (∀ found_1 : Int, ∀ ways : Nat, I4 (List.range (many + 1)).length found_1 ways → (P_raised lines times) ∧ (P_lowered found_1 (((F_raised lines times) : Nat) : Int)) ∧ Q (F_lowered found_1 (((F_raised lines times) : Nat) : Int)))
theorem snd_all_chance (lines : Nat) (many : Nat) (times : Nat) {Q : (Int × Int) → Prop} (h : V_all_chance lines many times Q) (tp : List D) : ∃ r : (Int × Int), Q r ∧ m_all_chance [eN lines, eN many, eN times] tp = .ok ((eP eZ eZ) r) tp := by
  obtain ⟨d, t, e1, rfl, r, rfl, q⟩ := T.wp_def (n := 6) (s := b_all_chance) (ds := [eN lines, eN many, eN times]) (tp := tp) (Q := fun d t => t = tp ∧ ∃ r : (Int × Int), d = (eP eZ eZ) r ∧ Q r) (by
    unfold V_all_chance at h
    change WP _ _ _ _ (b_all_chance [some (eN lines), some (eN many), some (eN times), none, none, none] _)
    unfold b_all_chance
    obtain ⟨found, d1⟩ : ∃ found : Int, found = (0 : Int) := ⟨_, rfl⟩
    replace h := h found d1
    refine T.wp_seq (T.wp_par (T.ev_cons (T.ev_as d1 (e := eZ) (T.ev_c rfl)) (T.ev_cons (T.ev_cN 1) T.ev_nil)) rfl ?_)
    change WP _ _ _ _ (At _ [some (eN lines), some (eN many), some (eN times), some (eZ found), some (eN 1), none] _)
    obtain ⟨c2, h⟩ := h
    obtain ⟨I4, h5, h6, h7⟩ := h
    refine T.wp_seq (T.wp_for (e := eN) (xs := (List.range (many + 1))) (ds := fun x9 => [eN x9]) (fun k env tz => tp = tz ∧ ∃ found_1 : Int, ∃ ways : Nat, ∃ g3 : Option D, env = [some (eN lines), some (eN many), some (eN times), some (eZ found_1), some (eN ways), g3] ∧ I4 k found_1 ways) (T.it_range (n := (many + 1)) c2 (T.ev_add (x := many) (y := 1) (T.ev_v rfl) (T.ev_cN 1))) (fun _ => rfl) ⟨rfl, found, 1, _, rfl, h5⟩ ?_ ?_)
    · intro i8 x9 env t hk hI
      obtain ⟨rfl, found_1, ways, g3, rfl, h⟩ := hI
      replace h := h6 i8 x9 hk found_1 ways h
      change WP _ _ _ _ (At _ [some (eN lines), some (eN many), some (eN times), some (eZ found_1), some (eN ways), some (eN x9)] _)
      obtain ⟨c12, h⟩ := h
      obtain ⟨c13, h⟩ := h
      obtain ⟨c14, h⟩ := h
      obtain ⟨c15, h⟩ := h
      obtain ⟨c16, h⟩ := h
      obtain ⟨found_2, d17⟩ : ∃ found_2 : Int, found_2 = (found_1 + (((if ((x9 % 2) = 0) then (1 : Int) else (-(1 : Int))) * ((ways : Nat) : Int)) * (((F_raised (lines - x9) times) : Nat) : Int))) := ⟨_, rfl⟩
      replace h := h found_2 d17
      refine T.wp_seq (T.wp_augZ (x := found_1) (y := (((if ((x9 % 2) = 0) then (1 : Int) else (-(1 : Int))) * ((ways : Nat) : Int)) * (((F_raised (lines - x9) times) : Nat) : Int))) rfl (T.ev_mulZ (x := ((if ((x9 % 2) = 0) then (1 : Int) else (-(1 : Int))) * ((ways : Nat) : Int))) (y := (((F_raised (lines - x9) times) : Nat) : Int)) c16 (T.ev_mulZ (x := (if ((x9 % 2) = 0) then (1 : Int) else (-(1 : Int)))) (y := ((ways : Nat) : Int)) c13 (T.ev_ifE (P := ((x9 % 2) = 0)) (e := eZ) (x := (1 : Int)) (y := (-(1 : Int))) (T.ev_bool (T.ev_eq (x := (x9 % 2)) (y := 0) qN rfl (T.ev_mod (x := x9) (y := 2) c12 (T.ev_v rfl) (T.ev_cN 2)) (T.ev_cN 0))) (fun hp => (T.ev_c rfl)) (fun hp => (T.ev_negZ (x := (1 : Int)) (T.ev_c rfl)))) (T.ev_v rfl)) (T.ev_call (T.ev_cons (T.ev_sub (x := lines) (y := x9) c14 (T.ev_v rfl) (T.ev_v rfl)) (T.ev_cons (T.ev_v rfl) T.ev_nil)) rfl (t_raised c15 _))) ?_)
      rw [← d17]
      change WP _ _ _ _ (At _ [some (eN lines), some (eN many), some (eN times), some (eZ found_2), some (eN ways), some (eN x9)] _)
      obtain ⟨c18, h⟩ := h
      obtain ⟨c19, h⟩ := h
      obtain ⟨c20, h⟩ := h
      obtain ⟨ways_1, d21⟩ : ∃ ways_1 : Nat, ways_1 = ((ways * (many - x9)) / (x9 + 1)) := ⟨_, rfl⟩
      replace h := h ways_1 d21
      refine T.wp_set (T.ev_as d21 (e := eN) (T.ev_fdiv (x := (ways * (many - x9))) (y := (x9 + 1)) c20 (T.ev_mul (x := ways) (y := (many - x9)) c19 (T.ev_v rfl) (T.ev_sub (x := many) (y := x9) c18 (T.ev_v rfl) (T.ev_v rfl))) (T.ev_add (x := x9) (y := 1) (T.ev_v rfl) (T.ev_cN 1)))) ?_
      exact ⟨rfl, found_2, ways_1, _, rfl, h⟩
    rintro _ _ ⟨rfl, found_1, ways, g3, rfl, h⟩
    replace h := h7 found_1 ways h
    change WP _ _ _ _ (At _ [some (eN lines), some (eN many), some (eN times), some (eZ found_1), some (eN ways), g3] _)
    obtain ⟨c24, h⟩ := h
    obtain ⟨c25, h⟩ := h
    exact T.wp_ret (T.ev_call (T.ev_cons (T.ev_v rfl) (T.ev_cons (T.ev_call (T.ev_cons (T.ev_v rfl) (T.ev_cons (T.ev_v rfl) T.ev_nil)) rfl (t_raised c24 _)) T.ev_nil)) rfl (t_lowered c25 _)) ⟨rfl, (F_lowered found_1 (((F_raised lines times) : Nat) : Int)), rfl, h⟩)
  exact ⟨r, q, e1⟩
abbrev P_all_chance (n m t : Nat) : Prop := m ≤ n ∧ 1 ≤ n ∧ n ≤ 60 ∧ t ≤ 200
abbrev F_all_chance (n m t : Nat) : Int × Int := low (alt t m (n - m)) ((n ^ t : Nat) : Int)
theorem alt_lg {n m t : Nat} (k : P_all_chance n m t) : Lg (alt t m (n - m)) 1300 := by
  rw [alt_cnt]
  exact Lg.nat (Nat.lt_of_le_of_lt (cnt_le m (n - m) t m (Nat.le_refl _)) (pow_lt' (by have := k.1; have := k.2.2.1; omega) k.2.2.2))
theorem ok_all_chance {n m t : Nat} (k : P_all_chance n m t) : V_all_chance n m t (· = F_all_chance n m t) := by
  have kk := k
  obtain ⟨hm, h1, hn, ht⟩ := k
  refine fun f0 hf0 => ⟨by omega, fun i f w => f = sm (fun j => sg j * (ch m j : Int) * (((n - m + m - j : Nat) : Int) ^ t)) i ∧ w = ch m i, ⟨hf0, (ch_zero m).symm⟩, fun i x hx f w hI => ?_, fun f w hI => ?_⟩
  · have hi : i < m + 1 := by have := (List.getElem?_eq_some_iff.mp hx).1; rwa [List.length_range] at this
    have ex : x = i := by rw [List.getElem?_range hi] at hx; exact (Option.some.inj hx).symm
    subst ex
    obtain ⟨ef, ew⟩ := hI
    have cw : ch m x < 2 ^ 61 := Nat.lt_of_le_of_lt (ch_le m x) (Nat.pow_lt_pow_right (by decide) (by omega))
    have sgl : Lg (if x % 2 = 0 then (1 : Int) else -(1 : Int)) 1 := by unfold Lg; split <;> decide
    have wl : Lg ((w : Nat) : Int) 61 := Lg.nat (by rw [ew]; exact cw)
    have rl : Lg (((n - x) ^ t : Nat) : Int) 1300 := Lg.nat (pow_lt' (by omega) ht)
    refine ⟨by omega, cMul_lg sgl wl (by omega) (by omega) (by omega), by omega, ⟨by omega, ht⟩, cMul_lg (sgl.mul wl) rl (by omega) (by omega) (by omega), fun f2 hf2 => ⟨by omega, ?_, ?_, fun w2 hw2 => ⟨?_, ?_⟩⟩⟩
    · exact cMul_nat (show w < 2 ^ 61 by rw [ew]; exact cw) (show m - x < 2 ^ 7 by omega) (by omega) (by omega) (by omega)
    · exact cDiv_lg (n := 7) (by omega) (Lg.nat (by omega)) (by omega) (by omega)
    · rw [hf2, ef, ew]
      show sm _ x + _ = sm _ x + sg x * (ch m x : Int) * (((n - m + m - x : Nat) : Int) ^ t)
      have e1 : n - m + m - x = n - x := by omega
      rw [e1]
      show _ + (if x % 2 = 0 then (1 : Int) else -(1 : Int)) * (ch m x : Int) * (((n - x) ^ t : Nat) : Int) = _
      rw [Int.natCast_pow]
      rfl
    · rw [hw2, ew]; exact ch_div m x
  · rw [List.length_range] at hI
    have e : f = alt t m (n - m) := hI.1
    have hp : 0 < n ^ t := Nat.pow_pos (by omega)
    refine ⟨⟨by omega, ht⟩, ⟨by rw [e]; exact (alt_lg kk).mono (by omega), (Lg.nat (pow_lt' (by omega) ht)).mono (by omega), by show (0 : Int) < ((n ^ t : Nat) : Int); omega⟩, ?_⟩
    rw [e]
theorem t_all_chance {lines : Nat} {many : Nat} {times : Nat} (hP : P_all_chance lines many times) (tp : List D) : m_all_chance [eN lines, eN many, eN times] tp = .ok ((eP eZ eZ) (F_all_chance lines many times)) tp := by
  obtain ⟨r, rfl, e⟩ := snd_all_chance lines many times (ok_all_chance hP) tp
  exact e
end W

set_option maxHeartbeats 1000000
namespace W
open PySem L2 G T
def V_law_plus (one : (Int × Int)) (other : (Int × Int)) (Q : (Int × Int) → Prop) : Prop := (cMul one.1 other.2 = true) ∧ (cMul other.1 one.2 = true) ∧ (cMul one.2 other.2 = true) ∧ (P_law_lowered ((one.1 * other.2) + (other.1 * one.2)) (one.2 * other.2)) ∧ Q (F_law_lowered ((one.1 * other.2) + (other.1 * one.2)) (one.2 * other.2))
theorem snd_law_plus (one : (Int × Int)) (other : (Int × Int)) {Q : (Int × Int) → Prop} (h : V_law_plus one other Q) (tp : List D) : ∃ r : (Int × Int), Q r ∧ m_law_plus [(eP eZ eZ) one, (eP eZ eZ) other] tp = .ok ((eP eZ eZ) r) tp := by
  obtain ⟨d, t, e1, rfl, r, rfl, q⟩ := T.wp_def (n := 2) (s := b_law_plus) (ds := [(eP eZ eZ) one, (eP eZ eZ) other]) (tp := tp) (Q := fun d t => t = tp ∧ ∃ r : (Int × Int), d = (eP eZ eZ) r ∧ Q r) (by
    unfold V_law_plus at h
    change WP _ _ _ _ (b_law_plus [some ((eP eZ eZ) one), some ((eP eZ eZ) other)] _)
    unfold b_law_plus
    obtain ⟨c1, h⟩ := h
    obtain ⟨c2, h⟩ := h
    obtain ⟨c3, h⟩ := h
    obtain ⟨c4, h⟩ := h
    exact T.wp_ret (T.ev_call (T.ev_cons (T.ev_addZ (x := (one.1 * other.2)) (y := (other.1 * one.2)) (T.ev_mulZ (x := one.1) (y := other.2) c1 (T.ev_fst (x := one) (T.ev_v rfl) rfl) (T.ev_snd (x := other) (T.ev_v rfl) rfl)) (T.ev_mulZ (x := other.1) (y := one.2) c2 (T.ev_fst (x := other) (T.ev_v rfl) rfl) (T.ev_snd (x := one) (T.ev_v rfl) rfl))) (T.ev_cons (T.ev_mulZ (x := one.2) (y := other.2) c3 (T.ev_snd (x := one) (T.ev_v rfl) rfl) (T.ev_snd (x := other) (T.ev_v rfl) rfl)) T.ev_nil)) rfl (t_law_lowered c4 _)) ⟨rfl, (F_law_lowered ((one.1 * other.2) + (other.1 * one.2)) (one.2 * other.2)), rfl, h⟩)
  exact ⟨r, q, e1⟩
abbrev P_law_plus (x y : Int × Int) : Prop := (Lg x.1 4000 ∧ Lg x.2 4000 ∧ 0 < x.2) ∧ Lg y.1 4000 ∧ Lg y.2 4000 ∧ 0 < y.2
abbrev F_law_plus (x y : Int × Int) : Int × Int := low (x.1 * y.2 + y.1 * x.2) (x.2 * y.2)
theorem cMul_law_plus {x y : Int} (a : Lg x 4000) (b : Lg y 4000) : cMul x y = true := by
  have h1 := log_lt a (by omega)
  have h2 := log_lt b (by omega)
  exact decide_eq_true (by omega)
theorem ok_law_plus {x y : Int × Int} (k : P_law_plus x y) : V_law_plus x y (· = F_law_plus x y) := by
  obtain ⟨⟨a, b, c⟩, d, e, f⟩ := k
  exact ⟨cMul_law_plus a e, cMul_law_plus d b, cMul_law_plus b e, ⟨((a.mul e).add (d.mul b)).mono (by omega), (b.mul e).mono (by omega), Int.mul_pos c f⟩, rfl⟩
theorem t_law_plus {one : (Int × Int)} {other : (Int × Int)} (hP : P_law_plus one other) (tp : List D) : m_law_plus [(eP eZ eZ) one, (eP eZ eZ) other] tp = .ok ((eP eZ eZ) (F_law_plus one other)) tp := by
  obtain ⟨r, rfl, e⟩ := snd_law_plus one other (ok_law_plus hP) tp
  exact e
end W

set_option maxHeartbeats 1000000
namespace W
open PySem L2 G T
def V_plain (rows : Nat) (columns : Nat) (is_black : Nat) (Q : (List Row) → Prop) : Prop := (P_need_number rows 1 30) ∧ (P_need_number columns 1 30) ∧ (P_need_number is_black 0 1) ∧ (columns ≤ 16777216) ∧ (1 ≤ rows ∧ rows ≤ 1000) ∧ Q (List.replicate rows (List.replicate columns (if (is_black = 1) then true else false)))
theorem snd_plain (rows : Nat) (columns : Nat) (is_black : Nat) {Q : (List Row) → Prop} (h : V_plain rows columns is_black Q) (tp : List D) : ∃ r : (List Row), Q r ∧ m_plain [eN rows, eN columns, eN is_black] tp = .ok ((eT eR) r) tp := by
  obtain ⟨d, t, e1, rfl, r, rfl, q⟩ := T.wp_def (n := 3) (s := b_plain) (ds := [eN rows, eN columns, eN is_black]) (tp := tp) (Q := fun d t => t = tp ∧ ∃ r : (List Row), d = (eT eR) r ∧ Q r) (by
    unfold V_plain at h
    change WP _ _ _ _ (b_plain [some (eN rows), some (eN columns), some (eN is_black)] _)
    unfold b_plain
    obtain ⟨c1, h⟩ := h
    refine T.wp_seq (T.wp_drop (T.ev_call (T.ev_cons (T.ev_v rfl) (T.ev_cons (T.ev_cN 1) (T.ev_cons (T.ev_cN 30) T.ev_nil))) rfl (t_need_number c1 _)) ?_)
    change WP _ _ _ _ (At _ [some (eN rows), some (eN columns), some (eN is_black)] _)
    obtain ⟨c2, h⟩ := h
    refine T.wp_seq (T.wp_drop (T.ev_call (T.ev_cons (T.ev_v rfl) (T.ev_cons (T.ev_cN 1) (T.ev_cons (T.ev_cN 30) T.ev_nil))) rfl (t_need_number c2 _)) ?_)
    change WP _ _ _ _ (At _ [some (eN rows), some (eN columns), some (eN is_black)] _)
    obtain ⟨c3, h⟩ := h
    refine T.wp_seq (T.wp_drop (T.ev_call (T.ev_cons (T.ev_v rfl) (T.ev_cons (T.ev_cN 0) (T.ev_cons (T.ev_cN 1) T.ev_nil))) rfl (t_need_number c3 _)) ?_)
    change WP _ _ _ _ (At _ [some (eN rows), some (eN columns), some (eN is_black)] _)
    obtain ⟨c4, h⟩ := h
    obtain ⟨c5, h⟩ := h
    exact T.wp_ret (T.ev_repT1 (e := eR) (x := (List.replicate columns (if (is_black = 1) then true else false))) (n := rows) c5 (T.ev_tup (ds := [eR (List.replicate columns (if (is_black = 1) then true else false))]) (T.ev_cons (T.ev_repG (b := (if (is_black = 1) then true else false)) (n := columns) c4 (T.ev_ifE (P := (is_black = 1)) (e := eG) (x := true) (y := false) (T.ev_bool (T.ev_eq (x := is_black) (y := 1) qN rfl (T.ev_v rfl) (T.ev_cN 1))) (fun hp => (T.ev_c (congrArg D.str str_black))) (fun hp => (T.ev_c (congrArg D.str str_white)))) (T.ev_v rfl)) T.ev_nil) rfl) (T.ev_v rfl)) ⟨rfl, (List.replicate rows (List.replicate columns (if (is_black = 1) then true else false))), rfl, h⟩)
  exact ⟨r, q, e1⟩
abbrev P_plain (h w b : Nat) : Prop := (1 ≤ h ∧ h ≤ 30) ∧ (1 ≤ w ∧ w ≤ 30) ∧ b ≤ 1
def plainQ (h w : Nat) (b : Bool) : Pic := List.replicate h (List.replicate w b)
def F_plain (h w b : Nat) : Pic := plainQ h w (decide (b = 1))
theorem ok_plain {h w b : Nat} (k : P_plain h w b) : V_plain h w b (· = F_plain h w b) := by
  obtain ⟨⟨h1, h2⟩, ⟨w1, w2⟩, hb⟩ := k
  refine ⟨⟨h1, h2⟩, ⟨w1, w2⟩, ⟨by omega, hb⟩, by omega, ⟨by omega, by omega⟩, ?_⟩
  unfold F_plain plainQ
  by_cases q : b = 1 <;> simp [q]
theorem t_plain {rows : Nat} {columns : Nat} {is_black : Nat} (hP : P_plain rows columns is_black) (tp : List D) : m_plain [eN rows, eN columns, eN is_black] tp = .ok ((eT eR) (F_plain rows columns is_black)) tp := by
  obtain ⟨r, rfl, e⟩ := snd_plain rows columns is_black (ok_plain hP) tp
  exact e
end W

set_option maxHeartbeats 1000000
namespace W
open PySem L2 G T
def V_need_painting (start : (List Row)) (times : Nat) (Q : Unit → Prop) : Prop := (P_need_picture start) ∧ (P_need_number times 0 200) ∧ Q ()
theorem snd_need_painting (start : (List Row)) (times : Nat) {Q : Unit → Prop} (h : V_need_painting start times Q) (tp : List D) : ∃ r : Unit, Q r ∧ m_need_painting [(eT eR) start, eN times] tp = .ok (eU r) tp := by
  obtain ⟨d, t, e1, rfl, r, rfl, q⟩ := T.wp_def (n := 2) (s := b_need_painting) (ds := [(eT eR) start, eN times]) (tp := tp) (Q := fun d t => t = tp ∧ ∃ r : Unit, d = eU r ∧ Q r) (by
    unfold V_need_painting at h
    change WP _ _ _ _ (b_need_painting [some ((eT eR) start), some (eN times)] _)
    unfold b_need_painting
    obtain ⟨c1, h⟩ := h
    refine T.wp_seq (T.wp_drop (T.ev_call (T.ev_cons (T.ev_v rfl) T.ev_nil) rfl (t_need_picture c1 _)) ?_)
    change WP _ _ _ _ (At _ [some ((eT eR) start), some (eN times)] _)
    obtain ⟨c2, h⟩ := h
    refine T.wp_drop (T.ev_call (T.ev_cons (T.ev_v rfl) (T.ev_cons (T.ev_cN 0) (T.ev_cons (T.ev_cN 200) T.ev_nil))) rfl (t_need_number c2 _)) ?_
    exact ⟨rfl, (), rfl, h⟩)
  exact ⟨r, q, e1⟩
abbrev P_need_painting (p : Pic) (t : Nat) : Prop := PicP p ∧ t ≤ 200
abbrev F_need_painting (_ : Pic) (_ : Nat) : Unit := ()
theorem ok_need_painting {p : Pic} {t : Nat} (k : P_need_painting p t) : V_need_painting p t (· = F_need_painting p t) := ⟨k.1, ⟨by omega, k.2⟩, rfl⟩
theorem t_need_painting {start : (List Row)} {times : Nat} (hP : P_need_painting start times) (tp : List D) : m_need_painting [(eT eR) start, eN times] tp = .ok (eU (F_need_painting start times)) tp := by
  obtain ⟨r, rfl, e⟩ := snd_need_painting start times (ok_need_painting hP) tp
  exact e
end W

set_option maxHeartbeats 1000000
namespace W
open PySem L2 G T
def V_black_chance (start : (List Row)) (row : Nat) (column : Nat) (times : Nat) (Q : (Int × Int) → Prop) : Prop := (P_need_picture start) ∧ (1 ≤ start.length) ∧ (P_need_number row 0 (start.length - 1)) ∧ (0 < start.length) ∧ ((start[0]!).length ≤ 1000000) ∧ (1 ≤ (start[0]!).length) ∧ (P_need_number column 0 ((start[0]!).length - 1)) ∧ (P_need_number times 0 200) ∧ (P_lines_of start) ∧ (P_raised (F_lines_of start) times) ∧ (2 ≤ (F_lines_of start)) ∧ (P_raised ((F_lines_of start) - 2) times) ∧ ∀ whole : Nat, whole = (F_raised (F_lines_of start) times) → ∀ kept : Nat, kept = (F_raised ((F_lines_of start) - 2) times) → (row < start.length) ∧ ((start[row]!).length ≤ 1000000 ∧ column < (start[row]!).length) ∧ ∀ black : Nat, black = (if ((start[row]!)[column]! = true) then 1 else 0) → (cMul ((2 : Nat) : Int) ((black : Nat) : Int) = true) ∧ (cMul (((2 * black) : Nat) : Int) ((kept : Nat) : Int) = true) ∧ (kept ≤ (((2 * black) * kept) + whole)) ∧ (cMul ((2 : Nat) : Int) ((whole : Nat) : Int) = true) ∧ (P_lowered ((((((2 * black) * kept) + whole) - kept) : Nat) : Int) (((2 * whole) : Nat) : Int)) ∧ Q (F_lowered ((((((2 * black) * kept) + whole) - kept) : Nat) : Int) (((2 * whole) : Nat) : Int))
theorem snd_black_chance (start : (List Row)) (row : Nat) (column : Nat) (times : Nat) {Q : (Int × Int) → Prop} (h : V_black_chance start row column times Q) (tp : List D) : ∃ r : (Int × Int), Q r ∧ m_black_chance [(eT eR) start, eN row, eN column, eN times] tp = .ok ((eP eZ eZ) r) tp := by
  obtain ⟨d, t, e1, rfl, r, rfl, q⟩ := T.wp_def (n := 7) (s := b_black_chance) (ds := [(eT eR) start, eN row, eN column, eN times]) (tp := tp) (Q := fun d t => t = tp ∧ ∃ r : (Int × Int), d = (eP eZ eZ) r ∧ Q r) (by
    unfold V_black_chance at h
    change WP _ _ _ _ (b_black_chance [some ((eT eR) start), some (eN row), some (eN column), some (eN times), none, none, none] _)
    unfold b_black_chance
    obtain ⟨c1, h⟩ := h
    refine T.wp_seq (T.wp_drop (T.ev_call (T.ev_cons (T.ev_v rfl) T.ev_nil) rfl (t_need_picture c1 _)) ?_)
    change WP _ _ _ _ (At _ [some ((eT eR) start), some (eN row), some (eN column), some (eN times), none, none, none] _)
    obtain ⟨c2, h⟩ := h
    obtain ⟨c3, h⟩ := h
    refine T.wp_seq (T.wp_drop (T.ev_call (T.ev_cons (T.ev_v rfl) (T.ev_cons (T.ev_cN 0) (T.ev_cons (T.ev_sub (x := start.length) (y := 1) c2 (T.ev_lenT (e := eR) (xs := start) (T.ev_v rfl)) (T.ev_cN 1)) T.ev_nil))) rfl (t_need_number c3 _)) ?_)
    change WP _ _ _ _ (At _ [some ((eT eR) start), some (eN row), some (eN column), some (eN times), none, none, none] _)
    obtain ⟨c4, h⟩ := h
    obtain ⟨c5, h⟩ := h
    obtain ⟨c6, h⟩ := h
    obtain ⟨c7, h⟩ := h
    refine T.wp_seq (T.wp_drop (T.ev_call (T.ev_cons (T.ev_v rfl) (T.ev_cons (T.ev_cN 0) (T.ev_cons (T.ev_sub (x := (start[0]!).length) (y := 1) c6 (T.ev_lenR (r := start[0]!) c5 (T.ev_ixT (e := eR) (xs := start) (i := 0) c4 (T.ev_v rfl) (T.ev_cN 0))) (T.ev_cN 1)) T.ev_nil))) rfl (t_need_number c7 _)) ?_)
    change WP _ _ _ _ (At _ [some ((eT eR) start), some (eN row), some (eN column), some (eN times), none, none, none] _)
    obtain ⟨c8, h⟩ := h
    refine T.wp_seq (T.wp_drop (T.ev_call (T.ev_cons (T.ev_v rfl) (T.ev_cons (T.ev_cN 0) (T.ev_cons (T.ev_cN 200) T.ev_nil))) rfl (t_need_number c8 _)) ?_)
    change WP _ _ _ _ (At _ [some ((eT eR) start), some (eN row), some (eN column), some (eN times), none, none, none] _)
    obtain ⟨c9, h⟩ := h
    obtain ⟨c10, h⟩ := h
    obtain ⟨c11, h⟩ := h
    obtain ⟨c12, h⟩ := h
    obtain ⟨whole, d13⟩ : ∃ whole : Nat, whole = (F_raised (F_lines_of start) times) := ⟨_, rfl⟩
    replace h := h whole d13
    obtain ⟨kept, d14⟩ : ∃ kept : Nat, kept = (F_raised ((F_lines_of start) - 2) times) := ⟨_, rfl⟩
    replace h := h kept d14
    refine T.wp_seq (T.wp_par (T.ev_cons (T.ev_as d13 (e := eN) (T.ev_call (T.ev_cons (T.ev_call (T.ev_cons (T.ev_v rfl) T.ev_nil) rfl (t_lines_of c9 _)) (T.ev_cons (T.ev_v rfl) T.ev_nil)) rfl (t_raised c10 _))) (T.ev_cons (T.ev_as d14 (e := eN) (T.ev_call (T.ev_cons (T.ev_sub (x := (F_lines_of start)) (y := 2) c11 (T.ev_call (T.ev_cons (T.ev_v rfl) T.ev_nil) rfl (t_lines_of c9 _)) (T.ev_cN 2)) (T.ev_cons (T.ev_v rfl) T.ev_nil)) rfl (t_raised c12 _))) T.ev_nil)) rfl ?_)
    change WP _ _ _ _ (At _ [some ((eT eR) start), some (eN row), some (eN column), some (eN times), some (eN whole), some (eN kept), none] _)
    obtain ⟨c15, h⟩ := h
    obtain ⟨c16, h⟩ := h
    obtain ⟨black, d17⟩ : ∃ black : Nat, black = (if ((start[row]!)[column]! = true) then 1 else 0) := ⟨_, rfl⟩
    replace h := h black d17
    refine T.wp_seq (T.wp_set (T.ev_as d17 (e := eN) (T.ev_ifE (P := ((start[row]!)[column]! = true)) (e := eN) (x := 1) (y := 0) (T.ev_bool (T.ev_eq (x := (start[row]!)[column]!) (y := true) qG rfl (T.ev_ixR (r := start[row]!) (i := column) c16 (T.ev_ixT (e := eR) (xs := start) (i := row) c15 (T.ev_v rfl) (T.ev_v rfl)) (T.ev_v rfl)) (T.ev_c (congrArg D.str str_black)))) (fun hp => (T.ev_cN 1)) (fun hp => (T.ev_cN 0)))) ?_)
    change WP _ _ _ _ (At _ [some ((eT eR) start), some (eN row), some (eN column), some (eN times), some (eN whole), some (eN kept), some (eN black)] _)
    obtain ⟨c18, h⟩ := h
    obtain ⟨c19, h⟩ := h
    obtain ⟨c20, h⟩ := h
    obtain ⟨c21, h⟩ := h
    obtain ⟨c22, h⟩ := h
    exact T.wp_ret (T.ev_call (T.ev_cons (T.ev_sub (x := (((2 * black) * kept) + whole)) (y := kept) c20 (T.ev_add (x := ((2 * black) * kept)) (y := whole) (T.ev_mul (x := (2 * black)) (y := kept) c19 (T.ev_mul (x := 2) (y := black) c18 (T.ev_cN 2) (T.ev_v rfl)) (T.ev_v rfl)) (T.ev_v rfl)) (T.ev_v rfl)) (T.ev_cons (T.ev_mul (x := 2) (y := whole) c21 (T.ev_cN 2) (T.ev_v rfl)) T.ev_nil)) rfl (t_lowered c22 _)) ⟨rfl, (F_lowered ((((((2 * black) * kept) + whole) - kept) : Nat) : Int) (((2 * whole) : Nat) : Int)), rfl, h⟩)
  exact ⟨r, q, e1⟩
abbrev P_black_chance (p : Pic) (i j t : Nat) : Prop := PicP p ∧ i < p.length ∧ j < p[0]!.length ∧ t ≤ 200
/-- twice the chance of a black cell, by the number of lists that leave it be -/
def bcQ (n t b : Nat) : Int × Int := low (((2 * b * (n - 2) ^ t + n ^ t - (n - 2) ^ t : Nat)) : Int) ((2 * n ^ t : Nat) : Int)
def F_black_chance (p : Pic) (i j t : Nat) : Int × Int := bcQ (p.length + p[0]!.length) t (if (p[i]!)[j]! = true then 1 else 0)
theorem pow_2n {n t : Nat} : (n - 2) ^ t ≤ n ^ t := Nat.pow_le_pow_left (by omega) t
theorem bc_lg {n t b c : Nat} (hn : n ≤ 60) (h1 : 2 ≤ n) (ht : t ≤ 200) (hb : b ≤ c) (hc : c ≤ 900) : Lg (((2 * b * (n - 2) ^ t + c * (n ^ t - (n - 2) ^ t) : Nat)) : Int) 1320 ∧ Lg ((2 * n ^ t : Nat) : Int) 1320 ∧ (0 : Int) < ((2 * n ^ t : Nat) : Int) := by
  have p1 := pow_lt' (b := n) (t := t) (by omega) ht
  have p2 := pow_2n (n := n) (t := t)
  have p3 : 0 < n ^ t := Nat.pow_pos (by omega)
  have e : (2 : Nat) ^ 1320 = 2 ^ 20 * 2 ^ 1300 := by rw [← Nat.pow_add]
  generalize hK : (2 : Nat) ^ 1300 = K at *
  generalize n ^ t = A at *
  generalize (n - 2) ^ t = B at *
  refine ⟨Lg.nat ?_, Lg.nat ?_, by omega⟩
  · have h2 : 2 * b * B ≤ 1800 * B := Nat.mul_le_mul_right _ (by omega)
    have h3 : c * (A - B) ≤ 900 * (A - B) := Nat.mul_le_mul_right _ hc
    omega
  · omega
theorem ok_black_chance {p : Pic} {i j t : Nat} (k : P_black_chance p i j t) : V_black_chance p i j t (· = F_black_chance p i j t) := by
  obtain ⟨k, hi, hj, ht⟩ := k
  have h1 := k.h1; have h30 := k.h30; have w1 := k.w1; have w30 := k.w30
  have e0 : F_lines_of p = p.length + p[0]!.length := rfl
  have er : (p[i]!).length = p[0]!.length := by rw [getElem!_pos p i hi]; exact k.row _ (List.getElem_mem hi)
  refine ⟨k, h1, ⟨by omega, by omega⟩, h1, by omega, w1, ⟨by omega, by omega⟩, ⟨by omega, ht⟩, k, ⟨by omega, ht⟩, by omega, ⟨by omega, ht⟩, fun A hA B hB => ⟨hi, ⟨by omega, by omega⟩, fun b hb => ?_⟩⟩
  have hb1 : b ≤ 1 := by rw [hb]; split <;> omega
  have hA : A = (p.length + p[0]!.length) ^ t := hA
  have hB : B = (p.length + p[0]!.length - 2) ^ t := hB
  have p1 : A < 2 ^ 1300 := by rw [hA]; exact pow_lt' (by omega) ht
  have p2 : B ≤ A := by rw [hA, hB]; exact pow_2n
  have eq : 2 * b * B + A - B = 2 * b * B + 1 * (A - B) := by omega
  have lg := bc_lg (n := p.length + p[0]!.length) (t := t) (b := b) (c := 1) (by omega) (by omega) ht hb1 (by omega)
  have lg1 := lg.1
  rw [← hA, ← hB] at lg
  refine ⟨cMul_nat (n := 2) (m := 2) (by omega) (by omega) (by omega) (by omega) (by omega), cMul_nat (n := 2) (m := 1300) (by omega) (by omega) (by omega) (by omega) (by omega), by omega, cMul_nat (n := 2) (m := 1300) (by omega) p1 (by omega) (by omega) (by omega), ?_, ?_⟩
  · rw [eq]; exact ⟨lg.1.mono (by omega), lg.2.1.mono (by omega), lg.2.2⟩
  · rw [hA, hB, hb]; rfl
theorem t_black_chance {start : (List Row)} {row : Nat} {column : Nat} {times : Nat} (hP : P_black_chance start row column times) (tp : List D) : m_black_chance [(eT eR) start, eN row, eN column, eN times] tp = .ok ((eP eZ eZ) (F_black_chance start row column times)) tp := by
  obtain ⟨r, rfl, e⟩ := snd_black_chance start row column times (ok_black_chance hP) tp
  exact e
end W

set_option maxHeartbeats 1000000
namespace W
open PySem L2 G T
def V_need_board (rows : Nat) (columns : Nat) (Q : Unit → Prop) : Prop := (P_need_number rows 1 30) ∧ (P_need_number columns 1 30) ∧ Q ()
theorem snd_need_board (rows : Nat) (columns : Nat) {Q : Unit → Prop} (h : V_need_board rows columns Q) (tp : List D) : ∃ r : Unit, Q r ∧ m_need_board [eN rows, eN columns] tp = .ok (eU r) tp := by
  obtain ⟨d, t, e1, rfl, r, rfl, q⟩ := T.wp_def (n := 2) (s := b_need_board) (ds := [eN rows, eN columns]) (tp := tp) (Q := fun d t => t = tp ∧ ∃ r : Unit, d = eU r ∧ Q r) (by
    unfold V_need_board at h
    change WP _ _ _ _ (b_need_board [some (eN rows), some (eN columns)] _)
    unfold b_need_board
    obtain ⟨c1, h⟩ := h
    refine T.wp_seq (T.wp_drop (T.ev_call (T.ev_cons (T.ev_v rfl) (T.ev_cons (T.ev_cN 1) (T.ev_cons (T.ev_cN 30) T.ev_nil))) rfl (t_need_number c1 _)) ?_)
    change WP _ _ _ _ (At _ [some (eN rows), some (eN columns)] _)
    obtain ⟨c2, h⟩ := h
    refine T.wp_drop (T.ev_call (T.ev_cons (T.ev_v rfl) (T.ev_cons (T.ev_cN 1) (T.ev_cons (T.ev_cN 30) T.ev_nil))) rfl (t_need_number c2 _)) ?_
    exact ⟨rfl, (), rfl, h⟩)
  exact ⟨r, q, e1⟩
abbrev P_need_board (h w : Nat) : Prop := (1 ≤ h ∧ h ≤ 30) ∧ 1 ≤ w ∧ w ≤ 30
abbrev F_need_board (_ _ : Nat) : Unit := ()
theorem ok_need_board {h w : Nat} (k : P_need_board h w) : V_need_board h w (· = F_need_board h w) := ⟨k.1, k.2, rfl⟩
theorem t_need_board {rows : Nat} {columns : Nat} (hP : P_need_board rows columns) (tp : List D) : m_need_board [eN rows, eN columns] tp = .ok (eU (F_need_board rows columns)) tp := by
  obtain ⟨r, rfl, e⟩ := snd_need_board rows columns (ok_need_board hP) tp
  exact e
end W

set_option maxHeartbeats 1000000
namespace W
open PySem L2 G T
def V_parts_sum (many : Nat) (Q : (Int × Int) → Prop) : Prop := ∀ found : (Int × Int), found = ((0 : Int), (1 : Int)) → (1 ≤ 1073741824 ∧ (many + 1) ≤ 1073741824) ∧ ∃ I4 : Nat → (Int × Int) → Prop, I4 0 found ∧ (∀ (i8 : Nat) (x9 : Nat), (List.range' 1 ((many + 1) - 1))[i8]? = some x9 → ∀ found_1 : (Int × Int), I4 i8 found_1 → (P_plus found_1 ((1 : Int), ((x9 : Nat) : Int))) ∧ ∀ found_2 : (Int × Int), found_2 = (F_plus found_1 ((1 : Int), ((x9 : Nat) : Int))) → I4 (i8 + 1) found_2) ∧ (∀ found_1 : (Int × Int), I4 (List.range' 1 ((many + 1) - 1)).length found_1 → Q found_1)
theorem snd_parts_sum (many : Nat) {Q : (Int × Int) → Prop} (h : V_parts_sum many Q) (tp : List D) : ∃ r : (Int × Int), Q r ∧ m_parts_sum [eN many] tp = .ok ((eP eZ eZ) r) tp := by
  obtain ⟨d, t, e1, rfl, r, rfl, q⟩ := T.wp_def (n := 3) (s := b_parts_sum) (ds := [eN many]) (tp := tp) (Q := fun d t => t = tp ∧ ∃ r : (Int × Int), d = (eP eZ eZ) r ∧ Q r) (by
    unfold V_parts_sum at h
    change WP _ _ _ _ (b_parts_sum [some (eN many), none, none] _)
    unfold b_parts_sum
    obtain ⟨found, d1⟩ : ∃ found : (Int × Int), found = ((0 : Int), (1 : Int)) := ⟨_, rfl⟩
    replace h := h found d1
    refine T.wp_seq (T.wp_set (T.ev_as d1 (e := (eP eZ eZ)) (T.ev_tup (ds := [eZ (0 : Int), eZ (1 : Int)]) (T.ev_cons (T.ev_c rfl) (T.ev_cons (T.ev_c rfl) T.ev_nil)) rfl)) ?_)
    change WP _ _ _ _ (At _ [some (eN many), some ((eP eZ eZ) found), none] _)
    obtain ⟨c2, h⟩ := h
    obtain ⟨I4, h5, h6, h7⟩ := h
    refine T.wp_seq (T.wp_for (e := eN) (xs := (List.range' 1 ((many + 1) - 1))) (ds := fun x9 => [eN x9]) (fun k env tz => tp = tz ∧ ∃ found_1 : (Int × Int), ∃ g3 : Option D, env = [some (eN many), some ((eP eZ eZ) found_1), g3] ∧ I4 k found_1) (T.it_range2 (a := 1) (n := (many + 1)) c2 (T.ev_cN 1) (T.ev_add (x := many) (y := 1) (T.ev_v rfl) (T.ev_cN 1))) (fun _ => rfl) ⟨rfl, found, _, rfl, h5⟩ ?_ ?_)
    · intro i8 x9 env t hk hI
      obtain ⟨rfl, found_1, g3, rfl, h⟩ := hI
      replace h := h6 i8 x9 hk found_1 h
      change WP _ _ _ _ (At _ [some (eN many), some ((eP eZ eZ) found_1), some (eN x9)] _)
      obtain ⟨c12, h⟩ := h
      obtain ⟨found_2, d13⟩ : ∃ found_2 : (Int × Int), found_2 = (F_plus found_1 ((1 : Int), ((x9 : Nat) : Int))) := ⟨_, rfl⟩
      replace h := h found_2 d13
      refine T.wp_set (T.ev_as d13 (e := (eP eZ eZ)) (T.ev_call (T.ev_cons (T.ev_v rfl) (T.ev_cons (T.ev_tup (ds := [eZ (1 : Int), eZ ((x9 : Nat) : Int)]) (T.ev_cons (T.ev_c rfl) (T.ev_cons (T.ev_v rfl) T.ev_nil)) rfl) T.ev_nil)) rfl (t_plus c12 _))) ?_
      exact ⟨rfl, found_2, _, rfl, h⟩
    rintro _ _ ⟨rfl, found_1, g3, rfl, h⟩
    replace h := h7 found_1 h
    change WP _ _ _ _ (At _ [some (eN many), some ((eP eZ eZ) found_1), g3] _)
    exact T.wp_ret (T.ev_v rfl) ⟨rfl, found_1, rfl, h⟩)
  exact ⟨r, q, e1⟩
abbrev P_parts_sum (n : Nat) : Prop := n ≤ 60
abbrev F_parts_sum (n : Nat) : Int × Int := hs n
theorem rat_one (n : Nat) (h : n ≤ 63) (h1 : 1 ≤ n) : Rat' ((1 : Int), ((n : Nat) : Int)) 1 ((n : Nat) : Int) 400 := by
  obtain ⟨m, rfl⟩ : ∃ m, n = m + 1 := ⟨n - 1, by omega⟩
  refine ⟨(low_one m).symm, by omega, Lg.nat (x := 1) (Nat.one_lt_two_pow (by decide)), Lg.nat ?_⟩
  have : (2 : Nat) ^ 6 ≤ 2 ^ 400 := Nat.pow_le_pow_right (by decide) (by decide)
  omega
theorem ok_parts_sum {n : Nat} (k : P_parts_sum n) : V_parts_sum n (· = F_parts_sum n) := by
  have k : n ≤ 60 := k
  refine fun f hf => ⟨⟨by omega, by omega⟩, fun i f => f = hs i, hf, fun i x hx f hI => ?_, fun f hI => ?_⟩
  · have hi := (List.getElem?_eq_some_iff.mp hx).1
    rw [List.length_range'] at hi
    rw [List.getElem?_range' (by omega)] at hx
    have ex : x = i + 1 := by have := Option.some.inj hx; omega
    subst ex hI
    have one := rat_one (i + 1) (by omega) (by omega)
    have ho := (hs_rat i (by omega)).ok (n := 400) (by omega)
    exact ⟨⟨ho, one.ok (by omega)⟩, fun g hg => hg⟩
  · rw [List.length_range'] at hI
    exact hI
theorem t_parts_sum {many : Nat} (hP : P_parts_sum many) (tp : List D) : m_parts_sum [eN many] tp = .ok ((eP eZ eZ) (F_parts_sum many)) tp := by
  obtain ⟨r, rfl, e⟩ := snd_parts_sum many (ok_parts_sum hP) tp
  exact e
end W

set_option maxHeartbeats 1000000
namespace W
open PySem L2 G T
def V_mean_black (start : (List Row)) (times : Nat) (Q : (Int × Int) → Prop) : Prop := (P_need_painting start times) ∧ (P_lines_of start) ∧ (0 < start.length) ∧ ((start[0]!).length ≤ 1000000) ∧ (cMul ((start.length : Nat) : Int) (((start[0]!).length : Nat) : Int) = true) ∧ ∀ lines : Nat, lines = (F_lines_of start) → ∀ cells : Nat, cells = (start.length * (start[0]!).length) → (start.length ≤ 1000000) ∧ (∀ x8, x8 ∈ start → (x8.length ≤ 1000000)) ∧ ∀ black : Nat, black = (start.map fun x8 => ((x8.filter fun x10 => decide (x10 = true)).map fun x10 => 1).length).sum → (P_raised lines times) ∧ (2 ≤ lines) ∧ (P_raised (lines - 2) times) ∧ ∀ whole : Nat, whole = (F_raised lines times) → ∀ kept : Nat, kept = (F_raised (lines - 2) times) → (cMul ((2 : Nat) : Int) ((black : Nat) : Int) = true) ∧ (cMul (((2 * black) : Nat) : Int) ((kept : Nat) : Int) = true) ∧ (kept ≤ whole) ∧ (cMul ((cells : Nat) : Int) (((whole - kept) : Nat) : Int) = true) ∧ (cMul ((2 : Nat) : Int) ((whole : Nat) : Int) = true) ∧ (P_lowered (((((2 * black) * kept) + (cells * (whole - kept))) : Nat) : Int) (((2 * whole) : Nat) : Int)) ∧ Q (F_lowered (((((2 * black) * kept) + (cells * (whole - kept))) : Nat) : Int) (((2 * whole) : Nat) : Int))
theorem snd_mean_black (start : (List Row)) (times : Nat) {Q : (Int × Int) → Prop} (h : V_mean_black start times Q) (tp : List D) : ∃ r : (Int × Int), Q r ∧ m_mean_black [(eT eR) start, eN times] tp = .ok ((eP eZ eZ) r) tp := by
  obtain ⟨d, t, e1, rfl, r, rfl, q⟩ := T.wp_def (n := 9) (s := b_mean_black) (ds := [(eT eR) start, eN times]) (tp := tp) (Q := fun d t => t = tp ∧ ∃ r : (Int × Int), d = (eP eZ eZ) r ∧ Q r) (by
    unfold V_mean_black at h
    change WP _ _ _ _ (b_mean_black [some ((eT eR) start), some (eN times), none, none, none, none, none, none, none] _)
    unfold b_mean_black
    obtain ⟨c1, h⟩ := h
    refine T.wp_seq (T.wp_drop (T.ev_call (T.ev_cons (T.ev_v rfl) (T.ev_cons (T.ev_v rfl) T.ev_nil)) rfl (t_need_painting c1 _)) ?_)
    change WP _ _ _ _ (At _ [some ((eT eR) start), some (eN times), none, none, none, none, none, none, none] _)
    obtain ⟨c2, h⟩ := h
    obtain ⟨c3, h⟩ := h
    obtain ⟨c4, h⟩ := h
    obtain ⟨c5, h⟩ := h
    obtain ⟨lines, d6⟩ : ∃ lines : Nat, lines = (F_lines_of start) := ⟨_, rfl⟩
    replace h := h lines d6
    obtain ⟨cells, d7⟩ : ∃ cells : Nat, cells = (start.length * (start[0]!).length) := ⟨_, rfl⟩
    replace h := h cells d7
    refine T.wp_seq (T.wp_par (T.ev_cons (T.ev_as d6 (e := eN) (T.ev_call (T.ev_cons (T.ev_v rfl) T.ev_nil) rfl (t_lines_of c2 _))) (T.ev_cons (T.ev_as d7 (e := eN) (T.ev_mul (x := start.length) (y := (start[0]!).length) c5 (T.ev_lenT (e := eR) (xs := start) (T.ev_v rfl)) (T.ev_lenR (r := start[0]!) c4 (T.ev_ixT (e := eR) (xs := start) (i := 0) c3 (T.ev_v rfl) (T.ev_cN 0))))) T.ev_nil)) rfl ?_)
    change WP _ _ _ _ (At _ [some ((eT eR) start), some (eN times), some (eN lines), some (eN cells), none, none, none, none, none] _)
    obtain ⟨c9, h⟩ := h
    obtain ⟨c12, h⟩ := h
    obtain ⟨black, d13⟩ : ∃ black : Nat, black = (start.map fun x8 => ((x8.filter fun x10 => decide (x10 = true)).map fun x10 => 1).length).sum := ⟨_, rfl⟩
    replace h := h black d13
    refine T.wp_seq (T.wp_set (T.ev_as d13 (e := eN) (T.ev_sumL (xs := (start.map fun x8 => ((x8.filter fun x10 => decide (x10 = true)).map fun x10 => 1).length)) (T.ev_compY (e := eR) (e1 := eN) (xs := start) (ds := fun x8 => [eR x8]) (g := fun x8 => ((x8.filter fun x10 => decide (x10 = true)).map fun x10 => 1).length) (T.it_T (e := eR) (xs := start) (T.ev_v rfl)) c9 (fun _ => rfl) (fun x8 hx => have c11 := c12 x8 hx; (T.ev_lenL (e := eN) (xs := ((x8.filter fun x10 => decide (x10 = true)).map fun x10 => 1)) (T.ev_comp (e := eG) (e1 := eN) (xs := x8) (ds := fun x10 => [eG x10]) (g := fun x10 => 1) (P := fun x10 => (x10 = true)) (T.it_R (r := x8) (T.ev_v rfl)) c11 (fun _ => rfl) (fun x10 hx => (T.ev_bool (T.ev_eq (x := x10) (y := true) qG rfl (T.ev_v rfl) (T.ev_c (congrArg D.str str_black))))) (fun x10 hx hq => (T.ev_cN 1)))))))) ?_)
    change WP _ _ _ _ (At _ [some ((eT eR) start), some (eN times), some (eN lines), some (eN cells), some (eN black), none, none, none, none] _)
    obtain ⟨c14, h⟩ := h
    obtain ⟨c15, h⟩ := h
    obtain ⟨c16, h⟩ := h
    obtain ⟨whole, d17⟩ : ∃ whole : Nat, whole = (F_raised lines times) := ⟨_, rfl⟩
    replace h := h whole d17
    obtain ⟨kept, d18⟩ : ∃ kept : Nat, kept = (F_raised (lines - 2) times) := ⟨_, rfl⟩
    replace h := h kept d18
    refine T.wp_seq (T.wp_par (T.ev_cons (T.ev_as d17 (e := eN) (T.ev_call (T.ev_cons (T.ev_v rfl) (T.ev_cons (T.ev_v rfl) T.ev_nil)) rfl (t_raised c14 _))) (T.ev_cons (T.ev_as d18 (e := eN) (T.ev_call (T.ev_cons (T.ev_sub (x := lines) (y := 2) c15 (T.ev_v rfl) (T.ev_cN 2)) (T.ev_cons (T.ev_v rfl) T.ev_nil)) rfl (t_raised c16 _))) T.ev_nil)) rfl ?_)
    change WP _ _ _ _ (At _ [some ((eT eR) start), some (eN times), some (eN lines), some (eN cells), some (eN black), none, none, some (eN whole), some (eN kept)] _)
    obtain ⟨c19, h⟩ := h
    obtain ⟨c20, h⟩ := h
    obtain ⟨c21, h⟩ := h
    obtain ⟨c22, h⟩ := h
    obtain ⟨c23, h⟩ := h
    obtain ⟨c24, h⟩ := h
    exact T.wp_ret (T.ev_call (T.ev_cons (T.ev_add (x := ((2 * black) * kept)) (y := (cells * (whole - kept))) (T.ev_mul (x := (2 * black)) (y := kept) c20 (T.ev_mul (x := 2) (y := black) c19 (T.ev_cN 2) (T.ev_v rfl)) (T.ev_v rfl)) (T.ev_mul (x := cells) (y := (whole - kept)) c22 (T.ev_v rfl) (T.ev_sub (x := whole) (y := kept) c21 (T.ev_v rfl) (T.ev_v rfl)))) (T.ev_cons (T.ev_mul (x := 2) (y := whole) c23 (T.ev_cN 2) (T.ev_v rfl)) T.ev_nil)) rfl (t_lowered c24 _)) ⟨rfl, (F_lowered (((((2 * black) * kept) + (cells * (whole - kept))) : Nat) : Int) (((2 * whole) : Nat) : Int)), rfl, h⟩)
  exact ⟨r, q, e1⟩
abbrev P_mean_black (p : Pic) (t : Nat) : Prop := PicP p ∧ t ≤ 200
def mbQ (n t b c : Nat) : Int × Int := low (((2 * b * (n - 2) ^ t + c * (n ^ t - (n - 2) ^ t) : Nat)) : Int) ((2 * n ^ t : Nat) : Int)
def F_mean_black (p : Pic) (t : Nat) : Int × Int := mbQ (p.length + p[0]!.length) t ((p.map fun r => r.count true).sum) (p.length * p[0]!.length)
theorem len_onesM (r : Row) : ((r.filter fun x => decide (x = true)).map fun _ => 1).length = r.count true := by
  rw [List.length_map, List.count, List.countP_eq_length_filter]
  congr 1
theorem sum_le {α : Type} (f : α → Nat) (c : Nat) : ∀ xs : List α, (∀ x ∈ xs, f x ≤ c) → (xs.map f).sum ≤ xs.length * c
  | [], _ => by simp
  | x :: xs, h => by
    have h1 := h x List.mem_cons_self
    have h2 := sum_le f c xs fun y hy => h y (List.mem_cons_of_mem _ hy)
    rw [List.map_cons, List.sum_cons, List.length_cons, Nat.add_mul, Nat.one_mul]; omega
theorem ok_mean_black {p : Pic} {t : Nat} (k : P_mean_black p t) : V_mean_black p t (· = F_mean_black p t) := by
  obtain ⟨k, ht⟩ := k
  have h1 := k.h1; have h30 := k.h30; have w1 := k.w1; have w30 := k.w30
  have e0 : F_lines_of p = p.length + p[0]!.length := rfl
  have hc9 : p.length * p[0]!.length ≤ 30 * 30 := Nat.mul_le_mul h30 w30
  refine ⟨⟨k, ht⟩, k, h1, by omega, cMul_nat (n := 7) (m := 7) (by omega) (by omega) (by omega) (by omega) (by omega), fun n hn c hc => ⟨by omega, fun r hr => by rw [k.row r hr]; omega, fun b hb => ?_⟩⟩
  rw [e0] at hn
  have eb : b = (p.map fun r => r.count true).sum := by rw [hb]; exact congrArg List.sum (List.map_congr_left fun r _ => len_onesM r)
  have bc : b ≤ c := by
    rw [eb, hc]
    refine sum_le _ _ _ fun r hr => ?_
    rw [← k.row r hr]; exact List.count_le_length
  have lg := bc_lg (n := n) (t := t) (b := b) (c := c) (by omega) (by omega) ht bc (by omega)
  refine ⟨⟨by omega, ht⟩, by omega, ⟨by omega, ht⟩, fun A hA B hB => ?_⟩
  have hA : A = n ^ t := hA
  have hB : B = (n - 2) ^ t := hB
  have p1 : A < 2 ^ 1300 := by rw [hA]; exact pow_lt' (by omega) ht
  have p2 : B ≤ A := by rw [hA, hB]; exact pow_2n
  rw [← hA, ← hB] at lg
  refine ⟨cMul_nat (n := 2) (m := 11) (by omega) (by omega) (by omega) (by omega) (by omega), cMul_nat (n := 12) (m := 1300) (by omega) (by omega) (by omega) (by omega) (by omega), p2, cMul_nat (n := 11) (m := 1300) (by omega) (by omega) (by omega) (by omega) (by omega), cMul_nat (n := 2) (m := 1300) (by omega) p1 (by omega) (by omega) (by omega), ⟨lg.1.mono (by omega), lg.2.1.mono (by omega), lg.2.2⟩, ?_⟩
  rw [hA, hB, eb, hc, hn]; rfl
theorem t_mean_black {start : (List Row)} {times : Nat} (hP : P_mean_black start times) (tp : List D) : m_mean_black [(eT eR) start, eN times] tp = .ok ((eP eZ eZ) (F_mean_black start times)) tp := by
  obtain ⟨r, rfl, e⟩ := snd_mean_black start times (ok_mean_black hP) tp
  exact e
end W

set_option maxHeartbeats 1000000
namespace W
open PySem L2 G T
def V_whole_chance (rows : Nat) (columns : Nat) (times : Nat) (Q : (Int × Int) → Prop) : Prop := (P_need_board rows columns) ∧ (P_need_number times 0 200) ∧ (P_all_chance (rows + columns) (rows + columns) times) ∧ Q (F_all_chance (rows + columns) (rows + columns) times)
theorem snd_whole_chance (rows : Nat) (columns : Nat) (times : Nat) {Q : (Int × Int) → Prop} (h : V_whole_chance rows columns times Q) (tp : List D) : ∃ r : (Int × Int), Q r ∧ m_whole_chance [eN rows, eN columns, eN times] tp = .ok ((eP eZ eZ) r) tp := by
  obtain ⟨d, t, e1, rfl, r, rfl, q⟩ := T.wp_def (n := 3) (s := b_whole_chance) (ds := [eN rows, eN columns, eN times]) (tp := tp) (Q := fun d t => t = tp ∧ ∃ r : (Int × Int), d = (eP eZ eZ) r ∧ Q r) (by
    unfold V_whole_chance at h
    change WP _ _ _ _ (b_whole_chance [some (eN rows), some (eN columns), some (eN times)] _)
    unfold b_whole_chance
    obtain ⟨c1, h⟩ := h
    refine T.wp_seq (T.wp_drop (T.ev_call (T.ev_cons (T.ev_v rfl) (T.ev_cons (T.ev_v rfl) T.ev_nil)) rfl (t_need_board c1 _)) ?_)
    change WP _ _ _ _ (At _ [some (eN rows), some (eN columns), some (eN times)] _)
    obtain ⟨c2, h⟩ := h
    refine T.wp_seq (T.wp_drop (T.ev_call (T.ev_cons (T.ev_v rfl) (T.ev_cons (T.ev_cN 0) (T.ev_cons (T.ev_cN 200) T.ev_nil))) rfl (t_need_number c2 _)) ?_)
    change WP _ _ _ _ (At _ [some (eN rows), some (eN columns), some (eN times)] _)
    obtain ⟨c3, h⟩ := h
    exact T.wp_ret (T.ev_call (T.ev_cons (T.ev_add (x := rows) (y := columns) (T.ev_v rfl) (T.ev_v rfl)) (T.ev_cons (T.ev_add (x := rows) (y := columns) (T.ev_v rfl) (T.ev_v rfl)) (T.ev_cons (T.ev_v rfl) T.ev_nil))) rfl (t_all_chance c3 _)) ⟨rfl, (F_all_chance (rows + columns) (rows + columns) times), rfl, h⟩)
  exact ⟨r, q, e1⟩
abbrev P_whole_chance (h w t : Nat) : Prop := P_need_board h w ∧ t ≤ 200
abbrev F_whole_chance (h w t : Nat) : Int × Int := F_all_chance (h + w) (h + w) t
theorem ok_whole_chance {h w t : Nat} (k : P_whole_chance h w t) : V_whole_chance h w t (· = F_whole_chance h w t) := by
  obtain ⟨⟨⟨a, b⟩, c, d⟩, e⟩ := k
  exact ⟨⟨⟨a, b⟩, c, d⟩, ⟨by omega, e⟩, ⟨by omega, by omega, by omega, e⟩, rfl⟩
theorem t_whole_chance {rows : Nat} {columns : Nat} {times : Nat} (hP : P_whole_chance rows columns times) (tp : List D) : m_whole_chance [eN rows, eN columns, eN times] tp = .ok ((eP eZ eZ) (F_whole_chance rows columns times)) tp := by
  obtain ⟨r, rfl, e⟩ := snd_whole_chance rows columns times (ok_whole_chance hP) tp
  exact e
end W

set_option maxHeartbeats 1000000
namespace W
open PySem L2 G T
def V_past_chance (rows : Nat) (columns : Nat) (times : Nat) (Q : (Int × Int) → Prop) : Prop := (P_need_board rows columns) ∧ (P_need_number times 0 200) ∧ ∀ lines : Nat, lines = (rows + columns) → (P_all_chance lines lines times) ∧ ∀ both : (Int × Int), both = (F_all_chance lines lines times) → (P_all_chance lines rows times) ∧ (P_all_chance lines columns times) ∧ (P_plus (F_all_chance lines rows times) (F_all_chance lines columns times)) ∧ (P_plus (F_plus (F_all_chance lines rows times) (F_all_chance lines columns times)) ((-both.1), both.2)) ∧ Q (F_plus (F_plus (F_all_chance lines rows times) (F_all_chance lines columns times)) ((-both.1), both.2))
theorem snd_past_chance (rows : Nat) (columns : Nat) (times : Nat) {Q : (Int × Int) → Prop} (h : V_past_chance rows columns times Q) (tp : List D) : ∃ r : (Int × Int), Q r ∧ m_past_chance [eN rows, eN columns, eN times] tp = .ok ((eP eZ eZ) r) tp := by
  obtain ⟨d, t, e1, rfl, r, rfl, q⟩ := T.wp_def (n := 5) (s := b_past_chance) (ds := [eN rows, eN columns, eN times]) (tp := tp) (Q := fun d t => t = tp ∧ ∃ r : (Int × Int), d = (eP eZ eZ) r ∧ Q r) (by
    unfold V_past_chance at h
    change WP _ _ _ _ (b_past_chance [some (eN rows), some (eN columns), some (eN times), none, none] _)
    unfold b_past_chance
    obtain ⟨c1, h⟩ := h
    refine T.wp_seq (T.wp_drop (T.ev_call (T.ev_cons (T.ev_v rfl) (T.ev_cons (T.ev_v rfl) T.ev_nil)) rfl (t_need_board c1 _)) ?_)
    change WP _ _ _ _ (At _ [some (eN rows), some (eN columns), some (eN times), none, none] _)
    obtain ⟨c2, h⟩ := h
    refine T.wp_seq (T.wp_drop (T.ev_call (T.ev_cons (T.ev_v rfl) (T.ev_cons (T.ev_cN 0) (T.ev_cons (T.ev_cN 200) T.ev_nil))) rfl (t_need_number c2 _)) ?_)
    change WP _ _ _ _ (At _ [some (eN rows), some (eN columns), some (eN times), none, none] _)
    obtain ⟨lines, d3⟩ : ∃ lines : Nat, lines = (rows + columns) := ⟨_, rfl⟩
    replace h := h lines d3
    refine T.wp_seq (T.wp_set (T.ev_as d3 (e := eN) (T.ev_add (x := rows) (y := columns) (T.ev_v rfl) (T.ev_v rfl))) ?_)
    change WP _ _ _ _ (At _ [some (eN rows), some (eN columns), some (eN times), some (eN lines), none] _)
    obtain ⟨c4, h⟩ := h
    obtain ⟨both, d5⟩ : ∃ both : (Int × Int), both = (F_all_chance lines lines times) := ⟨_, rfl⟩
    replace h := h both d5
    refine T.wp_seq (T.wp_set (T.ev_as d5 (e := (eP eZ eZ)) (T.ev_call (T.ev_cons (T.ev_v rfl) (T.ev_cons (T.ev_v rfl) (T.ev_cons (T.ev_v rfl) T.ev_nil))) rfl (t_all_chance c4 _))) ?_)
    change WP _ _ _ _ (At _ [some (eN rows), some (eN columns), some (eN times), some (eN lines), some ((eP eZ eZ) both)] _)
    obtain ⟨c6, h⟩ := h
    obtain ⟨c7, h⟩ := h
    obtain ⟨c8, h⟩ := h
    obtain ⟨c9, h⟩ := h
    exact T.wp_ret (T.ev_call (T.ev_cons (T.ev_call (T.ev_cons (T.ev_call (T.ev_cons (T.ev_v rfl) (T.ev_cons (T.ev_v rfl) (T.ev_cons (T.ev_v rfl) T.ev_nil))) rfl (t_all_chance c6 _)) (T.ev_cons (T.ev_call (T.ev_cons (T.ev_v rfl) (T.ev_cons (T.ev_v rfl) (T.ev_cons (T.ev_v rfl) T.ev_nil))) rfl (t_all_chance c7 _)) T.ev_nil)) rfl (t_plus c8 _)) (T.ev_cons (T.ev_tup (ds := [eZ (-both.1), eZ both.2]) (T.ev_cons (T.ev_negZ (x := both.1) (T.ev_fst (x := both) (T.ev_v rfl) rfl)) (T.ev_cons (T.ev_snd (x := both) (T.ev_v rfl) rfl) T.ev_nil)) rfl) T.ev_nil)) rfl (t_plus c9 _)) ⟨rfl, (F_plus (F_plus (F_all_chance lines rows times) (F_all_chance lines columns times)) ((-both.1), both.2)), rfl, h⟩)
  exact ⟨r, q, e1⟩
abbrev P_past_chance (h w t : Nat) : Prop := P_need_board h w ∧ t ≤ 200
abbrev F_past_chance (h w t : Nat) : Int × Int := F_plus (F_plus (F_all_chance (h + w) h t) (F_all_chance (h + w) w t)) (-(F_all_chance (h + w) (h + w) t).1, (F_all_chance (h + w) (h + w) t).2)
theorem all_rat {n m t : Nat} (k : P_all_chance n m t) : Rat' (F_all_chance n m t) (alt t m (n - m)) ((n ^ t : Nat) : Int) 1300 :=
  rat_mk (by have : 0 < n ^ t := Nat.pow_pos k.2.1; omega) (alt_lg k) (Lg.nat (pow_lt' (by have := k.2.2.1; omega) k.2.2.2))
theorem ok_past_chance {h w t : Nat} (k : P_past_chance h w t) : V_past_chance h w t (· = F_past_chance h w t) := by
  obtain ⟨⟨⟨a, b⟩, c, d⟩, e⟩ := k
  refine ⟨⟨⟨a, b⟩, c, d⟩, ⟨by omega, e⟩, fun n hn => ?_⟩
  subst hn
  have k1 : P_all_chance (h + w) h t := ⟨by omega, by omega, by omega, e⟩
  have k2 : P_all_chance (h + w) w t := ⟨by omega, by omega, by omega, e⟩
  have k3 : P_all_chance (h + w) (h + w) t := ⟨by omega, by omega, by omega, e⟩
  refine ⟨k3, fun both hb => ⟨k1, k2, ⟨(all_rat k1).ok (by omega), (all_rat k2).ok (by omega)⟩, ?_, ?_⟩⟩
  · rw [hb]
    exact ⟨((all_rat k1).plus' (all_rat k2)).ok (by omega), (all_rat k3).neg.ok (by omega)⟩
  · rw [hb]
theorem t_past_chance {rows : Nat} {columns : Nat} {times : Nat} (hP : P_past_chance rows columns times) (tp : List D) : m_past_chance [eN rows, eN columns, eN times] tp = .ok ((eP eZ eZ) (F_past_chance rows columns times)) tp := by
  obtain ⟨r, rfl, e⟩ := snd_past_chance rows columns times (ok_past_chance hP) tp
  exact e
end W

set_option maxHeartbeats 1000000
namespace W
open PySem L2 G T
def V_mean_whole (rows : Nat) (columns : Nat) (Q : (Int × Int) → Prop) : Prop := (P_need_board rows columns) ∧ (P_parts_sum (rows + columns)) ∧ (P_times_ratio ((((rows + columns) : Nat) : Int), (1 : Int)) (F_parts_sum (rows + columns))) ∧ Q (F_times_ratio ((((rows + columns) : Nat) : Int), (1 : Int)) (F_parts_sum (rows + columns)))
theorem snd_mean_whole (rows : Nat) (columns : Nat) {Q : (Int × Int) → Prop} (h : V_mean_whole rows columns Q) (tp : List D) : ∃ r : (Int × Int), Q r ∧ m_mean_whole [eN rows, eN columns] tp = .ok ((eP eZ eZ) r) tp := by
  obtain ⟨d, t, e1, rfl, r, rfl, q⟩ := T.wp_def (n := 2) (s := b_mean_whole) (ds := [eN rows, eN columns]) (tp := tp) (Q := fun d t => t = tp ∧ ∃ r : (Int × Int), d = (eP eZ eZ) r ∧ Q r) (by
    unfold V_mean_whole at h
    change WP _ _ _ _ (b_mean_whole [some (eN rows), some (eN columns)] _)
    unfold b_mean_whole
    obtain ⟨c1, h⟩ := h
    refine T.wp_seq (T.wp_drop (T.ev_call (T.ev_cons (T.ev_v rfl) (T.ev_cons (T.ev_v rfl) T.ev_nil)) rfl (t_need_board c1 _)) ?_)
    change WP _ _ _ _ (At _ [some (eN rows), some (eN columns)] _)
    obtain ⟨c2, h⟩ := h
    obtain ⟨c3, h⟩ := h
    exact T.wp_ret (T.ev_call (T.ev_cons (T.ev_tup (ds := [eZ (((rows + columns) : Nat) : Int), eZ (1 : Int)]) (T.ev_cons (T.ev_add (x := rows) (y := columns) (T.ev_v rfl) (T.ev_v rfl)) (T.ev_cons (T.ev_c rfl) T.ev_nil)) rfl) (T.ev_cons (T.ev_call (T.ev_cons (T.ev_add (x := rows) (y := columns) (T.ev_v rfl) (T.ev_v rfl)) T.ev_nil) rfl (t_parts_sum c2 _)) T.ev_nil)) rfl (t_times_ratio c3 _)) ⟨rfl, (F_times_ratio ((((rows + columns) : Nat) : Int), (1 : Int)) (F_parts_sum (rows + columns))), rfl, h⟩)
  exact ⟨r, q, e1⟩
abbrev P_mean_whole (h w : Nat) : Prop := P_need_board h w
abbrev F_mean_whole (h w : Nat) : Int × Int := F_times_ratio (((h + w : Nat) : Int), 1) (hs (h + w))
theorem nat_ok {n : Nat} (h : n ≤ 64) : Lg (((n : Nat) : Int), (1 : Int)).1 4000 ∧ Lg (((n : Nat) : Int), (1 : Int)).2 4000 ∧ (0 : Int) < 1 :=
  ⟨(Lg.nat (x := n) (n := 7) (by omega)).mono (by omega), (Lg.nat (x := 1) (n := 1) (by decide)).mono (by omega), by decide⟩
theorem ok_mean_whole {h w : Nat} (k : P_mean_whole h w) : V_mean_whole h w (· = F_mean_whole h w) := by
  have kk := k
  obtain ⟨⟨a, b⟩, c, d⟩ := k
  exact ⟨kk, by show h + w ≤ 60; omega, ⟨nat_ok (by omega), (hs_rat (h + w) (by omega)).ok (by omega)⟩, rfl⟩
theorem t_mean_whole {rows : Nat} {columns : Nat} (hP : P_mean_whole rows columns) (tp : List D) : m_mean_whole [eN rows, eN columns] tp = .ok ((eP eZ eZ) (F_mean_whole rows columns)) tp := by
  obtain ⟨r, rfl, e⟩ := snd_mean_whole rows columns (ok_mean_whole hP) tp
  exact e
end W

set_option maxHeartbeats 1000000
namespace W
open PySem L2 G T
def V_mean_past (rows : Nat) (columns : Nat) (Q : (Int × Int) → Prop) : Prop := (P_need_board rows columns) ∧ (P_parts_sum (rows + columns)) ∧ ∀ both : (Int × Int), both = (F_parts_sum (rows + columns)) → (P_parts_sum rows) ∧ (P_parts_sum columns) ∧ (P_plus (F_parts_sum rows) (F_parts_sum columns)) ∧ (P_plus (F_plus (F_parts_sum rows) (F_parts_sum columns)) ((-both.1), both.2)) ∧ (P_times_ratio ((((rows + columns) : Nat) : Int), (1 : Int)) (F_plus (F_plus (F_parts_sum rows) (F_parts_sum columns)) ((-both.1), both.2))) ∧ Q (F_times_ratio ((((rows + columns) : Nat) : Int), (1 : Int)) (F_plus (F_plus (F_parts_sum rows) (F_parts_sum columns)) ((-both.1), both.2)))
theorem snd_mean_past (rows : Nat) (columns : Nat) {Q : (Int × Int) → Prop} (h : V_mean_past rows columns Q) (tp : List D) : ∃ r : (Int × Int), Q r ∧ m_mean_past [eN rows, eN columns] tp = .ok ((eP eZ eZ) r) tp := by
  obtain ⟨d, t, e1, rfl, r, rfl, q⟩ := T.wp_def (n := 3) (s := b_mean_past) (ds := [eN rows, eN columns]) (tp := tp) (Q := fun d t => t = tp ∧ ∃ r : (Int × Int), d = (eP eZ eZ) r ∧ Q r) (by
    unfold V_mean_past at h
    change WP _ _ _ _ (b_mean_past [some (eN rows), some (eN columns), none] _)
    unfold b_mean_past
    obtain ⟨c1, h⟩ := h
    refine T.wp_seq (T.wp_drop (T.ev_call (T.ev_cons (T.ev_v rfl) (T.ev_cons (T.ev_v rfl) T.ev_nil)) rfl (t_need_board c1 _)) ?_)
    change WP _ _ _ _ (At _ [some (eN rows), some (eN columns), none] _)
    obtain ⟨c2, h⟩ := h
    obtain ⟨both, d3⟩ : ∃ both : (Int × Int), both = (F_parts_sum (rows + columns)) := ⟨_, rfl⟩
    replace h := h both d3
    refine T.wp_seq (T.wp_set (T.ev_as d3 (e := (eP eZ eZ)) (T.ev_call (T.ev_cons (T.ev_add (x := rows) (y := columns) (T.ev_v rfl) (T.ev_v rfl)) T.ev_nil) rfl (t_parts_sum c2 _))) ?_)
    change WP _ _ _ _ (At _ [some (eN rows), some (eN columns), some ((eP eZ eZ) both)] _)
    obtain ⟨c4, h⟩ := h
    obtain ⟨c5, h⟩ := h
    obtain ⟨c6, h⟩ := h
    obtain ⟨c7, h⟩ := h
    obtain ⟨c8, h⟩ := h
    exact T.wp_ret (T.ev_call (T.ev_cons (T.ev_tup (ds := [eZ (((rows + columns) : Nat) : Int), eZ (1 : Int)]) (T.ev_cons (T.ev_add (x := rows) (y := columns) (T.ev_v rfl) (T.ev_v rfl)) (T.ev_cons (T.ev_c rfl) T.ev_nil)) rfl) (T.ev_cons (T.ev_call (T.ev_cons (T.ev_call (T.ev_cons (T.ev_call (T.ev_cons (T.ev_v rfl) T.ev_nil) rfl (t_parts_sum c4 _)) (T.ev_cons (T.ev_call (T.ev_cons (T.ev_v rfl) T.ev_nil) rfl (t_parts_sum c5 _)) T.ev_nil)) rfl (t_plus c6 _)) (T.ev_cons (T.ev_tup (ds := [eZ (-both.1), eZ both.2]) (T.ev_cons (T.ev_negZ (x := both.1) (T.ev_fst (x := both) (T.ev_v rfl) rfl)) (T.ev_cons (T.ev_snd (x := both) (T.ev_v rfl) rfl) T.ev_nil)) rfl) T.ev_nil)) rfl (t_plus c7 _)) T.ev_nil)) rfl (t_times_ratio c8 _)) ⟨rfl, (F_times_ratio ((((rows + columns) : Nat) : Int), (1 : Int)) (F_plus (F_plus (F_parts_sum rows) (F_parts_sum columns)) ((-both.1), both.2))), rfl, h⟩)
  exact ⟨r, q, e1⟩
abbrev P_mean_past (h w : Nat) : Prop := P_need_board h w
abbrev F_mean_past (h w : Nat) : Int × Int := F_times_ratio (((h + w : Nat) : Int), 1) (F_plus (F_plus (hs h) (hs w)) (-(hs (h + w)).1, (hs (h + w)).2))
theorem ok_mean_past {h w : Nat} (k : P_mean_past h w) : V_mean_past h w (· = F_mean_past h w) := by
  have kk := k
  obtain ⟨⟨a, b⟩, c, d⟩ := k
  have r1 := hs_rat h (by omega)
  have r2 := hs_rat w (by omega)
  have r3 := hs_rat (h + w) (by omega)
  refine ⟨kk, by show h + w ≤ 60; omega, fun both hb => ⟨by show h ≤ 60; omega, by show w ≤ 60; omega, ⟨r1.ok (by omega), r2.ok (by omega)⟩, ?_, ?_, ?_⟩⟩
  · rw [hb]; exact ⟨(r1.plus' r2).ok (by omega), r3.neg.ok (by omega)⟩
  · rw [hb]; exact ⟨nat_ok (by omega), ((r1.plus' r2).plus' r3.neg).ok (by omega)⟩
  · rw [hb]
theorem t_mean_past {rows : Nat} {columns : Nat} (hP : P_mean_past rows columns) (tp : List D) : m_mean_past [eN rows, eN columns] tp = .ok ((eP eZ eZ) (F_mean_past rows columns)) tp := by
  obtain ⟨r, rfl, e⟩ := snd_mean_past rows columns (ok_mean_past hP) tp
  exact e
end W

set_option maxHeartbeats 1000000
namespace W
open PySem L2 G T
def V_law : Prop := (P_law_taken 30) ∧ ∀ drawn : Nat, (D_law_taken 30 drawn) → ∀ drawn_1 : Nat, (D_law_taken 30 drawn_1) → (P_law_taken 120) ∧ ∀ drawn_2 : Nat, (D_law_taken 120 drawn_2) → ∀ high : Nat, high = (1 + drawn) → ∀ wide : Nat, wide = (1 + drawn_1) → ∀ lines : Nat, lines = (high + wide) → (drawn_2 ≤ 1073741824) ∧ ∃ I20 : Nat → Nat → Prop, I20 0 1 ∧ (∀ (i24 : Nat) (x25 : Nat), (List.range drawn_2)[i24]? = some x25 → ∀ power : Nat, I20 i24 power → (cMul ((power : Nat) : Int) ((lines : Nat) : Int) = true) ∧ ∀ power_1 : Nat, power_1 = (power * lines) → I20 (i24 + 1) power_1) ∧ (∀ power : Nat, I20 (List.range drawn_2).length power → (P_law_all_painted lines high drawn_2) ∧ (P_law_all_painted lines wide drawn_2) ∧ (P_law_all_painted lines lines drawn_2) ∧ ∀ rows : Int, rows = (F_law_all_painted lines high drawn_2) → ∀ columns : Int, columns = (F_law_all_painted lines wide drawn_2) → ∀ both : Int, both = (F_law_all_painted lines lines drawn_2) → (P_whole_chance high wide drawn_2) ∧ (P_law_lowered both ((power : Nat) : Int)) ∧ ((F_whole_chance high wide drawn_2) = (F_law_lowered both ((power : Nat) : Int)) ∧ Alk 5 ((eP eZ eZ) (F_whole_chance high wide drawn_2))) ∧ (P_past_chance high wide drawn_2) ∧ (P_law_lowered ((rows + columns) - both) ((power : Nat) : Int)) ∧ ((F_past_chance high wide drawn_2) = (F_law_lowered ((rows + columns) - both) ((power : Nat) : Int)) ∧ Alk 5 ((eP eZ eZ) (F_past_chance high wide drawn_2))) ∧ ∀ sums : (List (Int × Int)), sums = [((0 : Int), (1 : Int))] → (1 ≤ 1073741824 ∧ (lines + 1) ≤ 1073741824) ∧ ∃ I47 : Nat → (List (Int × Int)) → Prop, I47 0 sums ∧ (∀ (i51 : Nat) (x52 : Nat), (List.range' 1 ((lines + 1) - 1))[i51]? = some x52 → ∀ sums_1 : (List (Int × Int)), I47 i51 sums_1 → (sums_1 ≠ []) ∧ (P_law_plus (sums_1[sums_1.length - 1]!) ((1 : Int), ((x52 : Nat) : Int))) ∧ (sums_1.length < 1000000) ∧ ∀ sums_2 : (List (Int × Int)), sums_2 = (sums_1 ++ [(F_law_plus (sums_1[sums_1.length - 1]!) ((1 : Int), ((x52 : Nat) : Int)))]) → I47 (i51 + 1) sums_2) ∧ (∀ sums_1 : (List (Int × Int)), I47 (List.range' 1 ((lines + 1) - 1)).length sums_1 → (high < sums_1.length) ∧ (wide < sums_1.length) ∧ (P_law_plus (sums_1[high]!) (sums_1[wide]!)) ∧ (lines < sums_1.length) ∧ (P_law_plus (F_law_plus (sums_1[high]!) (sums_1[wide]!)) (((0 : Int) - (sums_1[lines]!).1), (sums_1[lines]!).2)) ∧ ∀ due : (Int × Int), due = (F_law_plus (F_law_plus (sums_1[high]!) (sums_1[wide]!)) (((0 : Int) - (sums_1[lines]!).1), (sums_1[lines]!).2)) → (P_mean_past high wide) ∧ (cMul due.1 ((lines : Nat) : Int) = true) ∧ (P_law_lowered (due.1 * ((lines : Nat) : Int)) due.2) ∧ ((F_mean_past high wide) = (F_law_lowered (due.1 * ((lines : Nat) : Int)) due.2) ∧ Alk 5 ((eP eZ eZ) (F_mean_past high wide))) ∧ (P_mean_whole high wide) ∧ (lines < sums_1.length) ∧ (cMul ((sums_1[lines]!).1) ((lines : Nat) : Int) = true) ∧ (P_law_lowered ((sums_1[lines]!).1 * ((lines : Nat) : Int)) ((sums_1[lines]!).2)) ∧ ((F_mean_whole high wide) = (F_law_lowered ((sums_1[lines]!).1 * ((lines : Nat) : Int)) ((sums_1[lines]!).2)) ∧ Alk 5 ((eP eZ eZ) (F_mean_whole high wide))) ∧ (drawn_2 ≤ 1073741824) ∧ ∃ I78 : Nat → Nat → Prop, I78 0 1 ∧ (∀ (i82 : Nat) (x83 : Nat), (List.range drawn_2)[i82]? = some x83 → ∀ kept : Nat, I78 i82 kept → (2 ≤ lines) ∧ (cMul ((kept : Nat) : Int) (((lines - 2) : Nat) : Int) = true) ∧ ∀ kept_1 : Nat, kept_1 = (kept * (lines - 2)) → I78 (i82 + 1) kept_1) ∧ (∀ kept : Nat, I78 (List.range drawn_2).length kept → (P_law_taken 2) ∧ ∀ drawn_3 : Nat, (D_law_taken 2 drawn_3) → (P_plain high wide drawn_3) ∧ ∀ start : (List Row), start = (F_plain high wide drawn_3) → (1 ≤ high) ∧ (P_black_chance start (high - 1) 0 drawn_2) ∧ ∀ share : (Int × Int), share = (F_black_chance start (high - 1) 0 drawn_2) → (0 < start.length) ∧ ((start[0]!).length ≤ 1000000 ∧ 0 < (start[0]!).length) ∧ ∀ black : Nat, black = (if ((start[0]!)[0]! = true) then 1 else 0) → (cMul ((2 : Nat) : Int) ((kept : Nat) : Int) = true) ∧ (cMul (((2 * kept) : Nat) : Int) ((black : Nat) : Int) = true) ∧ (kept ≤ (((2 * kept) * black) + power)) ∧ (cMul ((2 : Nat) : Int) ((power : Nat) : Int) = true) ∧ (P_law_lowered ((((((2 * kept) * black) + power) - kept) : Nat) : Int) (((2 * power) : Nat) : Int)) ∧ (share = (F_law_lowered ((((((2 * kept) * black) + power) - kept) : Nat) : Int) (((2 * power) : Nat) : Int)) ∧ Alk 5 ((eP eZ eZ) share)) ∧ (P_mean_black start drawn_2) ∧ (cMul share.1 ((high : Nat) : Int) = true) ∧ (cMul (share.1 * ((high : Nat) : Int)) ((wide : Nat) : Int) = true) ∧ (P_law_lowered ((share.1 * ((high : Nat) : Int)) * ((wide : Nat) : Int)) share.2) ∧ ((F_mean_black start drawn_2) = (F_law_lowered ((share.1 * ((high : Nat) : Int)) * ((wide : Nat) : Int)) share.2) ∧ Alk 5 ((eP eZ eZ) (F_mean_black start drawn_2))) ∧ True)))
theorem snd_law (h : V_law) (ns : List Int) (hns : ns.length ≤ 63) : ∃ tp', retR (b_law (some (.scr ns) :: some .tape :: List.replicate 16 none) [.scr ns, .int 0, .int 5383, .int 0]) = .ok (.bl true) tp' := by
  have ht := tape0 ns 5383 hns (by decide) (by decide)
  generalize [D.scr ns, D.int 0, D.int 5383, D.int 0] = tp at ht ⊢
  refine T.wp_law ?_
  unfold V_law at h
  change WP _ _ _ _ (b_law [some (.scr ns), some (.tape), none, none, none, none, none, none, none, none, none, none, none, none, none, none, none, none] _)
  unfold b_law
  obtain ⟨c1, h⟩ := h
  obtain ⟨drawn, t2, e3, k4, p5⟩ := t_law_taken ht c1
  replace h := h drawn p5
  obtain ⟨drawn_1, t6, e7, k8, p9⟩ := t_law_taken k4 c1
  replace h := h drawn_1 p9
  obtain ⟨c10, h⟩ := h
  obtain ⟨drawn_2, t11, e12, k13, p14⟩ := t_law_taken k8 c10
  replace h := h drawn_2 p14
  obtain ⟨high, d15⟩ : ∃ high : Nat, high = (1 + drawn) := ⟨_, rfl⟩
  replace h := h high d15
  obtain ⟨wide, d16⟩ : ∃ wide : Nat, wide = (1 + drawn_1) := ⟨_, rfl⟩
  replace h := h wide d16
  refine T.wp_seq (T.wp_par (T.ev_cons (T.ev_as d15 (e := eN) (T.ev_add (x := 1) (y := drawn) (T.ev_cN 1) (T.ev_call (T.ev_cons (T.ev_v rfl) (T.ev_cons (T.ev_cN 30) T.ev_nil)) rfl e3))) (T.ev_cons (T.ev_as d16 (e := eN) (T.ev_add (x := 1) (y := drawn_1) (T.ev_cN 1) (T.ev_call (T.ev_cons (T.ev_v rfl) (T.ev_cons (T.ev_cN 30) T.ev_nil)) rfl e7))) (T.ev_cons (T.ev_call (T.ev_cons (T.ev_v rfl) (T.ev_cons (T.ev_cN 120) T.ev_nil)) rfl e12) T.ev_nil))) rfl ?_)
  change WP _ _ _ _ (At _ [some (.scr ns), some (.tape), some (eN high), some (eN wide), some (eN drawn_2), none, none, none, none, none, none, none, none, none, none, none, none, none] _)
  obtain ⟨lines, d17⟩ : ∃ lines : Nat, lines = (high + wide) := ⟨_, rfl⟩
  replace h := h lines d17
  refine T.wp_seq (T.wp_par (T.ev_cons (T.ev_as d17 (e := eN) (T.ev_add (x := high) (y := wide) (T.ev_v rfl) (T.ev_v rfl))) (T.ev_cons (T.ev_cN 1) T.ev_nil)) rfl ?_)
  change WP _ _ _ _ (At _ [some (.scr ns), some (.tape), some (eN high), some (eN wide), some (eN drawn_2), some (eN lines), some (eN 1), none, none, none, none, none, none, none, none, none, none, none] _)
  obtain ⟨c18, h⟩ := h
  obtain ⟨I20, h21, h22, h23⟩ := h
  refine T.wp_seq (T.wp_for (e := eN) (xs := (List.range drawn_2)) (ds := fun x25 => [eN x25]) (fun k env tz => Tape tz ∧ ∃ power : Nat, ∃ g19 : Option D, env = [some (.scr ns), some (.tape), some (eN high), some (eN wide), some (eN drawn_2), some (eN lines), some (eN power), g19, none, none, none, none, none, none, none, none, none, none] ∧ I20 k power) (T.it_range (n := drawn_2) c18 (T.ev_v rfl)) (fun _ => rfl) ⟨k13, 1, _, rfl, h21⟩ ?_ ?_)
  · intro i24 x25 env t hk hI
    obtain ⟨k27, power, g19, rfl, h⟩ := hI
    replace h := h22 i24 x25 hk power h
    change WP _ _ _ _ (At _ [some (.scr ns), some (.tape), some (eN high), some (eN wide), some (eN drawn_2), some (eN lines), some (eN power), some (eN x25), none, none, none, none, none, none, none, none, none, none] _)
    obtain ⟨c28, h⟩ := h
    obtain ⟨power_1, d29⟩ : ∃ power_1 : Nat, power_1 = (power * lines) := ⟨_, rfl⟩
    replace h := h power_1 d29
    refine T.wp_set (T.ev_as d29 (e := eN) (T.ev_mul (x := power) (y := lines) c28 (T.ev_v rfl) (T.ev_v rfl))) ?_
    exact ⟨k27, power_1, _, rfl, h⟩
  rintro _ t30 ⟨k31, power, g19, rfl, h⟩
  replace h := h23 power h
  change WP _ _ _ _ (At _ [some (.scr ns), some (.tape), some (eN high), some (eN wide), some (eN drawn_2), some (eN lines), some (eN power), g19, none, none, none, none, none, none, none, none, none, none] _)
  obtain ⟨c32, h⟩ := h
  obtain ⟨c33, h⟩ := h
  obtain ⟨c34, h⟩ := h
  obtain ⟨rows, d35⟩ : ∃ rows : Int, rows = (F_law_all_painted lines high drawn_2) := ⟨_, rfl⟩
  replace h := h rows d35
  obtain ⟨columns, d36⟩ : ∃ columns : Int, columns = (F_law_all_painted lines wide drawn_2) := ⟨_, rfl⟩
  replace h := h columns d36
  obtain ⟨both, d37⟩ : ∃ both : Int, both = (F_law_all_painted lines lines drawn_2) := ⟨_, rfl⟩
  replace h := h both d37
  refine T.wp_seq (T.wp_par (T.ev_cons (T.ev_as d35 (e := eZ) (T.ev_call (T.ev_cons (T.ev_v rfl) (T.ev_cons (T.ev_v rfl) (T.ev_cons (T.ev_v rfl) T.ev_nil))) rfl (t_law_all_painted c32 _))) (T.ev_cons (T.ev_as d36 (e := eZ) (T.ev_call (T.ev_cons (T.ev_v rfl) (T.ev_cons (T.ev_v rfl) (T.ev_cons (T.ev_v rfl) T.ev_nil))) rfl (t_law_all_painted c33 _))) (T.ev_cons (T.ev_as d37 (e := eZ) (T.ev_call (T.ev_cons (T.ev_v rfl) (T.ev_cons (T.ev_v rfl) (T.ev_cons (T.ev_v rfl) T.ev_nil))) rfl (t_law_all_painted c34 _))) T.ev_nil))) rfl ?_)
  change WP _ _ _ _ (At _ [some (.scr ns), some (.tape), some (eN high), some (eN wide), some (eN drawn_2), some (eN lines), some (eN power), g19, some (eZ rows), some (eZ columns), some (eZ both), none, none, none, none, none, none, none] _)
  obtain ⟨c38, h⟩ := h
  obtain ⟨c39, h⟩ := h
  obtain ⟨c40, h⟩ := h
  refine T.wp_seq (T.wp_if (P := (¬True)) (T.ev_notT (P := True) (T.ev_bool (ev_alike (e := (eP eZ eZ)) (a := (F_whole_chance high wide drawn_2)) (b := (F_law_lowered both ((power : Nat) : Int))) c40 (T.ev_call (T.ev_cons (T.ev_v rfl) (T.ev_cons (T.ev_v rfl) (T.ev_cons (T.ev_v rfl) T.ev_nil))) rfl (t_whole_chance c38 _)) (T.ev_call (T.ev_cons (T.ev_v rfl) (T.ev_cons (T.ev_v rfl) T.ev_nil)) rfl (t_law_lowered c39 _))))) (fun hp => ?_) (fun hn => ?_))
  · exact absurd hp ((fun h0 => h0 (trivial)))
  · refine T.wp_skip ?_
    change WP _ _ _ _ (At _ [some (.scr ns), some (.tape), some (eN high), some (eN wide), some (eN drawn_2), some (eN lines), some (eN power), g19, some (eZ rows), some (eZ columns), some (eZ both), none, none, none, none, none, none, none] _)
    obtain ⟨c41, h⟩ := h
    obtain ⟨c42, h⟩ := h
    obtain ⟨c43, h⟩ := h
    refine T.wp_seq (T.wp_if (P := (¬True)) (T.ev_notT (P := True) (T.ev_bool (ev_alike (e := (eP eZ eZ)) (a := (F_past_chance high wide drawn_2)) (b := (F_law_lowered ((rows + columns) - both) ((power : Nat) : Int))) c43 (T.ev_call (T.ev_cons (T.ev_v rfl) (T.ev_cons (T.ev_v rfl) (T.ev_cons (T.ev_v rfl) T.ev_nil))) rfl (t_past_chance c41 _)) (T.ev_call (T.ev_cons (T.ev_subZ (x := (rows + columns)) (y := both) (T.ev_addZ (x := rows) (y := columns) (T.ev_v rfl) (T.ev_v rfl)) (T.ev_v rfl)) (T.ev_cons (T.ev_v rfl) T.ev_nil)) rfl (t_law_lowered c42 _))))) (fun hp => ?_) (fun hn => ?_))
    · exact absurd hp ((fun h0 => h0 (trivial)))
    · refine T.wp_skip ?_
      change WP _ _ _ _ (At _ [some (.scr ns), some (.tape), some (eN high), some (eN wide), some (eN drawn_2), some (eN lines), some (eN power), g19, some (eZ rows), some (eZ columns), some (eZ both), none, none, none, none, none, none, none] _)
      obtain ⟨sums, d44⟩ : ∃ sums : (List (Int × Int)), sums = [((0 : Int), (1 : Int))] := ⟨_, rfl⟩
      replace h := h sums d44
      refine T.wp_seq (T.wp_setF (T.ev_as d44 (e := (eL (eP eZ eZ))) (T.ev_lst (ds := [(eP eZ eZ) ((0 : Int), (1 : Int))]) (T.ev_cons (T.ev_tup (ds := [eZ (0 : Int), eZ (1 : Int)]) (T.ev_cons (T.ev_c rfl) (T.ev_cons (T.ev_c rfl) T.ev_nil)) rfl) T.ev_nil) rfl)) rfl ?_)
      change WP _ _ _ _ (At _ [some (.scr ns), some (.tape), some (eN high), some (eN wide), some (eN drawn_2), some (eN lines), some (eN power), g19, some (eZ rows), some (eZ columns), some (eZ both), some ((eL (eP eZ eZ)) sums), none, none, none, none, none, none] _)
      obtain ⟨c45, h⟩ := h
      obtain ⟨I47, h48, h49, h50⟩ := h
      refine T.wp_seq (T.wp_for (e := eN) (xs := (List.range' 1 ((lines + 1) - 1))) (ds := fun x52 => [eN x52]) (fun k env tz => Tape tz ∧ ∃ sums_1 : (List (Int × Int)), ∃ g46 : Option D, env = [some (.scr ns), some (.tape), some (eN high), some (eN wide), some (eN drawn_2), some (eN lines), some (eN power), g19, some (eZ rows), some (eZ columns), some (eZ both), some ((eL (eP eZ eZ)) sums_1), g46, none, none, none, none, none] ∧ I47 k sums_1) (T.it_range2 (a := 1) (n := (lines + 1)) c45 (T.ev_cN 1) (T.ev_add (x := lines) (y := 1) (T.ev_v rfl) (T.ev_cN 1))) (fun _ => rfl) ⟨k31, sums, _, rfl, h48⟩ ?_ ?_)
      · intro i51 x52 env t hk hI
        obtain ⟨k54, sums_1, g46, rfl, h⟩ := hI
        replace h := h49 i51 x52 hk sums_1 h
        change WP _ _ _ _ (At _ [some (.scr ns), some (.tape), some (eN high), some (eN wide), some (eN drawn_2), some (eN lines), some (eN power), g19, some (eZ rows), some (eZ columns), some (eZ both), some ((eL (eP eZ eZ)) sums_1), some (eN x52), none, none, none, none, none] _)
        obtain ⟨c55, h⟩ := h
        obtain ⟨c56, h⟩ := h
        obtain ⟨c57, h⟩ := h
        obtain ⟨sums_2, d58⟩ : ∃ sums_2 : (List (Int × Int)), sums_2 = (sums_1 ++ [(F_law_plus (sums_1[sums_1.length - 1]!) ((1 : Int), ((x52 : Nat) : Int)))]) := ⟨_, rfl⟩
        replace h := h sums_2 d58
        refine T.wp_app (e := (eP eZ eZ)) (xs := sums_1) (x := (F_law_plus (sums_1[sums_1.length - 1]!) ((1 : Int), ((x52 : Nat) : Int)))) rfl (T.ev_call (T.ev_cons (T.ev_lastL (e := (eP eZ eZ)) (xs := sums_1) c55 (T.ev_v rfl) (T.ev_negZ (x := 1) (T.ev_c rfl))) (T.ev_cons (T.ev_tup (ds := [eZ (1 : Int), eZ ((x52 : Nat) : Int)]) (T.ev_cons (T.ev_c rfl) (T.ev_cons (T.ev_v rfl) T.ev_nil)) rfl) T.ev_nil)) rfl (t_law_plus c56 _)) c57 ?_
        rw [← d58]
        exact ⟨k54, sums_2, _, rfl, h⟩
      rintro _ t59 ⟨k60, sums_1, g46, rfl, h⟩
      replace h := h50 sums_1 h
      change WP _ _ _ _ (At _ [some (.scr ns), some (.tape), some (eN high), some (eN wide), some (eN drawn_2), some (eN lines), some (eN power), g19, some (eZ rows), some (eZ columns), some (eZ both), some ((eL (eP eZ eZ)) sums_1), g46, none, none, none, none, none] _)
      obtain ⟨c61, h⟩ := h
      obtain ⟨c62, h⟩ := h
      obtain ⟨c63, h⟩ := h
      obtain ⟨c64, h⟩ := h
      obtain ⟨c65, h⟩ := h
      obtain ⟨due, d66⟩ : ∃ due : (Int × Int), due = (F_law_plus (F_law_plus (sums_1[high]!) (sums_1[wide]!)) (((0 : Int) - (sums_1[lines]!).1), (sums_1[lines]!).2)) := ⟨_, rfl⟩
      replace h := h due d66
      refine T.wp_seq (T.wp_set (T.ev_as d66 (e := (eP eZ eZ)) (T.ev_call (T.ev_cons (T.ev_call (T.ev_cons (T.ev_ixL (e := (eP eZ eZ)) (xs := sums_1) (i := high) c61 (T.ev_v rfl) (T.ev_v rfl)) (T.ev_cons (T.ev_ixL (e := (eP eZ eZ)) (xs := sums_1) (i := wide) c62 (T.ev_v rfl) (T.ev_v rfl)) T.ev_nil)) rfl (t_law_plus c63 _)) (T.ev_cons (T.ev_tup (ds := [eZ ((0 : Int) - (sums_1[lines]!).1), eZ ((sums_1[lines]!).2)]) (T.ev_cons (T.ev_subZ (x := (0 : Int)) (y := (sums_1[lines]!).1) (T.ev_c rfl) (T.ev_fst (x := sums_1[lines]!) (T.ev_ixL (e := (eP eZ eZ)) (xs := sums_1) (i := lines) c64 (T.ev_v rfl) (T.ev_v rfl)) rfl)) (T.ev_cons (T.ev_snd (x := sums_1[lines]!) (T.ev_ixL (e := (eP eZ eZ)) (xs := sums_1) (i := lines) c64 (T.ev_v rfl) (T.ev_v rfl)) rfl) T.ev_nil)) rfl) T.ev_nil)) rfl (t_law_plus c65 _))) ?_)
      change WP _ _ _ _ (At _ [some (.scr ns), some (.tape), some (eN high), some (eN wide), some (eN drawn_2), some (eN lines), some (eN power), g19, some (eZ rows), some (eZ columns), some (eZ both), some ((eL (eP eZ eZ)) sums_1), g46, some ((eP eZ eZ) due), none, none, none, none] _)
      obtain ⟨c67, h⟩ := h
      obtain ⟨c68, h⟩ := h
      obtain ⟨c69, h⟩ := h
      obtain ⟨c70, h⟩ := h
      refine T.wp_seq (T.wp_if (P := (¬True)) (T.ev_notT (P := True) (T.ev_bool (ev_alike (e := (eP eZ eZ)) (a := (F_mean_past high wide)) (b := (F_law_lowered (due.1 * ((lines : Nat) : Int)) due.2)) c70 (T.ev_call (T.ev_cons (T.ev_v rfl) (T.ev_cons (T.ev_v rfl) T.ev_nil)) rfl (t_mean_past c67 _)) (T.ev_call (T.ev_cons (T.ev_mulZ (x := due.1) (y := ((lines : Nat) : Int)) c68 (T.ev_fst (x := due) (T.ev_v rfl) rfl) (T.ev_v rfl)) (T.ev_cons (T.ev_snd (x := due) (T.ev_v rfl) rfl) T.ev_nil)) rfl (t_law_lowered c69 _))))) (fun hp => ?_) (fun hn => ?_))
      · exact absurd hp ((fun h0 => h0 (trivial)))
      · refine T.wp_skip ?_
        change WP _ _ _ _ (At _ [some (.scr ns), some (.tape), some (eN high), some (eN wide), some (eN drawn_2), some (eN lines), some (eN power), g19, some (eZ rows), some (eZ columns), some (eZ both), some ((eL (eP eZ eZ)) sums_1), g46, some ((eP eZ eZ) due), none, none, none, none] _)
        obtain ⟨c71, h⟩ := h
        obtain ⟨c72, h⟩ := h
        obtain ⟨c73, h⟩ := h
        obtain ⟨c74, h⟩ := h
        obtain ⟨c75, h⟩ := h
        refine T.wp_seq (T.wp_if (P := (¬True)) (T.ev_notT (P := True) (T.ev_bool (ev_alike (e := (eP eZ eZ)) (a := (F_mean_whole high wide)) (b := (F_law_lowered ((sums_1[lines]!).1 * ((lines : Nat) : Int)) ((sums_1[lines]!).2))) c75 (T.ev_call (T.ev_cons (T.ev_v rfl) (T.ev_cons (T.ev_v rfl) T.ev_nil)) rfl (t_mean_whole c71 _)) (T.ev_call (T.ev_cons (T.ev_mulZ (x := (sums_1[lines]!).1) (y := ((lines : Nat) : Int)) c73 (T.ev_fst (x := sums_1[lines]!) (T.ev_ixL (e := (eP eZ eZ)) (xs := sums_1) (i := lines) c72 (T.ev_v rfl) (T.ev_v rfl)) rfl) (T.ev_v rfl)) (T.ev_cons (T.ev_snd (x := sums_1[lines]!) (T.ev_ixL (e := (eP eZ eZ)) (xs := sums_1) (i := lines) c72 (T.ev_v rfl) (T.ev_v rfl)) rfl) T.ev_nil)) rfl (t_law_lowered c74 _))))) (fun hp => ?_) (fun hn => ?_))
        · exact absurd hp ((fun h0 => h0 (trivial)))
        · refine T.wp_skip ?_
          change WP _ _ _ _ (At _ [some (.scr ns), some (.tape), some (eN high), some (eN wide), some (eN drawn_2), some (eN lines), some (eN power), g19, some (eZ rows), some (eZ columns), some (eZ both), some ((eL (eP eZ eZ)) sums_1), g46, some ((eP eZ eZ) due), none, none, none, none] _)
          refine T.wp_seq (T.wp_set (T.ev_cN 1) ?_)
          change WP _ _ _ _ (At _ [some (.scr ns), some (.tape), some (eN high), some (eN wide), some (eN drawn_2), some (eN lines), some (eN power), g19, some (eZ rows), some (eZ columns), some (eZ both), some ((eL (eP eZ eZ)) sums_1), g46, some ((eP eZ eZ) due), some (eN 1), none, none, none] _)
          obtain ⟨c76, h⟩ := h
          obtain ⟨I78, h79, h80, h81⟩ := h
          refine T.wp_seq (T.wp_for (e := eN) (xs := (List.range drawn_2)) (ds := fun x83 => [eN x83]) (fun k env tz => Tape tz ∧ ∃ kept : Nat, ∃ g77 : Option D, env = [some (.scr ns), some (.tape), some (eN high), some (eN wide), some (eN drawn_2), some (eN lines), some (eN power), g77, some (eZ rows), some (eZ columns), some (eZ both), some ((eL (eP eZ eZ)) sums_1), g46, some ((eP eZ eZ) due), some (eN kept), none, none, none] ∧ I78 k kept) (T.it_range (n := drawn_2) c76 (T.ev_v rfl)) (fun _ => rfl) ⟨k60, 1, _, rfl, h79⟩ ?_ ?_)
          · intro i82 x83 env t hk hI
            obtain ⟨k85, kept, g77, rfl, h⟩ := hI
            replace h := h80 i82 x83 hk kept h
            change WP _ _ _ _ (At _ [some (.scr ns), some (.tape), some (eN high), some (eN wide), some (eN drawn_2), some (eN lines), some (eN power), some (eN x83), some (eZ rows), some (eZ columns), some (eZ both), some ((eL (eP eZ eZ)) sums_1), g46, some ((eP eZ eZ) due), some (eN kept), none, none, none] _)
            obtain ⟨c86, h⟩ := h
            obtain ⟨c87, h⟩ := h
            obtain ⟨kept_1, d88⟩ : ∃ kept_1 : Nat, kept_1 = (kept * (lines - 2)) := ⟨_, rfl⟩
            replace h := h kept_1 d88
            refine T.wp_set (T.ev_as d88 (e := eN) (T.ev_mul (x := kept) (y := (lines - 2)) c87 (T.ev_v rfl) (T.ev_sub (x := lines) (y := 2) c86 (T.ev_v rfl) (T.ev_cN 2)))) ?_
            exact ⟨k85, kept_1, _, rfl, h⟩
          rintro _ t89 ⟨k90, kept, g77, rfl, h⟩
          replace h := h81 kept h
          change WP _ _ _ _ (At _ [some (.scr ns), some (.tape), some (eN high), some (eN wide), some (eN drawn_2), some (eN lines), some (eN power), g77, some (eZ rows), some (eZ columns), some (eZ both), some ((eL (eP eZ eZ)) sums_1), g46, some ((eP eZ eZ) due), some (eN kept), none, none, none] _)
          obtain ⟨c91, h⟩ := h
          obtain ⟨drawn_3, t92, e93, k94, p95⟩ := t_law_taken k90 c91
          replace h := h drawn_3 p95
          obtain ⟨c96, h⟩ := h
          obtain ⟨start, d97⟩ : ∃ start : (List Row), start = (F_plain high wide drawn_3) := ⟨_, rfl⟩
          replace h := h start d97
          refine T.wp_seq (T.wp_set (T.ev_as d97 (e := (eT eR)) (T.ev_call (T.ev_cons (T.ev_v rfl) (T.ev_cons (T.ev_v rfl) (T.ev_cons (T.ev_call (T.ev_cons (T.ev_v rfl) (T.ev_cons (T.ev_cN 2) T.ev_nil)) rfl e93) T.ev_nil))) rfl (t_plain c96 _))) ?_)
          change WP _ _ _ _ (At _ [some (.scr ns), some (.tape), some (eN high), some (eN wide), some (eN drawn_2), some (eN lines), some (eN power), g77, some (eZ rows), some (eZ columns), some (eZ both), some ((eL (eP eZ eZ)) sums_1), g46, some ((eP eZ eZ) due), some (eN kept), some ((eT eR) start), none, none] _)
          obtain ⟨c98, h⟩ := h
          obtain ⟨c99, h⟩ := h
          obtain ⟨share, d100⟩ : ∃ share : (Int × Int), share = (F_black_chance start (high - 1) 0 drawn_2) := ⟨_, rfl⟩
          replace h := h share d100
          refine T.wp_seq (T.wp_set (T.ev_as d100 (e := (eP eZ eZ)) (T.ev_call (T.ev_cons (T.ev_v rfl) (T.ev_cons (T.ev_sub (x := high) (y := 1) c98 (T.ev_v rfl) (T.ev_cN 1)) (T.ev_cons (T.ev_cN 0) (T.ev_cons (T.ev_v rfl) T.ev_nil)))) rfl (t_black_chance c99 _))) ?_)
          change WP _ _ _ _ (At _ [some (.scr ns), some (.tape), some (eN high), some (eN wide), some (eN drawn_2), some (eN lines), some (eN power), g77, some (eZ rows), some (eZ columns), some (eZ both), some ((eL (eP eZ eZ)) sums_1), g46, some ((eP eZ eZ) due), some (eN kept), some ((eT eR) start), some ((eP eZ eZ) share), none] _)
          obtain ⟨c101, h⟩ := h
          obtain ⟨c102, h⟩ := h
          obtain ⟨black, d103⟩ : ∃ black : Nat, black = (if ((start[0]!)[0]! = true) then 1 else 0) := ⟨_, rfl⟩
          replace h := h black d103
          refine T.wp_seq (T.wp_set (T.ev_as d103 (e := eN) (T.ev_ifE (P := ((start[0]!)[0]! = true)) (e := eN) (x := 1) (y := 0) (T.ev_bool (T.ev_eq (x := (start[0]!)[0]!) (y := true) qG rfl (T.ev_ixR (r := start[0]!) (i := 0) c102 (T.ev_ixT (e := eR) (xs := start) (i := 0) c101 (T.ev_v rfl) (T.ev_cN 0)) (T.ev_cN 0)) (T.ev_c (congrArg D.str str_black)))) (fun hp => (T.ev_cN 1)) (fun hp => (T.ev_cN 0)))) ?_)
          change WP _ _ _ _ (At _ [some (.scr ns), some (.tape), some (eN high), some (eN wide), some (eN drawn_2), some (eN lines), some (eN power), g77, some (eZ rows), some (eZ columns), some (eZ both), some ((eL (eP eZ eZ)) sums_1), g46, some ((eP eZ eZ) due), some (eN kept), some ((eT eR) start), some ((eP eZ eZ) share), some (eN black)] _)
          obtain ⟨c104, h⟩ := h
          obtain ⟨c105, h⟩ := h
          obtain ⟨c106, h⟩ := h
          obtain ⟨c107, h⟩ := h
          obtain ⟨c108, h⟩ := h
          obtain ⟨c109, h⟩ := h
          refine T.wp_seq (T.wp_if (P := (¬True)) (T.ev_notT (P := True) (T.ev_bool (ev_alike (e := (eP eZ eZ)) (a := share) (b := (F_law_lowered ((((((2 * kept) * black) + power) - kept) : Nat) : Int) (((2 * power) : Nat) : Int))) c109 (T.ev_v rfl) (T.ev_call (T.ev_cons (T.ev_sub (x := (((2 * kept) * black) + power)) (y := kept) c106 (T.ev_add (x := ((2 * kept) * black)) (y := power) (T.ev_mul (x := (2 * kept)) (y := black) c105 (T.ev_mul (x := 2) (y := kept) c104 (T.ev_cN 2) (T.ev_v rfl)) (T.ev_v rfl)) (T.ev_v rfl)) (T.ev_v rfl)) (T.ev_cons (T.ev_mul (x := 2) (y := power) c107 (T.ev_cN 2) (T.ev_v rfl)) T.ev_nil)) rfl (t_law_lowered c108 _))))) (fun hp => ?_) (fun hn => ?_))
          · exact absurd hp ((fun h0 => h0 (trivial)))
          · refine T.wp_skip ?_
            change WP _ _ _ _ (At _ [some (.scr ns), some (.tape), some (eN high), some (eN wide), some (eN drawn_2), some (eN lines), some (eN power), g77, some (eZ rows), some (eZ columns), some (eZ both), some ((eL (eP eZ eZ)) sums_1), g46, some ((eP eZ eZ) due), some (eN kept), some ((eT eR) start), some ((eP eZ eZ) share), some (eN black)] _)
            obtain ⟨c110, h⟩ := h
            obtain ⟨c111, h⟩ := h
            obtain ⟨c112, h⟩ := h
            obtain ⟨c113, h⟩ := h
            obtain ⟨c114, h⟩ := h
            exact T.wp_ret (d := .bl true) (((ev_alike (e := (eP eZ eZ)) (a := (F_mean_black start drawn_2)) (b := (F_law_lowered ((share.1 * ((high : Nat) : Int)) * ((wide : Nat) : Int)) share.2)) c114 (T.ev_call (T.ev_cons (T.ev_v rfl) (T.ev_cons (T.ev_v rfl) T.ev_nil)) rfl (t_mean_black c110 _)) (T.ev_call (T.ev_cons (T.ev_mulZ (x := (share.1 * ((high : Nat) : Int))) (y := ((wide : Nat) : Int)) c112 (T.ev_mulZ (x := share.1) (y := ((high : Nat) : Int)) c111 (T.ev_fst (x := share) (T.ev_v rfl) rfl) (T.ev_v rfl)) (T.ev_v rfl)) (T.ev_cons (T.ev_snd (x := share) (T.ev_v rfl) rfl) T.ev_nil)) rfl (t_law_lowered c113 _)))).trans (T.ev_tt (P := True) (trivial))) rfl
end W

set_option maxHeartbeats 1000000
namespace W
open PySem L2 G T
theorem ok_law : V_law := by
  refine ⟨⟨by omega, by omega⟩, fun d1 h1 d2 h2 => ⟨⟨by omega, by omega⟩, fun t ht h hh w hw n hn => ?_⟩⟩
  have h1 : d1 < 30 := h1
  have h2 : d2 < 30 := h2
  have ht : t < 120 := ht
  have bd : P_need_board h w := ⟨⟨by omega, by omega⟩, by omega, by omega⟩
  refine ⟨by omega, fun i p => p = n ^ i, rfl, fun i x hx p hp => ⟨?_, fun q hq => ?_⟩, fun A hA => ?_⟩
  · have hi : i < t := by have := (List.getElem?_eq_some_iff.mp hx).1; rwa [List.length_range] at this
    subst hp
    exact cMul_nat (pow_lt' (by omega) (by omega)) (show n < 2 ^ 7 by omega) (by omega) (by omega) (by omega)
  · subst hp hq; rw [Nat.pow_succ]
  rw [List.length_range] at hA
  have hA : A = n ^ t := hA
  have A0 : 0 < A := by rw [hA]; exact Nat.pow_pos (by omega)
  have Al : A < 2 ^ 1300 := by rw [hA]; exact pow_lt' (by omega) (by omega)
  have lA : Lg ((A : Nat) : Int) 1300 := Lg.nat Al
  have k1 : P_all_chance n h t := ⟨by omega, by omega, by omega, by omega⟩
  have k2 : P_all_chance n w t := ⟨by omega, by omega, by omega, by omega⟩
  have k3 : P_all_chance n n t := ⟨by omega, by omega, by omega, by omega⟩
  refine ⟨⟨by omega, by omega, by omega⟩, ⟨by omega, by omega, by omega⟩, ⟨by omega, by omega, by omega⟩, fun ro hro co hco bo hbo => ?_⟩
  have er : ro = alt t h (n - h) := by rw [hro, alt_cnt]
  have ec : co = alt t w (n - w) := by rw [hco, alt_cnt]
  have eb : bo = alt t n (n - n) := by rw [hbo, alt_cnt]
  have alkZZ : ∀ x : Int × Int, Alk 5 ((eP eZ eZ) x) := fun x => alkP (alkZ _ _) (alkZ _ _)
  have r1 := all_rat k1
  have r2 := all_rat k2
  have r3 := all_rat k3
  have e1 : F_whole_chance h w t = F_law_lowered bo ((A : Nat) : Int) := by
    show low (alt t (h + w) (h + w - (h + w))) (((h + w) ^ t : Nat) : Int) = low bo ((A : Nat) : Int)
    rw [← hn, eb, hA]
  have lr : Lg ro 1300 := by rw [er]; exact r1.l1
  have lc : Lg co 1300 := by rw [ec]; exact r2.l1
  have lb : Lg bo 1300 := by rw [eb]; exact r3.l1
  have ls : Lg (ro + co - bo) 1302 := by
    rw [Int.sub_eq_add_neg]
    exact (lr.add lc).add (lb.neg.mono (by omega))
  have e2 : F_past_chance h w t = F_law_lowered (ro + co - bo) ((A : Nat) : Int) := by
    have p := (r1.plus' r2).plus' r3.neg
    show F_plus (F_plus (F_all_chance (h + w) h t) (F_all_chance (h + w) w t)) (-(F_all_chance (h + w) (h + w) t).1, (F_all_chance (h + w) (h + w) t).2) = low (ro + co - bo) ((A : Nat) : Int)
    rw [← hn]
    refine p.e.trans (low_eq p.p (by omega) ?_)
    rw [er, ec, eb, hA]
    generalize alt t h (n - h) = a
    generalize alt t w (n - w) = b
    generalize alt t n (n - n) = c
    generalize ((n ^ t : Nat) : Int) = z
    rw [Int.neg_mul, ← Int.sub_eq_add_neg, ← Int.add_mul, Int.mul_assoc (a + b), ← Int.sub_mul]
    ac_rfl
  refine ⟨⟨bd, by omega⟩, ⟨lb.mono (by omega), lA.mono (by omega), by omega⟩, ⟨e1, alkZZ _⟩, ⟨bd, by omega⟩, ⟨ls.mono (by omega), lA.mono (by omega), by omega⟩, ⟨e2, alkZZ _⟩, fun sums hs0 => ⟨⟨by omega, by omega⟩, fun i s => s = (List.range (i + 1)).map hs, hs0, fun i x hx s hI => ?_, fun s hI => ?_⟩⟩
  · have hi := (List.getElem?_eq_some_iff.mp hx).1
    rw [List.length_range'] at hi
    rw [List.getElem?_range' (by omega)] at hx
    have ex : x = i + 1 := by have := Option.some.inj hx; omega
    subst ex
    have sl : s.length = i + 1 := by rw [hI]; simp
    have sv : s[s.length - 1]! = hs i := by
      rw [sl, hI, getElem!_pos _ _ (by simp)]
      simp
    refine ⟨by intro q; rw [q] at sl; simp at sl, ?_, by omega, fun s2 h2 => ?_⟩
    · rw [sv]; exact ⟨(hs_rat i (by omega)).ok (by omega), (rat_one (i + 1) (by omega) (by omega)).ok (by omega)⟩
    · show s2 = (List.range (i + 1 + 1)).map hs
      rw [h2, sv, hI, List.range_succ (n := i + 1), List.map_append]; rfl
  have sv : ∀ i, i ≤ n → s[i]! = hs i := fun i hi => by
    rw [hI, List.length_range', getElem!_pos _ _ (by simp; omega)]
    simp
  have sl : s.length = n + 1 := by rw [hI, List.length_range']; simp
  have q1 := hs_rat h (by omega)
  have q2 := hs_rat w (by omega)
  have q3 := hs_rat n (by omega)
  rw [sv h (by omega), sv w (by omega), sv n (by omega)]
  refine ⟨by omega, by omega, ⟨q1.ok (by omega), q2.ok (by omega)⟩, by omega, ?_⟩
  rw [Int.zero_sub]
  refine ⟨⟨(q1.plus' q2).ok (by omega), q3.neg.ok (by omega)⟩, fun due hd => ?_⟩
  have qd := (q1.plus' q2).plus' q3.neg
  have ld : Lg due.1 4000 ∧ Lg due.2 4000 ∧ 0 < due.2 := by rw [hd]; exact qd.ok (by omega)
  have ln : Lg ((n : Nat) : Int) 7 := Lg.nat (by omega)
  have ed : F_mean_past h w = F_law_lowered (due.1 * ((n : Nat) : Int)) due.2 := by
    show low (((h + w : Nat) : Int) * _) (1 * _) = low _ _
    rw [← hn, hd, Int.one_mul, Int.mul_comm]
  have ew : F_mean_whole h w = F_law_lowered ((hs n).1 * ((n : Nat) : Int)) (hs n).2 := by
    show low (((h + w : Nat) : Int) * (hs (h + w)).1) (1 * (hs (h + w)).2) = low _ _
    rw [← hn, Int.one_mul, Int.mul_comm]
  have lh := q3.ok (n := 400) (by omega)
  refine ⟨bd, cMul_lg ld.1 ln (by omega) (by omega) (by omega), ⟨(ld.1.mul ln).mono (by omega), ld.2.1.mono (by omega), ld.2.2⟩, ⟨ed, alkZZ _⟩, bd, by omega, cMul_lg lh.1 ln (by omega) (by omega) (by omega), ⟨(lh.1.mul ln).mono (by omega), lh.2.1.mono (by omega), lh.2.2⟩, ⟨ew, alkZZ _⟩, by omega, fun i p => p = (n - 2) ^ i, rfl, fun i x hx p hp => ⟨by omega, ?_, fun q hq => ?_⟩, fun B hB => ?_⟩
  · have hi : i < t := by have := (List.getElem?_eq_some_iff.mp hx).1; rwa [List.length_range] at this
    subst hp
    exact cMul_nat (pow_lt' (by omega) (by omega)) (show n - 2 < 2 ^ 7 by omega) (by omega) (by omega) (by omega)
  · subst hp hq; rw [Nat.pow_succ]
  rw [List.length_range] at hB
  have hB : B = (n - 2) ^ t := hB
  have Bl : B ≤ A := by rw [hA, hB]; exact pow_2n
  refine ⟨⟨by omega, by omega⟩, fun d3 h3 => ?_⟩
  have h3 : d3 < 2 := h3
  refine ⟨⟨⟨by omega, by omega⟩, ⟨by omega, by omega⟩, by omega⟩, fun st hst => ?_⟩
  have hst : st = plainQ h w (decide (d3 = 1)) := hst
  have stl : st.length = h := by rw [hst]; exact List.length_replicate
  have st0 : ∀ i, i < h → st[i]! = List.replicate w (decide (d3 = 1)) := fun i hi => by
    rw [hst]; unfold plainQ
    rw [getElem!_pos _ i (by rw [List.length_replicate]; exact hi), List.getElem_replicate]
  have stw : st[0]!.length = w := by rw [st0 0 (by omega)]; exact List.length_replicate
  have sc : ∀ i j, i < h → j < w → (st[i]!)[j]! = decide (d3 = 1) := fun i j hi hj => by
    rw [st0 i hi, getElem!_pos _ j (by rw [List.length_replicate]; exact hj), List.getElem_replicate]
  have kp : PicP st := ⟨fun r hr => by
      rw [stw]; rw [hst] at hr; rw [List.eq_of_mem_replicate hr]; exact List.length_replicate, by omega, by omega, by omega, by omega⟩
  refine ⟨by omega, ⟨kp, by omega, by omega, by omega⟩, fun sh hsh => ⟨by omega, ⟨by omega, by omega⟩, fun b hb => ?_⟩⟩
  have eb0 : b = (if (st[h - 1]!)[0]! = true then 1 else 0) := by rw [hb, sc 0 0 (by omega) (by omega), sc (h - 1) 0 (by omega) (by omega)]
  have b1 : b ≤ 1 := by rw [hb]; split <;> omega
  have es : sh = low ((2 * b * B + 1 * (A - B) : Nat) : Int) ((2 * A : Nat) : Int) := by
    rw [hsh]
    show bcQ _ _ _ = _
    rw [← eb0, stl, stw, ← hn]
    unfold bcQ
    rw [← hA, ← hB]
    congr 2
    omega
  have lg := bc_lg (n := n) (t := t) (b := b) (c := 1) (by omega) (by omega) (by omega) b1 (by omega)
  rw [← hA, ← hB] at lg
  have rs : Rat' sh ((2 * b * B + 1 * (A - B) : Nat) : Int) ((2 * A : Nat) : Int) 1320 := ⟨es, lg.2.2, lg.1, lg.2.1⟩
  have e0 : 2 * B * b + A - B = 2 * b * B + 1 * (A - B) := by
    have : 2 * B * b = 2 * b * B := by ac_rfl
    omega
  have lh2 : Lg ((h : Nat) : Int) 7 := Lg.nat (by omega)
  have lw2 : Lg ((w : Nat) : Int) 7 := Lg.nat (by omega)
  have so := rs.ok (by omega)
  refine ⟨cMul_nat (n := 2) (m := 1300) (by omega) (by omega) (by omega) (by omega) (by omega), ?_, by omega, cMul_nat (n := 2) (m := 1300) (by omega) Al (by omega) (by omega) (by omega), ?_, ⟨?_, alkZZ _⟩, ⟨kp, by omega⟩, cMul_lg so.1 lh2 (by omega) (by omega) (by omega), cMul_lg (so.1.mul lh2) lw2 (by omega) (by omega) (by omega), ⟨((so.1.mul lh2).mul lw2).mono (by omega), so.2.1.mono (by omega), so.2.2⟩, ⟨?_, alkZZ _⟩, trivial⟩
  · have e : (2 : Nat) ^ 1302 = 2 ^ 2 * 2 ^ 1300 := by rw [← Nat.pow_add]
    rw [show (2 : Nat) ^ 2 = 4 from rfl] at e
    exact cMul_nat (n := 1302) (m := 2) (by omega) (by omega) (by omega) (by omega) (by omega)
  · rw [e0]; exact ⟨lg.1.mono (by omega), lg.2.1.mono (by omega), lg.2.2⟩
  · rw [e0]; exact es
  · have cs : (st.map fun r => r.count true).sum = b * (h * w) := by
      rw [hst]
      unfold plainQ
      rw [List.map_replicate, List.sum_replicate_nat, List.count_replicate]
      rw [hb, sc 0 0 (by omega) (by omega)]
      by_cases q : d3 = 1 <;> simp [q]
    show mbQ (st.length + st[0]!.length) t _ (st.length * st[0]!.length) = low _ _
    rw [cs, stl, stw, ← hn]
    unfold mbQ
    rw [← hA, ← hB]
    have hq := rs.cross
    refine low_eq lg.2.2 so.2.2 ?_
    have e9 : (2 * (b * (h * w)) * B + h * w * (A - B)) = (2 * b * B + 1 * (A - B)) * (h * w) := by
      rw [Nat.add_mul, Nat.one_mul]
      congr 1 <;> ac_rfl
    rw [e9, Int.natCast_mul, Int.natCast_mul h w]
    calc ((2 * b * B + 1 * (A - B) : Nat) : Int) * ((h : Int) * (w : Int)) * sh.2 = (((2 * b * B + 1 * (A - B) : Nat) : Int) * sh.2) * ((h : Int) * (w : Int)) := by ac_rfl
      _ = (sh.1 * ((2 * A : Nat) : Int)) * ((h : Int) * (w : Int)) := by rw [← hq]
      _ = _ := by ac_rfl
end W
namespace V
open PySem L2 G W
theorem hv : ∀ ns : List Int, ns.length ≤ 63 → ∃ tp', retR (b_law (some (.scr ns) :: some .tape :: List.replicate 16 none) [.scr ns, .int 0, .int 5383, .int 0]) = .ok (.bl true) tp' := fun ns hns => W.snd_law W.ok_law ns hns
end V

set_option Elab.async false
set_option linter.all false
set_option maxRecDepth 100000
set_option maxHeartbeats 0
namespace Hd
open PySem PySem.Spec PyProof.Rows L2
def d_is_int : He.DefD := ⟨("is_int", none), "is_int", "is_int", defArgs (W.top 8), defBody (W.top 8), defScope (W.top 8), [], []⟩
def d_is_in : He.DefD := ⟨("is_in", none), "is_in", "is_in", defArgs (W.top 9), defBody (W.top 9), defScope (W.top 9), [], []⟩
def d_need_number : He.DefD := ⟨("need_number", none), "need_number", "need_number", defArgs (W.top 10), defBody (W.top 10), defScope (W.top 10), [], []⟩
def d_is_picture : He.DefD := ⟨("is_picture", none), "is_picture", "is_picture", defArgs (W.top 11), defBody (W.top 11), defScope (W.top 11), [], []⟩
def d_need_picture : He.DefD := ⟨("need_picture", none), "need_picture", "need_picture", defArgs (W.top 12), defBody (W.top 12), defScope (W.top 12), [], []⟩
def d_lines_of : He.DefD := ⟨("lines_of", none), "lines_of", "lines_of", defArgs (W.top 13), defBody (W.top 13), defScope (W.top 13), [], []⟩
def d_plain : He.DefD := ⟨("plain", none), "plain", "plain", defArgs (W.top 14), defBody (W.top 14), defScope (W.top 14), [], []⟩
def d_common : He.DefD := ⟨("common", none), "common", "common", defArgs (W.top 17), defBody (W.top 17), defScope (W.top 17), [], []⟩
def d_lowered : He.DefD := ⟨("lowered", none), "lowered", "lowered", defArgs (W.top 18), defBody (W.top 18), defScope (W.top 18), [], []⟩
def d_plus : He.DefD := ⟨("plus", none), "plus", "plus", defArgs (W.top 19), defBody (W.top 19), defScope (W.top 19), [], []⟩
def d_times_ratio : He.DefD := ⟨("times_ratio", none), "times_ratio", "times_ratio", defArgs (W.top 20), defBody (W.top 20), defScope (W.top 20), [], []⟩
def d_raised : He.DefD := ⟨("raised", none), "raised", "raised", defArgs (W.top 21), defBody (W.top 21), defScope (W.top 21), [], []⟩
def d_need_painting : He.DefD := ⟨("need_painting", none), "need_painting", "need_painting", defArgs (W.top 22), defBody (W.top 22), defScope (W.top 22), [], []⟩
def d_mean_black : He.DefD := ⟨("mean_black", none), "mean_black", "mean_black", defArgs (W.top 23), defBody (W.top 23), defScope (W.top 23), [], []⟩
def d_black_chance : He.DefD := ⟨("black_chance", none), "black_chance", "black_chance", defArgs (W.top 24), defBody (W.top 24), defScope (W.top 24), [], []⟩
def d_all_chance : He.DefD := ⟨("all_chance", none), "all_chance", "all_chance", defArgs (W.top 25), defBody (W.top 25), defScope (W.top 25), [], []⟩
def d_need_board : He.DefD := ⟨("need_board", none), "need_board", "need_board", defArgs (W.top 26), defBody (W.top 26), defScope (W.top 26), [], []⟩
def d_whole_chance : He.DefD := ⟨("whole_chance", none), "whole_chance", "whole_chance", defArgs (W.top 27), defBody (W.top 27), defScope (W.top 27), [], []⟩
def d_past_chance : He.DefD := ⟨("past_chance", none), "past_chance", "past_chance", defArgs (W.top 28), defBody (W.top 28), defScope (W.top 28), [], []⟩
def d_parts_sum : He.DefD := ⟨("parts_sum", none), "parts_sum", "parts_sum", defArgs (W.top 29), defBody (W.top 29), defScope (W.top 29), [], []⟩
def d_mean_whole : He.DefD := ⟨("mean_whole", none), "mean_whole", "mean_whole", defArgs (W.top 30), defBody (W.top 30), defScope (W.top 30), [], []⟩
def d_mean_past : He.DefD := ⟨("mean_past", none), "mean_past", "mean_past", defArgs (W.top 31), defBody (W.top 31), defScope (W.top 31), [], []⟩
def d_law_taken : He.DefD := ⟨("_law_taken", none), "_law_taken", "_law_taken", defArgs (W.top 33), defBody (W.top 33), defScope (W.top 33), [], []⟩
def d_law_alike : He.DefD := ⟨("_law_alike", none), "_law_alike", "_law_alike", defArgs (W.top 34), defBody (W.top 34), defScope (W.top 34), [], []⟩
def d_law_common : He.DefD := ⟨("_law_common", none), "_law_common", "_law_common", defArgs (W.top 35), defBody (W.top 35), defScope (W.top 35), [], []⟩
def d_law_lowered : He.DefD := ⟨("_law_lowered", none), "_law_lowered", "_law_lowered", defArgs (W.top 36), defBody (W.top 36), defScope (W.top 36), [], []⟩
def d_law_plus : He.DefD := ⟨("_law_plus", none), "_law_plus", "_law_plus", defArgs (W.top 37), defBody (W.top 37), defScope (W.top 37), [], []⟩
def d_law_all_painted : He.DefD := ⟨("_law_all_painted", none), "_law_all_painted", "_law_all_painted", defArgs (W.top 38), defBody (W.top 38), defScope (W.top 38), [], []⟩
def d_law : He.DefD := ⟨("law", none), "law", "law", defArgs (W.top 39), defBody (W.top 39), defScope (W.top 39), [], []⟩
def fn : List He.DefD := [d_is_int, d_is_in, d_need_number, d_is_picture, d_need_picture, d_lines_of, d_plain, d_common, d_lowered, d_plus, d_times_ratio, d_raised, d_need_painting, d_mean_black, d_black_chance, d_all_chance, d_need_board, d_whole_chance, d_past_chance, d_parts_sum, d_mean_whole, d_mean_past, d_law_taken, d_law_alike, d_law_common, d_law_lowered, d_law_plus, d_law_all_painted, d_law]
def fa0 : List He.Fa := [.glo "is_int", .glo "is_in", .glo "need_number", .glo "is_picture", .glo "need_picture", .glo "lines_of", .glo "plain", .glo "common", .glo "lowered", .glo "plus", .glo "times_ratio", .glo "raised", .glo "need_painting", .glo "mean_black", .glo "black_chance", .glo "all_chance", .glo "need_board", .glo "whole_chance", .glo "past_chance", .glo "parts_sum", .glo "mean_whole", .glo "mean_past", .glo "_law_taken", .glo "_law_alike", .glo "_law_common", .glo "_law_lowered", .glo "_law_plus", .glo "_law_all_painted", .glo "law", .free "abs"]
def fa1 : List He.Fa := [.free "all", .free "bool", .free "int", .free "isinstance", .free "len", .free "list", .free "range", .free "str", .free "sum", .free "tuple", .int "MOST_SIDE" 30, .str "BLACK" "#", .str "WHITE" ".", .int "MOST_TIMES" 200]
def fa : List He.Fa := fa0 ++ fa1
def nm0 : List Str := ["__name__", "PaintError", "BadPicture", "BadNumber", "MOST_SIDE", "BLACK", "WHITE", "is_int", "is_in", "need_number", "is_picture", "need_picture", "lines_of", "plain", "MOST_TIMES", "common", "lowered", "plus", "times_ratio", "raised", "need_painting", "mean_black", "black_chance", "all_chance", "need_board", "whole_chance", "past_chance", "parts_sum", "mean_whole", "mean_past"]
def nm1 : List Str := ["_law_taken", "_law_alike", "_law_common", "_law_lowered", "_law_plus", "_law_all_painted"]
abbrev nms : List Str := nm0 ++ nm1
abbrev R : PySem.W.OpenRow := PySem.W.OpenLaw.row PySem.Challenge.rw_linepainters_k83_great_means
abbrev hk : PySem.W.Hook := He.hookD 4 fa fn
def ob (s : PySem.W.SharedT) : He.AlD := He.obsDG 4 fa fn (HandSHeadRun.getT s)
theorem ob_eq (s : PySem.W.SharedT) : ob s = hk.obs s.abs := He.obsDG_eq (HandSHeadRun.getT_eq s)
theorem run (w : World) : HandSHeadRun.RunEq R (PySem.W.view R.prog [39]) hk ob 8000 nms w := by
  intro os
  kernel_rfl
theorem facts {P : Program} {w : World} {K : PySem.W.Frag} {h : Heap} {mg : Str → Option Value} {f : Addr} (X : K.In h) (hG : h.Ns mainGlobals mg) (hfa : mg ("law" : Str) = some (.ref f)) (c : He.SaysD fa fn K) :
    ∃ fd : FuncData, (∀ (s : Shared) (v : Value), BindsTo s fd ⟨[v], []⟩ [("_law_script", v)]) ∧ ∀ base : Heap, K.In base → base.Ns mainGlobals mg → FnOk P w K mg base CX0 8 f fd ["_law_script"] (_root_.G.spLaw K) := by
  obtain ⟨fd0, F0⟩ := c.def_ 0 (d := d_is_int) rfl
  obtain ⟨fd1, F1⟩ := c.def_ 1 (d := d_is_in) rfl
  obtain ⟨fd2, F2⟩ := c.def_ 2 (d := d_need_number) rfl
  obtain ⟨fd3, F3⟩ := c.def_ 3 (d := d_is_picture) rfl
  obtain ⟨fd4, F4⟩ := c.def_ 4 (d := d_need_picture) rfl
  obtain ⟨fd5, F5⟩ := c.def_ 5 (d := d_lines_of) rfl
  obtain ⟨fd6, F6⟩ := c.def_ 6 (d := d_plain) rfl
  obtain ⟨fd7, F7⟩ := c.def_ 7 (d := d_common) rfl
  obtain ⟨fd8, F8⟩ := c.def_ 8 (d := d_lowered) rfl
  obtain ⟨fd9, F9⟩ := c.def_ 9 (d := d_plus) rfl
  obtain ⟨fd10, F10⟩ := c.def_ 10 (d := d_times_ratio) rfl
  obtain ⟨fd11, F11⟩ := c.def_ 11 (d := d_raised) rfl
  obtain ⟨fd12, F12⟩ := c.def_ 12 (d := d_need_painting) rfl
  obtain ⟨fd13, F13⟩ := c.def_ 13 (d := d_mean_black) rfl
  obtain ⟨fd14, F14⟩ := c.def_ 14 (d := d_black_chance) rfl
  obtain ⟨fd15, F15⟩ := c.def_ 15 (d := d_all_chance) rfl
  obtain ⟨fd16, F16⟩ := c.def_ 16 (d := d_need_board) rfl
  obtain ⟨fd17, F17⟩ := c.def_ 17 (d := d_whole_chance) rfl
  obtain ⟨fd18, F18⟩ := c.def_ 18 (d := d_past_chance) rfl
  obtain ⟨fd19, F19⟩ := c.def_ 19 (d := d_parts_sum) rfl
  obtain ⟨fd20, F20⟩ := c.def_ 20 (d := d_mean_whole) rfl
  obtain ⟨fd21, F21⟩ := c.def_ 21 (d := d_mean_past) rfl
  obtain ⟨fd22, F22⟩ := c.def_ 22 (d := d_law_taken) rfl
  obtain ⟨fd23, F23⟩ := c.def_ 23 (d := d_law_alike) rfl
  obtain ⟨fd24, F24⟩ := c.def_ 24 (d := d_law_common) rfl
  obtain ⟨fd25, F25⟩ := c.def_ 25 (d := d_law_lowered) rfl
  obtain ⟨fd26, F26⟩ := c.def_ 26 (d := d_law_plus) rfl
  obtain ⟨fd27, F27⟩ := c.def_ 27 (d := d_law_all_painted) rfl
  obtain ⟨fd28, F28⟩ := c.def_ 28 (d := d_law) rfl
  have T : W.Tx K mg := {
    abs := He.free_ok X hG (c.fact 29 (f := .free "abs") rfl),
    all := He.free_ok X hG (c.fact 30 (f := .free "all") rfl),
    bool := He.free_ok X hG (c.fact 31 (f := .free "bool") rfl),
    int := He.free_ok X hG (c.fact 32 (f := .free "int") rfl),
    isinstance := He.free_ok X hG (c.fact 33 (f := .free "isinstance") rfl),
    len := He.free_ok X hG (c.fact 34 (f := .free "len") rfl),
    list := He.free_ok X hG (c.fact 35 (f := .free "list") rfl),
    range := He.free_ok X hG (c.fact 36 (f := .free "range") rfl),
    str := He.free_ok X hG (c.fact 37 (f := .free "str") rfl),
    sum := He.free_ok X hG (c.fact 38 (f := .free "sum") rfl),
    tuple := He.free_ok X hG (c.fact 39 (f := .free "tuple") rfl),
    MOST_SIDE := He.int_ok X hG (c.fact 40 (f := .int "MOST_SIDE" 30) rfl),
    BLACK := He.str_ok X hG (c.fact 41 (f := .str "BLACK" "#") rfl),
    WHITE := He.str_ok X hG (c.fact 42 (f := .str "WHITE" ".") rfl),
    MOST_TIMES := He.int_ok X hG (c.fact 43 (f := .int "MOST_TIMES" 200) rfl),
    f_is_int := ⟨_, _, F0, He.glo_ok X hG (c.fact 0 (f := .glo "is_int") rfl)⟩,
    f_is_in := ⟨_, _, F1, He.glo_ok X hG (c.fact 1 (f := .glo "is_in") rfl)⟩,
    f_need_number := ⟨_, _, F2, He.glo_ok X hG (c.fact 2 (f := .glo "need_number") rfl)⟩,
    f_is_picture := ⟨_, _, F3, He.glo_ok X hG (c.fact 3 (f := .glo "is_picture") rfl)⟩,
    f_need_picture := ⟨_, _, F4, He.glo_ok X hG (c.fact 4 (f := .glo "need_picture") rfl)⟩,
    f_lines_of := ⟨_, _, F5, He.glo_ok X hG (c.fact 5 (f := .glo "lines_of") rfl)⟩,
    f_plain := ⟨_, _, F6, He.glo_ok X hG (c.fact 6 (f := .glo "plain") rfl)⟩,
    f_common := ⟨_, _, F7, He.glo_ok X hG (c.fact 7 (f := .glo "common") rfl)⟩,
    f_lowered := ⟨_, _, F8, He.glo_ok X hG (c.fact 8 (f := .glo "lowered") rfl)⟩,
    f_plus := ⟨_, _, F9, He.glo_ok X hG (c.fact 9 (f := .glo "plus") rfl)⟩,
    f_times_ratio := ⟨_, _, F10, He.glo_ok X hG (c.fact 10 (f := .glo "times_ratio") rfl)⟩,
    f_raised := ⟨_, _, F11, He.glo_ok X hG (c.fact 11 (f := .glo "raised") rfl)⟩,
    f_need_painting := ⟨_, _, F12, He.glo_ok X hG (c.fact 12 (f := .glo "need_painting") rfl)⟩,
    f_mean_black := ⟨_, _, F13, He.glo_ok X hG (c.fact 13 (f := .glo "mean_black") rfl)⟩,
    f_black_chance := ⟨_, _, F14, He.glo_ok X hG (c.fact 14 (f := .glo "black_chance") rfl)⟩,
    f_all_chance := ⟨_, _, F15, He.glo_ok X hG (c.fact 15 (f := .glo "all_chance") rfl)⟩,
    f_need_board := ⟨_, _, F16, He.glo_ok X hG (c.fact 16 (f := .glo "need_board") rfl)⟩,
    f_whole_chance := ⟨_, _, F17, He.glo_ok X hG (c.fact 17 (f := .glo "whole_chance") rfl)⟩,
    f_past_chance := ⟨_, _, F18, He.glo_ok X hG (c.fact 18 (f := .glo "past_chance") rfl)⟩,
    f_parts_sum := ⟨_, _, F19, He.glo_ok X hG (c.fact 19 (f := .glo "parts_sum") rfl)⟩,
    f_mean_whole := ⟨_, _, F20, He.glo_ok X hG (c.fact 20 (f := .glo "mean_whole") rfl)⟩,
    f_mean_past := ⟨_, _, F21, He.glo_ok X hG (c.fact 21 (f := .glo "mean_past") rfl)⟩,
    f_law_taken := ⟨_, _, F22, He.glo_ok X hG (c.fact 22 (f := .glo "_law_taken") rfl)⟩,
    f_law_alike := ⟨_, _, F23, He.glo_ok X hG (c.fact 23 (f := .glo "_law_alike") rfl)⟩,
    f_law_common := ⟨_, _, F24, He.glo_ok X hG (c.fact 24 (f := .glo "_law_common") rfl)⟩,
    f_law_lowered := ⟨_, _, F25, He.glo_ok X hG (c.fact 25 (f := .glo "_law_lowered") rfl)⟩,
    f_law_plus := ⟨_, _, F26, He.glo_ok X hG (c.fact 26 (f := .glo "_law_plus") rfl)⟩,
    f_law_all_painted := ⟨_, _, F27, He.glo_ok X hG (c.fact 27 (f := .glo "_law_all_painted") rfl)⟩ }
  have e := hfa.symm.trans (He.glo_ok X hG (c.fact 28 (f := .glo "law") rfl))
  cases e
  have b := FunD.bindsA (ps := ["_law_script"]) F28 fun _ _ _ _ _ _ us hl => match us, hl with | [_], _ => rfl
  exact ⟨fd28, fun s v => b s [v] rfl, fun base _ _ => _root_.G.fn_law (k := 7) (N := ["_law_high", "_law_wide", "_law_times", "_law_lines", "_law_power", "_law_turn", "_law_rows", "_law_columns", "_law_both", "_law_sums", "_law_many", "_law_due", "_law_kept", "_law_start", "_law_share", "_law_black"]) F28 W.sc_law (Or.inl rfl) (Or.inl rfl) (by decide +kernel) (by decide +kernel) (m := W.b_law) (fun r cdv A outer s H E hr => W.law_body T r cdv A outer s H E hr) _root_.V.hv⟩
end Hd
open PySem PySem.W PySem.Calls PyProof.Rows
theorem PySem.Challenge.cw_linepainters_k83_great_means_holds : PySem.Challenge.rw_linepainters_k83_great_means.Holds := by
  w_on; o_law
  refine HandSHeadRun.head_any (r := OpenLaw.row PySem.Challenge.rw_linepainters_k83_great_means) (q := view (OpenLaw.row PySem.Challenge.rw_linepainters_k83_great_means).prog [39]) (H := Hd.hk) (ob := Hd.ob) (M := 8000) (loose := Hd.nms) (d := HandSHeadRun.topDef (OpenLaw.row PySem.Challenge.rw_linepainters_k83_great_means).prog 39) (kwd := []) Hd.ob_eq
    (by kernel_rfl) (fun s => by kernel_rfl) Hd.run (by kernel_rfl) (by kernel_rfl) (by kernel_rfl) (by rfl) (by first | assumption | decide +kernel) (by decide +kernel) ⟨rfl, rfl, rfl, rfl, rfl, by decide +kernel⟩ ?hw ?hc
  case hw => w_witness2
  case hc =>
    refine L2.walk_ofE (l := PySem.Challenge.rw_linepainters_k83_great_means) (n := 63) (k := 8) (x := "_law_script") (CX := L2.CX0) rfl (by decide) (by kernel_rfl) ⟨rfl, by decide, by decide⟩ ?F (fun _ _ _ _ z => z)
    intro w mg fa h Y hG hmg0
    obtain ⟨K, KX, c⟩ := Y
    have hmg : mg ("law" : PySem.Str) = some (.ref fa) := by
      have e : (HandSHeadRun.topDef (OpenLaw.row PySem.Challenge.rw_linepainters_k83_great_means).prog 39).name = ("law" : PySem.Str) := by kernel_rfl
      rw [← e]
      exact hmg0
    obtain ⟨fd, hb, hF⟩ := Hd.facts (P := (PySem.Challenge.rw_linepainters_k83_great_means).prog) (w := w) KX hG hmg c
    exact ⟨K, fd, _root_.G.spLaw K, KX, hb, fun H a ns hl hh hS => ⟨a, ns, rfl, hS, hl, fun _ => rfl⟩, hF⟩

