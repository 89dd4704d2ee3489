import PyProof.Rows.All
import Wide.All
import OpenK.AllK
import Wide.FinOn
import KE.KStateDown
import Lean
import HandS.Base
import HandS.Call
import HandS.Ends
import HandS.More
import HandS.Words
import HandS.WordsExc
import HandS.Defaults
import HandS.Head0
import HandS.Head1
import HandS.Head2
import HandS.HeadEnd
import HandS.HeadHook1
import HandS.HeadHook2
import KE.DataEq
import HandS.ForMost
import HandS.Exc
import HandS.Walk
import HandS.TupAny
import HandS.TupMul
import HandS.IsInst
import HandS.Wide
import HandS.StrMore
import HandS.TupLe
import HandS.Style
import HandS.Conv
import KE.GoesEnum
import HandS.SortInts
import PySem.Challenge.RW_linepainters_k90_swaps_of_deeds
set_option Elab.async false
set_option linter.all false
set_option maxRecDepth 100000
set_option maxHeartbeats 1000000
/-! G0: pure data, its place in the heap, the world's growth. -/
namespace G
open PySem PySem.Spec PyProof.Rows L2

/-- pure data -/
inductive D where
  | non
  | bl (b : Bool)
  | int (i : Int)
  | str (s : Str)
  | tup (xs : List D)
  | lst (xs : List D)
  | dic (kvs : List (D × D))
  | scr (ns : List Int)
  | tape
  | fn (n : Str)
  | ty (n : String)
  deriving Inhabited

mutual
def D.pd : D → PyData
  | .non => .none
  | .bl b => .bool b
  | .int i => .int i
  | .str s => .str s
  | .tup xs => .tuple (pdAll xs)
  | .lst xs => .list (pdAll xs)
  | .scr ns => .list (ns.map PyData.int)
  | .dic _ => .dict []
  | .tape => .dict []
  | .fn _ => .dict []
  | .ty _ => .dict []
def pdAll : List D → List PyData
  | [] => []
  | x :: xs => x.pd :: pdAll xs
end
theorem pdAll_map (xs : List D) : pdAll xs = xs.map D.pd := by
  induction xs with
  | nil => rfl
  | cons x xs ih => simp only [pdAll, List.map_cons, ih]

def keyD : Key → D
  | .inl i => .int i
  | .inr x => .str x
def keyT (ks : List Key) : D := .tup (ks.map keyD)

section
variable (K : PySem.W.Frag) (mg : Str → Option Value) (r : Addr)
mutual
/-- the value v stands for the data d, all its objects in Hs -/
inductive RepD (Hs : Hp) : V → D → Prop
  | non : RepD Hs .non .non
  | bl (b : Bool) : RepD Hs (.bl b) (.bl b)
  | int (i : Int) : RepD Hs (.int i) (.int i)
  | str (s : Str) : RepD Hs (.str s) (.str s)
  | tup {p : Addr} {vs : List V} {ds : List D} : Hs p = some (.tup vs) → RepDs Hs vs ds → RepD Hs (.ref p) (.tup ds)
  | lst {p : Addr} {vs : List V} {ds : List D} : Hs p = some (.lst vs) → RepDs Hs vs ds → RepD Hs (.ref p) (.lst ds)
  | dicK {p : Addr} {kvs : List (Key × V)} {ds : List (D × D)} : Hs p = some (.dK kvs) → RepP Hs (kvs.map fun q => (keyD q.1, q.2)) ds → RepD Hs (.ref p) (.dic ds)
  | dicT {p : Addr} {kvs : List (List Key × V)} {ds : List (D × D)} : Hs p = some (.dT kvs) → RepP Hs (kvs.map fun q => (keyT q.1, q.2)) ds → RepD Hs (.ref p) (.dic ds)
  | scr {p : Addr} {ns : List Int} : SqL K Hs p (ns.map V.int) → RepD Hs (.ref p) (.scr ns)
  | tape : RepD Hs (.ref r) .tape
  | fn {f : Addr} {n : Str} : mg n = some (.ref f) → RepD Hs (.ref f) (.fn n)
  | ty (n : String) : RepD Hs (.ty n) (.ty n)
inductive RepDs (Hs : Hp) : List V → List D → Prop
  | nil : RepDs Hs [] []
  | cons {v : V} {vs : List V} {d : D} {ds : List D} : RepD Hs v d → RepDs Hs vs ds → RepDs Hs (v :: vs) (d :: ds)
inductive RepP (Hs : Hp) : List (D × V) → List (D × D) → Prop
  | nil : RepP Hs [] []
  | cons {k : D} {v : V} {vs : List (D × V)} {d : D} {ds : List (D × D)} : RepD Hs v d → RepP Hs vs ds → RepP Hs ((k, v) :: vs) ((k, d) :: ds)
end
end

section
variable {K : PySem.W.Frag} {mg : Str → Option Value} {r : Addr} {Hs Hs' Hs1 Hs2 H H' H1 H2 : Hp}
mutual
theorem RepD.mono (e : Same Hs Hs') : ∀ {v : V} {d : D}, RepD K mg r Hs v d → RepD K mg r Hs' v d
  | _, _, .non => .non
  | _, _, .bl b => .bl b
  | _, _, .int i => .int i
  | _, _, .str s => .str s
  | _, _, .tup h q => .tup (e _ _ h) (RepDs.mono e q)
  | _, _, .lst h q => .lst (e _ _ h) (RepDs.mono e q)
  | _, _, .dicK h q => .dicK (e _ _ h) (RepP.mono e q)
  | _, _, .dicT h q => .dicT (e _ _ h) (RepP.mono e q)
  | _, _, .scr h => .scr (Same.seq e h)
  | _, _, .tape => .tape
  | _, _, .fn h => .fn h
  | _, _, .ty n => .ty n
theorem RepDs.mono (e : Same Hs Hs') : ∀ {vs : List V} {ds : List D}, RepDs K mg r Hs vs ds → RepDs K mg r Hs' vs ds
  | _, _, .nil => .nil
  | _, _, .cons h q => .cons (RepD.mono e h) (RepDs.mono e q)
theorem RepP.mono (e : Same Hs Hs') : ∀ {vs : List (D × V)} {ds : List (D × D)}, RepP K mg r Hs vs ds → RepP K mg r Hs' vs ds
  | _, _, .nil => .nil
  | _, _, .cons h q => .cons (RepD.mono e h) (RepP.mono e q)
end

theorem RepDs.length : ∀ {vs : List V} {ds : List D}, RepDs K mg r Hs vs ds → vs.length = ds.length
  | _, _, .nil => rfl
  | _, _, .cons _ q => by simp only [List.length_cons, RepDs.length q]
theorem RepDs.get : ∀ {vs : List V} {ds : List D} {i : Nat} {v : V}, RepDs K mg r Hs vs ds → vs[i]? = some v → ∃ d, ds[i]? = some d ∧ RepD K mg r Hs v d
  | _, _, _, _, .nil, e => by simp at e
  | _, _, 0, _, .cons h _, e => by simp at e; subst e; exact ⟨_, rfl, h⟩
  | _, _, i + 1, _, .cons _ q, e => by
    obtain ⟨d, h1, h2⟩ := RepDs.get (i := i) q (by simpa using e)
    exact ⟨d, by simpa using h1, h2⟩
theorem RepDs.get' : ∀ {vs : List V} {ds : List D} {i : Nat} {d : D}, RepDs K mg r Hs vs ds → ds[i]? = some d → ∃ v, vs[i]? = some v ∧ RepD K mg r Hs v d
  | _, _, _, _, .nil, e => by simp at e
  | _, _, 0, _, .cons h _, e => by simp at e; subst e; exact ⟨_, rfl, h⟩
  | _, _, i + 1, _, .cons _ q, e => by
    obtain ⟨d, h1, h2⟩ := RepDs.get' (i := i) q (by simpa using e)
    exact ⟨d, by simpa using h1, h2⟩
theorem RepDs.append : ∀ {vs ws : List V} {ds es : List D}, RepDs K mg r Hs vs ds → RepDs K mg r Hs ws es → RepDs K mg r Hs (vs ++ ws) (ds ++ es)
  | _, _, _, _, .nil, q => q
  | _, _, _, _, .cons h p, q => .cons h (RepDs.append p q)
theorem RepDs.drop : ∀ {vs : List V} {ds : List D} (n : Nat), RepDs K mg r Hs vs ds → RepDs K mg r Hs (vs.drop n) (ds.drop n)
  | _, _, 0, q => q
  | _, _, _ + 1, .nil => .nil
  | _, _, n + 1, .cons _ q => RepDs.drop n q
theorem RepDs.take : ∀ {vs : List V} {ds : List D} (n : Nat), RepDs K mg r Hs vs ds → RepDs K mg r Hs (vs.take n) (ds.take n)
  | _, _, 0, _ => .nil
  | _, _, _ + 1, .nil => .nil
  | _, _, n + 1, .cons h q => .cons h (RepDs.take n q)
theorem RepDs.set : ∀ {vs : List V} {ds : List D} {v : V} {d : D} (n : Nat), RepDs K mg r Hs vs ds → RepD K mg r Hs v d → RepDs K mg r Hs (vs.set n v) (ds.set n d)
  | _, _, _, _, _, .nil, _ => .nil
  | _, _, _, _, 0, .cons _ q, h => .cons h q
  | _, _, _, _, n + 1, .cons g q, h => .cons g (RepDs.set n q h)
theorem RepDs.eraseIdx : ∀ {vs : List V} {ds : List D} (n : Nat), RepDs K mg r Hs vs ds → RepDs K mg r Hs (vs.eraseIdx n) (ds.eraseIdx n)
  | _, _, _, .nil => .nil
  | _, _, 0, .cons _ q => q
  | _, _, n + 1, .cons g q => .cons g (RepDs.eraseIdx n q)
theorem RepDs.dropLast : ∀ {vs : List V} {ds : List D}, RepDs K mg r Hs vs ds → RepDs K mg r Hs vs.dropLast ds.dropLast := by
  intro vs ds h
  rw [List.dropLast_eq_take, List.dropLast_eq_take, h.length]
  exact h.take _
theorem RepDs.reverse {vs : List V} {ds : List D} (h : RepDs K mg r Hs vs ds) : RepDs K mg r Hs vs.reverse ds.reverse := by
  induction vs generalizing ds with
  | nil => cases h; exact .nil
  | cons v vs ih =>
    cases h with
    | cons a b => rw [List.reverse_cons, List.reverse_cons]; exact (ih b).append (.cons a .nil)
theorem RepDs.ints : ∀ (ns : List Int), RepDs K mg r Hs (ns.map V.int) (ns.map D.int)
  | [] => .nil
  | n :: ns => .cons (.int n) (RepDs.ints ns)
theorem RepDs.ints_of : ∀ {ns : List Int} {vs : List V}, RepDs K mg r Hs vs (ns.map D.int) → vs = ns.map V.int
  | [], _, .nil => rfl
  | n :: ns, _, .cons h q => by cases h; rw [RepDs.ints_of q]; rfl
theorem RepDs.strs_of : ∀ {ns : List Str} {vs : List V}, RepDs K mg r Hs vs (ns.map D.str) → vs = ns.map V.str
  | [], _, .nil => rfl
  | n :: ns, _, .cons h q => by cases h; rw [RepDs.strs_of q]; rfl
theorem RepDs.bls_of : ∀ {ns : List Bool} {vs : List V}, RepDs K mg r Hs vs (ns.map D.bl) → vs = ns.map V.bl
  | [], _, .nil => rfl
  | n :: ns, _, .cons h q => by cases h; rw [RepDs.bls_of q]; rfl

theorem same_new {H : Hp} {p : Addr} {o : HO} (h : H p = none) : Same H (upd H p o) := fun a u e => by
  rw [upd_ne (ne_of_none e h)]
  exact e
end

/-! ### the world -/
section
variable (K : PySem.W.Frag) (mg : Str → Option Value) (r : Addr)
/-- what stands still, the heap, the tape at r -/
structure Wd (Hs H : Hp) (tp : List D) : Prop where
  sub : Same Hs H
  tn : Hs r = none
  tH : ∃ vs, H r = some (.lst vs) ∧ RepDs K mg r Hs vs tp
structure Grow (Hs H Hs' H' : Hp) : Prop where
  keep : ∀ b o, H b = some o → b ≠ r → H' b = some o
  ex : Same Hs Hs'
  new : ∀ b o, b ≠ r → Hs' b = some o → Hs b = some o ∨ H b = none
end
section
variable {K : PySem.W.Frag} {mg : Str → Option Value} {r : Addr} {Hs Hs' Hs1 Hs2 H H' H1 H2 : Hp} {tp tp' : List D}
theorem Grow.refl (Hs H : Hp) : Grow r Hs H Hs H := ⟨fun _ _ e _ => e, Same.refl _, fun _ _ _ e => .inl e⟩
theorem Grow.trans (a : Grow r Hs H Hs1 H1) (b : Grow r Hs1 H1 Hs2 H2) : Grow r Hs H Hs2 H2 where
  keep := fun c o e n => b.keep c o (a.keep c o e n) n
  ex := a.ex.trans b.ex
  new := fun c o n e => by
    rcases b.new c o n e with q | q
    · exact a.new c o n q
    · refine .inr ?_
      cases z : H c with
      | none => rfl
      | some u => rw [a.keep c u z n] at q; cases q
theorem Wd.ne {p : Addr} {o : HO} (w : Wd K mg r Hs H tp) (h : Hs p = some o) : p ≠ r := fun e => by
  rw [e, w.tn] at h; cases h
theorem Wd.fresh {p : Addr} (w : Wd K mg r Hs H tp) (h : H p = none) : Hs p = none ∧ p ≠ r := by
  refine ⟨w.sub.free h, fun e => ?_⟩
  obtain ⟨vs, q, _⟩ := w.tH
  rw [e, q] at h; cases h
/-- a new object that stands still -/
theorem Wd.alloc {p : Addr} {o : HO} (w : Wd K mg r Hs H tp) (h : H p = none) : Grow r Hs H (upd Hs p o) (upd H p o) ∧ Wd K mg r (upd Hs p o) (upd H p o) tp := by
  obtain ⟨hs, ne⟩ := w.fresh h
  refine ⟨⟨fun b u e _ => same_new h b u e, same_new hs, fun b u n e => ?_⟩, ⟨fun b u e => ?_, ?_, ?_⟩⟩
  · by_cases q : b = p
    · subst q; exact .inr h
    · rw [upd_ne q] at e; exact .inl e
  · by_cases q : b = p
    · subst q; rw [upd_same] at e ⊢; exact e
    · rw [upd_ne q] at e ⊢; exact w.sub b u e
  · rw [upd_ne ne.symm]; exact w.tn
  · obtain ⟨vs, q, z⟩ := w.tH
    exact ⟨vs, by rw [upd_ne ne.symm]; exact q, z.mono (same_new hs)⟩
/-- a new object that does not stand still (yet) -/
theorem Wd.lay {p : Addr} {o : HO} (w : Wd K mg r Hs H tp) (h : H p = none) : Grow r Hs H Hs (upd H p o) ∧ Wd K mg r Hs (upd H p o) tp := by
  obtain ⟨hs, ne⟩ := w.fresh h
  refine ⟨⟨fun b u e _ => same_new h b u e, Same.refl _, fun b u n e => .inl e⟩, ⟨fun b u e => same_new h b u (w.sub b u e), w.tn, ?_⟩⟩
  obtain ⟨vs, q, z⟩ := w.tH
  exact ⟨vs, by rw [upd_ne ne.symm]; exact q, z⟩
/-- an object that is not in Hs is written -/
theorem Wd.write {p : Addr} {o : HO} (w : Wd K mg r Hs H tp) (h : Hs p = none) (ne : p ≠ r) : Wd K mg r Hs (upd H p o) tp := by
  refine ⟨fun b u e => ?_, w.tn, ?_⟩
  · rw [upd_ne (ne_of_none e h)]; exact w.sub b u e
  · obtain ⟨vs, q, z⟩ := w.tH
    exact ⟨vs, by rw [upd_ne ne.symm]; exact q, z⟩
end

/-! ### results -/
inductive RE (α : Type) where
  | ok (a : α) (tp : List D)
  | exn (c : Str) (fs : List (Str × D)) (tp : List D)
  | stuck
def RE.bind {α β : Type} (x : RE α) (k : α → List D → RE β) : RE β := match x with
  | .ok a tp => k a tp
  | .exn c fs tp => .exn c fs tp
  | .stuck => .stuck
@[simp] theorem RE.bind_ok {α β : Type} (a : α) (tp : List D) (k : α → List D → RE β) : (RE.ok a tp).bind k = k a tp := rfl
@[simp] theorem RE.bind_exn {α β : Type} (c : Str) (fs : List (Str × D)) (tp : List D) (k : α → List D → RE β) : (RE.exn c fs tp : RE α).bind k = .exn c fs tp := rfl
@[simp] theorem RE.bind_stuck {α β : Type} (k : α → List D → RE β) : (RE.stuck : RE α).bind k = .stuck := rfl
def RE.of {α : Type} (o : Option α) (tp : List D) : RE α := match o with
  | some a => .ok a tp
  | none => .stuck
@[simp] theorem RE.of_some {α : Type} (a : α) (tp : List D) : RE.of (some a) tp = .ok a tp := rfl
@[simp] theorem RE.of_none {α : Type} (tp : List D) : (RE.of (none : Option α) tp) = .stuck := rfl

section
variable (K : PySem.W.Frag) (mg : Str → Option Value) (r : Addr)
/-- the dict of an exception: its fields -/
def ExD (Hs : Hp) (fs : List (Str × D)) (dx : Option Addr) : Prop :=
  (fs = [] ∧ dx = none) ∨ ∃ a gs, dx = some a ∧ Hs a = some (.xd gs) ∧ ∀ f, match fs.lookup f with
    | some d => ∃ v, gs.lookup f = some v ∧ RepD K mg r Hs v d
    | none => gs.lookup f = none
def Post {β α : Type} (Rp : Hp → Hp → β → α → Prop) (E : XK) (Hs H : Hp) (res : RE α) (Q : β → Hp → Prop) : Prop := match res with
  | .ok d tp' => ∀ v Hs' H', Grow r Hs H Hs' H' → Wd K mg r Hs' H' tp' → Rp Hs' H' v d → Q v H'
  | .exn c fs tp' => ∀ cv dx Hs' H', Grow r Hs H Hs' H' → Wd K mg r Hs' H' tp' → mg c = some cv → ExD K mg r Hs' fs dx → E cv dx H'
  | .stuck => False
end
section
variable {K : PySem.W.Frag} {mg : Str → Option Value} {r : Addr} {Hs Hs' Hs1 Hs2 H H' H1 H2 : Hp} {tp tp' : List D} {α β γ δ : Type} {R1 : Hp → Hp → β → α → Prop} {R2 : Hp → Hp → δ → γ → Prop} {E : XK}
theorem Post.shift {res : RE α} {Q : β → Hp → Prop} (g : Grow r Hs H Hs1 H1) (h : Post K mg r R1 E Hs H res Q) : Post K mg r R1 E Hs1 H1 res Q := by
  cases res with
  | ok d tp' => exact fun v Hs' H' g' w q => h v Hs' H' (g.trans g') w q
  | exn c fs tp' => exact fun cv dx Hs' H' g' w m x => h cv dx Hs' H' (g.trans g') w m x
  | stuck => exact h
theorem Post.imp {res : RE α} {Q Q' : β → Hp → Prop} (h : Post K mg r R1 E Hs H res Q) (k : ∀ v H', Q v H' → Q' v H') : Post K mg r R1 E Hs H res Q' := by
  cases res with
  | ok d tp' => exact fun v Hs' H' g' w q => k _ _ (h v Hs' H' g' w q)
  | exn c fs tp' => exact h
  | stuck => exact h
/-- one thing, then another -/
theorem Post.bind {res : RE α} {k : α → List D → RE γ} {Q : δ → Hp → Prop} {Q1 : β → Hp → Prop} (h : Post K mg r R2 E Hs H (res.bind k) Q)
    (step : ∀ v Hs1 H1 d tp1, res = .ok d tp1 → Grow r Hs H Hs1 H1 → Wd K mg r Hs1 H1 tp1 → R1 Hs1 H1 v d → Post K mg r R2 E Hs1 H1 (k d tp1) Q → Q1 v H1) : Post K mg r R1 E Hs H res Q1 := by
  cases res with
  | ok d tp' => exact fun v Hs' H' g' w q => step v Hs' H' d tp' rfl g' w q (Post.shift g' h)
  | exn c fs tp' => exact h
  | stuck => exact h
theorem Post.ok_of {o : Option α} {Q : β → Hp → Prop} (h : Post K mg r R1 E Hs H (RE.of o tp) Q) : ∃ d, o = some d ∧ ∀ v Hs' H', Grow r Hs H Hs' H' → Wd K mg r Hs' H' tp → R1 Hs' H' v d → Q v H' := by
  cases o with
  | none => exact h.elim
  | some d => exact ⟨d, rfl, h⟩
end
end G

set_option Elab.async false
set_option linter.all false
set_option maxRecDepth 100000
set_option maxHeartbeats 1000000
/-! G1: the names' values, the judgements over data, base rules. -/
namespace G
open PySem PySem.Spec PyProof.Rows L2

abbrev DEnv := List (Option D)
abbrev SE (α : Type) := DEnv → List D → RE α

section
variable (K : PySem.W.Frag) (mg : Str → Option Value) (r : Addr)
/-- the object at p (its own slot's alone) holds d, its items stand still -/
def OwnAt (Hs H : Hp) (p : Addr) : D → Prop
  | .lst ds => ∃ vs, H p = some (.lst vs) ∧ RepDs K mg r Hs vs ds
  | .dic ds => (∃ kvs : List (Key × V), H p = some (.dK kvs) ∧ RepP K mg r Hs (kvs.map fun q => (keyD q.1, q.2)) ds) ∨
      ∃ kvs : List (List Key × V), H p = some (.dT kvs) ∧ RepP K mg r Hs (kvs.map fun q => (keyT q.1, q.2)) ds
  | _ => False
/-- as RepD; the topmost object may be one that changes -/
def RepT (Hs H : Hp) (v : V) (d : D) : Prop := RepD K mg r Hs v d ∨ ∃ p, v = .ref p ∧ p ≠ r ∧ OwnAt K mg r Hs H p d
structure Rel (O : List Nat) (Hs0 H0 Hs H : Hp) (σ : L2.St) (env : DEnv) (tp : List D) : Prop where
  wd : Wd K mg r Hs H tp
  gr : Grow r Hs0 H0 Hs H
  len : σ.length = env.length
  vars : ∀ i d, env[i]? = some (some d) → i ∉ O → ∃ v, σ[i]? = some (some v) ∧ RepD K mg r Hs v d
  own : ∀ i, i ∈ O → ∃ d p, env[i]? = some (some d) ∧ σ[i]? = some (some (.ref p)) ∧ Hs p = none ∧ H0 p = none ∧ p ≠ r ∧ OwnAt K mg r Hs H p d
  dis : ∀ i j p, i ∈ O → j ∈ O → σ[i]? = some (some (.ref p)) → σ[j]? = some (some (.ref p)) → i = j
end
section
variable {K : PySem.W.Frag} {mg : Str → Option Value} {r : Addr} {Hs0 H0 Hs Hs' H H' : Hp} {O : List Nat} {σ : L2.St} {env : DEnv} {tp tp' : List D} {p : Addr} {d : D} {v : V}
theorem RepP.mono' (e : Same Hs Hs') {a : List (D × V)} {b : List (D × D)} (h : RepP K mg r Hs a b) : RepP K mg r Hs' a b := RepP.mono e h
theorem OwnAt.grow (h : OwnAt K mg r Hs H p d) (e : Same Hs Hs') (k : ∀ o, H p = some o → H' p = some o) : OwnAt K mg r Hs' H' p d := by
  cases d with
  | lst ds => obtain ⟨vs, a, b⟩ := h; exact ⟨vs, k _ a, b.mono e⟩
  | dic ds =>
    rcases h with ⟨kvs, a, b⟩ | ⟨kvs, a, b⟩
    · exact .inl ⟨kvs, k _ a, RepP.mono e b⟩
    · exact .inr ⟨kvs, k _ a, RepP.mono e b⟩
  | _ => exact h.elim
theorem OwnAt.there (h : OwnAt K mg r Hs H p d) : ∃ o, H p = some o := by
  cases d with
  | lst ds => obtain ⟨vs, a, b⟩ := h; exact ⟨_, a⟩
  | dic ds =>
    rcases h with ⟨kvs, a, b⟩ | ⟨kvs, a, b⟩
    · exact ⟨_, a⟩
    · exact ⟨_, a⟩
  | _ => exact h.elim
/-- an owned object comes to stand still -/
theorem OwnAt.rep (h : OwnAt K mg r Hs H p d) (e : Same Hs Hs') (k : ∀ o, H p = some o → Hs' p = some o) : RepD K mg r Hs' (.ref p) d := by
  cases d with
  | lst ds => obtain ⟨vs, a, b⟩ := h; exact .lst (k _ a) (b.mono e)
  | dic ds =>
    rcases h with ⟨kvs, a, b⟩ | ⟨kvs, a, b⟩
    · exact .dicK (k _ a) (RepP.mono e b)
    · exact .dicT (k _ a) (RepP.mono e b)
  | _ => exact h.elim
theorem RepT.grow (h : RepT K mg r Hs H v d) (g : Grow r Hs H Hs' H') : RepT K mg r Hs' H' v d := by
  rcases h with h | ⟨p, e, n, h⟩
  · exact .inl (h.mono g.ex)
  · exact .inr ⟨p, e, n, h.grow g.ex fun o q => g.keep p o q n⟩
theorem RepD.top (h : RepD K mg r Hs v d) : RepT K mg r Hs H v d := .inl h
theorem Rel.grow (R : Rel K mg r O Hs0 H0 Hs H σ env tp) (g : Grow r Hs H Hs' H') (w : Wd K mg r Hs' H' tp') : Rel K mg r O Hs0 H0 Hs' H' σ env tp' where
  wd := w
  gr := R.gr.trans g
  len := R.len
  vars := fun i d e n => by
    obtain ⟨v, a, b⟩ := R.vars i d e n
    exact ⟨v, a, b.mono g.ex⟩
  own := fun i hi => by
    obtain ⟨d, p, a, b, c, c0, n, o⟩ := R.own i hi
    refine ⟨d, p, a, b, ?_, c0, n, o.grow g.ex fun u q => g.keep p u q n⟩
    cases z : Hs' p with
    | none => rfl
    | some u =>
      rcases g.new p u n z with q | q
      · rw [c] at q; cases q
      · obtain ⟨u', q'⟩ := o.there
        rw [q] at q'; cases q'
  dis := R.dis
end

/-! ### judgements -/
section
variable (K : PySem.W.Frag) (mg : Str → Option Value) (r : Addr) (X : Cx) (O : List Nat) (E : XK)
abbrev PostE : Hp → Hp → RE D → VK → Prop := Post K mg r (fun Hs _ v d => RepD K mg r Hs v d) E
abbrev PostO : Hp → Hp → RE D → VK → Prop := Post K mg r (fun Hs H v d => RepT K mg r Hs H v d) E
abbrev PostB : Hp → Hp → RE Bool → (Bool → Hp → Prop) → Prop := Post K mg r (fun _ _ (a b : Bool) => a = b) E
abbrev PostA : Hp → Hp → RE (List D) → (List V → Hp → Prop) → Prop := Post K mg r (fun Hs _ v d => RepDs K mg r Hs v d) E
abbrev PostAO : Hp → Hp → RE (List D) → (List V → Hp → Prop) → Prop := Post K mg r (fun Hs H v d => Paired (RepT K mg r Hs H) v d) E
/-- the expression e gives what m says -/
structure GE (e : Expr) (t : TE) (m : SE D) : Prop where
  pe : PE X e t
  snd : ∀ Hs0 H0 Hs H σ env tp Q, Rel K mg r O Hs0 H0 Hs H σ env tp → PostE K mg r E Hs H (m env tp) Q → t σ H Q
/-- as GE, the value may be a slot's own object -/
structure GO (e : Expr) (t : TE) (m : SE D) : Prop where
  pe : PE X e t
  snd : ∀ Hs0 H0 Hs H σ env tp Q, Rel K mg r O Hs0 H0 Hs H σ env tp → PostO K mg r E Hs H (m env tp) Q → t σ H Q
structure GT (e : Expr) (t : TT) (m : SE Bool) : Prop where
  pe : PT X e t
  snd : ∀ Hs0 H0 Hs H σ env tp Q, Rel K mg r O Hs0 H0 Hs H σ env tp → PostB K mg r E Hs H (m env tp) Q → t σ H Q
structure GW (e : Expr) (t : TT) (m : SE Bool) : Prop where
  pe : PW X e t
  snd : ∀ Hs0 H0 Hs H σ env tp Q, Rel K mg r O Hs0 H0 Hs H σ env tp → PostB K mg r E Hs H (m env tp) Q → t σ H Q
structure GA (es : List Expr) (t : TA) (m : SE (List D)) : Prop where
  pe : PA X es t
  snd : ∀ Hs0 H0 Hs H σ env tp Q, Rel K mg r O Hs0 H0 Hs H σ env tp → PostA K mg r E Hs H (m env tp) Q → t σ H Q
structure GAO (es : List Expr) (t : TA) (m : SE (List D)) : Prop where
  pe : PA X es t
  snd : ∀ Hs0 H0 Hs H σ env tp Q, Rel K mg r O Hs0 H0 Hs H σ env tp → PostAO K mg r E Hs H (m env tp) Q → t σ H Q
end

section
variable {K : PySem.W.Frag} {mg : Str → Option Value} {r : Addr} {X : Cx} {O : List Nat} {E : XK} {e a b c : Expr} {es : List Expr} {pos : Pos} {t ta tb tc : TE} {tt tu : TT} {ts : TA}

theorem GE.go {m : SE D} (h : GE K mg r X O E e t m) : GO K mg r X O E e t m := by
  obtain ⟨ht, hs⟩ := h
  refine ⟨ht, fun Hs0 H0 Hs H σ env tp Q R P => hs _ _ _ _ _ _ _ _ R ?_⟩
  unfold PostO at P
  cases q : m env tp with
  | ok d tp' =>
    rw [q] at P
    exact fun v Hs' H' g w x => P v Hs' H' g w (.inl x)
  | exn c fs tp' => rw [q] at P; exact P
  | stuck => rw [q] at P; exact P

/-! names and constants -/
def vE (i : Nat) : SE D := fun env tp => match env[i]? with
  | some (some d) => .ok d tp
  | _ => .stuck
def cE (d : D) : SE D := fun _ tp => .ok d tp
theorem ge_var (i : Nat) {x : Str} (hO : i ∉ O := by decide) (hN : X.N[i]? = some x := by rfl) (hv : Vis X.env.scope x := by first | exact Or.inl rfl | exact Or.inr (Or.inl rfl) | exact Or.inr (Or.inr rfl)) (hd : (x == ("__debug__" : Str)) = false := by decide)
    (hcd : (x == ("__classdict__" : Str)) = false := by decide) : GE K mg r X O E (.Name x pos) (tVar i) (vE i) := by
  refine ⟨pe_var hN hv hd hcd, fun Hs0 H0 Hs H σ env tp Q R P => ?_⟩
  unfold vE at P
  split at P
  · rename_i d q
    obtain ⟨v, h1, h2⟩ := R.vars i d q hO
    exact ⟨v, h1, P v Hs H (Grow.refl _ _) R.wd h2⟩
  · exact P.elim
theorem go_own (i : Nat) {x : Str} (hO : i ∈ O := by decide) (hN : X.N[i]? = some x := by rfl) (hv : Vis X.env.scope x := by first | exact Or.inl rfl | exact Or.inr (Or.inl rfl) | exact Or.inr (Or.inr rfl)) (hd : (x == ("__debug__" : Str)) = false := by decide)
    (hcd : (x == ("__classdict__" : Str)) = false := by decide) : GO K mg r X O E (.Name x pos) (tVar i) (vE i) := by
  refine ⟨pe_var hN hv hd hcd, fun Hs0 H0 Hs H σ env tp Q R P => ?_⟩
  obtain ⟨d, p, h1, h2, h3, h4, h5, h6⟩ := R.own i hO
  unfold vE at P
  rw [h1] at P
  exact ⟨_, h2, P _ Hs H (Grow.refl _ _) R.wd (.inr ⟨p, rfl, h5, h6⟩)⟩
theorem ge_c {e : Expr} {v : V} {d : D} (h : PE X e (tC v)) (hr : ∀ Hs, RepD K mg r Hs v d) : GE K mg r X O E e (tC v) (cE d) :=
  ⟨h, fun Hs0 H0 Hs H σ env tp Q R P => P v Hs H (Grow.refl _ _) R.wd (hr Hs)⟩
theorem ge_int {i j pos} : GE K mg r X O E (.Constant (.int i) j pos) (tC (.int i)) (cE (.int i)) := ge_c pe_int fun _ => .int i
theorem ge_bl {i j pos} : GE K mg r X O E (.Constant (.bool i) j pos) (tC (.bl i)) (cE (.bl i)) := ge_c pe_bl fun _ => .bl i
theorem ge_non {j pos} : GE K mg r X O E (.Constant .none j pos) (tC .non) (cE .non) := ge_c pe_non fun _ => .non
theorem ge_str {i j pos} : GE K mg r X O E (.Constant (.str i) j pos) (tC (.str i)) (cE (.str i)) := ge_c pe_str fun _ => .str i
theorem ge_gint {x : Str} {i : Int} (hm : ∃ t, X.mg x = some (.int i t)) (hg : Gl X x := by rfl) (hd : (x == ("__debug__" : Str)) = false := by decide) : GE K mg r X O E (.Name x pos) (tC (.int i)) (cE (.int i)) := by
  obtain ⟨t, hm⟩ := hm
  exact ge_c (v := .int i) (pe_glob hg hm ⟨t, rfl⟩ hd) fun _ => .int i
theorem ge_gstr {x : Str} {i : Str} (hm : ∃ t, X.mg x = some (.str i t)) (hg : Gl X x := by rfl) (hd : (x == ("__debug__" : Str)) = false := by decide) : GE K mg r X O E (.Name x pos) (tC (.str i)) (cE (.str i)) := by
  obtain ⟨t, hm⟩ := hm
  exact ge_c (v := .str i) (pe_glob hg hm ⟨t, rfl⟩ hd) fun _ => .str i
theorem ge_gfn {x : Str} {f : Addr} (hm : X.mg x = some (.ref f)) (hmg : X.mg = mg := by rfl) (hg : Gl X x := by rfl) (hd : (x == ("__debug__" : Str)) = false := by decide) : GE K mg r X O E (.Name x pos) (tC (.ref f)) (cE (.fn x)) :=
  ge_c (v := .ref f) (pe_glob hg hm rfl hd) fun _ => .fn (hmg ▸ hm)

/-! argument lists -/
def nilA : SE (List D) := fun _ tp => .ok [] tp
def consA (m : SE D) (ms : SE (List D)) : SE (List D) := fun env tp => (m env tp).bind fun d tp1 => (ms env tp1).bind fun ds tp2 => .ok (d :: ds) tp2
theorem ga_nil : GA K mg r X O E [] tNil nilA := ⟨pa_nil, fun Hs0 H0 Hs H σ env tp Q R P => P [] Hs H (Grow.refl _ _) R.wd .nil⟩
theorem gao_nil : GAO K mg r X O E [] tNil nilA := ⟨pa_nil, fun Hs0 H0 Hs H σ env tp Q R P => P [] Hs H (Grow.refl _ _) R.wd .nil⟩
theorem ga_cons {m : SE D} {ms : SE (List D)} (h : GE K mg r X O E e t m) (hs : GA K mg r X O E es ts ms) (hst : starEach (e :: es) X.env = (false, eval e X.env) :: starEach es X.env := by rfl) : GA K mg r X O E (e :: es) (tCons t ts) (consA m ms) := by
  obtain ⟨ht, h1⟩ := h
  obtain ⟨hts, h2⟩ := hs
  refine ⟨pa_cons ht hts hst, fun Hs0 H0 Hs H σ env tp Q R P => ?_⟩
  refine h1 _ _ _ _ _ _ _ _ R (Post.bind P fun v Hs1 H1 d tp1 _ g w rv P1 => ?_)
  refine h2 _ _ _ _ _ _ _ _ (R.grow g w) (Post.bind P1 fun vs Hs2 H2 ds tp2 _ g2 w2 rs P2 => ?_)
  exact P2 _ Hs2 H2 (Grow.refl _ _) w2 (.cons (rv.mono g2.ex) rs)
theorem paired_grow {Hs H Hs' H' : Hp} (g : Grow r Hs H Hs' H') {vs : List V} {ds : List D} (h : Paired (RepT K mg r Hs H) vs ds) : Paired (RepT K mg r Hs' H') vs ds := Paired.mapP h fun _ _ q => q.grow g
theorem gao_cons {m : SE D} {ms : SE (List D)} (h : GO K mg r X O E e t m) (hs : GAO K mg r X O E es ts ms) (hst : starEach (e :: es) X.env = (false, eval e X.env) :: starEach es X.env := by rfl) : GAO K mg r X O E (e :: es) (tCons t ts) (consA m ms) := by
  obtain ⟨ht, h1⟩ := h
  obtain ⟨hts, h2⟩ := hs
  refine ⟨pa_cons ht hts hst, fun Hs0 H0 Hs H σ env tp Q R P => ?_⟩
  refine h1 _ _ _ _ _ _ _ _ R (Post.bind P fun v Hs1 H1 d tp1 _ g w rv P1 => ?_)
  refine h2 _ _ _ _ _ _ _ _ (R.grow g w) (Post.bind P1 fun vs Hs2 H2 ds tp2 _ g2 w2 rs P2 => ?_)
  exact P2 _ Hs2 H2 (Grow.refl _ _) w2 (.cons (rv.grow g2) rs)

/-! a fresh object that may still change -/
def Fresh (K : PySem.W.Frag) (mg : Str → Option Value) (r : Addr) (Hb : Hp) (Hs H : Hp) (v : V) (d : D) : Prop := ∃ p, v = .ref p ∧ Hb p = none ∧ Hs p = none ∧ p ≠ r ∧ OwnAt K mg r Hs H p d
structure GF (K : PySem.W.Frag) (mg : Str → Option Value) (r : Addr) (X : Cx) (O : List Nat) (E : XK) (e : Expr) (t : TE) (m : SE D) : Prop where
  pe : PE X e t
  snd : ∀ Hs0 H0 Hs H σ env tp Q, Rel K mg r O Hs0 H0 Hs H σ env tp → Post K mg r (Fresh K mg r H) E Hs H (m env tp) Q → t σ H Q
/-- it comes to stand still -/
theorem freeze_fresh {Hb Hs H : Hp} {tp : List D} {v : V} {d : D} (w : Wd K mg r Hs H tp) (h : Fresh K mg r Hb Hs H v d) : ∃ Hs', Same Hs Hs' ∧ Wd K mg r Hs' H tp ∧ RepD K mg r Hs' v d ∧ (∀ b o, Hs' b = some o → Hs b = some o ∨ Hb b = none) := by
  obtain ⟨p, rfl, hb, hs, ne, oa⟩ := h
  obtain ⟨o, ho⟩ := oa.there
  have e : Same Hs (upd Hs p o) := same_new hs
  refine ⟨upd Hs p o, e, ⟨fun b u q => ?_, by rw [upd_ne ne.symm]; exact w.tn, ?_⟩, oa.rep e (fun u q => ?_), fun b u q => ?_⟩
  · by_cases z : b = p
    · subst z; rw [upd_same] at q; rw [← q]; exact ho
    · rw [upd_ne z] at q; exact w.sub b u q
  · obtain ⟨vs, a, b⟩ := w.tH
    exact ⟨vs, a, b.mono e⟩
  · rw [ho] at q; cases q; exact upd_same
  · by_cases z : b = p
    · subst z; exact .inr hb
    · rw [upd_ne z] at q; exact .inl q
theorem GF.ge {m : SE D} (h : GF K mg r X O E e t m) : GE K mg r X O E e t m := by
  obtain ⟨ht, hs⟩ := h
  refine ⟨ht, fun Hs0 H0 Hs H σ env tp Q R P => hs _ _ _ _ _ _ _ _ R ?_⟩
  unfold PostE at P
  cases q : m env tp with
  | ok d tp' =>
    rw [q] at P
    intro v Hs' H' g w x
    obtain ⟨Hs2, e, w2, rv, nw⟩ := freeze_fresh w x
    refine P v Hs2 H' ⟨g.keep, g.ex.trans e, fun b o n z => ?_⟩ w2 rv
    rcases nw b o z with z | z
    · exact g.new b o n z
    · exact .inr z
  | exn c fs tp' => rw [q] at P; exact P
  | stuck => rw [q] at P; exact P

/-! displays -/
def tupE (ms : SE (List D)) : SE D := fun env tp => (ms env tp).bind fun ds tp1 => if ds.length ≤ sizeLine then .ok (.tup ds) tp1 else .stuck
def lstE (ms : SE (List D)) : SE D := fun env tp => (ms env tp).bind fun ds tp1 => if ds.length ≤ sizeLine then .ok (.lst ds) tp1 else .stuck
theorem ge_tup {ms : SE (List D)} {x1} (hs : GA K mg r X O E es ts ms) : GE K mg r X O E (.Tuple es x1 pos) (tTup ts) (tupE ms) := by
  obtain ⟨hts, h2⟩ := hs
  refine ⟨pe_tup hts, fun Hs0 H0 Hs H σ env tp Q R P => ?_⟩
  refine h2 _ _ _ _ _ _ _ _ R (Post.bind P fun vs Hs1 H1 ds tp1 _ g w rs P1 => ?_)
  by_cases q : ds.length ≤ sizeLine
  · rw [if_pos q] at P1
    refine ⟨by rw [rs.length]; exact q, fun p hp => ?_⟩
    obtain ⟨g2, w2⟩ := w.alloc (o := .tup vs) hp
    exact P1 _ _ _ g2 w2 (.tup upd_same (rs.mono g2.ex))
  · rw [if_neg q] at P1; exact P1.elim
/-- what a new object at p gives to a wish of a fresh one -/
theorem fresh_new {Hs H Hs1 H1 : Hp} {p : Addr} {o : HO} {tp : List D} {d : D} (g : Grow r Hs H Hs1 H1) (w : Wd K mg r Hs1 H1 tp) (hp : H1 p = none) (ho : OwnAt K mg r Hs1 (upd H1 p o) p d) :
    Grow r Hs H Hs1 (upd H1 p o) ∧ Wd K mg r Hs1 (upd H1 p o) tp ∧ Fresh K mg r H Hs1 (upd H1 p o) (.ref p) d := by
  obtain ⟨g2, w2⟩ := w.lay (o := o) hp
  obtain ⟨f1, f2⟩ := w.fresh hp
  refine ⟨g.trans g2, w2, p, rfl, ?_, f1, f2, ho⟩
  cases z : H p with
  | none => rfl
  | some u => rw [g.keep p u z f2] at hp; cases hp
theorem gf_lst {ms : SE (List D)} (hs : GA K mg r X O E es ts ms) : GF K mg r X O E (.List es pos) (tLst ts) (lstE ms) := by
  obtain ⟨hts, h2⟩ := hs
  refine ⟨pe_lst hts, fun Hs0 H0 Hs H σ env tp Q R P => ?_⟩
  unfold lstE at P
  refine h2 _ _ _ _ _ _ _ _ R ?_
  cases q : ms env tp with
  | ok ds tp1 =>
    rw [q] at P
    intro vs Hs1 H1 g w rs
    by_cases q : ds.length ≤ sizeLine
    · simp only [RE.bind_ok, if_pos q] at P
      refine ⟨by rw [rs.length]; exact q, fun p hp => ?_⟩
      obtain ⟨a, b, c⟩ := fresh_new (o := .lst vs) (d := .lst ds) g w hp ⟨vs, upd_same, rs⟩
      exact P _ _ _ a b c
    · simp only [RE.bind_ok, if_neg q] at P; exact P.elim
  | exn c fs tp1 => rw [q] at P; exact P
  | stuck => rw [q] at P; exact P
theorem ge_lst {ms : SE (List D)} (hs : GA K mg r X O E es ts ms) : GE K mg r X O E (.List es pos) (tLst ts) (lstE ms) := (gf_lst hs).ge

/-! operators, by what they do to data -/
def OpS (K : PySem.W.Frag) (mg : Str → Option Value) (r : Addr) (R : R2) (f : D → D → Option D) : Prop := ∀ Hs H tp x y d e z Q, Wd K mg r Hs H tp → RepT K mg r Hs H x d → RepT K mg r Hs H y e → f d e = some z →
  (∀ v Hs' H', Grow r Hs H Hs' H' → Wd K mg r Hs' H' tp → RepD K mg r Hs' v z → Q v H') → R x y H Q
def binE (f : D → D → Option D) (ma mb : SE D) : SE D := fun env tp => (ma env tp).bind fun d tp1 => (mb env tp1).bind fun e tp2 => RE.of (f d e) tp2
theorem bin_sound {R : R2} {f : D → D → Option D} {ma mb : SE D} {ta tb : TE} (hf : OpS K mg r R f) (h1 : ∀ Hs0 H0 Hs H σ env tp Q, Rel K mg r O Hs0 H0 Hs H σ env tp → PostO K mg r E Hs H (ma env tp) Q → ta σ H Q)
    (h2 : ∀ Hs0 H0 Hs H σ env tp Q, Rel K mg r O Hs0 H0 Hs H σ env tp → PostO K mg r E Hs H (mb env tp) Q → tb σ H Q) :
    ∀ Hs0 H0 Hs H σ env tp Q, Rel K mg r O Hs0 H0 Hs H σ env tp → PostE K mg r E Hs H (binE f ma mb env tp) Q → tOp R ta tb σ H Q := by
  intro Hs0 H0 Hs H σ env tp Q Rl P
  refine h1 _ _ _ _ _ _ _ _ Rl (Post.bind P fun v Hs1 H1 d tp1 _ g w rv P1 => ?_)
  refine h2 _ _ _ _ _ _ _ _ (Rl.grow g w) (Post.bind P1 fun u Hs2 H2 e tp2 _ g2 w2 ru P2 => ?_)
  obtain ⟨z, hz, k⟩ := Post.ok_of P2
  exact hf _ _ _ _ _ _ _ _ _ w2 (rv.grow g2) ru hz k
theorem ge_op {op : Operator} {R : R2} {f : D → D → Option D} {ma mb : SE D} (ho : OpR X (binaryOp op) R) (hf : OpS K mg r R f) (ha : GO K mg r X O E a ta ma) (hb : GO K mg r X O E b tb mb) : GE K mg r X O E (.BinOp a op b pos) (tOp R ta tb) (binE f ma mb) :=
  ⟨pe_op ho ha.pe hb.pe, bin_sound hf ha.snd hb.snd⟩
theorem ge_cmp {op : CmpOp} {R : R2} {f : D → D → Option D} {ma mb : SE D} (ho : OpR X (compareOp op) R) (hf : OpS K mg r R f) (ha : GO K mg r X O E a ta ma) (hb : GO K mg r X O E b tb mb) (hm : behindInMarks op b = false) : GE K mg r X O E (.Compare a [op] [b] pos) (tOp R ta tb) (binE f ma mb) :=
  ⟨pe_cmpR ho ha.pe hb.pe hm, bin_sound hf ha.snd hb.snd⟩
/-- two rules for one operator: f is told by the one or the other -/
theorem OpS.or {R R' : R2} {f f1 f2 : D → D → Option D} (h : OpS K mg r R f1) (h' : OpS K mg r R' f2) (hf : ∀ d e z, f d e = some z → f1 d e = some z ∨ f2 d e = some z) : OpS K mg r (fun x y H Q => R x y H Q ∨ R' x y H Q) f := by
  intro Hs H tp x y d e z Q w rx ry hz k
  rcases hf d e z hz with q | q
  · exact .inl (h Hs H tp x y d e z Q w rx ry q k)
  · exact .inr (h' Hs H tp x y d e z Q w rx ry q k)
/-! a chain of two comparisons -/
def chainE (f g : D → D → Option D) (ma mb mc : SE D) : SE D := fun env tp => (ma env tp).bind fun d tp1 => (mb env tp1).bind fun e tp2 => match f d e with
  | some (.bl true) => (mc env tp2).bind fun c tp3 => RE.of (g e c) tp3
  | some (.bl false) => .ok (.bl false) tp2
  | _ => .stuck

theorem chain_sound {R R' : R2} {f g : D → D → Option D} {ma mb mc : SE D} (hf : OpS K mg r R f) (hg : OpS K mg r R' g) (ha : GO K mg r X O E a ta ma) (hb : GO K mg r X O E b tb mb) (hc : GO K mg r X O E c tc mc) :
    ∀ Hs0 H0 Hs H σ env tp Q, Rel K mg r O Hs0 H0 Hs H σ env tp → PostE K mg r E Hs H (chainE f g ma mb mc env tp) Q → tChain R R' ta tb tc σ H Q := by
  intro Hs0 H0 Hs H σ env tp Q Rl P
  refine ha.snd _ _ _ _ _ _ _ _ Rl (Post.bind P fun v Hs1 H1 d tp1 _ g1 w rv P1 => ?_)
  refine hb.snd _ _ _ _ _ _ _ _ (Rl.grow g1 w) (Post.bind P1 fun u Hs2 H2 e tp2 _ g2 w2 ru P2 => ?_)
  cases q : f d e with
  | none => rw [q] at P2; exact P2.elim
  | some z =>
    rw [q] at P2
    refine hf _ _ _ _ _ _ _ _ _ w2 (rv.grow g2) ru q fun y Hs3 H3 g3 w3 ry => ?_
    have P3 := Post.shift g3 P2
    cases z with
    | bl k =>
      cases ry
      refine ⟨k, rfl, ?_⟩
      cases k with
      | false => exact iteF (P3 _ Hs3 H3 (Grow.refl _ _) w3 (.bl _))
      | true =>
        refine iteT (hc.snd _ _ _ _ _ _ _ _ (Rl.grow ((g1.trans g2).trans g3) w3) (Post.bind P3 fun x Hs4 H4 c tp4 _ g4 w4 rx P4 => ?_))
        obtain ⟨z, hz, k⟩ := Post.ok_of P4
        exact hg _ _ _ _ _ _ _ _ _ w4 ((ru.grow g3).grow g4) rx hz k
    | _ => exact P3.elim
theorem ge_chain {op op' : CmpOp} {R R' : R2} {f g : D → D → Option D} {ma mb mc : SE D} (ho : OpR X (compareOp op) R) (ho' : OpR X (compareOp op') R') (hf : OpS K mg r R f) (hg : OpS K mg r R' g) (ha : GO K mg r X O E a ta ma) (hb : GO K mg r X O E b tb mb) (hc : GO K mg r X O E c tc mc)
    (hm : lastMarks [op, op'] [b, c] = false := by with_unfolding_all rfl) : GE K mg r X O E (.Compare a [op, op'] [b, c] pos) (tChain R R' ta tb tc) (chainE f g ma mb mc) :=
  ⟨pe_chain ho ho' ha.pe hb.pe hc.pe hm, chain_sound hf hg ha hb hc⟩
/-! a subscript -/
theorem ge_ix {R : R2} {f : D → D → Option D} {ma mb : SE D} (ho : IxR X R) (hf : OpS K mg r R f) (ha : GO K mg r X O E a ta ma) (hb : GO K mg r X O E b tb mb) (hs : PlainIx b := by exact fun _ _ => rfl) : GE K mg r X O E (.Subscript a b pos) (tOp R ta tb) (binE f ma mb) :=
  ⟨pe_ix ho ha.pe hb.pe hs, bin_sound hf ha.snd hb.snd⟩

/-! one-place -/
def UnS (K : PySem.W.Frag) (mg : Str → Option Value) (r : Addr) (R : V → Hp → VK → Prop) (f : D → Option D) : Prop := ∀ Hs H tp x d z Q, Wd K mg r Hs H tp → RepT K mg r Hs H x d → f d = some z →
  (∀ v Hs' H', Grow r Hs H Hs' H' → Wd K mg r Hs' H' tp → RepD K mg r Hs' v z → Q v H') → R x H Q
def unE (f : D → Option D) (ma : SE D) : SE D := fun env tp => (ma env tp).bind fun d tp1 => RE.of (f d) tp1
theorem ge_un {op : UnaryOp} {R : V → Hp → VK → Prop} {f : D → Option D} {ma : SE D} (ho : UnR X (unaryOp op) R) (hf : UnS K mg r R f) (ha : GO K mg r X O E a ta ma) : GE K mg r X O E (.UnaryOp op a pos) (tUn R ta) (unE f ma) := by
  refine ⟨pe_un ho ha.pe, fun Hs0 H0 Hs H σ env tp Q Rl P => ?_⟩
  refine ha.snd _ _ _ _ _ _ _ _ Rl (Post.bind P fun v Hs1 H1 d tp1 _ g w rv P1 => ?_)
  obtain ⟨z, hz, k⟩ := Post.ok_of P1
  exact hf _ _ _ _ _ _ _ w rv hz k

/-! calls of built-ins -/
def CallS (K : PySem.W.Frag) (mg : Str → Option Value) (r : Addr) (R : List V → Hp → VK → Prop) (f : List D → Option D) : Prop := ∀ Hs H tp xs ds z Q, Wd K mg r Hs H tp → Paired (RepT K mg r Hs H) xs ds → f ds = some z →
  (∀ v Hs' H', Grow r Hs H Hs' H' → Wd K mg r Hs' H' tp → RepD K mg r Hs' v z → Q v H') → R xs H Q
def callB (f : List D → Option D) (ms : SE (List D)) : SE D := fun env tp => (ms env tp).bind fun ds tp1 => RE.of (f ds) tp1
theorem callB_sound {R : List V → Hp → VK → Prop} {f : List D → Option D} {ms : SE (List D)} (hf : CallS K mg r R f) (h2 : ∀ Hs0 H0 Hs H σ env tp Q, Rel K mg r O Hs0 H0 Hs H σ env tp → PostAO K mg r E Hs H (ms env tp) Q → ts σ H Q) :
    ∀ Hs0 H0 Hs H σ env tp Q, Rel K mg r O Hs0 H0 Hs H σ env tp → PostE K mg r E Hs H (callB f ms env tp) Q → tCB R ts σ H Q := by
  intro Hs0 H0 Hs H σ env tp Q Rl P
  refine h2 _ _ _ _ _ _ _ _ Rl (Post.bind P fun v Hs1 H1 d tp1 _ g w rv P1 => ?_)
  obtain ⟨z, hz, k⟩ := Post.ok_of P1
  exact hf _ _ _ _ _ _ _ w rv hz k
theorem ge_callB {x : Str} {id : String} {p : Pos} {R : List V → Hp → VK → Prop} {f : List D → Option D} {ms : SE (List D)} (hc : CallR X (.builtin id) R) (hf : CallS K mg r R f) (hm : X.mg x = none) (ha : GAO K mg r X O E (e :: es) ts ms) (hg : Gl X x := by rfl)
    (hv : bootBuiltins x = some (.builtin id) := by decide +kernel) (hn : x ≠ "__name__" := by decide) (hdb : (x == ("__debug__" : Str)) = false := by decide)
    (he : starEach (e :: es) X.env = (false, eval e X.env) :: starEach es X.env := by rfl) (hpl : (backTo pos (starEach es X.env)).any (·.1) = false := by rfl) : GE K mg r X O E (.Call (.Name x p) (e :: es) [] pos) (tCB R ts) (callB f ms) :=
  ⟨pe_callB hc hg hm hv ha.pe hn hdb he hpl, callB_sound hf ha.snd⟩
theorem ge_callTy {x : Str} {T : String} {p : Pos} {R : List V → Hp → VK → Prop} {f : List D → Option D} {ms : SE (List D)} (hc : CallR X (.type T) R) (hf : CallS K mg r R f) (hm : X.mg x = none) (ha : GAO K mg r X O E (e :: es) ts ms) (hg : Gl X x := by rfl)
    (hv : bootBuiltins x = some (.type T) := by decide +kernel) (hn : x ≠ "__name__" := by decide) (hdb : (x == ("__debug__" : Str)) = false := by decide)
    (he : starEach (e :: es) X.env = (false, eval e X.env) :: starEach es X.env := by rfl) (hpl : (backTo pos (starEach es X.env)).any (·.1) = false := by rfl) : GE K mg r X O E (.Call (.Name x p) (e :: es) [] pos) (tCB R ts) (callB f ms) :=
  ⟨pe_callTy hc hg hm hv ha.pe hn hdb he hpl, callB_sound hf ha.snd⟩
theorem CallS.or {R R' : List V → Hp → VK → Prop} {f f1 f2 : List D → Option D} (h : CallS K mg r R f1) (h' : CallS K mg r R' f2) (hf : ∀ d z, f d = some z → f1 d = some z ∨ f2 d = some z) : CallS K mg r (fun x H Q => R x H Q ∨ R' x H Q) f := by
  intro Hs H tp xs ds z Q w rx hz k
  rcases hf ds z hz with q | q
  · exact .inl (h Hs H tp xs ds z Q w rx q k)
  · exact .inr (h' Hs H tp xs ds z Q w rx q k)

/-! tests -/
def isB : D → Option Bool
  | .bl b => some b
  | _ => none
def boolE (m : SE D) : SE Bool := fun env tp => (m env tp).bind fun d tp1 => RE.of (isB d) tp1
def truD : D → Option Bool
  | .non => some false
  | .bl b => some b
  | .int i => some (i != 0)
  | .lst xs => some (!xs.isEmpty)
  | .tup xs => some (!xs.isEmpty)
  | _ => none
theorem repT_bl {Hs H : Hp} {v : V} {b : Bool} (h : RepT K mg r Hs H v (.bl b)) : v = .bl b := by
  rcases h with h | ⟨p, _, _, h⟩
  · cases h; rfl
  · exact h.elim
theorem repT_int {Hs H : Hp} {v : V} {b : Int} (h : RepT K mg r Hs H v (.int b)) : v = .int b := by
  rcases h with h | ⟨p, _, _, h⟩
  · cases h; rfl
  · exact h.elim
theorem repT_str {Hs H : Hp} {v : V} {b : Str} (h : RepT K mg r Hs H v (.str b)) : v = .str b := by
  rcases h with h | ⟨p, _, _, h⟩
  · cases h; rfl
  · exact h.elim
theorem repT_non {Hs H : Hp} {v : V} (h : RepT K mg r Hs H v .non) : v = .non := by
  rcases h with h | ⟨p, _, _, h⟩
  · cases h; rfl
  · exact h.elim
theorem repT_lst {Hs H : Hp} {tp : List D} {v : V} {ds : List D} (w : Wd K mg r Hs H tp) (h : RepT K mg r Hs H v (.lst ds)) : ∃ p vs, v = .ref p ∧ H p = some (.lst vs) ∧ RepDs K mg r Hs vs ds := by
  rcases h with h | ⟨p, e, _, vs, a, b⟩
  · cases h with
    | lst a b => exact ⟨_, _, rfl, w.sub _ _ a, b⟩
  · exact ⟨p, vs, e, a, b⟩
theorem repT_tup {Hs H : Hp} {tp : List D} {v : V} {ds : List D} (w : Wd K mg r Hs H tp) (h : RepT K mg r Hs H v (.tup ds)) : ∃ p vs, v = .ref p ∧ Hs p = some (.tup vs) ∧ H p = some (.tup vs) ∧ RepDs K mg r Hs vs ds := by
  rcases h with h | ⟨p, e, _, a⟩
  · cases h with
    | tup a b => exact ⟨_, _, rfl, a, w.sub _ _ a, b⟩
  · exact a.elim
theorem repT_scr {Hs H : Hp} {tp : List D} {v : V} {ns : List Int} (w : Wd K mg r Hs H tp) (h : RepT K mg r Hs H v (.scr ns)) : ∃ p, v = .ref p ∧ SqL K H p (ns.map V.int) := by
  rcases h with h | ⟨p, e, _, a⟩
  · cases h with
    | scr a => exact ⟨_, rfl, Same.seq w.sub a⟩
  · exact a.elim
theorem repT_tape {Hs H : Hp} {v : V} (h : RepT K mg r Hs H v .tape) : v = .ref r := by
  rcases h with h | ⟨p, e, _, a⟩
  · cases h; rfl
  · exact a.elim

theorem boolE_sound {t : TE} {m : SE D} (h1 : ∀ Hs0 H0 Hs H σ env tp Q, Rel K mg r O Hs0 H0 Hs H σ env tp → PostE K mg r E Hs H (m env tp) Q → t σ H Q) :
    ∀ Hs0 H0 Hs H σ env tp Q, Rel K mg r O Hs0 H0 Hs H σ env tp → PostB K mg r E Hs H (boolE m env tp) Q → t σ H (fun x H1 => ∃ c, x = .bl c ∧ Q c H1) := by
  intro Hs0 H0 Hs H σ env tp Q Rl P
  refine h1 _ _ _ _ _ _ _ _ Rl (Post.bind P fun v Hs1 H1 d tp1 _ g w rv P1 => ?_)
  obtain ⟨z, hz, k⟩ := Post.ok_of P1
  cases d with
  | bl b =>
    cases hz; cases rv
    exact ⟨_, rfl, k _ Hs1 H1 (Grow.refl _ _) w rfl⟩
  | _ => cases hz
theorem gt_val {m : SE D} (h : GE K mg r X O E e t m) (he : ∀ whole, isTrue e X.env whole = (do let v ← whole; standAt e.pos; holding [v] (truthy v)) := by intro _; rfl) : GT K mg r X O E e (tB t) (boolE m) :=
  ⟨pt_val h.pe he, boolE_sound h.snd⟩
theorem gt_cmp {op : CmpOp} {R : R2} {f : D → D → Option D} {ma mb : SE D} (ho : OpR X (compareOp op) R) (hf : OpS K mg r R f) (ha : GO K mg r X O E a ta ma) (hb : GO K mg r X O E b tb mb) (hm : behindInMarks op b = false) : GT K mg r X O E (.Compare a [op] [b] pos) (tTest (tOp R ta tb)) (boolE (binE f ma mb)) :=
  ⟨pt_cmpR ho ha.pe hb.pe hm, boolE_sound (bin_sound hf ha.snd hb.snd)⟩
theorem gt_chain {op op' : CmpOp} {R R' : R2} {f g : D → D → Option D} {ma mb mc : SE D} (ho : OpR X (compareOp op) R) (ho' : OpR X (compareOp op') R') (hf : OpS K mg r R f) (hg : OpS K mg r R' g) (ha : GO K mg r X O E a ta ma) (hb : GO K mg r X O E b tb mb) (hc : GO K mg r X O E c tc mc)
    (hm : lastMarks [op, op'] [b, c] = false := by with_unfolding_all rfl) : GT K mg r X O E (.Compare a [op, op'] [b, c] pos) (tTest (tChain R R' ta tb tc)) (boolE (chainE f g ma mb mc)) :=
  ⟨pt_chain ho ho' ha.pe hb.pe hc.pe hm, boolE_sound (chain_sound hf hg ha hb hc)⟩
/-- a test by truth -/
def truE (m : SE D) : SE Bool := fun env tp => (m env tp).bind fun d tp1 => RE.of (truD d) tp1
theorem gt_truth {m : SE D} (h : GO K mg r X O E e t m) (hK : X.K = K := by rfl) (he : ∀ whole, isTrue e X.env whole = (do let v ← whole; standAt e.pos; holding [v] (truthy v)) := by intro _; rfl) : GT K mg r X O E e (fun σ H Q => t σ H fun x H' => ∃ k, TruV K x H' k ∧ Q k H') (truE m) := by
  subst hK
  refine ⟨pt_truth h.pe he, fun Hs0 H0 Hs H σ env tp Q Rl P => ?_⟩
  refine h.snd _ _ _ _ _ _ _ _ Rl (Post.bind P fun v Hs1 H1 d tp1 _ g w rv P1 => ?_)
  obtain ⟨z, hz, k⟩ := Post.ok_of P1
  refine ⟨z, ?_, k _ Hs1 H1 (Grow.refl _ _) w rfl⟩
  cases d with
  | non => cases hz; rw [repT_non rv]; first | rfl | exact rfl
  | bl b => cases hz; rw [repT_bl rv]; first | rfl | exact rfl
  | int b => cases hz; rw [repT_int rv]; first | rfl | exact rfl
  | lst ds =>
    cases hz
    obtain ⟨p, vs, rfl, a, b⟩ := repT_lst w rv
    refine .inl ⟨vs, .of a, ?_⟩
    cases b <;> rfl
  | tup ds =>
    cases hz
    obtain ⟨p, vs, rfl, _, a, b⟩ := repT_tup w rv
    refine .inr (.inl ⟨vs, .of a, ?_⟩)
    cases b <;> rfl
  | _ => cases hz
def notT (m : SE Bool) : SE Bool := fun env tp => (m env tp).bind fun b tp1 => .ok (!b) tp1
def andT (m n : SE Bool) : SE Bool := fun env tp => (m env tp).bind fun b tp1 => if b = true then n env tp1 else .ok false tp1
def orT (m n : SE Bool) : SE Bool := fun env tp => (m env tp).bind fun b tp1 => if b = true then .ok true tp1 else n env tp1
theorem gt_not {m : SE Bool} (h : GT K mg r X O E e tt m) : GT K mg r X O E (.UnaryOp .Not e pos) (tNot tt) (notT m) := by
  refine ⟨pt_not h.pe, fun Hs0 H0 Hs H σ env tp Q Rl P => ?_⟩
  refine h.snd _ _ _ _ _ _ _ _ Rl (Post.bind P fun v Hs1 H1 d tp1 _ g w rv P1 => ?_)
  exact P1 _ Hs1 H1 (Grow.refl _ _) w (by rw [rv])
theorem GW.gt {m : SE Bool} (h : GW K mg r X O E e tt m) : GT K mg r X O E e tt m := ⟨h.pe.pt, h.snd⟩
theorem gw_and1 {m : SE Bool} (h : GT K mg r X O E e tt m) : GW K mg r X O E (.BoolOp .And [e] pos) tt m := ⟨pw_and1 h.pe, h.snd⟩
theorem gw_or1 {m : SE Bool} (h : GT K mg r X O E e tt m) : GW K mg r X O E (.BoolOp .Or [e] pos) tt m := ⟨pw_or1 h.pe, h.snd⟩
theorem gw_and {m n : SE Bool} (h : GT K mg r X O E e tt m) (hb : GW K mg r X O E (.BoolOp .And (b :: es) pos) tu n) : GW K mg r X O E (.BoolOp .And (e :: b :: es) pos) (tAnd tt tu) (andT m n) := by
  refine ⟨pw_and h.pe hb.pe, fun Hs0 H0 Hs H σ env tp Q Rl P => ?_⟩
  refine h.snd _ _ _ _ _ _ _ _ Rl (Post.bind P fun v Hs1 H1 d tp1 _ g w rv P1 => ?_)
  subst rv
  cases v with
  | true => exact iteT (hb.snd _ _ _ _ _ _ _ _ (Rl.grow g w) P1)
  | false => exact iteF (P1 _ Hs1 H1 (Grow.refl _ _) w rfl)
theorem gw_or {m n : SE Bool} (h : GT K mg r X O E e tt m) (hb : GW K mg r X O E (.BoolOp .Or (b :: es) pos) tu n) : GW K mg r X O E (.BoolOp .Or (e :: b :: es) pos) (tOr tt tu) (orT m n) := by
  refine ⟨pw_or h.pe hb.pe, fun Hs0 H0 Hs H σ env tp Q Rl P => ?_⟩
  refine h.snd _ _ _ _ _ _ _ _ Rl (Post.bind P fun v Hs1 H1 d tp1 _ g w rv P1 => ?_)
  subst rv
  cases v with
  | false => exact iteF (hb.snd _ _ _ _ _ _ _ _ (Rl.grow g w) P1)
  | true => exact iteT (P1 _ Hs1 H1 (Grow.refl _ _) w rfl)

/-! and, or, not as values -/
def notE (m : SE D) : SE D := fun env tp => (m env tp).bind fun d tp1 => RE.of ((isB d).map fun b => .bl (!b)) tp1
def andE (m n : SE D) : SE D := fun env tp => (m env tp).bind fun d tp1 => match d with
  | .bl true => n env tp1
  | .bl false => .ok (.bl false) tp1
  | _ => .stuck
def orE (m n : SE D) : SE D := fun env tp => (m env tp).bind fun d tp1 => match d with
  | .bl false => n env tp1
  | .bl true => .ok (.bl true) tp1
  | _ => .stuck
theorem ge_one {op} {m : SE D} (h : GE K mg r X O E e t m) : GE K mg r X O E (.BoolOp op [e] pos) t m := ⟨pe_one h.pe, h.snd⟩
theorem ge_not {m : SE D} (h : GE K mg r X O E e t m) : GE K mg r X O E (.UnaryOp .Not e pos) (tNotV t) (notE m) := by
  refine ⟨pe_not h.pe, fun Hs0 H0 Hs H σ env tp Q Rl P => ?_⟩
  refine h.snd _ _ _ _ _ _ _ _ Rl (Post.bind P fun v Hs1 H1 d tp1 _ g w rv P1 => ?_)
  obtain ⟨z, hz, k⟩ := Post.ok_of P1
  cases d with
  | bl b =>
    cases hz; cases rv
    exact ⟨_, rfl, k _ Hs1 H1 (Grow.refl _ _) w (.bl _)⟩
  | _ => cases hz
theorem ge_and {m n : SE D} (h : GE K mg r X O E e ta m) (hb : GE K mg r X O E (.BoolOp .And (b :: es) pos) tb n) : GE K mg r X O E (.BoolOp .And (e :: b :: es) pos) (tAndV ta tb) (andE m n) := by
  refine ⟨pe_and h.pe hb.pe, fun Hs0 H0 Hs H σ env tp Q Rl P => ?_⟩
  refine h.snd _ _ _ _ _ _ _ _ Rl (Post.bind P fun v Hs1 H1 d tp1 _ g w rv P1 => ?_)
  cases d with
  | bl c =>
    cases rv
    refine ⟨c, rfl, ?_⟩
    cases c with
    | true => exact iteT (hb.snd _ _ _ _ _ _ _ _ (Rl.grow g w) P1)
    | false => exact iteF (P1 _ Hs1 H1 (Grow.refl _ _) w (.bl _))
  | _ => exact P1.elim
theorem ge_or {m n : SE D} (h : GE K mg r X O E e ta m) (hb : GE K mg r X O E (.BoolOp .Or (b :: es) pos) tb n) : GE K mg r X O E (.BoolOp .Or (e :: b :: es) pos) (tOrV ta tb) (orE m n) := by
  refine ⟨pe_or h.pe hb.pe, fun Hs0 H0 Hs H σ env tp Q Rl P => ?_⟩
  refine h.snd _ _ _ _ _ _ _ _ Rl (Post.bind P fun v Hs1 H1 d tp1 _ g w rv P1 => ?_)
  cases d with
  | bl c =>
    cases rv
    refine ⟨c, rfl, ?_⟩
    cases c with
    | false => exact iteF (hb.snd _ _ _ _ _ _ _ _ (Rl.grow g w) P1)
    | true => exact iteT (P1 _ Hs1 H1 (Grow.refl _ _) w (.bl _))
  | _ => exact P1.elim
def ifE (c : SE Bool) (m n : SE D) : SE D := fun env tp => (c env tp).bind fun b tp1 => if b = true then m env tp1 else n env tp1
theorem ge_ifExp {mc : SE Bool} {m n : SE D} (hc : GT K mg r X O E c tt mc) (ha : GE K mg r X O E a ta m) (hb : GE K mg r X O E b tb n) : GE K mg r X O E (.IfExp c a b pos) (tIf tt ta tb) (ifE mc m n) := by
  refine ⟨pe_ifExp hc.pe ha.pe hb.pe, fun Hs0 H0 Hs H σ env tp Q Rl P => ?_⟩
  refine hc.snd _ _ _ _ _ _ _ _ Rl (Post.bind P fun v Hs1 H1 d tp1 _ g w rv P1 => ?_)
  subst rv
  cases v with
  | true => exact iteT (ha.snd _ _ _ _ _ _ _ _ (Rl.grow g w) P1)
  | false => exact iteF (hb.snd _ _ _ _ _ _ _ _ (Rl.grow g w) P1)
end
end G

set_option Elab.async false
set_option linter.all false
set_option maxRecDepth 100000
set_option maxHeartbeats 1000000
/-! G2: operators and built-ins over data. -/
namespace G
open PySem PySem.Spec PyProof.Rows L2
section
variable {r : Addr} {X : Cx} {K : PySem.W.Frag} {mg : Str → Option Value} {Hs H : Hp} {tp : List D}

/-! ### + -/
def addD : D → D → Option D
  | .int i, .int j => some (.int (i + j))
  | .str a, .str b => if a.length + b.length ≤ sizeLine then some (.str (a ++ b)) else none
  | .tup a, .tup b => if a.length + b.length ≤ sizeLine then some (.tup (a ++ b)) else none
  | .lst a, .lst b => if a.length + b.length ≤ sizeLine then some (.lst (a ++ b)) else none
  | _, _ => none
abbrev rAddD (K : PySem.W.Frag) : R2 := fun x y H Q => (∃ i j, x = .int i ∧ y = .int j ∧ Q (.int (i + j)) H) ∨ (∃ i j, x = .str i ∧ y = .str j ∧ i.length + j.length ≤ sizeLine ∧ Q (.str (i ++ j)) H) ∨ rCatA K x y H Q ∨ rCat x y H Q
theorem opr_add : OpR X (binaryOp .Add) (rAddD X.K) := op_add.or (op_add_str.or (op_catA.or op_cat))
theorem ops_add : OpS K mg r (rAddD K) addD := by
  intro Hs H tp x y d e z Q w rx ry hz k
  unfold addD at hz
  split at hz
  · cases hz
    exact .inl ⟨_, _, repT_int rx, repT_int ry, k _ _ _ (Grow.refl _ _) w (.int _)⟩
  · split at hz
    · rename_i c
      cases hz
      exact .inr (.inl ⟨_, _, repT_str rx, repT_str ry, c, k _ _ _ (Grow.refl _ _) w (.str _)⟩)
    · cases hz
  · split at hz
    · rename_i c
      cases hz
      obtain ⟨p, vs, rfl, h1, h1', h2⟩ := repT_tup w rx
      obtain ⟨q, us, rfl, g1, g1', g2⟩ := repT_tup w ry
      refine .inr (.inr (.inl ⟨p, q, vs, us, rfl, rfl, .of h1', .of g1', by rw [h2.length, g2.length]; exact c, fun e => ?_, fun _ e => ?_, fun _ _ a ha => ?_⟩))
      · subst e; cases h2
        exact k _ _ _ (Grow.refl _ _) w (.tup g1 g2)
      · subst e; cases g2
        rw [List.append_nil] at k
        exact k _ _ _ (Grow.refl _ _) w (.tup h1 h2)
      · obtain ⟨g, w'⟩ := w.alloc (o := .tup (vs ++ us)) ha
        exact k _ _ _ g w' (.tup upd_same ((h2.append g2).mono g.ex))
    · cases hz
  · split at hz
    · rename_i c
      cases hz
      obtain ⟨p, vs, rfl, h1, h2⟩ := repT_lst w rx
      obtain ⟨q, us, rfl, g1, g2⟩ := repT_lst w ry
      refine .inr (.inr (.inr ⟨p, q, vs, us, rfl, rfl, h1, g1, by rw [h2.length, g2.length]; exact c, fun a ha => ?_⟩))
      obtain ⟨g, w'⟩ := w.alloc (o := .lst (vs ++ us)) ha
      exact k _ _ _ g w' (.lst upd_same ((h2.append g2).mono g.ex))
    · cases hz
  · cases hz

/-! ### int operators -/
def subD : D → D → Option D
  | .int i, .int j => some (.int (i - j))
  | _, _ => none
theorem ops_sub : OpS K mg r (rI0 fun i j => .int (i - j)) subD := by
  intro Hs H tp x y d e z Q w rx ry hz k
  unfold subD at hz
  split at hz
  · cases hz
    exact ⟨_, _, repT_int rx, repT_int ry, k _ _ _ (Grow.refl _ _) w (.int _)⟩
  · cases hz
def cDiv (j : Int) : Bool := decide (0 < j) && decide (j.natAbs.log2 < 9000)
def fdivD : D → D → Option D
  | .int i, .int j => if cDiv j then some (.int (i / j)) else none
  | _, _ => none
theorem ops_fdiv : OpS K mg r (rI CDivW fun i j => .int (i / j)) fdivD := by
  intro Hs H tp x y d e z Q w rx ry hz k
  unfold fdivD at hz
  split at hz
  · split at hz
    · rename_i c
      cases hz
      have c := Bool.and_eq_true_iff.mp c
      exact ⟨_, _, repT_int rx, repT_int ry, ⟨of_decide_eq_true c.1, of_decide_eq_true c.2⟩, k _ _ _ (Grow.refl _ _) w (.int _)⟩
    · cases hz
  · cases hz
def modD : D → D → Option D
  | .int i, .int j => if 0 < j then some (.int (i % j)) else none
  | _, _ => none
theorem ops_mod : OpS K mg r (rI (fun _ j => 0 < j) fun i j => .int (i % j)) modD := by
  intro Hs H tp x y d e z Q w rx ry hz k
  unfold modD at hz
  split at hz
  · split at hz
    · rename_i c
      cases hz
      exact ⟨_, _, repT_int rx, repT_int ry, c, k _ _ _ (Grow.refl _ _) w (.int _)⟩
    · cases hz
  · cases hz
def cPow (i j : Int) : Bool := decide (0 ≤ j) && (decide (j ≤ 1000000) && decide (i.natAbs < 2 ^ 64))
theorem cPow_ok {i j : Int} (h : cPow i j = true) : CPow i j := by
  have h := Bool.and_eq_true_iff.mp h
  have h2 := Bool.and_eq_true_iff.mp h.2
  exact ⟨of_decide_eq_true h.1, of_decide_eq_true h2.1, of_decide_eq_true h2.2⟩
def powD : D → D → Option D
  | .int i, .int j => if cPow i j then some (.int (i ^ j.toNat)) else none
  | _, _ => none
theorem ops_pow : OpS K mg r (rI CPow fun i j => .int (i ^ j.toNat)) powD := by
  intro Hs H tp x y d e z Q w rx ry hz k
  unfold powD at hz
  split at hz
  · split at hz
    · rename_i c
      cases hz
      exact ⟨_, _, repT_int rx, repT_int ry, cPow_ok c, k _ _ _ (Grow.refl _ _) w (.int _)⟩
    · cases hz
  · cases hz
def shlD : D → D → Option D
  | .int i, .int j => if cPow i j then some (.int (i * 2 ^ j.toNat)) else none
  | _, _ => none
theorem ops_shl : OpS K mg r (rI CPow fun i j => .int (i * 2 ^ j.toNat)) shlD := by
  intro Hs H tp x y d e z Q w rx ry hz k
  unfold shlD at hz
  split at hz
  · split at hz
    · rename_i c
      cases hz
      exact ⟨_, _, repT_int rx, repT_int ry, cPow_ok c, k _ _ _ (Grow.refl _ _) w (.int _)⟩
    · cases hz
  · cases hz
def shrD : D → D → Option D
  | .int i, .int j => if 0 ≤ j then some (.int (i / 2 ^ j.toNat)) else none
  | _, _ => none
theorem ops_shr : OpS K mg r (rI (fun _ j => 0 ≤ j) fun i j => .int (i / 2 ^ j.toNat)) shrD := by
  intro Hs H tp x y d e z Q w rx ry hz k
  unfold shrD at hz
  split at hz
  · split at hz
    · rename_i c
      cases hz
      exact ⟨_, _, repT_int rx, repT_int ry, c, k _ _ _ (Grow.refl _ _) w (.int _)⟩
    · cases hz
  · cases hz
def bandD : D → D → Option D
  | .int i, .int j => some (.int (Builtin.bitAnd i j))
  | _, _ => none
theorem ops_band : OpS K mg r (rI0 fun i j => .int (Builtin.bitAnd i j)) bandD := by
  intro Hs H tp x y d e z Q w rx ry hz k
  unfold bandD at hz
  split at hz
  · cases hz
    exact ⟨_, _, repT_int rx, repT_int ry, k _ _ _ (Grow.refl _ _) w (.int _)⟩
  · cases hz
def negD : D → Option D
  | .int i => some (.int (-i))
  | _ => none
theorem uns_neg : UnS K mg r (rU fun i => .int (-i)) negD := by
  intro Hs H tp x d z Q w rx hz k
  unfold negD at hz
  split at hz
  · cases hz
    exact ⟨_, repT_int rx, k _ _ _ (Grow.refl _ _) w (.int _)⟩
  · cases hz

/-! ### * -/
theorem mulOk_small {x : Str} {n : Int} (h0 : 0 ≤ n) (h : (x.length : Int) * n ≤ 16777216) (h1 : n ≤ 16777216) : MulOk x n := by
  have hm : x.length * n.toNat ≤ 16777216 := by
    obtain ⟨k, rfl⟩ := Int.eq_ofNat_of_zero_le h0
    have : ((x.length * k : Nat) : Int) ≤ 16777216 := by rw [Int.natCast_mul]; exact h
    rw [Int.toNat_natCast]; omega
  refine ⟨by simp only [Bool.or_eq_false_iff, decide_eq_false_iff_not]; omega, fun a b => ?_, fun a b => ?_⟩
  · have h2 : (x.length : Int) ≤ (2 ^ 63 - 1) / n := (Int.le_ediv_iff_mul_le (by omega)).mpr (by omega)
    omega
  · unfold Builtin.Str.tooLong; simp only [decide_eq_false_iff_not]; rw [sizeLine_eq]; omega
theorem op_mul_str : OpR X (binaryOp .Mult) (fun x y H Q => ∃ (a : Str) (n : Int), x = .str a ∧ y = .int n ∧ 0 ≤ n ∧ (a.length : Int) * n ≤ 16777216 ∧ n ≤ 16777216 ∧ Q (.str (Txt.mul a n)) H) := by
  intro pins s σ H x y v u Q I rx ry h
  obtain ⟨a, n, rfl, rfl, h0, h1, h2, q⟩ := h
  obtain ⟨t, rfl⟩ := rx
  obtain ⟨t', rfl⟩ := ry
  exact SB.mul (mulOk_small h0 h1 h2) fun t2 k => ⟨.str _, H, I.tok _, ⟨_, rfl⟩, q⟩
def cMul (i j : Int) : Bool := decide (i.natAbs.log2 + j.natAbs.log2 < 1000000)
def cRep (n : Nat) (k : Int) : Bool := decide (0 ≤ k) && (decide ((n : Int) * k ≤ 16777216) && decide (k ≤ 16777216))
theorem cRep_ok {n : Nat} {k : Int} (h : cRep n k = true) : 0 ≤ k ∧ (n : Int) * k ≤ 16777216 ∧ k ≤ 16777216 := by
  have h := Bool.and_eq_true_iff.mp h
  have h2 := Bool.and_eq_true_iff.mp h.2
  exact ⟨of_decide_eq_true h.1, of_decide_eq_true h2.1, of_decide_eq_true h2.2⟩
/-! a tuple times 1 is the tuple -/
theorem tuple_mul1 (l : Addr) (items : Array Value) (n : Nat) (dd : Option Addr) (sl : Array (Option Value)) (u : Tok) :
    Meets (Builtin.«tuple.__mul__» ⟨[.ref l, .int 1 u], []⟩) (fun _ R s => s.heap.get? l = some { cls := .type "tuple", dict := dd, data := .seq items n, slots := sl } ∧
      R (.ok (.ret (Value.ref l))) s) :=
  .of_wp fun prog w A R s h => by
    obtain ⟨hp, g, d, tk, os⟩ := s
    obtain ⟨hl, h⟩ := h
    have f1 := AutoSeq1.idx_int
    have c1 : (items.isEmpty || (1 : Int) == 1) = true := by simp
    have c0 : (decide ((1 : Int) < -(2 ^ 63)) || decide ((1 : Int) ≥ 2 ^ 63)) = false := by decide
    wp_walk using wpAny_loadPart' hl
    exact ⟨_, rfl, h⟩
def rRepT1 (K : PySem.W.Frag) : R2 := fun x y H Q => ∃ l xs, x = .ref l ∧ y = .int 1 ∧ SqT K H l xs ∧ Q (.ref l) H
theorem op_repT1 {X : Cx} : OpR X (binaryOp .Mult) (rRepT1 X.K) := by
  intro pins s σ H x y v u Q I rx ry h
  obtain ⟨l, xs, rfl, rfl, hT, q⟩ := h
  cases rx
  obtain ⟨t, rfl⟩ := ry
  obtain ⟨its, r, ⟨⟨cls, dd, data, sl⟩, ho, hc, n, hd⟩, hs⟩ := I.tuple hT
  simp only at hc hd
  subst hc hd
  refine wpAny_binaryOp_repeat_ref (T := "tuple") (U := "int") (by decide) ⟨_, ho, rfl⟩ (fun s' => typeIs_int s' 1 t) noFill_tuple_mul F.fills_int_mul F.slot_int_rmul repeat_tuple F.slot_int_index.lookup
    (call_meets F.slot_int_rmul (typeIs_int s 1 t) F.entry_int_rmul (F.args_int_rmul_2 _ _) (int_rmul_tuple 1 t l its.toArray n dd sl)
      ⟨ho, rfl, ⟨_, ho, rfl⟩, call_meets F.slot_tuple_mul ⟨_, ho, rfl⟩ F.entry_tuple_mul (F.args_tuple_mul_2 _ _) (tuple_mul1 l its.toArray n dd sl t) ⟨ho, ?_⟩⟩)
  exact ⟨.ref l, H, I, rfl, q⟩
def cRepT (n : Nat) (k : Int) : Bool := decide (0 < n) && (decide (n ≤ 1000) && (decide (1 ≤ k) && decide (k ≤ 1000)))
theorem cRepT_ok {n : Nat} {k : Int} (h : cRepT n k = true) : 0 < n ∧ n ≤ 1000 ∧ 1 ≤ k ∧ k ≤ 1000 := by
  have h := Bool.and_eq_true_iff.mp h
  have h2 := Bool.and_eq_true_iff.mp h.2
  have h3 := Bool.and_eq_true_iff.mp h2.2
  exact ⟨of_decide_eq_true h.1, of_decide_eq_true h2.1, of_decide_eq_true h3.1, of_decide_eq_true h3.2⟩
def mulD : D → D → Option D
  | .int i, .int j => if cMul i j then some (.int (i * j)) else none
  | .str a, .int n => if cRep a.length n then some (.str (Txt.mul a n)) else none
  | .lst a, .int n => if cRep a.length n then some (.lst (List.replicate n.toNat a).flatten) else none
  | .tup a, .int n => if cRepT a.length n then some (.tup (List.replicate n.toNat a).flatten) else none
  | _, _ => none
abbrev rMulD (K : PySem.W.Frag) : R2 := fun x y H Q => (∃ i j, x = .int i ∧ y = .int j ∧ CMulW i j ∧ Q (.int (i * j)) H) ∨ (∃ (a : Str) (n : Int), x = .str a ∧ y = .int n ∧ 0 ≤ n ∧ (a.length : Int) * n ≤ 16777216 ∧ n ≤ 16777216 ∧ Q (.str (Txt.mul a n)) H) ∨ rRep x y H Q ∨ rRepT K x y H Q ∨ rRepT1 K x y H Q
theorem opr_mul : OpR X (binaryOp .Mult) (rMulD X.K) := op_mulW.or (op_mul_str.or (op_rep.or (op_repT.or op_repT1)))
theorem RepDs.rep {vs : List V} {ds : List D} (h : RepDs K mg r Hs vs ds) : ∀ n : Nat, RepDs K mg r Hs (List.replicate n vs).flatten (List.replicate n ds).flatten
  | 0 => .nil
  | n + 1 => by
    rw [List.replicate_succ, List.replicate_succ, List.flatten_cons, List.flatten_cons]
    exact h.append (RepDs.rep h n)
theorem ops_mul : OpS K mg r (rMulD K) mulD := by
  intro Hs H tp x y d e z Q w rx ry hz k
  unfold mulD at hz
  split at hz
  · split at hz
    · rename_i c
      cases hz
      exact .inl ⟨_, _, repT_int rx, repT_int ry, (show _ < _ from of_decide_eq_true c), k _ _ _ (Grow.refl _ _) w (.int _)⟩
    · cases hz
  · split at hz
    · rename_i c
      cases hz
      have c := cRep_ok c
      exact .inr (.inl ⟨_, _, repT_str rx, repT_int ry, c.1, c.2.1, c.2.2, k _ _ _ (Grow.refl _ _) w (.str _)⟩)
    · cases hz
  · split at hz
    · rename_i a n c
      cases hz
      have c := cRep_ok c
      obtain ⟨p, vs, rfl, h1, h2⟩ := repT_lst w rx
      rw [repT_int ry]
      refine .inr (.inr (.inl ⟨p, n, vs, rfl, rfl, h1, by omega, by omega, ?_, fun q hq => ?_⟩))
      · rw [h2.length, sizeLine_eq]
        have : ((a.length * n.toNat : Nat) : Int) ≤ 16777216 := by
          rw [Int.natCast_mul, Int.toNat_of_nonneg c.1]; exact c.2.1
        omega
      · obtain ⟨g, w'⟩ := w.alloc (o := .lst (List.replicate n.toNat vs).flatten) hq
        exact k _ _ _ g w' (.lst upd_same ((h2.rep _).mono g.ex))
    · cases hz
  · split at hz
    · rename_i a n c
      cases hz
      have c := cRepT_ok c
      obtain ⟨p, vs, rfl, h0, h1, h2⟩ := repT_tup w rx
      rw [repT_int ry]
      have lv : vs.length = a.length := h2.length
      by_cases n1 : n = 1
      · subst n1
        refine .inr (.inr (.inr (.inr ⟨p, vs, rfl, rfl, .of h1, k _ _ _ (Grow.refl _ _) w (.tup h0 ?_)⟩)))
        have e : (List.replicate (Int.toNat 1) a).flatten = a := by show (List.replicate 1 a).flatten = a; simp
        rw [e]; exact h2
      · refine .inr (.inr (.inr (.inl ⟨p, n, vs, rfl, rfl, .of h1, ?_, by omega, by omega, by omega, fun q hq => ?_⟩)))
        · intro e; subst e; simp at lv; omega
        · obtain ⟨g, w'⟩ := w.alloc (o := .tup (List.replicate n.toNat vs).flatten) hq
          exact k _ _ _ g w' (.tup upd_same ((h2.rep _).mono g.ex))
    · cases hz
  · cases hz

/-! ### order -/
def ltD : D → D → Option D
  | .int i, .int j => some (.bl (decide (i < j)))
  | .str i, .str j => some (.bl (decide (i.cps.toList < j.cps.toList)))
  | _, _ => none
theorem ops_lt : OpS K mg r (fun x y H Q => (∃ i j, x = .int i ∧ y = .int j ∧ Q (.bl (decide (i < j))) H) ∨ (∃ i j, x = .str i ∧ y = .str j ∧ Q (.bl (decide (i.cps.toList < j.cps.toList))) H)) ltD := by
  intro Hs H tp x y d e z Q w rx ry hz k
  unfold ltD at hz
  split at hz
  · cases hz
    exact .inl ⟨_, _, repT_int rx, repT_int ry, k _ _ _ (Grow.refl _ _) w (.bl _)⟩
  · cases hz
    exact .inr ⟨_, _, repT_str rx, repT_str ry, k _ _ _ (Grow.refl _ _) w (.bl _)⟩
  · cases hz
theorem opr_lt : OpR X (compareOp .Lt) (fun x y H Q => (∃ i j, x = .int i ∧ y = .int j ∧ Q (.bl (decide (i < j))) H) ∨ (∃ i j, x = .str i ∧ y = .str j ∧ Q (.bl (decide (i.cps.toList < j.cps.toList))) H)) := op_lt.or op_lt_str
def leD : D → D → Option D
  | .int i, .int j => some (.bl (decide (i ≤ j)))
  | _, _ => none
def gtD : D → D → Option D
  | .int i, .int j => some (.bl (decide (j < i)))
  | _, _ => none
def geD : D → D → Option D
  | .int i, .int j => some (.bl (decide (j ≤ i)))
  | _, _ => none
theorem ops_le : OpS K mg r (rI0 fun i j => .bl (decide (i ≤ j))) leD := by
  intro Hs H tp x y d e z Q w rx ry hz k
  unfold leD at hz
  split at hz
  · cases hz
    exact ⟨_, _, repT_int rx, repT_int ry, k _ _ _ (Grow.refl _ _) w (.bl _)⟩
  · cases hz
theorem ops_gt : OpS K mg r (rI0 fun i j => .bl (decide (j < i))) gtD := by
  intro Hs H tp x y d e z Q w rx ry hz k
  unfold gtD at hz
  split at hz
  · cases hz
    exact ⟨_, _, repT_int rx, repT_int ry, k _ _ _ (Grow.refl _ _) w (.bl _)⟩
  · cases hz
theorem ops_ge : OpS K mg r (rI0 fun i j => .bl (decide (j ≤ i))) geD := by
  intro Hs H tp x y d e z Q w rx ry hz k
  unfold geD at hz
  split at hz
  · cases hz
    exact ⟨_, _, repT_int rx, repT_int ry, k _ _ _ (Grow.refl _ _) w (.bl _)⟩
  · cases hz

/-! ### == in -/
theorem plainAll_int : ∀ ns : List Int, PyData.plainAll (ns.map PyData.int) = true
  | [] => rfl
  | n :: ns => by simp only [List.map_cons, PyData.plainAll, PyData.plain, Bool.true_and]; exact plainAll_int ns
theorem dpAll_ints {H : Hp} : ∀ ns : List Int, DpAll K H (ns.map V.int) (ns.map PyData.int)
  | [] => .nil
  | n :: ns => .cons (.int n) (dpAll_ints ns)
mutual
theorem RepD.dp (w : Same Hs H) : ∀ {v : V} {d : D}, RepD K mg r Hs v d → d.pd.plain = true → Dp K H v d.pd
  | _, _, .non, _ => .non
  | _, _, .bl b, _ => .bl b
  | _, _, .int i, _ => .int i
  | _, _, .str s, _ => .str s
  | _, _, .tup (ds := ds) h q, p => .tup (.of (w _ _ h)) (RepDs.dp w q (by simpa only [D.pd, PyData.plain] using p))
  | _, _, .lst (ds := ds) h q, p => .lst (.of (w _ _ h)) (RepDs.dp w q (by simpa only [D.pd, PyData.plain] using p))
  | _, _, .scr (ns := ns) h, _ => .lst (Same.seq w h) (dpAll_ints ns)
  | _, _, .dicK _ _, p => by simp only [D.pd, PyData.plain] at p; cases p
  | _, _, .dicT _ _, p => by simp only [D.pd, PyData.plain] at p; cases p
  | _, _, .tape, p => by simp only [D.pd, PyData.plain] at p; cases p
  | _, _, .fn _, p => by simp only [D.pd, PyData.plain] at p; cases p
  | _, _, .ty _, p => by simp only [D.pd, PyData.plain] at p; cases p
theorem RepDs.dp (w : Same Hs H) : ∀ {vs : List V} {ds : List D}, RepDs K mg r Hs vs ds → PyData.plainAll (pdAll ds) = true → DpAll K H vs (pdAll ds)
  | _, _, .nil, _ => .nil
  | _, _, .cons h q, p => by
    simp only [pdAll, PyData.plainAll, Bool.and_eq_true] at p
    exact .cons (RepD.dp w h p.1) (RepDs.dp w q p.2)
end
theorem RepT.dp {v : V} {d : D} (w : Wd K mg r Hs H tp) (h : RepT K mg r Hs H v d) (p : d.pd.plain = true) : Dp K H v d.pd := by
  rcases h with h | ⟨a, rfl, _, h⟩
  · exact RepD.dp w.sub h p
  · cases d with
    | lst ds =>
      obtain ⟨vs, h1, h2⟩ := h
      exact .lst (.of h1) (RepDs.dp w.sub h2 (by simpa only [D.pd, PyData.plain] using p))
    | dic ds => simp only [D.pd, PyData.plain] at p; cases p
    | _ => exact h.elim
/-- may be compared -/
def D.okq (d : D) : Bool := d.pd.plain && decide (d.pd.depth ≤ 60)
theorem okq_ok {d : D} (h : d.okq = true) : d.pd.plain = true ∧ d.pd.depth ≤ 60 := by
  have h := Bool.and_eq_true_iff.mp h
  exact ⟨h.1, of_decide_eq_true h.2⟩
def eqD (d e : D) : Option D := if d.okq && e.okq then some (.bl (PyData.eqv d.pd e.pd)) else none
def neD (d e : D) : Option D := if d.okq && e.okq then some (.bl (!PyData.eqv d.pd e.pd)) else none
def rEqP (K : PySem.W.Frag) : R2 := fun x y H Q => ∃ d e, Dp K H x d ∧ Dp K H y e ∧ d.plain = true ∧ e.plain = true ∧ d.depth ≤ 60 ∧ Q (.bl (PyData.eqv d e)) H
def rNeP (K : PySem.W.Frag) : R2 := fun x y H Q => ∃ d e, Dp K H x d ∧ Dp K H y e ∧ d.plain = true ∧ e.plain = true ∧ d.depth ≤ 60 ∧ Q (.bl (!PyData.eqv d e)) H
theorem op_eqP (hu : X.A.units + 64 < cLine) : OpR X (compareOp .Eq) (rEqP X.K) := by
  intro pins s σ H x y v u Q I rx ry h
  obtain ⟨d, e, hd, he, sd, se, dd, q⟩ := h
  obtain ⟨as, r1⟩ := Dp.reads I d x v hd rx
  obtain ⟨bs, r2⟩ := Dp.reads I e y u he ry
  have : min d.depth e.depth ≤ d.depth := Nat.min_le_left _ _
  exact SeqAt.eq_plain r1 r2 sd se (by omega) ⟨.bl _, H, I, rfl, q⟩
theorem op_neP (hu : X.A.units + 64 < cLine) : OpR X (compareOp .NotEq) (rNeP X.K) := by
  intro pins s σ H x y v u Q I rx ry h
  obtain ⟨d, e, hd, he, sd, se, dd, q⟩ := h
  obtain ⟨as, r1⟩ := Dp.reads I d x v hd rx
  obtain ⟨bs, r2⟩ := Dp.reads I e y u he ry
  have : min d.depth e.depth ≤ d.depth := Nat.min_le_left _ _
  exact SeqAt.ne_plain r1 r2 sd se (by omega) ⟨.bl _, H, I, rfl, q⟩
theorem ops_eq : OpS K mg r (rEqP K) eqD := by
  intro Hs H tp x y d e z Q w rx ry hz k
  unfold eqD at hz
  split at hz
  · rename_i c
    cases hz
    have c := Bool.and_eq_true_iff.mp c
    have c1 := okq_ok c.1
    have c2 := okq_ok c.2
    exact ⟨d.pd, e.pd, rx.dp w c1.1, ry.dp w c2.1, c1.1, c2.1, c1.2, k _ _ _ (Grow.refl _ _) w (.bl _)⟩
  · cases hz
theorem ops_ne : OpS K mg r (rNeP K) neD := by
  intro Hs H tp x y d e z Q w rx ry hz k
  unfold neD at hz
  split at hz
  · rename_i c
    cases hz
    have c := Bool.and_eq_true_iff.mp c
    have c1 := okq_ok c.1
    have c2 := okq_ok c.2
    exact ⟨d.pd, e.pd, rx.dp w c1.1, ry.dp w c2.1, c1.1, c2.1, c1.2, k _ _ _ (Grow.refl _ _) w (.bl _)⟩
  · cases hz
/-- x in a list | tuple -/
def itemsD : D → Option (List D)
  | .lst xs => some xs
  | .tup xs => some xs
  | _ => none
def memD (d : D) (xs : List D) : Bool := xs.any fun z => PyData.eqv z.pd d.pd
def inD (d e : D) : Option D := (itemsD e).bind fun xs => if d.okq && e.okq then some (.bl (memD d xs)) else none
def notInD (d e : D) : Option D := (itemsD e).bind fun xs => if d.okq && e.okq then some (.bl (!memD d xs)) else none
def rInP (K : PySem.W.Frag) (neg : Bool) : R2 := fun x y H Q => ∃ d ds, Dp K H x d ∧ (Dp K H y (.list ds) ∨ Dp K H y (.tuple ds)) ∧ d.plain = true ∧ PyData.plainAll ds = true ∧ d.depth ≤ 60 ∧ Q (.bl (if neg then !(ds.any fun z => PyData.eqv z d) else ds.any fun z => PyData.eqv z d)) H
theorem op_inP (hu : X.A.units + 64 < cLine) : OpR X (compareOp .In) (rInP X.K false) := by
  intro pins s σ H x y v u Q I rx ry h
  obtain ⟨d, ds, hd, he, sd, se, dd, q⟩ := h
  obtain ⟨as, r1⟩ := Dp.reads I d x v hd rx
  have hm : min (PyData.depthAll ds) d.depth ≤ d.depth := Nat.min_le_right _ _
  rcases he with he | he
  · obtain ⟨bs, r2⟩ := Dp.reads I _ y u he ry
    exact SeqAt.in_list_data r2 r1 se sd (by omega) ⟨.bl _, H, I, rfl, q⟩
  · obtain ⟨bs, r2⟩ := Dp.reads I _ y u he ry
    exact SeqAt.in_tuple_data r2 r1 se sd (by omega) ⟨.bl _, H, I, rfl, q⟩
theorem op_notInP (hu : X.A.units + 64 < cLine) : OpR X (compareOp .NotIn) (rInP X.K true) := by
  intro pins s σ H x y v u Q I rx ry h
  obtain ⟨d, ds, hd, he, sd, se, dd, q⟩ := h
  obtain ⟨as, r1⟩ := Dp.reads I d x v hd rx
  have hm : min (PyData.depthAll ds) d.depth ≤ d.depth := Nat.min_le_right _ _
  rcases he with he | he
  · obtain ⟨bs, r2⟩ := Dp.reads I _ y u he ry
    exact SeqAt.notIn_list_data r2 r1 se sd (by omega) ⟨.bl _, H, I, rfl, q⟩
  · obtain ⟨bs, r2⟩ := Dp.reads I _ y u he ry
    exact SeqAt.notIn_tuple_data r2 r1 se sd (by omega) ⟨.bl _, H, I, rfl, q⟩
theorem any_pd (d : D) (xs : List D) : ((pdAll xs).any fun z => PyData.eqv z d.pd) = memD d xs := by
  unfold memD
  rw [pdAll_map, List.any_map]
  rfl
theorem in_core {neg : Bool} {Hs H tp x y d e} {Q : VK} {xs : List D} (w : Wd K mg r Hs H tp) (rx : RepT K mg r Hs H x d) (ry : RepT K mg r Hs H y e) (hi : itemsD e = some xs) (hc : (d.okq && e.okq) = true)
    (k : Q (V.bl (if neg then !memD d xs else memD d xs)) H) : rInP K neg x y H Q := by
  have c := Bool.and_eq_true_iff.mp hc
  have c1 := okq_ok c.1
  have c2 := okq_ok c.2
  have hy := ry.dp w c2.1
  refine ⟨d.pd, pdAll xs, rx.dp w c1.1, ?_, c1.1, ?_, c1.2, by rw [any_pd]; exact k⟩
  · cases e with
    | lst es => cases hi; exact .inl hy
    | tup es => cases hi; exact .inr hy
    | _ => cases hi
  · cases e with
    | lst es => cases hi; simpa only [D.pd, PyData.plain] using c2.1
    | tup es => cases hi; simpa only [D.pd, PyData.plain] using c2.1
    | _ => cases hi
theorem ops_in : OpS K mg r (rInP K false) inD := by
  intro Hs H tp x y d e z Q w rx ry hz k
  unfold inD at hz
  obtain ⟨xs, h1, h2⟩ := Option.bind_eq_some_iff.mp hz
  split at h2
  · rename_i c
    cases h2
    exact in_core w rx ry h1 c (k _ _ _ (Grow.refl _ _) w (.bl _))
  · cases h2
theorem ops_notIn : OpS K mg r (rInP K true) notInD := by
  intro Hs H tp x y d e z Q w rx ry hz k
  unfold notInD at hz
  obtain ⟨xs, h1, h2⟩ := Option.bind_eq_some_iff.mp hz
  split at h2
  · rename_i c
    cases h2
    exact in_core w rx ry h1 c (k _ _ _ (Grow.refl _ _) w (.bl _))
  · cases h2
/-! is None; is True -/
def isNoneD (d e : D) : Option D := match d, e with
  | .non, .non => some (.bl true)
  | .bl a, .bl b => some (.bl (decide (a = b)))
  | _, .non => some (.bl false)
  | _, _ => none
def isNotNoneD (d e : D) : Option D := match d, e with
  | .non, .non => some (.bl false)
  | .bl a, .bl b => some (.bl (!decide (a = b)))
  | _, .non => some (.bl true)
  | _, _ => none
theorem repT_ne_non {v : V} {d : D} (h : RepT K mg r Hs H v d) (n : d ≠ .non) : decide (v = .non) = false := by
  refine decide_eq_false fun e => ?_
  subst e
  rcases h with h | ⟨p, e, _⟩
  · cases h; exact n rfl
  · cases e
theorem ops_is : OpS K mg r (fun x y H Q => (y = .non ∧ Q (.bl (decide (x = .non))) H) ∨ ∃ a b, x = .bl a ∧ y = .bl b ∧ Q (.bl (decide (a = b))) H) isNoneD := by
  intro Hs H tp x y d e z Q w rx ry hz k
  unfold isNoneD at hz
  split at hz
  · cases hz
    rw [repT_non rx, repT_non ry]
    exact .inl ⟨rfl, k _ _ _ (Grow.refl _ _) w (.bl _)⟩
  · cases hz
    rw [repT_bl rx, repT_bl ry]
    exact .inr ⟨_, _, rfl, rfl, k _ _ _ (Grow.refl _ _) w (.bl _)⟩
  · cases hz
    refine .inl ⟨repT_non ry, ?_⟩
    rw [repT_ne_non rx (by intro e; subst e; simp_all)]
    exact k _ _ _ (Grow.refl _ _) w (.bl _)
  · cases hz
theorem ops_isNot : OpS K mg r (fun x y H Q => (y = .non ∧ Q (.bl (!decide (x = .non))) H) ∨ ∃ a b, x = .bl a ∧ y = .bl b ∧ Q (.bl (!decide (a = b))) H) isNotNoneD := by
  intro Hs H tp x y d e z Q w rx ry hz k
  unfold isNotNoneD at hz
  split at hz
  · cases hz
    rw [repT_non rx, repT_non ry]
    exact .inl ⟨rfl, k _ _ _ (Grow.refl _ _) w (.bl _)⟩
  · cases hz
    rw [repT_bl rx, repT_bl ry]
    exact .inr ⟨_, _, rfl, rfl, k _ _ _ (Grow.refl _ _) w (.bl _)⟩
  · cases hz
    refine .inl ⟨repT_non ry, ?_⟩
    rw [repT_ne_non rx (by intro e; subst e; simp_all)]
    exact k _ _ _ (Grow.refl _ _) w (.bl _)
  · cases hz
theorem opr_is : OpR X (compareOp .Is) (fun x y H Q => (y = .non ∧ Q (.bl (decide (x = .non))) H) ∨ ∃ a b, x = .bl a ∧ y = .bl b ∧ Q (.bl (decide (a = b))) H) := op_isN.or op_is_bl
theorem opr_isNot : OpR X (compareOp .IsNot) (fun x y H Q => (y = .non ∧ Q (.bl (!decide (x = .non))) H) ∨ ∃ a b, x = .bl a ∧ y = .bl b ∧ Q (.bl (!decide (a = b))) H) := op_notN.or op_isnot_bl

/-! ### items and slices -/
def ixD : D → D → Option D
  | .lst xs, .int i => atI xs i
  | .tup xs, .int i => atI xs i
  | .scr ns, .int i => (atI ns i).map .int
  | .str s, .int i => if s.length ≤ sizeLine then (atI s.cps.toList i).map fun c => .str ⟨#[c]⟩ else none
  | _, _ => none
theorem atI_rep {vs : List V} {ds : List D} {i : Int} {d : D} (h : RepDs K mg r Hs vs ds) (e : atI ds i = some d) : ∃ v, atI vs i = some v ∧ RepD K mg r Hs v d := by
  unfold atI at e ⊢
  rw [h.length]
  obtain ⟨j, h1, h2⟩ := Option.bind_eq_some_iff.mp e
  obtain ⟨v, h3, h4⟩ := h.get' h2
  exact ⟨v, by rw [h1]; exact h3, h4⟩
theorem atI_map {α β : Type} (f : α → β) (xs : List α) (i : Int) : atI (xs.map f) i = (atI xs i).map f := by
  unfold atI
  rw [List.length_map]
  cases ixN xs.length i with
  | none => rfl
  | some j => simp
theorem ops_ix : OpS K mg r (rIx K) ixD := by
  intro Hs H tp x y d e z Q w rx ry hz k
  unfold ixD at hz
  split at hz
  · obtain ⟨p, vs, rfl, h1, h2⟩ := repT_lst w rx
    obtain ⟨v, h3, h4⟩ := atI_rep h2 hz
    exact .inl ⟨p, vs, _, v, rfl, repT_int ry, .of h1, h3, k _ _ _ (Grow.refl _ _) w h4⟩
  · obtain ⟨p, vs, rfl, _, h1, h2⟩ := repT_tup w rx
    obtain ⟨v, h3, h4⟩ := atI_rep h2 hz
    exact .inr (.inl ⟨p, vs, _, v, rfl, repT_int ry, .of h1, h3, k _ _ _ (Grow.refl _ _) w h4⟩)
  · obtain ⟨p, rfl, h1⟩ := repT_scr w rx
    obtain ⟨n, h2, h3⟩ := Option.map_eq_some_iff.mp hz
    subst h3
    exact .inl ⟨p, _, _, _, rfl, repT_int ry, h1, by rw [atI_map, h2]; rfl, k _ _ _ (Grow.refl _ _) w (.int _)⟩
  · split at hz
    · rename_i c
      obtain ⟨n, h2, h3⟩ := Option.map_eq_some_iff.mp hz
      subst h3
      exact .inr (.inr ⟨_, _, _, repT_str rx, repT_int ry, c, h2, k _ _ _ (Grow.refl _ _) w (.str _)⟩)
    · cases hz
  · cases hz

/-- a slice's part -/
def optI (m : Option (SE D)) : SE (Option Int) := fun env tp => match m with
  | none => .ok none tp
  | some m => (m env tp).bind fun d tp1 => match d with
    | .int i => .ok (some i) tp1
    | _ => .stuck
structure GP (K : PySem.W.Frag) (mg : Str → Option Value) (r : Addr) (X : Cx) (O : List Nat) (E : XK) (e : Option Expr) (t : TO) (m : SE (Option Int)) : Prop where
  pe : PO X e t
  snd : ∀ Hs0 H0 Hs H σ env tp Q, Rel K mg r O Hs0 H0 Hs H σ env tp → Post K mg r (fun _ _ (a b : Option Int) => a = b) E Hs H (m env tp) Q → t σ H Q
variable {O : List Nat} {E : XK}
theorem gp_none : GP K mg r X O E none tNoPart (optI none) := ⟨po_none, fun Hs0 H0 Hs H σ env tp Q R P => P _ Hs H (Grow.refl _ _) R.wd rfl⟩
theorem gp_some {e : Expr} {t : TE} {m : SE D} (h : GE K mg r X O E e t m) : GP K mg r X O E (some e) (tPart t) (optI (some m)) := by
  refine ⟨po_some h.pe, fun Hs0 H0 Hs H σ env tp Q Rl P => ?_⟩
  refine h.snd _ _ _ _ _ _ _ _ Rl (Post.bind P fun v Hs1 H1 d tp1 _ g w rv P1 => ?_)
  cases d with
  | int i => cases rv; exact ⟨i, rfl, P1 _ Hs1 H1 (Grow.refl _ _) w rfl⟩
  | _ => exact P1.elim
def cutD {α : Type} (xs : List α) (lo hi : Option Int) : List α := (xs.drop (HT.sIx xs.length 0 lo)).take (HT.sIx xs.length xs.length hi - HT.sIx xs.length 0 lo)
def sliceD (d : D) (lo hi : Option Int) : Option D := match d with
  | .lst xs => some (.lst (cutD xs lo hi))
  | .tup xs => some (.tup (cutD xs lo hi))
  | .str s => if s.length ≤ sizeLine then some (.str (cutS s lo hi)) else none
  | _ => none
def sliceE (m : SE D) (ml mh : SE (Option Int)) : SE D := fun env tp => (m env tp).bind fun d tp1 => (ml env tp1).bind fun lo tp2 => (mh env tp2).bind fun hi tp3 => RE.of (sliceD d lo hi) tp3
theorem cut_rep {vs : List V} {ds : List D} (h : RepDs K mg r Hs vs ds) (lo hi : Option Int) : RepDs K mg r Hs (cutV vs lo hi) (cutD ds lo hi) := by
  unfold cutV cutD
  rw [h.length]
  exact (h.drop _).take _
theorem cut_whole {vs : List V} {lo hi : Option Int} (h : HT.sIx vs.length 0 lo = 0 ∧ HT.sIx vs.length vs.length hi = vs.length) : cutV vs lo hi = vs := by
  unfold cutV
  rw [h.1, h.2]
  simp
abbrev rSlD (K : PySem.W.Frag) : V → Option Int → Option Int → Hp → VK → Prop := fun x lo hi H Q => rSlL K x lo hi H Q ∨ rSlA K x lo hi H Q ∨ rSlS x lo hi H Q
theorem ge_slice {e : Expr} {lo hi : Option Expr} {p2 pos : Pos} {t : TE} {tl th : TO} {m : SE D} {ml mh : SE (Option Int)} (h : GO K mg r X O E e t m) (hl : GP K mg r X O E lo tl ml) (hh : GP K mg r X O E hi th mh) (hK : X.K = K := by rfl) : GE K mg r X O E (.Subscript e (.Slice lo hi none p2) pos) (tSl (rSlD K) t tl th) (sliceE m ml mh) := by
  subst hK
  refine ⟨pe_slice (sl_list.or (sl_tupA.or sl_str)) h.pe hl.pe hh.pe, fun Hs0 H0 Hs H σ env tp Q Rl P => ?_⟩
  refine h.snd _ _ _ _ _ _ _ _ Rl (Post.bind P fun v Hs1 H1 d tp1 _ g w rv P1 => ?_)
  refine hl.snd _ _ _ _ _ _ _ _ (Rl.grow g w) (Post.bind P1 fun l Hs2 H2 l' tp2 _ g2 w2 el P2 => ?_)
  refine hh.snd _ _ _ _ _ _ _ _ (Rl.grow (g.trans g2) w2) (Post.bind P2 fun u Hs3 H3 u' tp3 _ g3 w3 eu P3 => ?_)
  subst el eu
  obtain ⟨z, hz, k⟩ := Post.ok_of P3
  have rv := rv.grow (g2.trans g3)
  unfold sliceD at hz
  split at hz
  · cases hz
    obtain ⟨p, vs, rfl, h1, h2⟩ := repT_lst w3 rv
    refine .inl ⟨p, vs, rfl, .of h1, fun q hq => ?_⟩
    obtain ⟨g', w'⟩ := w3.alloc (o := .lst (cutV vs l u)) hq
    exact k _ _ _ g' w' (.lst upd_same ((cut_rep h2 l u).mono g'.ex))
  · cases hz
    obtain ⟨p, vs, rfl, h0, h1, h2⟩ := repT_tup w3 rv
    refine .inr (.inl ⟨p, vs, rfl, .of h1, fun e => ?_, fun _ q hq => ?_⟩)
    · have h4 := cut_rep h2 l u
      rw [cut_whole e] at h4
      exact k _ _ _ (Grow.refl _ _) w3 (.tup h0 h4)
    · obtain ⟨g', w'⟩ := w3.alloc (o := .tup (cutV vs l u)) hq
      exact k _ _ _ g' w' (.tup upd_same ((cut_rep h2 l u).mono g'.ex))
  · split at hz
    · rename_i c
      cases hz
      exact .inr (.inr ⟨_, repT_str rv, c, k _ _ _ (Grow.refl _ _) w3 (.str _)⟩)
    · cases hz
  · cases hz

/-! ### built-ins -/
theorem paired1 {α β : Type} {F : α → β → Prop} {xs : List α} {y : β} (h : Paired F xs [y]) : ∃ x, xs = [x] ∧ F x y := by
  cases h with
  | cons a b => cases b; exact ⟨_, rfl, a⟩
theorem paired2 {α β : Type} {F : α → β → Prop} {xs : List α} {y y' : β} (h : Paired F xs [y, y']) : ∃ x x', xs = [x, x'] ∧ F x y ∧ F x' y' := by
  cases h with
  | cons a b =>
    obtain ⟨x', rfl, h⟩ := paired1 b
    exact ⟨_, _, rfl, a, h⟩
theorem RepP.length : ∀ {vs : List (D × V)} {ds : List (D × D)}, RepP K mg r Hs vs ds → vs.length = ds.length
  | _, _, .nil => rfl
  | _, _, .cons _ q => by simp only [List.length_cons, RepP.length q]
def lenD : List D → Option D
  | [.lst xs] => some (.int xs.length)
  | [.tup xs] => some (.int xs.length)
  | [.scr xs] => some (.int xs.length)
  | [.str s] => if s.length ≤ sizeLine then some (.int s.length) else none
  | _ => none
theorem cs_len : CallS K mg r (fun xs H Q => (∃ p ys, xs = [.ref p] ∧ (SqL K H p ys ∨ SqT K H p ys) ∧ Q (.int ys.length) H) ∨ ∃ z, xs = [.str z] ∧ z.length ≤ sizeLine ∧ Q (.int z.length) H) lenD := by
  intro Hs H tp xs ds z Q w rx hz k
  unfold lenD at hz
  split at hz
  · cases hz
    obtain ⟨x, rfl, h⟩ := paired1 rx
    obtain ⟨p, vs, rfl, h1, h2⟩ := repT_lst w h
    refine .inl ⟨p, vs, rfl, .inl (.of h1), ?_⟩
    rw [h2.length]
    exact k _ _ _ (Grow.refl _ _) w (.int _)
  · cases hz
    obtain ⟨x, rfl, h⟩ := paired1 rx
    obtain ⟨p, vs, rfl, _, h1, h2⟩ := repT_tup w h
    refine .inl ⟨p, vs, rfl, .inr (.of h1), ?_⟩
    rw [h2.length]
    exact k _ _ _ (Grow.refl _ _) w (.int _)
  · cases hz
    obtain ⟨x, rfl, h⟩ := paired1 rx
    obtain ⟨p, rfl, h1⟩ := repT_scr w h
    refine .inl ⟨p, _, rfl, .inl h1, ?_⟩
    rw [List.length_map]
    exact k _ _ _ (Grow.refl _ _) w (.int _)
  · split at hz
    · rename_i c
      cases hz
      obtain ⟨x, rfl, h⟩ := paired1 rx
      exact .inr ⟨_, by rw [repT_str h], c, k _ _ _ (Grow.refl _ _) w (.int _)⟩
    · cases hz
  · cases hz
theorem cr_len : CallR X (.builtin "len") (fun xs H Q => (∃ p ys, xs = [.ref p] ∧ (SqL X.K H p ys ∨ SqT X.K H p ys) ∧ Q (.int ys.length) H) ∨ ∃ z, xs = [.str z] ∧ z.length ≤ sizeLine ∧ Q (.int z.length) H) := call_len_seq.or call_len_str
def intD : List D → Option D
  | [.int i] => some (.int i)
  | [.bl b] => some (.int (if b then 1 else 0))
  | _ => none
theorem cs_int : CallS K mg r (fun xs H Q => (∃ i, xs = [.int i] ∧ Q (.int i) H) ∨ ∃ k, xs = [.bl k] ∧ Q (.int (if k then 1 else 0)) H) intD := by
  intro Hs H tp xs ds z Q w rx hz k
  unfold intD at hz
  split at hz
  · cases hz
    obtain ⟨x, rfl, h⟩ := paired1 rx
    exact .inl ⟨_, by rw [repT_int h], k _ _ _ (Grow.refl _ _) w (.int _)⟩
  · cases hz
    obtain ⟨x, rfl, h⟩ := paired1 rx
    exact .inr ⟨_, by rw [repT_bl h], k _ _ _ (Grow.refl _ _) w (.int _)⟩
  · cases hz
def tupleD : List D → Option D
  | [.lst xs] => some (.tup xs)
  | [.tup xs] => some (.tup xs)
  | _ => none
theorem cs_tuple : CallS K mg r (fun xs H Q => ∃ p ys, xs = [.ref p] ∧ ((SqL K H p ys ∧ ∀ l, H l = none → Q (.ref l) (upd H l (.tup ys))) ∨ (SqT K H p ys ∧ Q (.ref p) H))) tupleD := by
  intro Hs H tp xs ds z Q w rx hz k
  unfold tupleD at hz
  split at hz
  · cases hz
    obtain ⟨x, rfl, h⟩ := paired1 rx
    obtain ⟨p, vs, rfl, h1, h2⟩ := repT_lst w h
    refine ⟨p, vs, rfl, .inl ⟨.of h1, fun q hq => ?_⟩⟩
    obtain ⟨g', w'⟩ := w.alloc (o := .tup vs) hq
    exact k _ _ _ g' w' (.tup upd_same (h2.mono g'.ex))
  · cases hz
    obtain ⟨x, rfl, h⟩ := paired1 rx
    obtain ⟨p, vs, rfl, h0, h1, h2⟩ := repT_tup w h
    exact ⟨p, vs, rfl, .inr ⟨.of h1, k _ _ _ (Grow.refl _ _) w (.tup h0 h2)⟩⟩
  · cases hz
def listD : List D → Option D
  | [.lst xs] => some (.lst xs)
  | [.tup xs] => some (.lst xs)
  | [.scr ns] => some (.lst (ns.map .int))
  | _ => none
theorem cs_list : CallS K mg r (fun xs H Q => ∃ p ys, xs = [.ref p] ∧ (SqL K H p ys ∨ SqT K H p ys) ∧ ∀ l, H l = none → Q (.ref l) (upd H l (.lst ys))) listD := by
  intro Hs H tp xs ds z Q w rx hz k
  unfold listD at hz
  split at hz
  · cases hz
    obtain ⟨x, rfl, h⟩ := paired1 rx
    obtain ⟨p, vs, rfl, h1, h2⟩ := repT_lst w h
    refine ⟨p, vs, rfl, .inl (.of h1), fun q hq => ?_⟩
    obtain ⟨g', w'⟩ := w.alloc (o := .lst vs) hq
    exact k _ _ _ g' w' (.lst upd_same (h2.mono g'.ex))
  · cases hz
    obtain ⟨x, rfl, h⟩ := paired1 rx
    obtain ⟨p, vs, rfl, h0, h1, h2⟩ := repT_tup w h
    refine ⟨p, vs, rfl, .inr (.of h1), fun q hq => ?_⟩
    obtain ⟨g', w'⟩ := w.alloc (o := .lst vs) hq
    exact k _ _ _ g' w' (.lst upd_same (h2.mono g'.ex))
  · cases hz
    obtain ⟨x, rfl, h⟩ := paired1 rx
    obtain ⟨p, rfl, h1⟩ := repT_scr w h
    refine ⟨p, _, rfl, .inl h1, fun q hq => ?_⟩
    obtain ⟨g', w'⟩ := w.alloc (o := .lst (List.map V.int _)) hq
    exact k _ _ _ g' w' (.lst upd_same (RepDs.ints _))
  · cases hz
def unB : List D → Option (List Bool)
  | [] => some []
  | .bl b :: r => (unB r).map (b :: ·)
  | _ => none
def unI : List D → Option (List Int)
  | [] => some []
  | .int b :: r => (unI r).map (b :: ·)
  | _ => none
def unS : List D → Option (List Str)
  | [] => some []
  | .str b :: r => (unS r).map (b :: ·)
  | _ => none
theorem unB_ok : ∀ {ds : List D} {bs : List Bool}, unB ds = some bs → ds = bs.map .bl
  | [], _, h => by cases h; rfl
  | d :: ds, bs, h => by
    cases d with
    | bl b =>
      obtain ⟨cs, h1, h2⟩ := Option.map_eq_some_iff.mp (show (unB ds).map (b :: ·) = some bs from h)
      subst h2
      rw [unB_ok h1]; rfl
    | _ => cases h
theorem unI_ok : ∀ {ds : List D} {bs : List Int}, unI ds = some bs → ds = bs.map .int
  | [], _, h => by cases h; rfl
  | d :: ds, bs, h => by
    cases d with
    | int b =>
      obtain ⟨cs, h1, h2⟩ := Option.map_eq_some_iff.mp (show (unI ds).map (b :: ·) = some bs from h)
      subst h2
      rw [unI_ok h1]; rfl
    | _ => cases h
theorem unS_ok : ∀ {ds : List D} {bs : List Str}, unS ds = some bs → ds = bs.map .str
  | [], _, h => by cases h; rfl
  | d :: ds, bs, h => by
    cases d with
    | str b =>
      obtain ⟨cs, h1, h2⟩ := Option.map_eq_some_iff.mp (show (unS ds).map (b :: ·) = some bs from h)
      subst h2
      rw [unS_ok h1]; rfl
    | _ => cases h
@[simp] theorem unB_map : ∀ bs : List Bool, unB (bs.map .bl) = some bs
  | [] => rfl
  | b :: bs => by show (unB (bs.map .bl)).map (b :: ·) = _; rw [unB_map bs]; rfl
@[simp] theorem unI_map : ∀ bs : List Int, unI (bs.map .int) = some bs
  | [] => rfl
  | b :: bs => by show (unI (bs.map .int)).map (b :: ·) = _; rw [unI_map bs]; rfl
@[simp] theorem unS_map : ∀ bs : List Str, unS (bs.map .str) = some bs
  | [] => rfl
  | b :: bs => by show (unS (bs.map .str)).map (b :: ·) = _; rw [unS_map bs]; rfl
def allD : List D → Option D
  | [.lst xs] => (unB xs).map fun bs => .bl (bs.all id)
  | _ => none
def anyD : List D → Option D
  | [.lst xs] => (unB xs).map fun bs => .bl (bs.any id)
  | _ => none
def sumD : List D → Option D
  | [.lst xs] => (unI xs).map fun bs => .int bs.sum
  | _ => none
theorem lst_typed {α : Type} {f : α → D} {g : α → V} (hfg : ∀ {Hs : Hp} {ns : List α} {vs : List V}, RepDs K mg r Hs vs (ns.map f) → vs = ns.map g) {v : V} {ns : List α} (w : Wd K mg r Hs H tp) (h : RepT K mg r Hs H v (.lst (ns.map f))) : ∃ p, v = .ref p ∧ H p = some (.lst (ns.map g)) := by
  obtain ⟨p, vs, rfl, h1, h2⟩ := repT_lst w h
  rw [hfg h2] at h1
  exact ⟨p, rfl, h1⟩
theorem cs_all : CallS K mg r (rAll K) allD := by
  intro Hs H tp xs ds z Q w rx hz k
  unfold allD at hz
  split at hz
  · obtain ⟨bs, h1, h2⟩ := Option.map_eq_some_iff.mp hz
    subst h2
    obtain ⟨x, rfl, h⟩ := paired1 rx
    rw [unB_ok h1] at h
    obtain ⟨p, rfl, h3⟩ := lst_typed RepDs.bls_of w h
    exact ⟨p, bs, rfl, .of h3, k _ _ _ (Grow.refl _ _) w (.bl _)⟩
  · cases hz
theorem cs_any : CallS K mg r (rAny K) anyD := by
  intro Hs H tp xs ds z Q w rx hz k
  unfold anyD at hz
  split at hz
  · obtain ⟨bs, h1, h2⟩ := Option.map_eq_some_iff.mp hz
    subst h2
    obtain ⟨x, rfl, h⟩ := paired1 rx
    rw [unB_ok h1] at h
    obtain ⟨p, rfl, h3⟩ := lst_typed RepDs.bls_of w h
    exact ⟨p, bs, rfl, .of h3, k _ _ _ (Grow.refl _ _) w (.bl _)⟩
  · cases hz
theorem cs_sum : CallS K mg r (rSum K) sumD := by
  intro Hs H tp xs ds z Q w rx hz k
  unfold sumD at hz
  split at hz
  · obtain ⟨bs, h1, h2⟩ := Option.map_eq_some_iff.mp hz
    subst h2
    obtain ⟨x, rfl, h⟩ := paired1 rx
    rw [unI_ok h1] at h
    obtain ⟨p, rfl, h3⟩ := lst_typed RepDs.ints_of w h
    exact ⟨p, bs, rfl, .of h3, k _ _ _ (Grow.refl _ _) w (.int _)⟩
  · cases hz

/-! isinstance -/
def tyN : D → Option String
  | .non => some "NoneType"
  | .bl _ => some "bool"
  | .int _ => some "int"
  | .str _ => some "str"
  | .tup _ => some "tuple"
  | .lst _ => some "list"
  | .dic _ => some "dict"
  | _ => none
def unT : List D → Option (List String)
  | [] => some []
  | .ty n :: r => (unT r).map (n :: ·)
  | _ => none
theorem unT_ok : ∀ {ds : List D} {bs : List String}, unT ds = some bs → ds = bs.map .ty
  | [], _, h => by cases h; rfl
  | d :: ds, bs, h => by
    cases d with
    | ty b =>
      obtain ⟨cs, h1, h2⟩ := Option.map_eq_some_iff.mp (show (unT ds).map (b :: ·) = some bs from h)
      subst h2
      rw [unT_ok h1]; rfl
    | _ => cases h
theorem RepDs.tys_of : ∀ {ns : List String} {vs : List V}, RepDs K mg r Hs vs (ns.map D.ty) → vs = ns.map V.ty
  | [], _, .nil => rfl
  | n :: ns, _, .cons h q => by cases h; rw [RepDs.tys_of q]; rfl
def kitBs (a : String) : List String → Option Bool
  | [] => some false
  | b :: bs => match kitB a b, kitBs a bs with
    | some true, some _ => some true
    | some false, some c => some c
    | _, _ => none
theorem kitBs_ok {a : String} : ∀ {bs : List String} {c : Bool}, kitBs a bs = some c → PySem.W.kitAny K (.type a) (bs.map Value.type) = some c
  | [], c, h => by cases h; exact kitAny_nil
  | b :: bs, c, h => by
    have h : (match kitB a b, kitBs a bs with
      | some true, some _ => some true
      | some false, some c => some c
      | _, _ => none) = some c := h
    cases e1 : kitB a b with
    | none => rw [e1] at h; cases h
    | some x =>
      cases e2 : kitBs a bs with
      | none => rw [e1, e2] at h; cases x <;> cases h
      | some y =>
        rw [e1, e2] at h
        refine kitAny_cons (b := x) (kit_ty e1) (fun hb => ?_) (fun hb => ?_)
        · subst hb; cases h; exact kitBs_ok e2
        · subst hb; cases h; rfl
def isiD : List D → Option D
  | [d, .ty n] => (tyN d).bind fun t => (kitB t n).map .bl
  | [d, .tup ds] => (tyN d).bind fun t => (unT ds).bind fun ns => (kitBs t ns).map .bl
  | _ => none
theorem tyx_of {v : V} {d : D} {t : String} (w : Wd K mg r Hs H tp) (h : RepT K mg r Hs H v d) (e : tyN d = some t) : TyX K H v (.type t) := by
  cases d with
  | non => cases e; rw [repT_non h]; exact .base .non
  | bl b => cases e; rw [repT_bl h]; exact .base (.bl _)
  | int b => cases e; rw [repT_int h]; exact .base (.int _)
  | str b => cases e; rw [repT_str h]; exact .base (.str _)
  | tup ds => cases e; obtain ⟨p, vs, rfl, _, h1, h2⟩ := repT_tup w h; exact .base (.tup h1)
  | lst ds => cases e; obtain ⟨p, vs, rfl, h1, h2⟩ := repT_lst w h; exact .base (.lst h1)
  | dic ds =>
    cases e
    rcases h with h | ⟨p, rfl, _, ⟨kvs, h1, _⟩ | ⟨kvs, h1, _⟩⟩
    · cases h with
      | dicK h1 _ => exact .base (.dK (w.sub _ _ h1))
      | dicT h1 _ => exact .base (.dT (w.sub _ _ h1))
    · exact .base (.dK h1)
    · exact .base (.dT h1)
  | _ => cases e
theorem cls_all : ∀ ns : List String, Paired ClsV (ns.map V.ty) (ns.map Value.type)
  | [] => .nil
  | n :: ns => .cons (.ty n) (cls_all ns)
theorem cs_isi : CallS K mg r (fun x H Q => rIsi K x H Q ∨ rIsiT K x H Q) isiD := by
  intro Hs H tp xs ds z Q w rx hz k
  unfold isiD at hz
  split at hz
  · obtain ⟨t, h1, h2⟩ := Option.bind_eq_some_iff.mp hz
    obtain ⟨b, h3, h4⟩ := Option.map_eq_some_iff.mp h2
    subst h4
    obtain ⟨x, x', rfl, r1, r2⟩ := paired2 rx
    rcases r2 with r2 | ⟨_, _, _, r2⟩
    · cases r2
      exact .inl ⟨x, _, _, _, b, rfl, .ty _, tyx_of w r1 h1, kit_ty h3, k _ _ _ (Grow.refl _ _) w (.bl _)⟩
    · exact r2.elim
  · obtain ⟨t, h1, h2⟩ := Option.bind_eq_some_iff.mp hz
    obtain ⟨ns, h3, h4⟩ := Option.bind_eq_some_iff.mp h2
    obtain ⟨b, h5, h6⟩ := Option.map_eq_some_iff.mp h4
    subst h6
    obtain ⟨x, x', rfl, r1, r2⟩ := paired2 rx
    obtain ⟨p, vs, rfl, _, g1, g2⟩ := repT_tup w r2
    rw [unT_ok h3] at g2
    rw [RepDs.tys_of g2] at g1
    exact .inr ⟨x, p, _, _, _, b, rfl, g1, cls_all ns, tyx_of w r1 h1, kitBs_ok h5, k _ _ _ (Grow.refl _ _) w (.bl _)⟩
  · cases hz
theorem cr_isi : CallR X (.builtin "isinstance") (fun x H Q => rIsi X.K x H Q ∨ rIsiT X.K x H Q) := call_isi.or call_isiT
theorem ge_ty {x : Str} {T : String} {pos : Pos} (hm : X.mg x = none) (hv : bootBuiltins x = some (.type T) := by decide +kernel) (hg : Gl X x := by rfl) (hn : x ≠ "__name__" := by decide) (hd : (x == ("__debug__" : Str)) = false := by decide) : GE K mg r X O E (.Name x pos) (tC (.ty T)) (cE (.ty T)) :=
  ge_c (v := .ty T) (pe_bltn hg hm hv rfl hn hd) fun _ => .ty T

/-! ### the terms by names -/
variable {a b c : Expr} {pos : Pos} {ta tb tc : TE} {ma mb mc : SE D}
theorem ge_add (ha : GO K mg r X O E a ta ma) (hb : GO K mg r X O E b tb mb) (hK : X.K = K := by rfl) : GE K mg r X O E (.BinOp a .Add b pos) (tOp (rAddD K) ta tb) (binE addD ma mb) := by subst hK; exact ge_op opr_add ops_add ha hb
theorem ge_sub (ha : GO K mg r X O E a ta ma) (hb : GO K mg r X O E b tb mb) : GE K mg r X O E (.BinOp a .Sub b pos) (tOp (rI0 fun i j => .int (i - j)) ta tb) (binE subD ma mb) := ge_op op_sub ops_sub ha hb
theorem ge_mul (ha : GO K mg r X O E a ta ma) (hb : GO K mg r X O E b tb mb) (hK : X.K = K := by rfl) : GE K mg r X O E (.BinOp a .Mult b pos) (tOp (rMulD K) ta tb) (binE mulD ma mb) := by subst hK; exact ge_op opr_mul ops_mul ha hb
theorem ge_fdiv (ha : GO K mg r X O E a ta ma) (hb : GO K mg r X O E b tb mb) : GE K mg r X O E (.BinOp a .FloorDiv b pos) (tOp (rI CDivW fun i j => .int (i / j)) ta tb) (binE fdivD ma mb) := ge_op op_fdivW ops_fdiv ha hb
theorem ge_mod (ha : GO K mg r X O E a ta ma) (hb : GO K mg r X O E b tb mb) : GE K mg r X O E (.BinOp a .Mod b pos) (tOp (rI (fun _ j => 0 < j) fun i j => .int (i % j)) ta tb) (binE modD ma mb) := ge_op op_mod ops_mod ha hb
theorem ge_pow (ha : GO K mg r X O E a ta ma) (hb : GO K mg r X O E b tb mb) : GE K mg r X O E (.BinOp a .Pow b pos) (tOp (rI CPow fun i j => .int (i ^ j.toNat)) ta tb) (binE powD ma mb) := ge_op op_pow ops_pow ha hb
theorem ge_shl (ha : GO K mg r X O E a ta ma) (hb : GO K mg r X O E b tb mb) : GE K mg r X O E (.BinOp a .LShift b pos) (tOp (rI CPow fun i j => .int (i * 2 ^ j.toNat)) ta tb) (binE shlD ma mb) := ge_op op_shl ops_shl ha hb
theorem ge_shr (ha : GO K mg r X O E a ta ma) (hb : GO K mg r X O E b tb mb) : GE K mg r X O E (.BinOp a .RShift b pos) (tOp (rI (fun _ j => 0 ≤ j) fun i j => .int (i / 2 ^ j.toNat)) ta tb) (binE shrD ma mb) := ge_op op_shr ops_shr ha hb
theorem ge_band (ha : GO K mg r X O E a ta ma) (hb : GO K mg r X O E b tb mb) : GE K mg r X O E (.BinOp a .BitAnd b pos) (tOp (rI0 fun i j => .int (Builtin.bitAnd i j)) ta tb) (binE bandD ma mb) := ge_op op_and ops_band ha hb
theorem ge_neg (ha : GO K mg r X O E a ta ma) : GE K mg r X O E (.UnaryOp .USub a pos) (tUn (rU fun i => .int (-i)) ta) (unE negD ma) := ge_un un_neg uns_neg ha
abbrev rLtD : R2 := fun x y H Q => (∃ i j, x = .int i ∧ y = .int j ∧ Q (.bl (decide (i < j))) H) ∨ (∃ i j, x = .str i ∧ y = .str j ∧ Q (.bl (decide (i.cps.toList < j.cps.toList))) H)
abbrev rLeD : R2 := rI0 fun i j => .bl (decide (i ≤ j))
abbrev rGtD : R2 := rI0 fun i j => .bl (decide (j < i))
abbrev rGeD : R2 := rI0 fun i j => .bl (decide (j ≤ i))
theorem ge_lt (ha : GO K mg r X O E a ta ma) (hb : GO K mg r X O E b tb mb) : GE K mg r X O E (.Compare a [.Lt] [b] pos) (tOp rLtD ta tb) (binE ltD ma mb) := ge_cmp opr_lt ops_lt ha hb (nomark _)
theorem ge_le (ha : GO K mg r X O E a ta ma) (hb : GO K mg r X O E b tb mb) : GE K mg r X O E (.Compare a [.LtE] [b] pos) (tOp rLeD ta tb) (binE leD ma mb) := ge_cmp op_le ops_le ha hb (nomark _)
theorem ge_gt (ha : GO K mg r X O E a ta ma) (hb : GO K mg r X O E b tb mb) : GE K mg r X O E (.Compare a [.Gt] [b] pos) (tOp rGtD ta tb) (binE gtD ma mb) := ge_cmp op_gt ops_gt ha hb (nomark _)
theorem ge_ge (ha : GO K mg r X O E a ta ma) (hb : GO K mg r X O E b tb mb) : GE K mg r X O E (.Compare a [.GtE] [b] pos) (tOp rGeD ta tb) (binE geD ma mb) := ge_cmp op_ge ops_ge ha hb (nomark _)
theorem ge_eq (hu : X.A.units + 64 < cLine) (ha : GO K mg r X O E a ta ma) (hb : GO K mg r X O E b tb mb) (hK : X.K = K := by rfl) : GE K mg r X O E (.Compare a [.Eq] [b] pos) (tOp (rEqP K) ta tb) (binE eqD ma mb) := by subst hK; exact ge_cmp (op_eqP hu) ops_eq ha hb (nomark _)
theorem ge_ne (hu : X.A.units + 64 < cLine) (ha : GO K mg r X O E a ta ma) (hb : GO K mg r X O E b tb mb) (hK : X.K = K := by rfl) : GE K mg r X O E (.Compare a [.NotEq] [b] pos) (tOp (rNeP K) ta tb) (binE neD ma mb) := by subst hK; exact ge_cmp (op_neP hu) ops_ne ha hb (nomark _)
theorem ge_in (hu : X.A.units + 64 < cLine) (ha : GO K mg r X O E a ta ma) (hb : GO K mg r X O E b tb mb) (hm : behindInMarks .In b = false := by rfl) (hK : X.K = K := by rfl) : GE K mg r X O E (.Compare a [.In] [b] pos) (tOp (rInP K false) ta tb) (binE inD ma mb) := by subst hK; exact ge_cmp (op_inP hu) ops_in ha hb hm
theorem ge_notIn (hu : X.A.units + 64 < cLine) (ha : GO K mg r X O E a ta ma) (hb : GO K mg r X O E b tb mb) (hm : behindInMarks .NotIn b = false := by rfl) (hK : X.K = K := by rfl) : GE K mg r X O E (.Compare a [.NotIn] [b] pos) (tOp (rInP K true) ta tb) (binE notInD ma mb) := by subst hK; exact ge_cmp (op_notInP hu) ops_notIn ha hb hm
abbrev rIsD : R2 := fun x y H Q => (y = .non ∧ Q (.bl (decide (x = .non))) H) ∨ ∃ a b, x = .bl a ∧ y = .bl b ∧ Q (.bl (decide (a = b))) H
abbrev rIsNotD : R2 := fun x y H Q => (y = .non ∧ Q (.bl (!decide (x = .non))) H) ∨ ∃ a b, x = .bl a ∧ y = .bl b ∧ Q (.bl (!decide (a = b))) H
theorem ge_is (ha : GO K mg r X O E a ta ma) (hb : GO K mg r X O E b tb mb) : GE K mg r X O E (.Compare a [.Is] [b] pos) (tOp rIsD ta tb) (binE isNoneD ma mb) := ge_cmp opr_is ops_is ha hb (nomark _)
theorem ge_isNot (ha : GO K mg r X O E a ta ma) (hb : GO K mg r X O E b tb mb) : GE K mg r X O E (.Compare a [.IsNot] [b] pos) (tOp rIsNotD ta tb) (binE isNotNoneD ma mb) := ge_cmp opr_isNot ops_isNot ha hb (nomark _)
theorem ge_sub1 (ha : GO K mg r X O E a ta ma) (hb : GO K mg r X O E b tb mb) (hs : PlainIx b := by exact fun _ _ => rfl) (hK : X.K = K := by rfl) : GE K mg r X O E (.Subscript a b pos) (tOp (rIx K) ta tb) (binE ixD ma mb) := by subst hK; exact ge_ix ix_seq ops_ix ha hb hs
variable {ts : TA} {ms : SE (List D)} {p : Pos} {es : List Expr} {e : Expr}
abbrev rLenD (K : PySem.W.Frag) : List V → Hp → VK → Prop := fun xs H Q => (∃ p ys, xs = [.ref p] ∧ (SqL K H p ys ∨ SqT K H p ys) ∧ Q (.int ys.length) H) ∨ ∃ z, xs = [.str z] ∧ z.length ≤ sizeLine ∧ Q (.int z.length) H
theorem ge_len (hm : X.mg "len" = none) (ha : GAO K mg r X O E [e] ts ms) (hg : Gl X "len" := by rfl) (he : starEach [e] X.env = (false, eval e X.env) :: starEach [] X.env := by rfl) (hpl : (backTo pos (starEach [] X.env)).any (·.1) = false := by rfl) (hK : X.K = K := by rfl) : GE K mg r X O E (.Call (.Name "len" p) [e] [] pos) (tCB (rLenD K) ts) (callB lenD ms) := by
  subst hK; exact ge_callB (R := rLenD X.K) cr_len cs_len hm ha hg PySem.boot_len (by decide) (by decide) he hpl
abbrev rIntD : List V → Hp → VK → Prop := fun xs H Q => (∃ i, xs = [.int i] ∧ Q (.int i) H) ∨ ∃ k, xs = [.bl k] ∧ Q (.int (if k then 1 else 0)) H
theorem ge_int1 (hm : X.mg "int" = none) (ha : GAO K mg r X O E [e] ts ms) (hg : Gl X "int" := by rfl) (he : starEach [e] X.env = (false, eval e X.env) :: starEach [] X.env := by rfl) (hpl : (backTo pos (starEach [] X.env)).any (·.1) = false := by rfl) : GE K mg r X O E (.Call (.Name "int" p) [e] [] pos) (tCB rIntD ts) (callB intD ms) :=
  ge_callTy (R := rIntD) call_int1 cs_int hm ha hg (by decide +kernel) (by decide) (by decide) he hpl
abbrev rTupleD (K : PySem.W.Frag) : List V → Hp → VK → Prop := fun xs H Q => ∃ p ys, xs = [.ref p] ∧ ((SqL K H p ys ∧ ∀ l, H l = none → Q (.ref l) (upd H l (.tup ys))) ∨ (SqT K H p ys ∧ Q (.ref p) H))
theorem ge_tuple (hm : X.mg "tuple" = none) (ha : GAO K mg r X O E [e] ts ms) (hg : Gl X "tuple" := by rfl) (he : starEach [e] X.env = (false, eval e X.env) :: starEach [] X.env := by rfl) (hpl : (backTo pos (starEach [] X.env)).any (·.1) = false := by rfl) (hK : X.K = K := by rfl) : GE K mg r X O E (.Call (.Name "tuple" p) [e] [] pos) (tCB (rTupleD K) ts) (callB tupleD ms) := by
  subst hK; exact ge_callTy (R := rTupleD X.K) call_tuple_of cs_tuple hm ha hg (by decide +kernel) (by decide) (by decide) he hpl
abbrev rListD1 (K : PySem.W.Frag) : List V → Hp → VK → Prop := fun xs H Q => ∃ p ys, xs = [.ref p] ∧ (SqL K H p ys ∨ SqT K H p ys) ∧ ∀ l, H l = none → Q (.ref l) (upd H l (.lst ys))
theorem ge_list1 (hm : X.mg "list" = none) (ha : GAO K mg r X O E [e] ts ms) (hg : Gl X "list" := by rfl) (he : starEach [e] X.env = (false, eval e X.env) :: starEach [] X.env := by rfl) (hpl : (backTo pos (starEach [] X.env)).any (·.1) = false := by rfl) (hK : X.K = K := by rfl) : GE K mg r X O E (.Call (.Name "list" p) [e] [] pos) (tCB (rListD1 K) ts) (callB listD ms) := by
  subst hK; exact ge_callTy (R := rListD1 X.K) call_list_of cs_list hm ha hg (by decide +kernel) (by decide) (by decide) he hpl
theorem ge_all (hc : X.calm = true) (hm : X.mg "all" = none) (ha : GAO K mg r X O E [e] ts ms) (hg : Gl X "all" := by rfl) (he : starEach [e] X.env = (false, eval e X.env) :: starEach [] X.env := by rfl) (hpl : (backTo pos (starEach [] X.env)).any (·.1) = false := by rfl) (hK : X.K = K := by rfl) : GE K mg r X O E (.Call (.Name "all" p) [e] [] pos) (tCB (rAll K) ts) (callB allD ms) := by
  subst hK; exact ge_callB (cr_all hc) cs_all hm ha hg (by decide +kernel) (by decide) (by decide) he hpl
theorem ge_any (hc : X.calm = true) (hm : X.mg "any" = none) (ha : GAO K mg r X O E [e] ts ms) (hg : Gl X "any" := by rfl) (he : starEach [e] X.env = (false, eval e X.env) :: starEach [] X.env := by rfl) (hpl : (backTo pos (starEach [] X.env)).any (·.1) = false := by rfl) (hK : X.K = K := by rfl) : GE K mg r X O E (.Call (.Name "any" p) [e] [] pos) (tCB (rAny K) ts) (callB anyD ms) := by
  subst hK; exact ge_callB (cr_any hc) cs_any hm ha hg (by decide +kernel) (by decide) (by decide) he hpl
theorem ge_sum (hc : X.calm = true) (hm : X.mg "sum" = none) (ha : GAO K mg r X O E [e] ts ms) (hg : Gl X "sum" := by rfl) (he : starEach [e] X.env = (false, eval e X.env) :: starEach [] X.env := by rfl) (hpl : (backTo pos (starEach [] X.env)).any (·.1) = false := by rfl) (hK : X.K = K := by rfl) : GE K mg r X O E (.Call (.Name "sum" p) [e] [] pos) (tCB (rSum K) ts) (callB sumD ms) := by
  subst hK; exact ge_callB (cr_sum hc) cs_sum hm ha hg (by decide +kernel) (by decide) (by decide) he hpl
abbrev rIsiD (K : PySem.W.Frag) : List V → Hp → VK → Prop := fun x H Q => rIsi K x H Q ∨ rIsiT K x H Q
theorem ge_isi {e2 : Expr} (hm : X.mg "isinstance" = none) (ha : GAO K mg r X O E [e, e2] ts ms) (hg : Gl X "isinstance" := by rfl) (he : starEach [e, e2] X.env = (false, eval e X.env) :: starEach [e2] X.env := by rfl) (hpl : (backTo pos (starEach [e2] X.env)).any (·.1) = false := by rfl) (hK : X.K = K := by rfl) : GE K mg r X O E (.Call (.Name "isinstance" p) [e, e2] [] pos) (tCB (rIsiD K) ts) (callB isiD ms) := by
  subst hK; exact ge_callB (R := rIsiD X.K) cr_isi cs_isi hm ha hg (by decide +kernel) (by decide) (by decide) he hpl
end
end G

set_option Elab.async false
set_option linter.all false
set_option maxRecDepth 100000
set_option maxHeartbeats 1000000
/-! G3: statements, loops, comprehensions, defs over data. -/
namespace G
open PySem PySem.Spec PyProof.Rows L2

inductive RS where
  | nx (env : DEnv) (tp : List D)
  | rt (d : D) (tp : List D)
  | bk (env : DEnv) (tp : List D)
  | ct (env : DEnv) (tp : List D)
  | exn (c : Str) (fs : List (Str × D)) (tp : List D)
  | stuck
abbrev SS := DEnv → List D → RS
def RE.bindS {α : Type} (x : RE α) (k : α → List D → RS) : RS := match x with
  | .ok a tp => k a tp
  | .exn c fs tp => .exn c fs tp
  | .stuck => .stuck
@[simp] theorem RE.bindS_ok {α : Type} (a : α) (tp : List D) (k : α → List D → RS) : (RE.ok a tp).bindS k = k a tp := rfl
@[simp] theorem RE.bindS_exn {α : Type} (c : Str) (fs : List (Str × D)) (tp : List D) (k : α → List D → RS) : (RE.exn c fs tp : RE α).bindS k = .exn c fs tp := rfl
@[simp] theorem RE.bindS_stuck {α : Type} (k : α → List D → RS) : (RE.stuck : RE α).bindS k = .stuck := rfl

/-! ### what the world's parts bear -/
section
variable {K : PySem.W.Frag} {mg : Str → Option Value} {r : Addr} {Hs0 H0 Hs Hs' H H' : Hp} {O O' : List Nat} {σ : L2.St} {env : DEnv} {tp tp' : List D} {p : Addr} {d : D} {v : V}
theorem get_set {α : Type} {xs : List (Option α)} {i j : Nat} {v : α} {w : α} (h : (xs.set i (some v))[j]? = some (some w)) : (j = i ∧ v = w ∧ i < xs.length) ∨ (j ≠ i ∧ xs[j]? = some (some w)) := by
  by_cases q : j = i
  · subst q
    rw [List.getElem?_set] at h
    simp only [if_true] at h
    split at h
    · cases h; exact .inl ⟨rfl, rfl, by assumption⟩
    · cases h
  · rw [List.getElem?_set_ne (Ne.symm q)] at h
    exact .inr ⟨q, h⟩
theorem set_get {α : Type} {xs : List (Option α)} {i : Nat} {v : α} (h : i < xs.length) : (xs.set i (some v))[i]? = some (some v) := by
  rw [List.getElem?_set_self h]
theorem set_gne {α : Type} {xs : List (Option α)} {i j : Nat} {v : Option α} (h : j ≠ i) : (xs.set i v)[j]? = xs[j]? := List.getElem?_set_ne (Ne.symm h)
/-- some owned objects come to stand still -/
theorem Rel.freeze (R : Rel K mg r O Hs0 H0 Hs H σ env tp) (h : ∀ i ∈ O', i ∈ O) : ∃ Hs', Same Hs Hs' ∧ Rel K mg r O' Hs0 H0 Hs' H σ env tp := by
  classical
  let fz : Addr → Prop := fun b => ∃ i, i ∈ O ∧ i ∉ O' ∧ σ[i]? = some (some (.ref b))
  let Hs' : Hp := fun b => if fz b then H b else Hs b
  have fzn : ∀ b, fz b → Hs b = none ∧ H0 b = none ∧ b ≠ r := fun b ⟨i, h1, _, h3⟩ => by
    obtain ⟨d, p, _, b2, c, c0, n, _⟩ := R.own i h1
    rw [h3] at b2; cases b2
    exact ⟨c, c0, n⟩
  have e : Same Hs Hs' := fun b o q => by
    show (if fz b then H b else Hs b) = some o
    by_cases z : fz b
    · rw [(fzn b z).1] at q; cases q
    · rw [if_neg z]; exact q
  have sub : Same Hs' H := fun b o q => by
    have q : (if fz b then H b else Hs b) = some o := q
    by_cases z : fz b
    · rw [if_pos z] at q; exact q
    · rw [if_neg z] at q; exact R.wd.sub b o q
  have tn : Hs' r = none := by
    show (if fz r then H r else Hs r) = none
    rw [if_neg fun z => (fzn r z).2.2 rfl]; exact R.wd.tn
  refine ⟨Hs', e, ⟨⟨sub, tn, ?_⟩, ⟨R.gr.keep, R.gr.ex.trans e, fun b o n q => ?_⟩, R.len, fun i d a n => ?_, fun i hi => ?_, fun i j p hi hj a b => R.dis i j p (h i hi) (h j hj) a b⟩⟩
  · obtain ⟨vs, a, b⟩ := R.wd.tH
    exact ⟨vs, a, b.mono e⟩
  · have q : (if fz b then H b else Hs b) = some o := q
    by_cases z : fz b
    · exact .inr (fzn b z).2.1
    · rw [if_neg z] at q; exact R.gr.new b o n q
  · by_cases m : i ∈ O
    · obtain ⟨d', p, b1, b2, c, c0, ne, oa⟩ := R.own i m
      rw [a] at b1; cases b1
      refine ⟨_, b2, oa.rep e fun o q => ?_⟩
      show (if fz p then H p else Hs p) = some o
      rw [if_pos ⟨i, m, n, b2⟩]; exact q
    · obtain ⟨v, b1, b2⟩ := R.vars i d a m
      exact ⟨v, b1, b2.mono e⟩
  · obtain ⟨d', p, b1, b2, c, c0, ne, oa⟩ := R.own i (h i hi)
    refine ⟨d', p, b1, b2, ?_, c0, ne, oa.grow e fun o q => q⟩
    show (if fz p then H p else Hs p) = none
    rw [if_neg]
    · exact c
    · rintro ⟨j, hj, hj', q⟩
      have := R.dis i j p (h i hi) hj b2 q
      subst this
      exact hj' hi
/-- a name gets a value that stands still -/
theorem Rel.set (R : Rel K mg r O Hs0 H0 Hs H σ env tp) (i : Nat) (hr : RepD K mg r Hs v d) : Rel K mg r (O.filter (· != i)) Hs0 H0 Hs H (σ.set i (some v)) (env.set i (some d)) tp where
  wd := R.wd
  gr := R.gr
  len := by rw [List.length_set, List.length_set]; exact R.len
  vars := fun j e a n => by
    rcases get_set a with ⟨rfl, rfl, hl⟩ | ⟨ne, a⟩
    · exact ⟨v, set_get (by rw [R.len]; exact hl), hr⟩
    · have n' : j ∉ O := fun m => n (List.mem_filter.mpr ⟨m, by simpa using ne⟩)
      obtain ⟨w, b1, b2⟩ := R.vars j e a n'
      exact ⟨w, by rw [set_gne ne]; exact b1, b2⟩
  own := fun j hj => by
    obtain ⟨m, ne⟩ := List.mem_filter.mp hj
    have ne : j ≠ i := by simpa using ne
    obtain ⟨d', p, b1, b2, c⟩ := R.own j m
    exact ⟨d', p, by rw [set_gne ne]; exact b1, by rw [set_gne ne]; exact b2, c⟩
  dis := fun j l p hj hl a b => by
    obtain ⟨m, ne⟩ := List.mem_filter.mp hj
    obtain ⟨m', ne'⟩ := List.mem_filter.mp hl
    rw [set_gne (by simpa using ne)] at a
    rw [set_gne (by simpa using ne')] at b
    exact R.dis j l p m m' a b
/-- a name gets a fresh object -/
theorem Rel.setF (R : Rel K mg r O Hs0 H0 Hs H σ env tp) (i : Nat) (hi : i < env.length) (h0 : H0 p = none) (hs : Hs p = none) (ne : p ≠ r) (ho : OwnAt K mg r Hs H p d) (hd : ∀ j ∈ O, σ[j]? ≠ some (some (.ref p))) :
    Rel K mg r (i :: O.filter (· != i)) Hs0 H0 Hs H (σ.set i (some (.ref p))) (env.set i (some d)) tp where
  wd := R.wd
  gr := R.gr
  len := by rw [List.length_set, List.length_set]; exact R.len
  vars := fun j e a n => by
    rcases get_set a with ⟨rfl, rfl, hl⟩ | ⟨ne, a⟩
    · exact absurd List.mem_cons_self n
    · have n' : j ∉ O := fun m => n (List.mem_cons_of_mem _ (List.mem_filter.mpr ⟨m, by simpa using ne⟩))
      obtain ⟨w, b1, b2⟩ := R.vars j e a n'
      exact ⟨w, by rw [set_gne ne]; exact b1, b2⟩
  own := fun j hj => by
    rcases List.mem_cons.mp hj with rfl | hj
    · exact ⟨d, p, set_get hi, set_get (by rw [R.len]; exact hi), hs, h0, ne, ho⟩
    · obtain ⟨m, ne⟩ := List.mem_filter.mp hj
      have ne : j ≠ i := by simpa using ne
      obtain ⟨d', p, b1, b2, c⟩ := R.own j m
      exact ⟨d', p, by rw [set_gne ne]; exact b1, by rw [set_gne ne]; exact b2, c⟩
  dis := fun j l q hj hl a b => by
    rcases List.mem_cons.mp hj with rfl | hj
    · rcases List.mem_cons.mp hl with rfl | hl
      · rfl
      · obtain ⟨m', ne'⟩ := List.mem_filter.mp hl
        rw [set_gne (by simpa using ne')] at b
        rw [set_get (by rw [R.len]; exact hi)] at a
        cases a
        exact absurd b (hd l m')
    · obtain ⟨m, ne⟩ := List.mem_filter.mp hj
      rw [set_gne (by simpa using ne)] at a
      rcases List.mem_cons.mp hl with rfl | hl
      · rw [set_get (by rw [R.len]; exact hi)] at b
        cases b
        exact absurd a (hd j m)
      · obtain ⟨m', ne'⟩ := List.mem_filter.mp hl
        rw [set_gne (by simpa using ne')] at b
        exact R.dis j l q m m' a b
/-- an owned object is changed -/
theorem Rel.write {o : HO} {i : Nat} (R : Rel K mg r O Hs0 H0 Hs H σ env tp) (hi : i ∈ O) (hp : σ[i]? = some (some (.ref p))) (ho : OwnAt K mg r Hs (upd H p o) p d) : Rel K mg r O Hs0 H0 Hs (upd H p o) σ (env.set i (some d)) tp := by
  obtain ⟨d0, p0, b1, b2, c, c0, ne, oa⟩ := R.own i hi
  rw [hp] at b2; cases b2
  have hl : i < env.length := by
    rcases Nat.lt_or_ge i env.length with q | q
    · exact q
    · rw [List.getElem?_eq_none q] at b1; cases b1
  refine ⟨R.wd.write c ne, ⟨fun b u q n => ?_, R.gr.ex, R.gr.new⟩, by rw [List.length_set]; exact R.len, fun j e a n => ?_, fun j hj => ?_, R.dis⟩
  · rw [upd_ne (ne_of_none q c0)]; exact R.gr.keep b u q n
  · rcases get_set a with ⟨rfl, rfl, _⟩ | ⟨_, a⟩
    · exact absurd hi n
    · exact R.vars j e a n
  · by_cases q : j = i
    · subst q
      exact ⟨d, p, set_get hl, hp, c, c0, ne, ho⟩
    · obtain ⟨d', p', e1, e2, f, f0, fn, fo⟩ := R.own j hj
      have np : p' ≠ p := fun z => q (by subst z; exact R.dis j i p' hj hi e2 hp)
      exact ⟨d', p', by rw [set_gne q]; exact e1, e2, f, f0, fn, fo.grow (Same.refl _) fun u z => by rw [upd_ne np]; exact z⟩
/-- the tape is written -/
theorem Rel.tape {vs : List V} {j : Nat} (R : Rel K mg r O Hs0 H0 Hs H σ env tp) (h : H r = some (.lst vs)) (hv : RepDs K mg r Hs vs tp) (hr : RepD K mg r Hs v d) : Rel K mg r O Hs0 H0 Hs (upd H r (.lst (vs.set j v))) σ env (tp.set j d) := by
  refine ⟨⟨fun b u q => ?_, R.wd.tn, ⟨_, upd_same, hv.set j hr⟩⟩, ⟨fun b u q n => ?_, R.gr.ex, R.gr.new⟩, R.len, R.vars, fun i hi => ?_, R.dis⟩
  · rw [upd_ne (ne_of_none q R.wd.tn)]; exact R.wd.sub b u q
  · rw [upd_ne n]; exact R.gr.keep b u q n
  · obtain ⟨d', p, b1, b2, c, c0, ne, oa⟩ := R.own i hi
    exact ⟨d', p, b1, b2, c, c0, ne, oa.grow (Same.refl _) fun u z => by rw [upd_ne ne]; exact z⟩
theorem Wd.tape_eq {vs : List V} (w : Wd K mg r Hs H tp) (h : H r = some (.lst vs)) : RepDs K mg r Hs vs tp := by
  obtain ⟨vs', a, b⟩ := w.tH
  rw [h] at a; cases a; exact b
end

/-! ### judgements for statements -/
section
variable (K : PySem.W.Frag) (mg : Str → Option Value) (r : Addr) (X : Cx) (E : XK) (O On Ol : List Nat)
def PostS (Hs0 H0 Hs : Hp) (res : RS) (D : Ends) : Prop := match res with
  | .nx env' tp' => ∀ σ' Hs' H', Same Hs Hs' → Rel K mg r On Hs0 H0 Hs' H' σ' env' tp' → D.nx σ' H'
  | .rt d tp' => ∀ v Hs' H', Grow r Hs0 H0 Hs' H' → Wd K mg r Hs' H' tp' → RepD K mg r Hs' v d → D.rt v H'
  | .bk env' tp' => ∀ σ' Hs' H', Same Hs Hs' → Rel K mg r Ol Hs0 H0 Hs' H' σ' env' tp' → D.bk σ' H'
  | .ct env' tp' => ∀ σ' Hs' H', Same Hs Hs' → Rel K mg r Ol Hs0 H0 Hs' H' σ' env' tp' → D.ct σ' H'
  | .exn c fs tp' => ∀ cv dx Hs' H', Grow r Hs0 H0 Hs' H' → Wd K mg r Hs' H' tp' → mg c = some cv → ExD K mg r Hs' fs dx → E cv dx H'
  | .stuck => False
structure GS (st : Stmt) (t : TS) (m : SS) : Prop where
  pe : PS X st t
  snd : ∀ Hs0 H0 Hs H σ env tp D, Rel K mg r O Hs0 H0 Hs H σ env tp → PostS K mg r E On Ol Hs0 H0 Hs (m env tp) D → t D σ H
structure GSs (st : List Stmt) (t : TS) (m : SS) : Prop where
  pe : PSs X st t
  snd : ∀ Hs0 H0 Hs H σ env tp D, Rel K mg r O Hs0 H0 Hs H σ env tp → PostS K mg r E On Ol Hs0 H0 Hs (m env tp) D → t D σ H
end

section
variable {K : PySem.W.Frag} {mg : Str → Option Value} {r : Addr} {X : Cx} {E : XK} {O O1 On Ol : List Nat} {e a b : Expr} {es : List Expr} {pos : Pos} {t ta tb : TE} {tt : TT} {ts : TA} {s1 : Stmt} {ss : List Stmt} {u u1 u2 : TS}
theorem PostS.shift {Hs0 H0 Hs Hs1 : Hp} {res : RS} {D : Ends} (e : Same Hs Hs1) (h : PostS K mg r E On Ol Hs0 H0 Hs res D) : PostS K mg r E On Ol Hs0 H0 Hs1 res D := by
  cases res with
  | nx env tp => exact fun σ Hs' H' e' R => h σ Hs' H' (e.trans e') R
  | bk env tp => exact fun σ Hs' H' e' R => h σ Hs' H' (e.trans e') R
  | ct env tp => exact fun σ Hs' H' e' R => h σ Hs' H' (e.trans e') R
  | _ => exact h
/-- an expression's value, then the rest of a statement -/
theorem PostS.bind {β α : Type} {R1 : Hp → Hp → β → α → Prop} {Hs0 H0 Hs H : Hp} {σ : L2.St} {env : DEnv} {tp : List D} {res : RE α} {k : α → List D → RS} {D : Ends} {Q1 : β → Hp → Prop} (R : Rel K mg r O Hs0 H0 Hs H σ env tp) (h : PostS K mg r E On Ol Hs0 H0 Hs (res.bindS k) D)
    (step : ∀ v Hs1 H1 d tp1, res = .ok d tp1 → Grow r Hs H Hs1 H1 → Wd K mg r Hs1 H1 tp1 → Rel K mg r O Hs0 H0 Hs1 H1 σ env tp1 → R1 Hs1 H1 v d → PostS K mg r E On Ol Hs0 H0 Hs1 (k d tp1) D → Q1 v H1) : Post K mg r R1 E Hs H res Q1 := by
  cases res with
  | ok d tp1 => exact fun v Hs1 H1 g w q => step v Hs1 H1 d tp1 rfl g w (R.grow g w) q (PostS.shift g.ex h)
  | exn c fs tp1 => exact fun cv dx Hs1 H1 g w m x => h cv dx Hs1 H1 (R.gr.trans g) w m x
  | stuck => exact h
theorem PostS.weak {On' : List Nat} {Hs0 H0 Hs : Hp} {res : RS} {D : Ends} (h : PostS K mg r E On' Ol Hs0 H0 Hs res D) (hO : ∀ i ∈ On', i ∈ On) : PostS K mg r E On Ol Hs0 H0 Hs res D := by
  cases res with
  | nx env tp =>
    intro σ Hs1 H e1 R
    obtain ⟨Hs', e, R'⟩ := R.freeze hO
    exact h σ Hs' H (e1.trans e) R'
  | _ => exact h
/-- ahead of it some owned objects come to stand still -/
theorem GS.pre {O' : List Nat} {m : SS} (hO : ∀ i ∈ O', i ∈ O) (h : GS K mg r X E O' On Ol s1 u m) : GS K mg r X E O On Ol s1 u m :=
  ⟨h.pe, fun Hs0 H0 Hs H σ env tp D R P => by
    obtain ⟨Hs', e, R'⟩ := R.freeze hO
    exact h.snd _ _ _ _ _ _ _ _ R' (P.shift e)⟩
theorem GSs.pre {O' : List Nat} {m : SS} (hO : ∀ i ∈ O', i ∈ O) (h : GSs K mg r X E O' On Ol ss u m) : GSs K mg r X E O On Ol ss u m :=
  ⟨h.pe, fun Hs0 H0 Hs H σ env tp D R P => by
    obtain ⟨Hs', e, R'⟩ := R.freeze hO
    exact h.snd _ _ _ _ _ _ _ _ R' (P.shift e)⟩
/-- behind it -/
theorem GS.post {On' : List Nat} {m : SS} (hO : ∀ i ∈ On', i ∈ On) (h : GS K mg r X E O On Ol s1 u m) : GS K mg r X E O On' Ol s1 u m :=
  ⟨h.pe, fun Hs0 H0 Hs H σ env tp D R P => h.snd _ _ _ _ _ _ _ _ R (P.weak hO)⟩
theorem GSs.post {On' : List Nat} {m : SS} (hO : ∀ i ∈ On', i ∈ On) (h : GSs K mg r X E O On Ol ss u m) : GSs K mg r X E O On' Ol ss u m :=
  ⟨h.pe, fun Hs0 H0 Hs H σ env tp D R P => h.snd _ _ _ _ _ _ _ _ R (P.weak hO)⟩

/-! blocks -/
def skipS : SS := fun env tp => .nx env tp
def seqS (m n : SS) : SS := fun env tp => match m env tp with
  | .nx e tp1 => n e tp1
  | x => x
theorem gss_nil : GSs K mg r X E O O Ol [] tNext skipS := ⟨pss_nil, fun Hs0 H0 Hs H σ env tp D R P => P _ _ _ (Same.refl _) R⟩
theorem gss_cons {m n : SS} (h1 : GS K mg r X E O O1 Ol s1 u1 m) (h2 : GSs K mg r X E O1 On Ol ss u2 n) : GSs K mg r X E O On Ol (s1 :: ss) (tSeq u1 u2) (seqS m n) := by
  refine ⟨pss_cons h1.pe h2.pe, fun Hs0 H0 Hs H σ env tp D R P => ?_⟩
  refine h1.snd _ _ _ _ _ _ _ _ R ?_
  unfold seqS at P
  cases q : m env tp with
  | nx e tp1 => rw [q] at P; exact fun σ' Hs' H' e' R' => h2.snd _ _ _ _ _ _ _ _ R' (P.shift e')
  | rt d tp1 => rw [q] at P; exact P
  | bk e tp1 => rw [q] at P; exact P
  | ct e tp1 => rw [q] at P; exact P
  | exn c fs tp1 => rw [q] at P; exact P
  | stuck => rw [q] at P; exact P
theorem gss_one {m : SS} (h1 : GS K mg r X E O On Ol s1 u1 m) : GSs K mg r X E O On Ol [s1] u1 m := ⟨pss_one h1.pe, h1.snd⟩

/-! simple statements -/
def setS (i : Nat) (m : SE D) : SS := fun env tp => (m env tp).bindS fun d tp1 => .nx (env.set i (some d)) tp1
def retS (m : SE D) : SS := fun env tp => (m env tp).bindS fun d tp1 => .rt d tp1
def dropS (m : SE D) : SS := fun env tp => (m env tp).bindS fun _ tp1 => .nx env tp1
def ifS (c : SE Bool) (m n : SS) : SS := fun env tp => (c env tp).bindS fun b tp1 => if b = true then m env tp1 else n env tp1
theorem setS_sound {m : SE D} (i : Nat) (h : ∀ Hs0 H0 Hs H σ env tp Q, Rel K mg r O Hs0 H0 Hs H σ env tp → PostE K mg r E Hs H (m env tp) Q → t σ H Q) :
    ∀ Hs0 H0 Hs H σ env tp D, Rel K mg r O Hs0 H0 Hs H σ env tp → PostS K mg r E (O.filter (· != i)) Ol Hs0 H0 Hs (setS i m env tp) D → tAsg t (gName i) D σ H := by
  intro Hs0 H0 Hs H σ env tp D R P
  exact h _ _ _ _ _ _ _ _ R (PostS.bind R P fun v Hs1 H1 d tp1 _ g w R1 rv P1 => P1 _ _ _ (Same.refl _) (R1.set i rv))
def setFS (i : Nat) (m : SE D) : SS := fun env tp => (m env tp).bindS fun d tp1 => if i < env.length then .nx (env.set i (some d)) tp1 else .stuck
theorem Rel.new_ne {Hs0 H0 Hs H : Hp} {σ : L2.St} {env : DEnv} {tp : List D} {p : Addr} (R : Rel K mg r O Hs0 H0 Hs H σ env tp) (h1 : H p = none) (h3 : p ≠ r) : H0 p = none ∧ ∀ j ∈ O, σ[j]? ≠ some (some (.ref p)) := by
  refine ⟨?_, fun j hj q => ?_⟩
  · cases z : H0 p with
    | none => rfl
    | some o => rw [R.gr.keep p o z h3] at h1; cases h1
  · obtain ⟨d', p', b1, b2, c, c0, ne, oa⟩ := R.own j hj
    rw [q] at b2; cases b2
    obtain ⟨o, ho⟩ := oa.there
    rw [ho] at h1; cases h1
theorem setF_sound {m : SE D} (i : Nat) (h : ∀ Hs0 H0 Hs H σ env tp Q, Rel K mg r O Hs0 H0 Hs H σ env tp → Post K mg r (Fresh K mg r H) E Hs H (m env tp) Q → t σ H Q) :
    ∀ Hs0 H0 Hs H σ env tp D, Rel K mg r O Hs0 H0 Hs H σ env tp → PostS K mg r E (i :: O.filter (· != i)) Ol Hs0 H0 Hs (setFS i m env tp) D → tAsg t (gName i) D σ H := by
  intro Hs0 H0 Hs H σ env tp D R P
  refine h _ _ _ _ _ _ _ _ R (PostS.bind R P fun v Hs1 H1 d tp1 _ g w R1 rv P1 => ?_)
  obtain ⟨p, rfl, h1, h2, h3, h4⟩ := rv
  split at P1
  · rename_i hl
    obtain ⟨n1, n2⟩ := R.new_ne h1 h3
    exact P1 _ _ _ (Same.refl _) (R1.setF i hl n1 h2 h3 h4 n2)
  · exact P1.elim
theorem gs_set {m : SE D} (i : Nat) {x : Str} {pos' : Pos} (hN : X.N.Nodup) (h : GE K mg r X O E e t m) (hi : X.N[i]? = some x := by rfl) (hx : Loc X.env.scope x := by first | exact Or.inl rfl | exact Or.inr rfl) (hs : swapsWith e (some (.Name x pos')) pos.line X.env = pure false := by rfl)
    (hf : X.fn x = true ∨ X.env.scope.names.lookup x = some .local := by first | exact .inl rfl | exact .inr rfl) : GS K mg r X E O (O.filter (· != i)) Ol (.Assign [.Name x pos'] e pos) (tAsg t (gName i)) (setS i m) :=
  ⟨ps_set hN hi hx h.pe hs hf, setS_sound i h.snd⟩
theorem gs_setF {m : SE D} (i : Nat) {x : Str} {pos' : Pos} (hN : X.N.Nodup) (h : GF K mg r X O E e t m) (hi : X.N[i]? = some x := by rfl) (hx : Loc X.env.scope x := by first | exact Or.inl rfl | exact Or.inr rfl) (hs : swapsWith e (some (.Name x pos')) pos.line X.env = pure false := by rfl)
    (hf : X.fn x = true ∨ X.env.scope.names.lookup x = some .local := by first | exact .inl rfl | exact .inr rfl) : GS K mg r X E O (i :: O.filter (· != i)) Ol (.Assign [.Name x pos'] e pos) (tAsg t (gName i)) (setFS i m) :=
  ⟨ps_set hN hi hx h.pe hs hf, setF_sound i h.snd⟩
theorem gs_ret {m : SE D} (h : GE K mg r X O E e t m) : GS K mg r X E O On Ol (.Return (some e) pos) (tRet t) (retS m) :=
  ⟨ps_ret h.pe, fun Hs0 H0 Hs H σ env tp D R P => h.snd _ _ _ _ _ _ _ _ R (PostS.bind R P fun v Hs1 H1 d tp1 _ g w R1 rv P1 => P1 v Hs1 H1 R1.gr w rv)⟩
/-- a slot's own object is handed back -/
theorem gs_retO (i : Nat) {x : Str} (hO : i ∈ O) (hN : X.N[i]? = some x := by rfl) {p2 : Pos} (hv : Vis X.env.scope x := by first | exact Or.inl rfl | exact Or.inr (Or.inl rfl) | exact Or.inr (Or.inr rfl)) (hd : (x == ("__debug__" : Str)) = false := by decide)
    (hcd : (x == ("__classdict__" : Str)) = false := by decide) : GS K mg r X E O On Ol (.Return (some (.Name x p2)) pos) (tRet (tVar i)) (retS (vE i)) :=
  GS.pre (O' := []) (fun _ h => nomatch h) (gs_ret (ge_var i (by simp) hN hv hd hcd))
theorem gs_retN : GS K mg r X E O On Ol (.Return none pos) tRetN (fun _ tp => .rt .non tp) :=
  ⟨ps_retN, fun Hs0 H0 Hs H σ env tp D R P => P _ _ _ R.gr R.wd .non⟩
theorem gs_drop {m : SE D} (h : GE K mg r X O E e t m) (hs : swapsWith e none pos.line X.env = pure false := by rfl) : GS K mg r X E O O Ol (.Expr e pos) (tDrop t) (dropS m) :=
  ⟨ps_expr h.pe hs, fun Hs0 H0 Hs H σ env tp D R P => h.snd _ _ _ _ _ _ _ _ R (PostS.bind R P fun v Hs1 H1 d tp1 _ g w R1 rv P1 => P1 _ _ _ (Same.refl _) R1)⟩
theorem gs_pass : GS K mg r X E O O Ol (.Pass pos) tNext skipS := ⟨ps_pass, fun Hs0 H0 Hs H σ env tp D R P => P _ _ _ (Same.refl _) R⟩
theorem gs_break (hO : ∀ i ∈ Ol, i ∈ O) : GS K mg r X E O On Ol (.Break pos) tBreak (fun env tp => .bk env tp) :=
  GS.pre hO ⟨ps_break, fun Hs0 H0 Hs H σ env tp D R P => P _ _ _ (Same.refl _) R⟩
theorem gs_continue (hO : ∀ i ∈ Ol, i ∈ O) : GS K mg r X E O On Ol (.Continue pos) tCont (fun env tp => .ct env tp) :=
  GS.pre hO ⟨ps_continue, fun Hs0 H0 Hs H σ env tp D R P => P _ _ _ (Same.refl _) R⟩
theorem gs_never : GS K mg r X E O On Ol s1 tNever (fun _ _ => .stuck) := ⟨ps_never, fun Hs0 H0 Hs H σ env tp D R P => P⟩
theorem gs_if {mc : SE Bool} {m n : SS} {bs : List Stmt} (hc : GT K mg r X O E e tt mc) (h1 : GSs K mg r X E O On Ol ss u1 m) (h2 : GSs K mg r X E O On Ol bs u2 n) : GS K mg r X E O On Ol (.If e ss bs pos) (tIfS tt u1 u2) (ifS mc m n) := by
  refine ⟨ps_if hc.pe h1.pe h2.pe, fun Hs0 H0 Hs H σ env tp D R P => ?_⟩
  refine hc.snd _ _ _ _ _ _ _ _ R (PostS.bind R P fun v Hs1 H1 d tp1 _ g w R1 rv P1 => ?_)
  subst rv
  cases v with
  | true => exact iteT (h1.snd _ _ _ _ _ _ _ _ R1 P1)
  | false => exact iteF (h2.snd _ _ _ _ _ _ _ _ R1 P1)

/-! a list of one's own grows -/
def appS (i : Nat) (m : SE D) : SS := fun env tp => match env[i]? with
  | some (some (.lst ds)) => (m env tp).bindS fun d tp1 => if ds.length < sizeLine then .nx (env.set i (some (.lst (ds ++ [d])))) tp1 else .stuck
  | _ => .stuck
theorem gs_append {m : SE D} (i : Nat) {x : Str} {p1 p2 p3 : Pos} (hO : i ∈ O) (h : GE K mg r X O E e t m) (hK : X.K = K := by rfl) (hN : X.N[i]? = some x := by rfl) (hv : Vis X.env.scope x := by first | exact Or.inl rfl | exact Or.inr (Or.inl rfl) | exact Or.inr (Or.inr rfl)) (hd : (x == ("__debug__" : Str)) = false := by decide)
    (hcd : (x == ("__classdict__" : Str)) = false := by decide)
    (hbase : attributeBase (.Name x p1) "append" X.env (eval (.Name x p1) X.env) = eval (.Name x p1) X.env := by rfl)
    (hfew : ((backTo p3 (starEach [e] X.env)).all (fun x => !x.1) && (backToKw p3 (keywordEach [] X.env)).all (fun x => x.1.isSome) && decide ([e].length + ([] : List Keyword).length + (if ([] : List Keyword).isEmpty then 0 else 1) < 30)) = true := by rfl)
    (hline : (p2.endLine == p3.line) = true := by rfl) (hs : starEach [e] X.env = (false, eval e X.env) :: starEach [] X.env := by rfl) (hplain : (backTo p3 (starEach [] X.env)).any (·.1) = false := by rfl)
    (hsw : swapsWith (.Call (.Attribute (.Name x p1) "append" p2) [e] [] p3) none pos.line X.env = pure false := by rfl) :
    GS K mg r X E O O Ol (.Expr (.Call (.Attribute (.Name x p1) "append" p2) [e] [] p3) pos) (tDrop (tBM K "list" rAppend (tVar i) (tCons t tNil))) (appS i m) := by
  subst hK
  refine ⟨ps_expr (pe_bm PySem.F.plainAttrs_list PySem.F.slot_list_append PySem.F.type_list_append mt_append (pe_var hN hv hd hcd) (pa_cons h.pe pa_nil hs) hbase hfew hline hs hplain) hsw, fun Hs0 H0 Hs H σ env tp D R P => ?_⟩
  obtain ⟨d0, p, b1, b2, c, c0, ne, oa⟩ := R.own i hO
  unfold appS at P
  rw [b1] at P
  cases d0 with
  | lst ds =>
    obtain ⟨vs0, k1, _⟩ := oa
    refine ⟨_, b2, .inl ⟨rfl, vs0, .of k1⟩, ?_⟩
    refine h.snd _ _ _ _ _ _ _ _ R (PostS.bind R P fun v Hs1 H1 d tp1 _ g w R1 rv P1 => ?_)
    obtain ⟨d1, p1, e1, e2, f, f0, fn, fo⟩ := R1.own i hO
    rw [b2] at e2; cases e2
    rw [b1] at e1; cases e1
    obtain ⟨vs, h1, h2⟩ := fo
    split at P1
    · rename_i hz
      refine ⟨p, vs, v, rfl, rfl, h1, by rw [h2.length]; exact hz, ?_⟩
      exact P1 _ _ _ (Same.refl _) (R1.write hO b2 ⟨_, upd_same, h2.append (.cons rv .nil)⟩)
    · exact P1.elim
  | _ => exact P.elim
/-! the tape -/
def tixE (ma mb : SE D) : SE D := fun env tp => (ma env tp).bind fun d tp1 => match d with
  | .tape => (mb env tp1).bind fun e tp2 => match e with
    | .int i => RE.of (atI tp2 i) tp2
    | _ => .stuck
  | _ => .stuck
theorem ge_tix {ma mb : SE D} (ha : GO K mg r X O E a ta ma) (hb : GO K mg r X O E b tb mb) (hs : PlainIx b := by exact fun _ _ => rfl) (hK : X.K = K := by rfl) : GE K mg r X O E (.Subscript a b pos) (tOp (rIx K) ta tb) (tixE ma mb) := by
  subst hK
  refine ⟨pe_ix ix_seq ha.pe hb.pe hs, fun Hs0 H0 Hs H σ env tp Q R P => ?_⟩
  refine ha.snd _ _ _ _ _ _ _ _ R (Post.bind P fun v Hs1 H1 d tp1 _ g w rv P1 => ?_)
  cases d with
  | tape =>
    refine hb.snd _ _ _ _ _ _ _ _ (R.grow g w) (Post.bind P1 fun u Hs2 H2 e tp2 _ g2 w2 ru P2 => ?_)
    cases e with
    | int i =>
      obtain ⟨z, hz, k⟩ := Post.ok_of P2
      obtain ⟨vs, h1, h2⟩ := w2.tH
      obtain ⟨y, h3, h4⟩ := atI_rep h2 hz
      exact .inl ⟨r, vs, i, y, repT_tape rv, repT_int ru, .of h1, h3, k _ _ _ (Grow.refl _ _) w2 h4⟩
    | _ => exact P2.elim
  | _ => exact P1.elim
def tsetS (j : Nat) (ma mi m : SE D) : SS := fun env tp => (m env tp).bindS fun d tp1 => (ma env tp1).bindS fun o tp2 => (mi env tp2).bindS fun i tp3 => match o, i with
  | .tape, .int k => if ixN tp3.length k = some j then .nx env (tp3.set j d) else .stuck
  | _, _ => .stuck
theorem gs_tset {ma mi m : SE D} (j : Nat) {p1 : Pos} (h : GE K mg r X O E e t m) (ha : GO K mg r X O E a ta ma) (hb : GO K mg r X O E b tb mi)
    (hg : ∀ v, assign (.Subscript a b p1) X.env v = (do
      let ov ← holding [v] (eval a X.env)
      let iv ← holding [v, ov] (eval b X.env)
      standAt p1
      holding [v, ov, iv] (setItem ov iv v)
      release [v, ov, iv] []) := by intro _; rfl)
    (hs : swapsWithSole [.Subscript a b p1] e pos.line X.env = pure false := by rfl) (hw : swappedStores [.Subscript a b p1] e X.env = pure none := by rfl)
    (h1 : (assignEach [.Subscript a b p1] X.env).map (·.2) = [assign (.Subscript a b p1) X.env] := by rfl) :
    GS K mg r X E O O Ol (.Assign [.Subscript a b p1] e pos) (tAsg t (gSub ta tb rSetL)) (tsetS j ma mi m) := by
  refine ⟨ps_asg h.pe (pg_sub ha.pe hb.pe set_list hg) hs hw h1, fun Hs0 H0 Hs H σ env tp D R P => ?_⟩
  refine h.snd _ _ _ _ _ _ _ _ R (PostS.bind R P fun v Hs1 H1 d tp1 _ g w R1 rv P1 => ?_)
  refine ha.snd _ _ _ _ _ _ _ _ R1 (PostS.bind R1 P1 fun o Hs2 H2 od tp2 _ g2 w2 R2 ro P2 => ?_)
  refine hb.snd _ _ _ _ _ _ _ _ R2 (PostS.bind R2 P2 fun i Hs3 H3 id tp3 _ g3 w3 R3 ri P3 => ?_)
  split at P3
  · split at P3
    · rename_i q
      obtain ⟨vs, h1, h2⟩ := w3.tH
      refine ⟨r, vs, _, j, repT_tape ro, repT_int ri, h1, by rw [h2.length]; exact q, ?_⟩
      exact P3 _ _ _ (Same.refl _) (R3.tape h1 h2 (rv.mono (g2.ex.trans g3.ex)))
    · exact P3.elim
  · exact P3.elim

/-! targets -/
def setAll {α : Type} : List (Option α) → List Nat → List α → List (Option α)
  | s, i :: is, v :: vs => setAll (s.set i (some v)) is vs
  | s, _, _ => s
/-- the target of a loop: the slots that are set -/
structure GG (K : PySem.W.Frag) (mg : Str → Option Value) (r : Addr) (X : Cx) (tg : Expr) (g : TG) (is : List Nat) (f : D → Option (List D)) : Prop where
  pe : PG X tg g
  snd : ∀ v d ds Hs H tp σ (Q : L2.St → Hp → Prop), Wd K mg r Hs H tp → RepD K mg r Hs v d → f d = some ds → (∀ vs, RepDs K mg r Hs vs ds → vs.length = is.length → Q (setAll σ is vs) H) → g v σ H Q
def t1 : D → Option (List D) := fun d => some [d]
def tN (n : Nat) : D → Option (List D)
  | .tup ds => if ds.length = n then some ds else none
  | _ => none
theorem gg_name (i : Nat) {x : Str} (hN : X.N.Nodup) (hi : X.N[i]? = some x := by rfl) (hx : Loc X.env.scope x := by first | exact Or.inl rfl | exact Or.inr rfl) (hf : X.fn x = true ∨ X.env.scope.names.lookup x = some .local := by first | exact .inl rfl | exact .inr rfl) :
    GG K mg r X (.Name x pos) (gName i) [i] t1 :=
  ⟨pg_name hN hi hx hf, fun v d ds Hs H tp σ Q w rv hf q => by
    cases hf
    exact q [v] (.cons rv .nil) rfl⟩
structure GGs (K : PySem.W.Frag) (mg : Str → Option Value) (r : Addr) (X : Cx) (tg : List Expr) (g : TGs) (is : List Nat) : Prop where
  pe : PGs X tg g
  snd : ∀ vs σ H (Q : L2.St → Hp → Prop), vs.length = is.length → Q (setAll σ is vs) H → g vs σ H Q
theorem ggs_nil : GGs K mg r X [] gNil [] := ⟨pgs_nil, fun vs σ H Q hl q => by
  cases vs with
  | nil => exact ⟨rfl, q⟩
  | cons _ _ => cases hl⟩
theorem ggs_cons (i : Nat) {is : List Nat} {x : Str} {g : TGs} (hN : X.N.Nodup) (h : GGs K mg r X es g is) (hi : X.N[i]? = some x := by rfl) (hx : Loc X.env.scope x := by first | exact Or.inl rfl | exact Or.inr rfl) (hf : X.fn x = true ∨ X.env.scope.names.lookup x = some .local := by first | exact .inl rfl | exact .inr rfl)
    (hs : (assignEach (.Name x pos :: es) X.env).map (·.2) = assign (.Name x pos) X.env :: (assignEach es X.env).map (·.2) := by rfl) : GGs K mg r X (.Name x pos :: es) (gCons (gName i) g) (i :: is) :=
  ⟨pgs_cons (pg_name hN hi hx hf) h.pe hs, fun vs σ H Q hl q => by
    cases vs with
    | nil => cases hl
    | cons v vs => exact ⟨v, vs, rfl, h.snd vs _ H Q (by simpa using hl) q⟩⟩
theorem gg_tup {is : List Nat} {g : TGs} {k : Nat} {n : Nat} (hc : X.calm = true) (h : GGs K mg r X es g is) (hn : is.length = n) (hK : X.K = K := by rfl) (hn1 : (assignEach es X.env).length = n := by rfl) (hst : (assignEach es X.env).findIdx? (·.1) = none := by rfl) : GG K mg r X (.Tuple es k pos) (gTup K n g) is (tN n) := by
  subst hK
  refine ⟨pg_tup hc h.pe hn1 hst, fun v d ds Hs H tp σ Q w rv hf q => ?_⟩
  cases d with
  | tup xs =>
    have hf : (if xs.length = n then some xs else none) = some ds := hf
    split at hf
    · rename_i hl
      cases hf
      cases rv with
      | tup h1 h2 => exact ⟨_, _, rfl, .of (w.sub _ _ h1), by rw [h2.length]; exact hl, h.snd _ σ H Q (by rw [h2.length, hn]; exact hl) (q _ h2 (by rw [h2.length, hn]; exact hl))⟩
    · cases hf
  | _ => cases hf
theorem setAll_length {α : Type} : ∀ {is : List Nat} {s : List (Option α)} {vs : List α}, (setAll s is vs).length = s.length
  | [], _, _ => by unfold setAll; rfl
  | i :: is, s, [] => by unfold setAll; rfl
  | i :: is, s, v :: vs => by show (setAll (s.set i (some v)) is vs).length = _; rw [setAll_length, List.length_set]
theorem filt_id {O : List Nat} {i : Nat} (h : i ∉ O) : O.filter (· != i) = O := List.filter_eq_self.mpr fun a ha => by
  have : a ≠ i := fun e => h (e ▸ ha)
  simpa using this
theorem rel_setAll {Hs0 H0 Hs H : Hp} {tp : List D} : ∀ (is : List Nat) (σ : L2.St) (env : DEnv) (vs : List V) (ds : List D), Rel K mg r O Hs0 H0 Hs H σ env tp → (∀ i ∈ is, i ∉ O) → RepDs K mg r Hs vs ds → vs.length = is.length → Rel K mg r O Hs0 H0 Hs H (setAll σ is vs) (setAll env is ds) tp
  | [], σ, env, vs, ds, R, _, h, hl => by
    cases vs with
    | nil => cases h; exact R
    | cons _ _ => cases hl
  | i :: is, σ, env, vs, ds, R, hn, h, hl => by
    cases h with
    | nil => cases hl
    | cons h1 h2 =>
      have R1 := R.set i h1
      rw [filt_id (hn i List.mem_cons_self)] at R1
      exact rel_setAll is _ _ _ _ R1 (fun j hj => hn j (List.mem_cons_of_mem _ hj)) h2 (by simpa using hl)

/-! what is walked -/
def WalksD (K : PySem.W.Frag) (mg : Str → Option Value) (r : Addr) (J : It) (Hs1 : Hp) (items : List D) : Prop :=
  ∃ (Gd : Hp → Prop) (Y : Nat → Hp → V → Hp → Prop), Walk J items.length Gd Y ∧ (∀ Hs H, Same Hs1 Hs → Same Hs H → Gd H) ∧
    ∀ i Hs H tp x H', i < items.length → Same Hs1 Hs → Wd K mg r Hs H tp → Y i H x H' → ∃ Hs' d, Grow r Hs H Hs' H' ∧ Wd K mg r Hs' H' tp ∧ items[i]? = some d ∧ RepD K mg r Hs' x d
structure GI (K : PySem.W.Frag) (mg : Str → Option Value) (r : Addr) (X : Cx) (O : List Nat) (E : XK) (tg : Expr) (e : Expr) (wi : TI) (m : SE (List D)) : Prop where
  pe : PI X tg e wi
  snd : ∀ Hs0 H0 Hs H σ env tp Q, Rel K mg r O Hs0 H0 Hs H σ env tp → Post K mg r (fun Hs _ J items => WalksD K mg r J Hs items) E Hs H (m env tp) Q → wi σ H Q
theorem pi_or {tg : Expr} {w1 w2 : TI} (h1 : PI X tg e w1) (h2 : PI X tg e w2) : PI X tg e (fun σ H R => w1 σ H R ∨ w2 σ H R) :=
  ⟨fun pins s σ H R I h => h.elim (h1.run pins s σ H R I) (h2.run pins s σ H R I)⟩
/-- the items of a list, a tuple, a text -/
def seqD : D → Option (List D)
  | .lst xs => some xs
  | .tup xs => some xs
  | .scr ns => some (ns.map .int)
  | .str s => some (s.cps.toList.map fun c => .str ⟨#[c]⟩)
  | _ => none
def seqI (m : SE D) : SE (List D) := fun env tp => (m env tp).bind fun d tp1 => RE.of (seqD d) tp1
abbrev iSeq (K : PySem.W.Frag) (t : TE) : TI := fun σ H R => iList K t σ H R ∨ iTup K t σ H R ∨ iStr t σ H R
theorem walks_list {K : PySem.W.Frag} {mg : Str → Option Value} {r : Addr} {Hs : Hp} {a : Addr} {vs : List V} {ds : List D} (h : SqL K Hs a vs) (hr : RepDs K mg r Hs vs ds) : WalksD K mg r (Itl K a) Hs ds := by
  refine ⟨_, _, by rw [← hr.length]; exact walk_list (K := K) (a := a) (xs := vs), fun Hs2 H e1 e2 => Same.seq e2 (Same.seq e1 h), fun i Hs2 H tp x H' hi e w y => ?_⟩
  obtain ⟨rfl, y⟩ := y
  obtain ⟨d, h1, h2⟩ := hr.get y
  exact ⟨Hs2, d, Grow.refl _ _, w, h1, h2.mono e⟩
theorem sqt_mono {K : PySem.W.Frag} {H H' : Hp} {a : Addr} {xs : List V} (e : Same H H') (h : SqT K H a xs) : SqT K H' a xs := by
  rcases h with (h | ⟨o, h⟩) | h
  · exact .inl (.inl (e _ _ h))
  · exact .inl (.inr ⟨o, e _ _ h⟩)
  · exact .inr h
theorem walks_tup {K : PySem.W.Frag} {mg : Str → Option Value} {r : Addr} {Hs : Hp} {a : Addr} {vs : List V} {ds : List D} (h : SqT K Hs a vs) (hr : RepDs K mg r Hs vs ds) : WalksD K mg r (Itt K a) Hs ds := by
  refine ⟨_, _, by rw [← hr.length]; exact walk_tup (K := K) (a := a) (xs := vs), fun Hs2 H e1 e2 => sqt_mono e2 (sqt_mono e1 h), fun i Hs2 H tp x H' hi e w y => ?_⟩
  obtain ⟨rfl, y⟩ := y
  obtain ⟨d, h1, h2⟩ := hr.get y
  exact ⟨Hs2, d, Grow.refl _ _, w, h1, h2.mono e⟩
theorem walks_str {K : PySem.W.Frag} {mg : Str → Option Value} {r : Addr} {Hs : Hp} {z : Str} : WalksD K mg r (Its z) Hs (z.cps.toList.map fun c => .str ⟨#[c]⟩) := by
  refine ⟨_, _, by rw [List.length_map, Array.length_toList]; exact walk_str (z := z), fun Hs2 H e1 e2 => trivial, fun i Hs2 H tp x H' hi e w y => ?_⟩
  obtain ⟨rfl, c, y, rfl⟩ := y
  refine ⟨Hs2, .str ⟨#[c]⟩, Grow.refl _ _, w, ?_, .str _⟩
  rw [List.getElem?_map, Array.getElem?_toList, y]
  rfl
theorem gi_seq {tg : Expr} {m : SE D} (h : GE K mg r X O E e t m) (hK : X.K = K := by rfl) : GI K mg r X O E tg e (iSeq K t) (seqI m) := by
  subst hK
  refine ⟨pi_or (pi_list h.pe) (pi_or (pi_tup h.pe) (pi_str h.pe)), fun Hs0 H0 Hs H σ env tp Q R P => ?_⟩
  unfold seqI at P
  cases q : m env tp with
  | stuck => rw [q] at P; exact P.elim
  | exn c fs tp1 =>
    rw [q] at P
    refine .inl (h.snd _ _ _ _ _ _ _ _ R ?_)
    rw [q]; exact P
  | ok d tp1 =>
    rw [q] at P
    obtain ⟨items, hz, k⟩ := Post.ok_of (show Post X.K mg r (fun Hs _ J items => WalksD X.K mg r J Hs items) E Hs H (RE.of (seqD d) tp1) Q from P)
    cases d with
    | lst xs =>
      cases hz
      refine .inl (h.snd _ _ _ _ _ _ _ _ R ?_)
      rw [q]
      intro v Hs1 H1 g w rv
      cases rv with
      | lst h1 h2 => exact ⟨_, rfl, ⟨_, .of (w.sub _ _ h1)⟩, k _ Hs1 H1 g w (walks_list (.of h1) h2)⟩
    | scr ns =>
      cases hz
      refine .inl (h.snd _ _ _ _ _ _ _ _ R ?_)
      rw [q]
      intro v Hs1 H1 g w rv
      cases rv with
      | scr h1 => exact ⟨_, rfl, ⟨_, Same.seq w.sub h1⟩, k _ Hs1 H1 g w (walks_list h1 (RepDs.ints ns))⟩
    | tup xs =>
      cases hz
      refine .inr (.inl (h.snd _ _ _ _ _ _ _ _ R ?_))
      rw [q]
      intro v Hs1 H1 g w rv
      cases rv with
      | tup h1 h2 => exact ⟨_, rfl, ⟨_, .of (w.sub _ _ h1)⟩, k _ Hs1 H1 g w (walks_tup (.of h1) h2)⟩
    | str s =>
      cases hz
      refine .inr (.inr (h.snd _ _ _ _ _ _ _ _ R ?_))
      rw [q]
      intro v Hs1 H1 g w rv
      cases rv
      exact ⟨_, rfl, k _ Hs1 H1 g w walks_str⟩
    | _ => cases hz
/-- range -/
def cRg (i : Int) : Bool := decide (-(2 ^ 62) ≤ i) && decide (i < 2 ^ 62)
theorem cRg_ok {i : Int} (h : cRg i = true) : -(2 ^ 62) ≤ i ∧ i < 2 ^ 62 := by
  have h := Bool.and_eq_true_iff.mp h
  exact ⟨of_decide_eq_true h.1, of_decide_eq_true h.2⟩
def rangeL (lo hi : Int) : List D := (List.range (hi - lo).toNat).map fun (i : Nat) => .int (lo + i)
def range1D : List D → Option (List D)
  | [.int j] => if cRg j then some (rangeL 0 j) else none
  | _ => none
def range2D : List D → Option (List D)
  | [.int i, .int j] => if cRg i && cRg j then some (rangeL i j) else none
  | _ => none
def rangeI (f : List D → Option (List D)) (ms : SE (List D)) : SE (List D) := fun env tp => (ms env tp).bind fun ds tp1 => RE.of (f ds) tp1
theorem walks_range {K : PySem.W.Frag} {mg : Str → Option Value} {r : Addr} {Hs : Hp} {lo hi : Int} : WalksD K mg r (Itr lo (hi - lo).toNat) Hs (rangeL lo hi) := by
  have hl : (rangeL lo hi).length = (hi - lo).toNat := by unfold rangeL; rw [List.length_map, List.length_range]
  refine ⟨_, _, by rw [hl]; exact walk_range, fun Hs2 H e1 e2 => trivial, fun i Hs2 H tp x H' hi e w y => ?_⟩
  obtain ⟨rfl, rfl⟩ := y
  refine ⟨Hs2, .int (lo + i), Grow.refl _ _, w, ?_, .int _⟩
  rw [hl] at hi
  unfold rangeL
  rw [List.getElem?_map, List.getElem?_range hi]
  rfl
theorem gi_range1 {tg : Expr} {m : SE (List D)} {p : Pos} (hm : X.mg "range" = none) (h : GAO K mg r X O E [e] ts m) (hg : Gl X "range" := by rfl) (hs : starEach [e] X.env = [(false, eval e X.env)] := by rfl) : GI K mg r X O E tg (.Call (.Name "range" p) [e] [] pos) (iRng1 ts) (rangeI range1D m) := by
  refine ⟨pi_range1 hg hm h.pe hs, fun Hs0 H0 Hs H σ env tp Q R P => ?_⟩
  refine h.snd _ _ _ _ _ _ _ _ R (Post.bind P fun vs Hs1 H1 ds tp1 _ g w rv P1 => ?_)
  obtain ⟨items, hz, k⟩ := Post.ok_of P1
  unfold range1D at hz
  split at hz
  · split at hz
    · rename_i c
      cases hz
      obtain ⟨x, rfl, h1⟩ := paired1 rv
      have c := cRg_ok c
      refine ⟨_, by rw [repT_int h1], c.1, c.2, ?_⟩
      refine k _ Hs1 H1 (Grow.refl _ _) w ?_
      have q := fun j => walks_range (K := K) (mg := mg) (r := r) (Hs := Hs1) (lo := 0) (hi := j)
      simp only [Int.sub_zero] at q
      exact q _
    · cases hz
  · cases hz
theorem gi_range2 {tg e2 : Expr} {m : SE (List D)} {p : Pos} (hm : X.mg "range" = none) (h : GAO K mg r X O E [e, e2] ts m) (hg : Gl X "range" := by rfl) (hs : starEach [e, e2] X.env = [(false, eval e X.env), (false, eval e2 X.env)] := by rfl) (hs2 : starEach [e2] X.env = [(false, eval e2 X.env)] := by rfl) :
    GI K mg r X O E tg (.Call (.Name "range" p) [e, e2] [] pos) (iRng2 ts) (rangeI range2D m) := by
  refine ⟨pi_range2 hg hm h.pe hs hs2, fun Hs0 H0 Hs H σ env tp Q R P => ?_⟩
  refine h.snd _ _ _ _ _ _ _ _ R (Post.bind P fun vs Hs1 H1 ds tp1 _ g w rv P1 => ?_)
  obtain ⟨items, hz, k⟩ := Post.ok_of P1
  unfold range2D at hz
  split at hz
  · split at hz
    · rename_i c
      cases hz
      obtain ⟨x, x', rfl, h1, h2⟩ := paired2 rv
      have c := Bool.and_eq_true_iff.mp c
      have c1 := cRg_ok c.1
      have c2 := cRg_ok c.2
      exact ⟨_, _, by rw [repT_int h1, repT_int h2], ⟨c1.1, c1.2, c2.1, c2.2⟩, k _ Hs1 H1 (Grow.refl _ _) w walks_range⟩
    · cases hz
  · cases hz

/-! for -/
def forL (tgt : D → Option (List D)) (is : List Nat) (body : SS) : List D → SS
  | [], env, tp => .nx env tp
  | d :: ds, env, tp => match tgt d with
    | some es => (match body (setAll env is es) tp with
      | .nx e t => forL tgt is body ds e t
      | .ct e t => forL tgt is body ds e t
      | .bk e t => .nx e t
      | x => x)
    | none => .stuck
def forS (mi : SE (List D)) (tgt : D → Option (List D)) (is : List Nat) (body : SS) : SS := fun env tp => (mi env tp).bindS fun items tp1 => forL tgt is body items env tp1
theorem gs_for {tg : Expr} {mi : SE (List D)} {wi : TI} {g : TG} {is : List Nat} {tgt : D → Option (List D)} {body : SS} (hp : PassesOwn (model X.prog X.w) X.A X.env X.xe) (hc : X.calm = true) (hi : GI K mg r X O E tg e wi mi) (hg : GG K mg r X tg g is tgt) (hb : GSs K mg r X E O O O ss u body) (hO : ∀ i ∈ is, i ∉ O)
    (hlen : ∀ d ds, tgt d = some ds → ds.length = is.length) (hs : ∀ x, foldedSetIterable e X.env x = pure x := by intro _; rfl) : GS K mg r X E O O Ol (.For tg e ss [] pos) (tFor wi g u) (forS mi tgt is body) := by
  refine ⟨ps_for hp hc hi.pe hg.pe hb.pe hs, fun Hs0 H0 Hs H σ env tp D R P => ?_⟩
  refine hi.snd _ _ _ _ _ _ _ _ R (PostS.bind R P fun J Hs1 H1 items tp1 _ gg w R1 wd P1 => ?_)
  obtain ⟨Gd, Y, wk, hG, hY⟩ := wd
  refine for_it wk (fun i σ H => ∃ Hs env tp, Rel K mg r O Hs0 H0 Hs H σ env tp ∧ Same Hs1 Hs ∧ PostS K mg r E O Ol Hs0 H0 Hs (forL tgt is body (items.drop i) env tp) D) ⟨Hs1, env, tp1, R1, Same.refl _, P1⟩ (fun i σ H _ ⟨Hs2, _, _, R2, e2, _⟩ => hG Hs2 H e2 R2.wd.sub) (fun i x σ H H' hi ⟨Hs2, env2, tp2, R2, e2, P2⟩ y => ?_) (fun σ H ⟨Hs2, env2, tp2, R2, e2, P2⟩ => ?_)
  · obtain ⟨Hs3, d, g3, w3, hd, rd⟩ := hY i Hs2 H tp2 x H' hi e2 R2.wd y
    rw [List.drop_eq_getElem_cons hi] at P2
    have hd' : items[i] = d := by rw [List.getElem?_eq_getElem hi] at hd; exact Option.some.inj hd
    rw [hd'] at P2
    unfold forL at P2
    cases q : tgt d with
    | none => rw [q] at P2; exact P2.elim
    | some es =>
      rw [q] at P2
      simp only at P2
      refine hg.snd x d es Hs3 H' tp2 σ _ w3 rd q fun vs rs hl => ?_
      have R3 := rel_setAll is _ _ _ _ (R2.grow g3 w3) hO rs hl
      refine hb.snd _ _ _ _ _ _ _ _ R3 ?_
      have P2 := P2.shift g3.ex
      have e3 := e2.trans g3.ex
      have again : ∀ {e t}, PostS K mg r E O Ol Hs0 H0 Hs3 (forL tgt is body (items.drop (i + 1)) e t) D → ∀ σ' Hs' H', Same Hs3 Hs' → Rel K mg r O Hs0 H0 Hs' H' σ' e t → ∃ Hs env tp, Rel K mg r O Hs0 H0 Hs H' σ' env tp ∧ Same Hs1 Hs ∧ PostS K mg r E O Ol Hs0 H0 Hs (forL tgt is body (items.drop (i + 1)) env tp) D := fun P σ' Hs' H' e4 R' => ⟨Hs', _, _, R', e3.trans e4, P.shift e4⟩
      cases q2 : body (setAll env2 is es) tp2 with
      | nx e t => rw [q2] at P2; exact again P2
      | ct e t => rw [q2] at P2; exact again P2
      | bk e t => rw [q2] at P2; exact P2
      | rt d t => rw [q2] at P2; exact P2
      | exn c fs t => rw [q2] at P2; exact P2
      | stuck => rw [q2] at P2; exact P2
  · rw [List.drop_length] at P2
    exact P2 _ _ _ (Same.refl _) R2
end
end G

set_option Elab.async false
set_option linter.all false
set_option maxRecDepth 100000
set_option maxHeartbeats 1000000
/-! G4: comprehensions, while, defs and calls, several targets, methods. -/
namespace G
open PySem PySem.Spec PyProof.Rows L2
section
variable {K : PySem.W.Frag} {mg : Str → Option Value} {r : Addr} {X : Cx} {E : XK} {O O1 On Ol : List Nat} {e a b : Expr} {es : List Expr} {pos : Pos} {t ta tb : TE} {tt : TT} {ts : TA} {s1 : Stmt} {ss : List Stmt} {u u1 u2 : TS}

/-! ### while -/
def whileF (c : SE Bool) (body : SS) : Nat → SS
  | 0, _, _ => .stuck
  | n + 1, env, tp => (c env tp).bindS fun b tp1 => if b = true then (match body env tp1 with
      | .nx e t => whileF c body n e t
      | .ct e t => whileF c body n e t
      | .bk e t => .nx e t
      | x => x)
    else .nx env tp1
def whileS (n : Nat) (c : SE Bool) (body : SS) : SS := whileF c body n
theorem gs_while (n : Nat) {mc : SE Bool} {body : SS} (hp : PassesOwn (model X.prog X.w) X.A X.env X.xe) (hc : GT K mg r X O E e tt mc) (hb : GSs K mg r X E O O O ss u body) : GS K mg r X E O O Ol (.While e ss [] pos) (tWhile tt u) (whileS n mc body) := by
  refine ⟨ps_while hp hc.pe hb.pe, fun Hs0 H0 Hs H σ env tp D R P => ?_⟩
  refine ⟨fun m σ H => ∃ Hs env tp, Rel K mg r O Hs0 H0 Hs H σ env tp ∧ PostS K mg r E O Ol Hs0 H0 Hs (whileF mc body m env tp) D, ⟨n, Hs, env, tp, R, P⟩, ?_⟩
  rintro m σ1 H1 ⟨Hs1, env1, tp1, R1, P1⟩
  cases m with
  | zero => exact P1.elim
  | succ m =>
    unfold whileF at P1
    refine hc.snd _ _ _ _ _ _ _ _ R1 (PostS.bind R1 P1 fun v Hs2 H2 d tp2 _ g w R2 rv P2 => ?_)
    subst rv
    cases v with
    | false => exact iteF (P2 _ _ _ (Same.refl _) R2)
    | true =>
      refine iteT ⟨fun σ H => ∃ Hs env tp, Rel K mg r O Hs0 H0 Hs H σ env tp ∧ PostS K mg r E O Ol Hs0 H0 Hs (whileF mc body m env tp) D, fun σ' H' q => ⟨m, Nat.lt_succ_self m, q⟩, ?_⟩
      rw [if_pos rfl] at P2
      refine hb.snd _ _ _ _ _ _ _ _ R2 ?_
      have again : ∀ {e t}, PostS K mg r E O Ol Hs0 H0 Hs2 (whileF mc body m e t) D → ∀ σ' Hs' H', Same Hs2 Hs' → Rel K mg r O Hs0 H0 Hs' H' σ' e t → ∃ Hs env tp, Rel K mg r O Hs0 H0 Hs H' σ' env tp ∧ PostS K mg r E O Ol Hs0 H0 Hs (whileF mc body m env tp) D := fun P σ' Hs' H' e4 R' => ⟨Hs', _, _, R', P.shift e4⟩
      cases q2 : body env1 tp2 with
      | nx e t => rw [q2] at P2; exact again P2
      | ct e t => rw [q2] at P2; exact again P2
      | bk e t => rw [q2] at P2; exact P2
      | rt d t => rw [q2] at P2; exact P2
      | exn c fs t => rw [q2] at P2; exact P2
      | stuck => rw [q2] at P2; exact P2

/-! ### comprehensions -/
def wipeE {α : Type} (σ : List (Option α)) : List Nat → List (Option α)
  | [] => σ
  | v :: vs => (wipeE σ vs).set v none
theorem wipe_eq (σ : L2.St) : ∀ vs : List Nat, wipe σ vs = wipeE σ vs
  | [] => rfl
  | v :: vs => by unfold wipe wipeE; rw [wipe_eq σ vs]
theorem Rel.unset {Hs0 H0 Hs H : Hp} {σ : L2.St} {env : DEnv} {tp : List D} (R : Rel K mg r O Hs0 H0 Hs H σ env tp) (i : Nat) (hi : i ∉ O) : Rel K mg r O Hs0 H0 Hs H (σ.set i none) (env.set i none) tp where
  wd := R.wd
  gr := R.gr
  len := by rw [List.length_set, List.length_set]; exact R.len
  vars := fun j d a n => by
    have ne : j ≠ i := fun q => by
      subst q
      rw [List.getElem?_set] at a
      simp only [if_true] at a
      split at a <;> cases a
    rw [set_gne ne] at a ⊢
    exact R.vars j d a n
  own := fun j hj => by
    have ne : j ≠ i := fun q => hi (q ▸ hj)
    rw [set_gne ne, set_gne ne]
    exact R.own j hj
  dis := fun j l p hj hl a b => by
    rw [set_gne (by rintro rfl; exact hi hj)] at a
    rw [set_gne (by rintro rfl; exact hi hl)] at b
    exact R.dis j l p hj hl a b
theorem Rel.wiped {Hs0 H0 Hs H : Hp} {σ : L2.St} {env : DEnv} {tp : List D} (R : Rel K mg r O Hs0 H0 Hs H σ env tp) : ∀ vs : List Nat, (∀ i ∈ vs, i ∉ O) → Rel K mg r O Hs0 H0 Hs H (wipeE σ vs) (wipeE env vs) tp
  | [], _ => R
  | v :: vs, h => (Rel.wiped R vs fun i hi => h i (List.mem_cons_of_mem _ hi)).unset v (h v List.mem_cons_self)
theorem wipe_get {α : Type} {σ : List (Option α)} {i : Nat} : ∀ {vs : List Nat}, i ∉ vs → (wipeE σ vs)[i]? = σ[i]?
  | [], _ => rfl
  | v :: vs, h => by
    unfold wipeE
    rw [set_gne (by rintro rfl; exact h List.mem_cons_self), wipe_get fun q => h (List.mem_cons_of_mem _ q)]
theorem wipe_len {α : Type} {σ : List (Option α)} : ∀ {vs : List Nat}, (wipeE σ vs).length = σ.length
  | [] => rfl
  | v :: vs => by unfold wipeE; rw [List.length_set, wipe_len]
theorem wipe_none {α : Type} {σ : List (Option α)} {i : Nat} : ∀ {vs : List Nat}, i ∈ vs → (wipeE σ vs)[i]? = some none ∨ (wipeE σ vs)[i]? = none
  | v :: vs, h => by
    unfold wipeE
    by_cases q : i = v
    · subst q
      rw [List.getElem?_set]
      simp only [if_true]
      split
      · exact .inl rfl
      · exact .inr rfl
    · rw [set_gne q]
      rcases List.mem_cons.mp h with z | z
      · exact absurd z q
      · exact wipe_none z
theorem wipe_set {α : Type} {σ : List (Option α)} {i : Nat} {v : Option α} {vs : List Nat} (h : i ∈ vs) : wipeE (σ.set i v) vs = wipeE σ vs := by
  apply List.ext_getElem?
  intro j
  by_cases hj : j ∈ vs
  · have l1 : (wipeE (σ.set i v) vs).length = (wipeE σ vs).length := by rw [wipe_len, wipe_len, List.length_set]
    rcases Nat.lt_or_ge j (wipeE σ vs).length with q | q
    · rcases wipe_none (σ := σ.set i v) hj with a | a
      · rcases wipe_none (σ := σ) hj with b | b
        · rw [a, b]
        · rw [List.getElem?_eq_none_iff] at b; omega
      · rw [List.getElem?_eq_none_iff] at a; omega
    · rw [List.getElem?_eq_none q, List.getElem?_eq_none (by omega)]
  · rw [wipe_get hj, wipe_get hj, set_gne (by rintro rfl; exact hj h)]
theorem wipe_wipe {α : Type} {σ : List (Option α)} {vs : List Nat} : ∀ ws : List Nat, (∀ i ∈ ws, i ∈ vs) → wipeE (wipeE σ ws) vs = wipeE σ vs
  | [], _ => rfl
  | w :: ws, h => by
    show wipeE ((wipeE σ ws).set w none) vs = _
    rw [wipe_set (h w List.mem_cons_self), wipe_wipe ws fun i hi => h i (List.mem_cons_of_mem _ hi)]
theorem wipe_setAll {α : Type} {vs : List Nat} : ∀ (is : List Nat) (σ : List (Option α)) (ws : List α), (∀ i ∈ is, i ∈ vs) → wipeE (setAll σ is ws) vs = wipeE σ vs
  | [], σ, ws, _ => by unfold setAll; rfl
  | i :: is, σ, [], _ => by unfold setAll; rfl
  | i :: is, σ, w :: ws, h => by
    show wipeE (setAll (σ.set i (some w)) is ws) vs = _
    rw [wipe_setAll is _ ws fun j hj => h j (List.mem_cons_of_mem _ hj), wipe_set (h i List.mem_cons_self)]

/-- the items that a comprehension makes -/
def compL (f : D → List D → RE (Option D)) : List D → List D → RE (List D)
  | [], tp => .ok [] tp
  | d :: ds, tp => match f d tp with
    | .ok o tp1 => (match compL f ds tp1 with
      | .ok xs tp2 => .ok (o.toList ++ xs) tp2
      | _ => .stuck)
    | _ => .stuck
def yesT : SE Bool := fun _ tp => .ok true tp
def compTurn1 (tgt : D → Option (List D)) (is : List Nat) (c : SE Bool) (m : SE D) (env : DEnv) (d : D) (tp : List D) : RE (Option D) := match tgt d with
  | some ds => (c (setAll env is ds) tp).bind fun b tp1 => if b = true then (m (setAll env is ds) tp1).bind fun x tp2 => .ok (some x) tp2 else .ok none tp1
  | none => .stuck
def compE (mi : SE (List D)) (vs : List Nat) (tgt : D → Option (List D)) (is : List Nat) (c : SE Bool) (m : SE D) : SE D := fun env tp => (mi env tp).bind fun items tp1 =>
  if items.length ≤ sizeLine then (match compL (compTurn1 tgt is c m (wipeE env vs)) items tp1 with
    | .ok xs tp2 => .ok (.lst xs) tp2
    | _ => .stuck) else .stuck
/-- a clause's tests -/
structure GTs (K : PySem.W.Frag) (mg : Str → Option Value) (r : Addr) (X : Cx) (O : List Nat) (E : XK) (es : List Expr) (t : TT) (m : SE Bool) : Prop where
  pe : PTs X es t
  snd : ∀ Hs0 H0 Hs H σ env tp Q, Rel K mg r O Hs0 H0 Hs H σ env tp → PostB K mg r E Hs H (m env tp) Q → t σ H Q
theorem gts_nil : GTs K mg r X O E [] tYes yesT := ⟨pts_nil, fun Hs0 H0 Hs H σ env tp Q R P => P true Hs H (Grow.refl _ _) R.wd rfl⟩
theorem gts_one {m : SE Bool} (h : GT K mg r X O E e tt m) : GTs K mg r X O E [e] tt m := ⟨pts_one h.pe, h.snd⟩

theorem compL_cons {f : D → List D → RE (Option D)} {d : D} {ds : List D} {tp tpE : List D} {xs : List D} (h : compL f (d :: ds) tp = .ok xs tpE) : ∃ o tp1 xs', f d tp = .ok o tp1 ∧ compL f ds tp1 = .ok xs' tpE ∧ xs = o.toList ++ xs' := by
  unfold compL at h
  cases q : f d tp with
  | ok o tp1 =>
    rw [q] at h
    simp only at h
    cases q2 : compL f ds tp1 with
    | ok xs' tp2 =>
      rw [q2] at h
      simp only [RE.ok.injEq] at h
      exact ⟨o, tp1, xs', rfl, by rw [q2, h.2], h.1.symm⟩
    | _ => rw [q2] at h; cases h
  | _ => rw [q] at h; cases h
theorem Rel.other {Hs0 H0 Hs H : Hp} {σ : L2.St} {env : DEnv} {tp : List D} {p : Addr} {o : HO} (R : Rel K mg r O Hs0 H0 Hs H σ env tp) (hs : Hs p = none) (h0 : H0 p = none) (ne : p ≠ r) (hO : ∀ j ∈ O, σ[j]? ≠ some (some (.ref p))) : Rel K mg r O Hs0 H0 Hs (upd H p o) σ env tp := by
  refine ⟨R.wd.write hs ne, ⟨fun b u q n => ?_, R.gr.ex, R.gr.new⟩, R.len, R.vars, fun j hj => ?_, R.dis⟩
  · rw [upd_ne (ne_of_none q h0)]; exact R.gr.keep b u q n
  · obtain ⟨d', p', b1, b2, c, c0, n, oa⟩ := R.own j hj
    have np : p' ≠ p := fun z => hO j hj (z ▸ b2)
    exact ⟨d', p', b1, b2, c, c0, n, oa.grow (Same.refl _) fun u z => by rw [upd_ne np]; exact z⟩
theorem Grow.other {Hs H Hs' H' : Hp} {p : Addr} {o : HO} (g : Grow r Hs H Hs' H') (h : H p = none) : Grow r Hs H Hs' (upd H' p o) :=
  ⟨fun b u q n => by rw [upd_ne (ne_of_none q h)]; exact g.keep b u q n, g.ex, g.new⟩
theorem Grow.no {Hs H Hs' H' : Hp} {p : Addr} {o : HO} (g : Grow r Hs H Hs' H') (hs : Hs p = none) (h : H p = some o) (ne : p ≠ r) : Hs' p = none := by
  cases z : Hs' p with
  | none => rfl
  | some u =>
    rcases g.new p u ne z with q | q
    · rw [hs] at q; cases q
    · rw [h] at q; cases q
theorem comp_sound {wi : TI} {g : TG} {te : TE} {is vs : List Nat} {tgt : D → Option (List D)} {mi : SE (List D)} {c : SE Bool} {m : SE D}
    (hi : ∀ Hs0 H0 Hs H σ env tp Q, Rel K mg r O Hs0 H0 Hs H σ env tp → Post K mg r (fun Hs _ J items => WalksD K mg r J Hs items) E Hs H (mi env tp) Q → wi σ H Q)
    (hg : ∀ v d ds Hs H tp σ (Q : L2.St → Hp → Prop), Wd K mg r Hs H tp → RepD K mg r Hs v d → tgt d = some ds → (∀ vs, RepDs K mg r Hs vs ds → vs.length = is.length → Q (setAll σ is vs) H) → g v σ H Q)
    (ht : ∀ Hs0 H0 Hs H σ env tp Q, Rel K mg r O Hs0 H0 Hs H σ env tp → PostB K mg r E0 Hs H (c env tp) Q → tt σ H Q)
    (he : ∀ Hs0 H0 Hs H σ env tp Q, Rel K mg r O Hs0 H0 Hs H σ env tp → PostE K mg r E0 Hs H (m env tp) Q → te σ H Q)
    (hvs : ∀ i ∈ vs, i ∉ O) (his : ∀ i ∈ is, i ∈ vs) :
    ∀ Hs0 H0 Hs H σ env tp Q, Rel K mg r O Hs0 H0 Hs H σ env tp → Post K mg r (Fresh K mg r H) E Hs H (compE mi vs tgt is c m env tp) Q → tLc wi g tt te vs σ H Q := by
  intro Hs0 H0 Hs H σ env tp Q R P
  refine hi _ _ _ _ _ _ _ _ R ?_
  unfold compE at P
  cases q : mi env tp with
  | stuck => rw [q] at P; exact P.elim
  | exn cc fs tp1 => rw [q] at P; exact P
  | ok items tp1 =>
    rw [q] at P
    intro J Hs1 H1 g1 w1 wd Dl hD
    simp only [RE.bind_ok] at P
    by_cases hz : items.length ≤ sizeLine
    case neg => rw [if_neg hz] at P; exact P.elim
    rw [if_pos hz] at P
    cases q2 : compL (compTurn1 tgt is c m (wipeE env vs)) items tp1 with
    | stuck => rw [q2] at P; exact P.elim
    | exn cc fs tp2 => rw [q2] at P; exact P.elim
    | ok all tpE =>
      rw [q2] at P
      have P : ∀ v Hs' H', Grow r Hs H Hs' H' → Wd K mg r Hs' H' tpE → Fresh K mg r H Hs' H' v (.lst all) → Q v H' := P
      obtain ⟨Gd, Y, wk, hG, hY⟩ := wd
      have R1 := R.grow g1 w1
      obtain ⟨fD, neD⟩ := w1.fresh hD
      have h0D : H Dl = none := by
        cases z : H Dl with
        | none => rfl
        | some u => rw [g1.keep Dl u z neD] at hD; cases hD
      have Rw := R1.wiped vs hvs
      obtain ⟨gl, wl⟩ := w1.lay (o := .lst []) hD
      obtain ⟨n1, n2⟩ := R.new_ne h0D neD
      have n3 : ∀ j ∈ O, (wipeE σ vs)[j]? ≠ some (some (.ref Dl)) := fun j hj z => n2 j hj (by rw [← z, wipe_get fun q => hvs j q hj])
      have hisO : ∀ i ∈ is, i ∉ O := fun i hi => hvs i (his i hi)
      refine lc_it wk (Qd := fun H' => Q (.ref Dl) H') (fun i H' => ∃ Hs2 vsL dsL tp xs, Rel K mg r O Hs0 H0 Hs2 H' (wipeE σ vs) (wipeE env vs) tp ∧ Same Hs1 Hs2 ∧ Grow r Hs H Hs2 H' ∧ Hs2 Dl = none ∧ H' Dl = some (.lst vsL) ∧ RepDs K mg r Hs2 vsL dsL ∧ dsL.length ≤ i ∧
        compL (compTurn1 tgt is c m (wipeE env vs)) (items.drop i) tp = .ok xs tpE ∧ dsL ++ xs = all) ⟨Hs1, [], [], tp1, all, Rw.grow gl wl, Same.refl _, g1.trans gl, fD, upd_same, .nil, Nat.le_refl _, q2, rfl⟩ ?_ ?_ ?_
      · rintro i H' _ ⟨Hs2, vsL, dsL, tp2, xs, R2, e2, _⟩
        exact hG Hs2 H' e2 R2.wd.sub
      · rintro i x H2 H3 hi2 ⟨Hs2, vsL, dsL, tp2, xs, R2, e2, g2, f2, hD2, rs2, hl2, hc2, ha2⟩ y
        obtain ⟨Hs3, d, g3, w3, hd, rd⟩ := hY i Hs2 H2 tp2 x H3 hi2 e2 R2.wd y
        rw [List.drop_eq_getElem_cons hi2] at hc2
        have hd' : items[i] = d := by rw [List.getElem?_eq_getElem hi2] at hd; exact Option.some.inj hd
        rw [hd'] at hc2
        obtain ⟨o, tp3, xs', hf, hrest, hxs⟩ := compL_cons hc2
        unfold compTurn1 at hf
        cases qt : tgt d with
        | none => rw [qt] at hf; cases hf
        | some es =>
          rw [qt] at hf
          simp only at hf
          rw [wipe_eq]
          refine hg x d es Hs3 H3 tp2 _ _ w3 rd qt fun ws rs hl => ⟨by rw [wipe_eq, wipe_setAll is _ _ his, wipe_wipe vs fun _ h => h], ?_⟩
          have R3 := rel_setAll is _ _ _ _ (R2.grow g3 w3) hisO rs hl
          have f3 := g3.no f2 hD2 neD
          have hD3 := g3.keep Dl _ hD2 neD
          refine ht _ _ _ _ _ _ _ _ R3 ?_
          cases qb : c (setAll (wipeE env vs) is es) tp2 with
          | stuck => rw [qb] at hf; cases hf
          | exn cc fs tp4 => rw [qb] at hf; cases hf
          | ok b tpb =>
            rw [qb] at hf
            simp only [RE.bind_ok] at hf
            intro v Hs4 H4 g4 w4 ev
            subst ev
            have f4 := g4.no f3 hD3 neD
            have hD4 := g4.keep Dl _ hD3 neD
            cases v with
            | false =>
              rw [if_neg Bool.false_ne_true] at hf
              simp only [RE.ok.injEq] at hf
              obtain ⟨ho, htp⟩ := hf
              subst ho htp
              refine iteF ⟨Hs4, vsL, dsL, tpb, xs', R2.grow (g3.trans g4) w4, e2.trans (g3.ex.trans g4.ex), g2.trans (g3.trans g4), f4, hD4, rs2.mono (g3.ex.trans g4.ex), by omega, hrest, ?_⟩
              rw [← ha2, hxs]; rfl
            | true =>
              rw [if_pos rfl] at hf
              refine iteT (he _ _ _ _ _ _ _ _ (R3.grow g4 w4) ?_)
              cases qm : m (setAll (wipeE env vs) is es) tpb with
              | stuck => rw [qm] at hf; cases hf
              | exn cc fs tp4 => rw [qm] at hf; cases hf
              | ok z tpz =>
                rw [qm] at hf
                simp only [RE.bind_ok, RE.ok.injEq] at hf
                obtain ⟨ho, htp⟩ := hf
                subst ho htp
                intro y5 Hs5 H5 g5 w5 ry
                have f5 := g5.no f4 hD4 neD
                have hD5 := g5.keep Dl _ hD4 neD
                have e5 := g3.ex.trans (g4.ex.trans g5.ex)
                refine ⟨vsL, hD5, by rw [rs2.length]; omega, Hs5, vsL ++ [y5], dsL ++ [z], tpz, xs', ?_, e2.trans e5, ?_, f5, upd_same, (rs2.mono e5).append (.cons ry .nil), by rw [List.length_append, List.length_singleton]; omega, hrest, ?_⟩
                · exact (R2.grow (g3.trans (g4.trans g5)) w5).other f5 n1 neD n3
                · exact (g2.trans (g3.trans (g4.trans g5))).other h0D
                · rw [← ha2, hxs, List.append_assoc]; rfl
      · rintro H2 ⟨Hs2, vsL, dsL, tp2, xs, R2, e2, g2, f2, hD2, rs2, hl2, hc2, ha2⟩
        rw [List.drop_length] at hc2
        unfold compL at hc2
        simp only [RE.ok.injEq] at hc2
        obtain ⟨hx, htp⟩ := hc2
        subst hx htp
        rw [List.append_nil] at ha2
        subst ha2
        exact P _ Hs2 H2 g2 R2.wd ⟨Dl, rfl, h0D, f2, neD, vsL, hD2, rs2⟩

/-- a list comprehension (one clause) -/
theorem gf_lc {elt tg iter : Expr} {ifs : List Expr} {scope : Scope} {own : List (Str × Nat)} {wi : TI} {g : TG} {te : TE} {is : List Nat} {tgt : D → Option (List D)} {mi : SE (List D)} {c : SE Bool} {m : SE D} (hc : X.calm = true) (hN : X.N.Nodup) (hi : GI K mg r X O E tg iter wi mi) (ok : BlkOk X.N X.env.scope scope own)
    (hg : ∀ (s : Shared) (H : Hp) (C : Addr) (cl : List (Str × Addr)) (fp : List Addr), GG K mg r (X.blk s H scope (compEnvC scope cl C X.env) fp) tg g is tgt)
    (ht : ∀ (s : Shared) (H : Hp) (C : Addr) (cl : List (Str × Addr)) (fp : List Addr), GTs K mg r (X.blk s H scope (compEnvC scope cl C X.env) fp) O E0 ifs tt c)
    (he : ∀ (s : Shared) (H : Hp) (C : Addr) (cl : List (Str × Addr)) (fp : List Addr), GE K mg r (X.blk s H scope (compEnvC scope cl C X.env) fp) O E0 elt te m)
    (hvs : ∀ i ∈ own.map (·.2), i ∉ O) (his : ∀ i ∈ is, i ∈ own.map (·.2)) (hs : ∀ x, foldedSetIterable iter X.env x = pure x := by intro _; rfl) :
    GF K mg r X O E (.ListComp elt [⟨tg, iter, ifs, 0⟩] scope pos) (tLc wi g tt te (own.map (·.2))) (compE mi (own.map (·.2)) tgt is c m) :=
  ⟨pe_lc hc hN hi.pe ok (fun s H C cl fp => (hg s H C cl fp).pe) (fun s H C cl fp => (ht s H C cl fp).pe) (fun s H C cl fp => (he s H C cl fp).pe) hs,
    comp_sound hi.snd (hg X.s_0 X.H_0 0 [] []).snd (ht X.s_0 X.H_0 0 [] []).snd (he X.s_0 X.H_0 0 [] []).snd hvs his⟩
/-- name = [..] on one line, the name a local -/
theorem lc_stmt {i : Nat} {y : Str} {py : Pos} {elt tg iter : Expr} {ifs : List Expr} {scope : Scope} {own : List (Str × Nat)} {pos spos : Pos} {wi : TI} {g : TG} {te : TE} {is : List Nat} {tgt : D → Option (List D)} {mi : SE (List D)} {c : SE Bool} {m : SE D} (hc : X.calm = true) (hN : X.N.Nodup) (hi : GI K mg r X O E tg iter wi mi) (ok : BlkOk X.N X.env.scope scope own)
    (hg : ∀ (s : Shared) (H : Hp) (C : Addr) (cl : List (Str × Addr)) (fp : List Addr), GG K mg r (X.blk s H scope (compEnvC scope cl C X.env) fp) tg g is tgt)
    (ht : ∀ (s : Shared) (H : Hp) (C : Addr) (cl : List (Str × Addr)) (fp : List Addr), GTs K mg r (X.blk s H scope (compEnvC scope cl C X.env) fp) O E0 ifs tt c)
    (he : ∀ (s : Shared) (H : Hp) (C : Addr) (cl : List (Str × Addr)) (fp : List Addr), GE K mg r (X.blk s H scope (compEnvC scope cl C X.env) fp) O E0 elt te m)
    (hvs : ∀ i ∈ own.map (·.2), i ∉ O) (his : ∀ i ∈ is, i ∈ own.map (·.2)) (hy : X.N[i]? = some y := by rfl) (hyl : X.env.scope.names.lookup y = some .local := by rfl)
    (hsw : swapsWith (.ListComp elt [⟨tg, iter, ifs, 0⟩] scope pos) (some (.Name y py)) spos.line X.env = pure true := by exact sw_true rfl rfl rfl (by decide +kernel)) (hs : ∀ x, foldedSetIterable iter X.env x = pure x := by intro _; rfl) :
    PS X (.Assign [.Name y py] (.ListComp elt [⟨tg, iter, ifs, 0⟩] scope pos) spos) (tAsg (tLc wi g tt te (own.map (·.2))) (gName i)) ∧
    ∀ Hs0 H0 Hs H σ env tp Q, Rel K mg r O Hs0 H0 Hs H σ env tp → Post K mg r (Fresh K mg r H) E Hs H (compE mi (own.map (·.2)) tgt is c m env tp) Q → tLc wi g tt te (own.map (·.2)) σ H Q :=
  ⟨ps_setLc hc hN hy hyl hsw hi.pe ok (fun s H C cl fp => (hg s H C cl fp).pe) (fun s H C cl fp => (ht s H C cl fp).pe) (fun s H C cl fp => (he s H C cl fp).pe) hs,
    comp_sound hi.snd (hg X.s_0 X.H_0 0 [] []).snd (ht X.s_0 X.H_0 0 [] []).snd (he X.s_0 X.H_0 0 [] []).snd hvs his⟩
theorem ge_of_gf {m : SE D} (h : ∀ Hs0 H0 Hs H σ env tp Q, Rel K mg r O Hs0 H0 Hs H σ env tp → Post K mg r (Fresh K mg r H) E Hs H (m env tp) Q → t σ H Q) : ∀ Hs0 H0 Hs H σ env tp Q, Rel K mg r O Hs0 H0 Hs H σ env tp → PostE K mg r E Hs H (m env tp) Q → t σ H Q := by
  intro Hs0 H0 Hs H σ env tp Q R P
  refine h _ _ _ _ _ _ _ _ R ?_
  unfold PostE at P
  cases q : m env tp with
  | ok d tp' =>
    rw [q] at P
    intro v Hs' H' g w x
    obtain ⟨Hs2, e, w2, rv, nw⟩ := freeze_fresh w x
    refine P v Hs2 H' ⟨g.keep, g.ex.trans e, fun b o n z => ?_⟩ w2 rv
    rcases nw b o z with z | z
    · exact g.new b o n z
    · exact .inr z
  | exn c fs tp' => rw [q] at P; exact P
  | stuck => rw [q] at P; exact P
theorem gs_setLc {i : Nat} {st : Stmt} {m : SE D} (h : PS X st (tAsg t (gName i)) ∧ ∀ Hs0 H0 Hs H σ env tp Q, Rel K mg r O Hs0 H0 Hs H σ env tp → Post K mg r (Fresh K mg r H) E Hs H (m env tp) Q → t σ H Q) : GS K mg r X E O (O.filter (· != i)) Ol st (tAsg t (gName i)) (setS i m) :=
  ⟨h.1, setS_sound i (ge_of_gf h.2)⟩
theorem gs_setLcF {i : Nat} {st : Stmt} {m : SE D} (h : PS X st (tAsg t (gName i)) ∧ ∀ Hs0 H0 Hs H σ env tp Q, Rel K mg r O Hs0 H0 Hs H σ env tp → Post K mg r (Fresh K mg r H) E Hs H (m env tp) Q → t σ H Q) : GS K mg r X E O (i :: O.filter (· != i)) Ol st (tAsg t (gName i)) (setFS i m) :=
  ⟨h.1, setF_sound i h.2⟩

/-! ### defs and calls -/
def spOf (K : PySem.W.Frag) (mg : Str → Option Value) (r : Addr) (n : Nat) (m : List D → List D → RE D) : Sp := fun vs H Q E => ∃ Hs ds tp, vs.length = n ∧ Wd K mg r Hs H tp ∧ RepDs K mg r Hs vs ds ∧ PostE K mg r E Hs H (m ds tp) Q
structure DefOk (P : Program) (w : World) (K : PySem.W.Frag) (mg : Str → Option Value) (base : Heap) (CX : CXT) (r : Addr) (x : Str) (k n : Nat) (m : List D → List D → RE D) : Prop where
  ex : ∃ f fd ps, FnOk P w K mg base CX k f fd ps (spOf K mg r n m) ∧ mg x = some (.ref f) ∧ PySem.W.keepIn K (.ref f) = true ∧ Binds K fd ps []
def callE (n : Nat) (m : List D → List D → RE D) (ms : SE (List D)) : SE D := fun env tp => (ms env tp).bind fun ds tp1 => if ds.length = n then m ds tp1 else .stuck
theorem call_sound {n : Nat} {m : List D → List D → RE D} {ms : SE (List D)} (h : ∀ Hs0 H0 Hs H σ env tp Q, Rel K mg r O Hs0 H0 Hs H σ env tp → PostA K mg r E Hs H (ms env tp) Q → ts σ H Q) :
    ∀ Hs0 H0 Hs H σ env tp Q, Rel K mg r O Hs0 H0 Hs H σ env tp → PostE K mg r E Hs H (callE n m ms env tp) Q → tCall (spOf K mg r n m) [] E ts σ H Q := by
  intro Hs0 H0 Hs H σ env tp Q R P
  refine h _ _ _ _ _ _ _ _ R (Post.bind P fun vs Hs1 H1 ds tp1 _ g w rs P1 => ?_)
  split at P1
  · rename_i hl
    exact ⟨Hs1, ds, tp1, by rw [List.append_nil, rs.length]; exact hl, w, by rw [List.append_nil]; exact rs, P1⟩
  · exact P1.elim
theorem ge_call {CX : CXT} {x : Str} {k n : Nat} {m : List D → List D → RE D} {ms : SE (List D)} {p : Pos} (dk : DefOk X.prog X.w X.K X.mg X.base CX r x k n m) (hr : Room k X.A) (hx : Passes CX X E) (ha : GA K mg r X O E (e :: es) ts ms) (hK : X.K = K := by rfl) (hmg : X.mg = mg := by rfl) (hg : Gl X x := by rfl)
    (hdb : (x == ("__debug__" : Str)) = false := by decide) (he : starEach (e :: es) X.env = (false, eval e X.env) :: starEach es X.env := by rfl) (hpl : (backTo pos (starEach es X.env)).any (·.1) = false := by rfl) :
    GE K mg r X O E (.Call (.Name x p) (e :: es) [] pos) (tCall (spOf K mg r n m) [] E ts) (callE n m ms) := by
  subst hK hmg
  obtain ⟨f, fd, ps, F, hm, hk, hb⟩ := dk.ex
  exact ⟨pe_call F hr hg hm hk hb .nil hx ha.pe hdb he hpl, call_sound ha.snd⟩
/-- a body's result as a def's -/
def retR : RS → RE D
  | .rt d tp => .ok d tp
  | .nx _ tp => .ok .non tp
  | _ => .stuck
def defD (N : Nat) (body : SS) : List D → List D → RE D := fun ds tp => retR (body (ds.map some ++ List.replicate (N - ds.length) none) tp)
theorem rel_start {Hs H : Hp} {tp : List D} {N : List Str} {vs : List V} {ds : List D} (w : Wd K mg r Hs H tp) (rs : RepDs K mg r Hs vs ds) : Rel K mg r [] Hs H Hs H (L2.start N vs) (ds.map some ++ List.replicate (N.length - ds.length) none) tp where
  wd := w
  gr := Grow.refl _ _
  len := by unfold L2.start; rw [List.length_append, List.length_append, List.length_map, List.length_map, List.length_replicate, List.length_replicate, rs.length]
  vars := fun i d a _ => by
    have hi : i < ds.length := by
      rcases Nat.lt_or_ge i ds.length with q | q
      · exact q
      · rw [List.getElem?_append_right (by rw [List.length_map]; exact q), List.getElem?_replicate] at a
        split at a <;> cases a
    rw [List.getElem?_append_left (by rw [List.length_map]; exact hi), List.getElem?_map] at a
    obtain ⟨d', h1, h2⟩ := Option.map_eq_some_iff.mp a
    cases h2
    obtain ⟨v, h3, h4⟩ := rs.get' h1
    refine ⟨v, ?_, h4⟩
    unfold L2.start
    rw [List.getElem?_append_left (by rw [List.length_map, rs.length]; exact hi), List.getElem?_map, h3]
    rfl
  own := fun i hi => nomatch hi
  dis := fun i j p hi => nomatch hi
section
variable {P : Program} {w : World} {base : Heap}
theorem fn_def {x qual : Str} {params : Arguments} {body : List Stmt} {scope : Scope} {f : Addr} {fd : FuncData} {N ps : List Str} {k : Nat} {m : SS} (F : FunD K x qual params body scope [] [] f fd) (S : FnScope N ps scope) (hm : mg x = some (.ref f))
    (hb : ∀ (kV doc pm : Value) (an : Option Addr) (cdv ct : Value) (us : List Value), us.length = ps.length → bindArgs (PySem.W.fnOf x qual params body scope .none kV doc pm an cdv ct) ⟨us, []⟩ = pure (ps.zip us))
    (h : ∀ (cdv : Value) (A : Around) (outer : List Env) (s : Shared) (H : Hp) (E : XK), Room k (A.deeper (envOfC qual scope s.heap.objs.size f cdv)) → ∃ On u, GSs K mg r (cxOf CX0 P w K mg base N qual scope f cdv A outer s H E).nox E0 [] On [] body u m) :
    DefOk P w K mg base CX0 r x (k + 1) ps.length (defD N.length m) := by
  refine ⟨f, fd, ps, F.ok S (fun vs H Q E q => ?_) (fun cdv A outer s H vs Q E hr q => ?_), hm, F.kp, F.bindsN hb⟩
  · obtain ⟨_, _, _, h1, _⟩ := q
    exact h1
  · obtain ⟨Hs, ds, tp, hl, wd, rs, P1⟩ := q
    obtain ⟨On, u, hG⟩ := h cdv A outer s H E hr
    refine ⟨u, hG.pe.nox, hG.snd _ _ _ _ _ _ _ _ (rel_start wd rs) ?_⟩
    unfold defD at P1
    cases q : m (ds.map some ++ List.replicate (N.length - ds.length) none) tp with
    | rt d tp' =>
      rw [q] at P1
      exact fun v Hs' H' g w rv => P1 v Hs' H' g w rv
    | nx env' tp' =>
      rw [q] at P1
      exact fun σ' Hs' H' e R => P1 .non Hs' H' R.gr R.wd .non
    | bk env' tp' => rw [q] at P1; exact P1.elim
    | ct env' tp' => rw [q] at P1; exact P1.elim
    | exn c fs tp' => rw [q] at P1; exact P1.elim
    | stuck => rw [q] at P1; exact P1.elim
/-- the law: its first statement makes the tape -/
def spLaw (K : PySem.W.Frag) : Sp := fun vs H Q _ => ∃ (a : Addr) (ns : List Int), vs = [.ref a] ∧ SqL K H a (ns.map V.int) ∧ ns.length ≤ 63 ∧ ∀ H', Q (.bl true) H'
theorem fn_law {x qual : Str} {params : Arguments} {body : List Stmt} {scope : Scope} {f : Addr} {fd : FuncData} {N : List Str} {k : Nat} {sx rx : Str} {p1 p2 p3 p4 p5 p6 p7 : Pos} {k0 k1 k2 : Nat} {c : Int} {m : SS}
    (F : FunD K x qual params (.Assign [.Name rx p1] (.List [.Name sx p2, .Constant (.int 0) k0 p3, .Constant (.int c) k1 p4, .Constant (.int 0) k2 p5] p6) p7 :: body) scope [] [] f fd) (S : FnScope (sx :: rx :: N) [sx] scope) (hlx : scope.names.lookup sx = some .local ∨ scope.names.lookup sx = some .cell) (hlr : scope.names.lookup rx = some .local ∨ scope.names.lookup rx = some .cell)
    (hd : (sx == ("__debug__" : Str)) = false := by decide) (hcd : (sx == ("__classdict__" : Str)) = false := by decide)
    (h : ∀ (r : Addr) (cdv : Value) (A : Around) (outer : List Env) (s : Shared) (H : Hp) (E : XK), Room k (A.deeper (envOfC qual scope s.heap.objs.size f cdv)) → ∃ On u, GSs K mg r (cxOf CX0 P w K mg base (sx :: rx :: N) qual scope f cdv A outer s H E).nox E0 [] On [] body u m)
    (hv : ∀ ns : List Int, ns.length ≤ 63 → ∃ tp', retR (m (some (.scr ns) :: some .tape :: List.replicate N.length none) [.scr ns, .int 0, .int c, .int 0]) = .ok (.bl true) tp') :
    FnOk P w K mg base CX0 (k + 1) f fd [sx] (spLaw K) := by
  refine F.ok S (fun vs H Q E q => ?_) (fun cdv A outer s H vs Q E hr q => ?_)
  · obtain ⟨a, ns, rfl, _⟩ := q
    rfl
  · obtain ⟨a, ns, rfl, hS, hlen, kq⟩ := q
    have vs1 : Vis scope sx := hlx.elim .inl fun q => .inr (.inl q)
    refine ⟨tSeq (tAsg (tLst (tCons (tVar 0) (tCons (tC (.int 0)) (tCons (tC (.int c)) (tCons (tC (.int 0)) tNil))))) (gName 1)) (fun D σ H1 => ∃ p, H p = none ∧ H1 = upd H p (.lst [.ref a, .int 0, .int c, .int 0]) ∧ σ = some (.ref a) :: some (.ref p) :: List.replicate N.length none ∧ ∀ v H', v = .bl true → D.rt v H'), ?_, ?_⟩
    · refine PSs.nox (pss_cons (ps_set (i := 1) S.nd rfl hlr (pe_lst (pa_cons (pe_var (i := 0) rfl vs1 hd hcd) (pa_cons pe_int (pa_cons pe_int (pa_cons pe_int pa_nil)))))) ?_)
      refine ⟨fun pins s2 σ H1 D I q => ?_⟩
      obtain ⟨p, hp, rfl, rfl, hq⟩ := q
      obtain ⟨On, u, hG⟩ := h p cdv A outer s H E hr
      refine hG.pe.run pins s2 _ _ D I (hG.snd H (upd H p (.lst [.ref a, .int 0, .int c, .int 0])) H _ _ (some (.scr ns) :: some .tape :: List.replicate N.length none) [.scr ns, .int 0, .int c, .int 0] _ ⟨⟨same_new hp, hp, _, upd_same, ?_⟩, Grow.refl _ _, ?_, ?_, (fun i hi => nomatch hi), (fun i j p hi => nomatch hi)⟩ ?_)
      · exact .cons (.scr hS) (.cons (.int 0) (.cons (.int c) (.cons (.int 0) .nil)))
      · simp
      · intro i d hi _
        match i, hi with
        | 0, hi => cases hi; exact ⟨_, rfl, .scr hS⟩
        | 1, hi => cases hi; exact ⟨_, rfl, .tape⟩
        | i + 2, hi =>
          rw [List.getElem?_cons_succ, List.getElem?_cons_succ, List.getElem?_replicate] at hi
          split at hi <;> cases hi
      · obtain ⟨tp', e⟩ := hv ns hlen
        cases q : m (some (.scr ns) :: some .tape :: List.replicate N.length none) [.scr ns, .int 0, .int c, .int 0] with
        | rt d tp2 =>
          rw [q] at e
          cases e
          intro v Hs' H' g w rv
          cases rv
          exact hq _ _ rfl
        | nx env' tp2 => rw [q] at e; cases e
        | bk env' tp' => rw [q] at e; cases e
        | ct env' tp' => rw [q] at e; cases e
        | exn c fs tp' => rw [q] at e; cases e
        | stuck => rw [q] at e; cases e
    · refine ⟨_, rfl, by show 4 ≤ sizeLine; rw [sizeLine_eq]; decide, fun p hp => ⟨p, hp, rfl, ?_, fun v H' ev => ev ▸ kq H'⟩⟩
      show List.set (L2.start (sx :: rx :: N) [.ref a]) 1 (some (.ref p)) = _
      unfold L2.start
      simp [List.replicate_succ]
end
end
end G

set_option Elab.async false
set_option linter.all false
set_option maxRecDepth 100000
set_option maxHeartbeats 1000000
/-! G5: several targets, methods, a pop into an append. -/
namespace G
open PySem PySem.Spec PyProof.Rows L2
section
variable {K : PySem.W.Frag} {mg : Str → Option Value} {r : Addr} {X : Cx} {E : XK} {O O1 On Ol : List Nat} {e a b c : Expr} {es : List Expr} {pos : Pos} {t ta tb : TE} {tt : TT} {ts : TA} {s1 : Stmt} {ss : List Stmt} {u u1 u2 : TS}

/-! ### several values, some of them fresh -/
inductive RepK (K : PySem.W.Frag) (mg : Str → Option Value) (r : Addr) (Hs H : Hp) : List Bool → List V → List D → List Addr → Prop
  | nil : RepK K mg r Hs H [] [] [] []
  | st {v : V} {d : D} {ks : List Bool} {vs : List V} {ds : List D} {ps : List Addr} : RepD K mg r Hs v d → RepK K mg r Hs H ks vs ds ps → RepK K mg r Hs H (false :: ks) (v :: vs) (d :: ds) ps
  | fr {p : Addr} {d : D} {ks : List Bool} {vs : List V} {ds : List D} {ps : List Addr} : Hs p = none → p ≠ r → OwnAt K mg r Hs H p d → RepK K mg r Hs H ks vs ds ps → RepK K mg r Hs H (true :: ks) (.ref p :: vs) (d :: ds) (p :: ps)
theorem RepK.len {Hs H : Hp} : ∀ {ks : List Bool} {vs : List V} {ds : List D} {ps : List Addr}, RepK K mg r Hs H ks vs ds ps → vs.length = ks.length ∧ ds.length = ks.length
  | _, _, _, _, .nil => ⟨rfl, rfl⟩
  | _, _, _, _, .st _ q => by simp only [List.length_cons, q.len.1, q.len.2, and_self]
  | _, _, _, _, .fr _ _ _ q => by simp only [List.length_cons, q.len.1, q.len.2, and_self]
/-- the tuple that holds them (or any other object of no one's) is laid -/
theorem RepK.lay {Hs H : Hp} {q : Addr} {o : HO} (hq : H q = none) : ∀ {ks : List Bool} {vs : List V} {ds : List D} {ps : List Addr}, RepK K mg r Hs H ks vs ds ps → RepK K mg r Hs (upd H q o) ks vs ds ps
  | _, _, _, _, .nil => .nil
  | _, _, _, _, .st h k => .st h (RepK.lay hq k)
  | _, _, _, _, .fr h n oa k => .fr h n (oa.grow (Same.refl _) fun u z => by rw [upd_ne (ne_of_none z hq)]; exact z) (RepK.lay hq k)
structure GAK (K : PySem.W.Frag) (mg : Str → Option Value) (r : Addr) (X : Cx) (O : List Nat) (E : XK) (es : List Expr) (t : TA) (ks : List Bool) (m : SE (List D)) : Prop where
  pe : PA X es t
  snd : ∀ Hs0 H0 Hs H σ env tp Q, Rel K mg r O Hs0 H0 Hs H σ env tp → Post K mg r (fun Hs' H' vs ds => ∃ ps, RepK K mg r Hs' H' ks vs ds ps ∧ ps.Nodup ∧ ∀ p ∈ ps, H p = none) E Hs H (m env tp) Q → t σ H Q
theorem gak_nil : GAK K mg r X O E [] tNil [] nilA := ⟨pa_nil, fun Hs0 H0 Hs H σ env tp Q R P => P [] Hs H (Grow.refl _ _) R.wd ⟨[], .nil, List.nodup_nil, fun _ h => nomatch h⟩⟩
theorem free_back {Hs H Hs' H' : Hp} {p : Addr} (g : Grow r Hs H Hs' H') (h : H' p = none) (ne : p ≠ r) : H p = none := by
  cases z : H p with
  | none => rfl
  | some u => rw [g.keep p u z ne] at h; cases h
theorem RepK.ner {Hs H : Hp} : ∀ {ks : List Bool} {vs : List V} {ds : List D} {ps : List Addr}, RepK K mg r Hs H ks vs ds ps → ∀ p ∈ ps, p ≠ r
  | _, _, _, _, .nil, _, h => nomatch h
  | _, _, _, _, .st _ k, p, h => RepK.ner k p h
  | _, _, _, _, .fr _ n _ k, p, h => by
    rcases List.mem_cons.mp h with rfl | h
    · exact n
    · exact RepK.ner k p h
theorem gak_st {ks : List Bool} {m : SE D} {ms : SE (List D)} (h : GE K mg r X O E e t m) (hs : GAK K mg r X O E es ts ks ms) (hst : starEach (e :: es) X.env = (false, eval e X.env) :: starEach es X.env := by rfl) : GAK K mg r X O E (e :: es) (tCons t ts) (false :: ks) (consA m ms) := by
  refine ⟨pa_cons h.pe hs.pe hst, fun Hs0 H0 Hs H σ env tp Q R P => ?_⟩
  refine h.snd _ _ _ _ _ _ _ _ R ?_
  unfold consA at P
  cases q : m env tp with
  | stuck => rw [q] at P; exact P
  | exn c fs tp1 => rw [q] at P; exact P
  | ok d tp1 =>
    rw [q] at P
    intro v Hs1 H1 g w rv
    refine hs.snd _ _ _ _ _ _ _ _ (R.grow g w) ?_
    simp only [RE.bind_ok] at P
    cases q2 : ms env tp1 with
    | stuck => rw [q2] at P; exact P
    | exn c fs tp2 => rw [q2] at P; exact Post.shift g P
    | ok ds tp2 =>
      rw [q2] at P
      rintro vs Hs2 H2 g2 w2 ⟨ps, hk, nd, fr⟩
      exact P _ Hs2 H2 (g.trans g2) w2 ⟨ps, .st (rv.mono g2.ex) hk, nd, fun p hp => free_back g (fr p hp) (hk.ner p hp)⟩
theorem gak_fr {ks : List Bool} {m : SE D} {ms : SE (List D)} (h : GF K mg r X O E e t m) (hs : GAK K mg r X O E es ts ks ms) (hst : starEach (e :: es) X.env = (false, eval e X.env) :: starEach es X.env := by rfl) : GAK K mg r X O E (e :: es) (tCons t ts) (true :: ks) (consA m ms) := by
  refine ⟨pa_cons h.pe hs.pe hst, fun Hs0 H0 Hs H σ env tp Q R P => ?_⟩
  refine h.snd _ _ _ _ _ _ _ _ R ?_
  unfold consA at P
  cases q : m env tp with
  | stuck => rw [q] at P; exact P
  | exn c fs tp1 => rw [q] at P; exact P
  | ok d tp1 =>
    rw [q] at P
    rintro v Hs1 H1 g w ⟨p, rfl, hb, hp, ne, oa⟩
    refine hs.snd _ _ _ _ _ _ _ _ (R.grow g w) ?_
    simp only [RE.bind_ok] at P
    cases q2 : ms env tp1 with
    | stuck => rw [q2] at P; exact P
    | exn c fs tp2 => rw [q2] at P; exact Post.shift g P
    | ok ds tp2 =>
      rw [q2] at P
      rintro vs Hs2 H2 g2 w2 ⟨ps, hk, nd, fr⟩
      obtain ⟨o, ho⟩ := oa.there
      refine P _ Hs2 H2 (g.trans g2) w2 ⟨p :: ps, .fr (g2.no hp ho ne) ne (oa.grow g2.ex fun u z => g2.keep p u z ne) hk, List.nodup_cons.mpr ⟨fun m => ?_, nd⟩, fun p' hp' => ?_⟩
      · have := fr p m; rw [ho] at this; cases this
      · rcases List.mem_cons.mp hp' with rfl | hp'
        · exact hb
        · exact free_back g (fr p' hp') (hk.ner p' hp')
/-- who owns behind it -/
def ownAll : List Nat → List Nat → List Bool → List Nat
  | O, i :: is, k :: ks => ownAll (if k = true then i :: O.filter (· != i) else O.filter (· != i)) is ks
  | O, _, _ => O
theorem repK_setAll {Hs0 H0 Hs H : Hp} {tp : List D} : ∀ (is : List Nat) (ks : List Bool) (O : List Nat) (σ : L2.St) (env : DEnv) (vs : List V) (ds : List D) (ps : List Addr), Rel K mg r O Hs0 H0 Hs H σ env tp → RepK K mg r Hs H ks vs ds ps → ps.Nodup → (∀ p ∈ ps, H0 p = none ∧ ∀ j ∈ O, σ[j]? ≠ some (some (.ref p))) → is.length = ks.length → (∀ i ∈ is, i < env.length) →
    Rel K mg r (ownAll O is ks) Hs0 H0 Hs H (setAll σ is vs) (setAll env is ds) tp
  | [], ks, O, σ, env, vs, ds, ps, R, hk, _, _, hl, _ => by
    cases ks with
    | nil => cases hk; exact R
    | cons _ _ => cases hl
  | i :: is, [], O, σ, env, vs, ds, ps, R, hk, _, _, hl, _ => by cases hl
  | i :: is, k :: ks, O, σ, env, vs, ds, ps, R, hk, nd, hp, hl, hi => by
    cases hk with
    | st h1 h2 =>
      refine repK_setAll is ks _ _ _ _ _ ps (R.set i h1) h2 nd (fun p q => ⟨(hp p q).1, fun j hj => ?_⟩) (by simpa using hl) fun j hj => by rw [List.length_set]; exact hi j (List.mem_cons_of_mem _ hj)
      obtain ⟨m, ne⟩ := List.mem_filter.mp hj
      rw [set_gne (by simpa using ne)]
      exact (hp p q).2 j m
    | @fr p d ks vs ds ps h1 n oa h2 =>
      obtain ⟨np, nd'⟩ := List.nodup_cons.mp nd
      have hp0 := hp p List.mem_cons_self
      refine repK_setAll is ks _ _ _ _ _ ps (R.setF i (hi i List.mem_cons_self) hp0.1 h1 n oa hp0.2) h2 nd' (fun p' q => ⟨(hp p' (List.mem_cons_of_mem _ q)).1, fun j hj z => ?_⟩) (by simpa using hl) fun j hj => by rw [List.length_set]; exact hi j (List.mem_cons_of_mem _ hj)
      rcases List.mem_cons.mp hj with rfl | hj
      · rcases get_set z with ⟨_, e, _⟩ | ⟨ne, _⟩
        · cases e; exact np q
        · exact ne rfl
      · obtain ⟨m, ne⟩ := List.mem_filter.mp hj
        rw [set_gne (by simpa using ne)] at z
        exact (hp p' (List.mem_cons_of_mem _ q)).2 j m z
def parS (is : List Nat) (ms : SE (List D)) : SS := fun env tp => (ms env tp).bindS fun ds tp1 => if is.all (fun i => decide (i < env.length)) = true then .nx (setAll env is ds) tp1 else .stuck
theorem par_sound {is : List Nat} {ks : List Bool} {ms : SE (List D)} {k : L2.Ends → L2.St → Hp → List V → Hp → Prop} (hl : is.length = ks.length) (h : ∀ Hs0 H0 Hs H σ env tp Q, Rel K mg r O Hs0 H0 Hs H σ env tp → Post K mg r (fun Hs' H' vs ds => ∃ ps, RepK K mg r Hs' H' ks vs ds ps ∧ ps.Nodup ∧ ∀ p ∈ ps, H p = none) E Hs H (ms env tp) Q → ts σ H Q)
    (hk : ∀ D σ vs Hs H tp ds ps, Wd K mg r Hs H tp → RepK K mg r Hs H ks vs ds ps → (∀ H', (H' = H ∨ ∃ q o, H q = none ∧ H' = upd H q o) → D.nx (setAll σ is vs) H') → k D σ H vs H) :
    ∀ Hs0 H0 Hs H σ env tp D, Rel K mg r O Hs0 H0 Hs H σ env tp → PostS K mg r E (ownAll O is ks) Ol Hs0 H0 Hs (parS is ms env tp) D → ts σ H (fun vs H1 => k D σ H1 vs H1) := by
  intro Hs0 H0 Hs H σ env tp D R P
  refine h _ _ _ _ _ _ _ _ R (PostS.bind R P fun vs Hs1 H1 ds tp1 _ g w R1 rv P1 => ?_)
  obtain ⟨ps, hrk, nd, fr⟩ := rv
  split at P1
  · rename_i hi
    have hi : ∀ i ∈ is, i < env.length := fun i m => of_decide_eq_true (List.all_eq_true.mp hi i m)
    have hfr : ∀ p ∈ ps, H0 p = none ∧ ∀ j ∈ O, σ[j]? ≠ some (some (.ref p)) := fun p hp => R.new_ne (fr p hp) (hrk.ner p hp)
    refine hk D σ vs Hs1 H1 tp1 ds ps w hrk fun H' hH' => ?_
    rcases hH' with rfl | ⟨q, o, hq, rfl⟩
    · exact P1 _ _ _ (Same.refl _) (repK_setAll is ks _ _ _ _ _ ps R1 hrk nd hfr hl hi)
    · obtain ⟨g2, w2⟩ := w.lay (o := o) hq
      exact P1 _ _ _ (Same.refl _) (repK_setAll is ks _ _ _ _ _ ps (R1.grow g2 w2) (hrk.lay hq) nd hfr hl hi)
  · exact P1.elim
/-- a, b = x, y (two local names) -/
theorem gs_par2 (i j : Nat) {ks : List Bool} {x y : Str} {ms : SE (List D)} {px py pt : Pos} {kt k2 pt2} (hN : X.N.Nodup) (ha : GAK K mg r X O E [a, b] ts ks ms) (hks : ks.length = 2 := by rfl) (hc : X.calm = true := by rfl) (hi : X.N[i]? = some x := by rfl) (hj : X.N[j]? = some y := by rfl) (hij : i ≠ j := by decide)
    (hx : X.env.scope.names.lookup x = some .local := by rfl) (hy : X.env.scope.names.lookup y = some .local := by rfl)
    (hw : swappedStores [.Tuple [.Name x px, .Name y py] kt pt] (.Tuple [a, b] k2 pt2) X.env = pure (some [x, y]) := by rfl)
    (hs : swapsWithSole [.Tuple [.Name x px, .Name y py] kt pt] (.Tuple [a, b] k2 pt2) pos.line X.env = pure false := by rfl) :
    GS K mg r X E O (ownAll O [i, j] ks) Ol (.Assign [.Tuple [.Name x px, .Name y py] kt pt] (.Tuple [a, b] k2 pt2) pos) (tPar i j ts) (parS [i, j] ms) := by
  refine ⟨ps_par hc hN hi hj hij hx hy ha.pe hw hs, ?_⟩
  refine par_sound (k := fun D σ _ vs H1 => ∃ v w, vs = [v, w] ∧ D.nx ((σ.set i (some v)).set j (some w)) H1) (by rw [hks]; rfl) ha.snd ?_
  intro D σ vs Hs H tp ds ps _ hrk q
  have hl := hrk.len.1
  rw [hks] at hl
  match vs, hl with
  | [v, w], _ => exact ⟨v, w, rfl, q H (.inl rfl)⟩
/-- a, b, c = x, y, z (three local names) -/
theorem gs_par3 (i j l : Nat) {ks : List Bool} {x y z : Str} {ms : SE (List D)} {px py pz pt : Pos} {kt k2 pt2} (hN : X.N.Nodup) (ha : GAK K mg r X O E [a, b, c] ts ks ms) (hks : ks.length = 3 := by rfl) (hc : X.calm = true := by rfl) (hi : X.N[i]? = some x := by rfl) (hj : X.N[j]? = some y := by rfl) (hl : X.N[l]? = some z := by rfl) (hij : i ≠ j := by decide) (hil : i ≠ l := by decide) (hjl : j ≠ l := by decide)
    (hx : X.env.scope.names.lookup x = some .local := by rfl) (hy : X.env.scope.names.lookup y = some .local := by rfl) (hz : X.env.scope.names.lookup z = some .local := by rfl)
    (hw : swappedStores [.Tuple [.Name x px, .Name y py, .Name z pz] kt pt] (.Tuple [a, b, c] k2 pt2) X.env = pure (some [x, y, z]) := by rfl)
    (hs : swapsWithSole [.Tuple [.Name x px, .Name y py, .Name z pz] kt pt] (.Tuple [a, b, c] k2 pt2) pos.line X.env = pure false := by rfl) :
    GS K mg r X E O (ownAll O [i, j, l] ks) Ol (.Assign [.Tuple [.Name x px, .Name y py, .Name z pz] kt pt] (.Tuple [a, b, c] k2 pt2) pos) (tPar3 i j l ts) (parS [i, j, l] ms) := by
  refine ⟨ps_par3 hc hN hi hj hl hij hil hjl hx hy hz ha.pe hw hs, ?_⟩
  refine par_sound (k := fun D σ _ vs H1 => ∃ u v w, vs = [u, v, w] ∧ D.nx (((σ.set i (some u)).set j (some v)).set l (some w)) H1) (by rw [hks]; rfl) ha.snd ?_
  intro D σ vs Hs H tp ds ps _ hrk q
  have hl := hrk.len.1
  rw [hks] at hl
  match vs, hl with
  | [u, v, w], _ => exact ⟨u, v, w, rfl, q H (.inl rfl)⟩
/-- the plain way: a tuple is made and unpacked -/
theorem gs_tup {is : List Nat} {n : Nat} {ks : List Bool} {ms : SE (List D)} {tgs : List Expr} {g : TGs} {pt pt2 : Pos} {kt k2} (ha : GAK K mg r X O E es ts ks ms) (hg : GGs K mg r X tgs g is) (hl : is.length = ks.length := by rfl) (hn : is.length = n := by rfl) (hz : n ≤ sizeLine := by decide) (hc : X.calm = true := by rfl) (hK : X.K = K := by rfl) (hn1 : (assignEach tgs X.env).length = n := by rfl) (hst : (assignEach tgs X.env).findIdx? (·.1) = none := by rfl)
    (hs : swapsWithSole [.Tuple tgs kt pt] (.Tuple es k2 pt2) pos.line X.env = pure false := by rfl) (hw : swappedStores [.Tuple tgs kt pt] (.Tuple es k2 pt2) X.env = pure none := by rfl) (h1 : (assignEach [.Tuple tgs kt pt] X.env).map (·.2) = [assign (.Tuple tgs kt pt) X.env] := by rfl) :
    GS K mg r X E O (ownAll O is ks) Ol (.Assign [.Tuple tgs kt pt] (.Tuple es k2 pt2) pos) (tAsg (tTup ts) (gTup K n g)) (parS is ms) := by
  subst hK
  refine ⟨ps_asg (pe_tup ha.pe) (pg_tup hc hg.pe hn1 hst) hs hw h1, ?_⟩
  refine par_sound (k := fun D σ _ vs H1 => vs.length ≤ sizeLine ∧ ∀ p, H1 p = none → gTup X.K n g (.ref p) σ (upd H1 p (.tup vs)) D.nx) hl ha.snd ?_
  intro D σ vs Hs H tp ds ps _ hrk q
  have hv : vs.length = n := by rw [hrk.len.1, ← hl, hn]
  refine ⟨by rw [hv]; exact hz, fun p hp => ⟨p, vs, rfl, .of upd_same, hv, hg.snd vs σ _ _ (by rw [hv, hn]) (q _ (.inr ⟨p, _, hp, rfl⟩))⟩⟩
/-- a value that is a tuple is unpacked -/
def unpS (n : Nat) (is : List Nat) (m : SE D) : SS := fun env tp => (m env tp).bindS fun d tp1 => match tN n d with
  | some ds => .nx (setAll env is ds) tp1
  | none => .stuck
theorem gs_unp {is : List Nat} {n : Nat} {m : SE D} {tgs : List Expr} {g : TGs} {pt : Pos} {kt} (h : GE K mg r X O E e t m) (hg : GGs K mg r X tgs g is) (hO : ∀ i ∈ is, i ∉ O) (hn : is.length = n := by rfl) (hc : X.calm = true := by rfl) (hK : X.K = K := by rfl) (hn1 : (assignEach tgs X.env).length = n := by rfl) (hst : (assignEach tgs X.env).findIdx? (·.1) = none := by rfl)
    (hs : swapsWithSole [.Tuple tgs kt pt] e pos.line X.env = pure false := by rfl) (hw : swappedStores [.Tuple tgs kt pt] e X.env = pure none := by rfl) (h1 : (assignEach [.Tuple tgs kt pt] X.env).map (·.2) = [assign (.Tuple tgs kt pt) X.env] := by rfl) :
    GS K mg r X E O O Ol (.Assign [.Tuple tgs kt pt] e pos) (tAsg t (gTup K n g)) (unpS n is m) := by
  have gg := gg_tup (mg := mg) (r := r) (X := X) (pos := pt) (k := kt) hc hg hn hK hn1 hst
  refine ⟨ps_asg h.pe gg.pe hs hw h1, fun Hs0 H0 Hs H σ env tp D R P => ?_⟩
  refine h.snd _ _ _ _ _ _ _ _ R (PostS.bind R P fun v Hs1 H1 d tp1 _ g w R1 rv P1 => ?_)
  cases q : tN n d with
  | none => rw [q] at P1; exact P1.elim
  | some ds =>
    rw [q] at P1
    exact gg.snd v d ds Hs1 H1 tp1 σ _ w rv q fun vs rs hl => P1 _ _ _ (Same.refl _) (rel_setAll is _ _ _ _ R1 hO rs hl)

/-! ### methods of one argument -/
def methE (p : D → Bool) (f : D → D → Option D) (ma mb : SE D) : SE D := fun env tp => (ma env tp).bind fun d tp1 => if p d = true then (mb env tp1).bind fun e tp2 => RE.of (f d e) tp2 else .stuck
def isStrD : D → Bool
  | .str _ => true
  | _ => false
def isLstD : D → Bool
  | .lst _ => true
  | _ => false
theorem ty_str {Hs H : Hp} {tp : List D} {v : V} {d : D} (w : Wd K mg r Hs H tp) (h : RepT K mg r Hs H v d) (p : isStrD d = true) : tyV K "str" v H := by
  cases d with
  | str z => rw [repT_str h]; rfl
  | _ => cases p
theorem ty_lst {Hs H : Hp} {tp : List D} {v : V} {d : D} (w : Wd K mg r Hs H tp) (h : RepT K mg r Hs H v d) (p : isLstD d = true) : tyV K "list" v H := by
  cases d with
  | lst z =>
    obtain ⟨p, vs, rfl, k1, k2⟩ := repT_lst w h
    exact .inl ⟨rfl, vs, .of k1⟩
  | _ => cases p
def MethS (K : PySem.W.Frag) (mg : Str → Option Value) (r : Addr) (R : V → List V → Hp → VK → Prop) (f : D → D → Option D) : Prop := ∀ Hs H tp x y d e z Q, Wd K mg r Hs H tp → RepT K mg r Hs H x d → RepT K mg r Hs H y e → f d e = some z →
  (∀ v Hs' H', Grow r Hs H Hs' H' → Wd K mg r Hs' H' tp → RepD K mg r Hs' v z → Q v H') → R x [y] H Q
theorem ge_m1 {T id : String} {name : Str} {R : V → List V → Hp → VK → Prop} {f : D → D → Option D} {p : D → Bool} {ma mb : SE D} {p1 : Pos} (pa : PlainAttrs T) (slot : Slot T name id) (hty : typeOf (.builtin id) = pure (.type "method_descriptor")) (hm : MtR X id R)
    (hp : ∀ Hs H tp v d, Wd K mg r Hs H tp → RepT K mg r Hs H v d → p d = true → tyV K T v H) (hf : MethS K mg r R f) (ha : GO K mg r X O E a ta ma) (hb : GO K mg r X O E b tb mb) (hK : X.K = K := by rfl)
    (hbase : attributeBase a name X.env (eval a X.env) = eval a X.env := by rfl)
    (hfew : ((backTo pos (starEach [b] X.env)).all (fun x => !x.1) && (backToKw pos (keywordEach [] X.env)).all (fun x => x.1.isSome) && decide ([b].length + ([] : List Keyword).length + (if ([] : List Keyword).isEmpty then 0 else 1) < 30)) = true := by rfl)
    (hline : (p1.endLine == pos.line) = true := by rfl) (hs : starEach [b] X.env = (false, eval b X.env) :: starEach [] X.env := by rfl) (hplain : (backTo pos (starEach [] X.env)).any (·.1) = false := by rfl) :
    GE K mg r X O E (.Call (.Attribute a name p1) [b] [] pos) (tBM K T R ta (tCons tb tNil)) (methE p f ma mb) := by
  subst hK
  refine ⟨pe_bm pa slot hty hm ha.pe (pa_cons hb.pe pa_nil hs) hbase hfew hline hs hplain, fun Hs0 H0 Hs H σ env tp Q Rl P => ?_⟩
  refine ha.snd _ _ _ _ _ _ _ _ Rl (Post.bind P fun v Hs1 H1 d tp1 _ g w rv P1 => ?_)
  split at P1
  · rename_i hpd
    refine ⟨hp _ _ _ _ _ w rv hpd, ?_⟩
    refine hb.snd _ _ _ _ _ _ _ _ (Rl.grow g w) (Post.bind P1 fun y Hs2 H2 e tp2 _ g2 w2 ry P2 => ?_)
    obtain ⟨z, hz, k⟩ := Post.ok_of P2
    exact hf _ _ _ _ _ _ _ _ _ w2 (rv.grow g2) ry hz k
  · exact P1.elim
def joinD (d e : D) : Option D := match d with
  | .str a => (itemsD e).bind fun xs => (unS xs).bind fun ys => if (ys.map (·.length)).sum + ys.length * a.length ≤ 16777216 then some (.str (Txt.join a ys)) else none
  | _ => none
abbrev rJoin (K : PySem.W.Frag) : V → List V → Hp → VK → Prop := fun x xs H Q => ∃ a p, ∃ ys : List Str, x = .str a ∧ xs = [.ref p] ∧ (SqL K H p (ys.map V.str) ∨ SqT K H p (ys.map V.str)) ∧ (ys.map (·.length)).sum + ys.length * a.length ≤ 16777216 ∧ Q (.str (Txt.join a ys)) H
theorem ms_join : MethS K mg r (rJoin K) joinD := by
  intro Hs H tp x y d e z Q w rx ry hz k
  unfold joinD at hz
  split at hz
  · obtain ⟨xs, h1, h2⟩ := Option.bind_eq_some_iff.mp hz
    obtain ⟨ys, h3, h4⟩ := Option.bind_eq_some_iff.mp h2
    split at h4
    · rename_i hg
      cases h4
      rw [unS_ok h3] at h1
      rw [repT_str rx]
      cases e with
      | lst es =>
        cases h1
        obtain ⟨p, vs, rfl, k1, k2⟩ := repT_lst w ry
        rw [RepDs.strs_of k2] at k1
        exact ⟨_, p, ys, rfl, rfl, .inl (.of k1), hg, k _ _ _ (Grow.refl _ _) w (.str _)⟩
      | tup es =>
        cases h1
        obtain ⟨p, vs, rfl, _, k1, k2⟩ := repT_tup w ry
        rw [RepDs.strs_of k2] at k1
        exact ⟨_, p, ys, rfl, rfl, .inr (.of k1), hg, k _ _ _ (Grow.refl _ _) w (.str _)⟩
      | _ => cases h1
    · cases h4
  · cases hz
theorem ge_join {ma mb : SE D} {p1 : Pos} (ha : GO K mg r X O E a ta ma) (hb : GO K mg r X O E b tb mb) (hK : X.K = K := by rfl)
    (hbase : attributeBase a "join" X.env (eval a X.env) = eval a X.env := by rfl)
    (hfew : ((backTo pos (starEach [b] X.env)).all (fun x => !x.1) && (backToKw pos (keywordEach [] X.env)).all (fun x => x.1.isSome) && decide ([b].length + ([] : List Keyword).length + (if ([] : List Keyword).isEmpty then 0 else 1) < 30)) = true := by rfl)
    (hline : (p1.endLine == pos.line) = true := by rfl) (hs : starEach [b] X.env = (false, eval b X.env) :: starEach [] X.env := by rfl) (hplain : (backTo pos (starEach [] X.env)).any (·.1) = false := by rfl) :
    GE K mg r X O E (.Call (.Attribute a "join" p1) [b] [] pos) (tBM K "str" (rJoin K) ta (tCons tb tNil)) (methE isStrD joinD ma mb) := by
  subst hK
  exact ge_m1 PySem.F.plainAttrs_str PySem.F.slot_str_join PySem.F.type_str_join mt_join (fun _ _ _ _ _ => ty_str) ms_join ha hb rfl hbase hfew hline hs hplain
/-! ### xs.append(ys.pop(i)), both lists the slots' own -/
def appPopS (i j : Nat) (m : SE D) : SS := fun env tp => match env[i]?, env[j]? with
  | some (some (.lst ds)), some (some (.lst es)) => (m env tp).bindS fun k tp1 => match k with
    | .int q => if (decide (-(2 ^ 63) ≤ q) && (decide (q < 2 ^ 63) && decide (ds.length < sizeLine))) = true then (match ixN es.length q with
      | some c => (match es[c]? with
        | some y => .nx ((env.set j (some (.lst (es.eraseIdx c)))).set i (some (.lst (ds ++ [y])))) tp1
        | none => .stuck)
      | none => .stuck) else .stuck
    | _ => .stuck
  | _, _ => .stuck
theorem gs_appPop {m : SE D} (i j : Nat) {x y : Str} {p1 p2 p3 p4 p5 p6 : Pos} (hi : i ∈ O) (hj : j ∈ O) (hij : i ≠ j) (h : GE K mg r X O E e t m) (hK : X.K = K := by rfl) (hN : X.N[i]? = some x := by rfl) (hNy : X.N[j]? = some y := by rfl)
    (hv : Vis X.env.scope x := by first | exact Or.inl rfl | exact Or.inr (Or.inl rfl) | exact Or.inr (Or.inr rfl)) (hvy : Vis X.env.scope y := by first | exact Or.inl rfl | exact Or.inr (Or.inl rfl) | exact Or.inr (Or.inr rfl)) (hd : (x == ("__debug__" : Str)) = false := by decide) (hcd : (x == ("__classdict__" : Str)) = false := by decide)
    (hdy : (y == ("__debug__" : Str)) = false := by decide) (hcdy : (y == ("__classdict__" : Str)) = false := by decide)
    (hb1 : attributeBase (.Name x p1) "append" X.env (eval (.Name x p1) X.env) = eval (.Name x p1) X.env := by rfl)
    (hf1 : ((backTo p3 (starEach [Expr.Call (.Attribute (.Name y p4) "pop" p5) [e] [] p6] X.env)).all (fun x => !x.1) && (backToKw p3 (keywordEach [] X.env)).all (fun x => x.1.isSome) && decide ([Expr.Call (.Attribute (.Name y p4) "pop" p5) [e] [] p6].length + ([] : List Keyword).length + (if ([] : List Keyword).isEmpty then 0 else 1) < 30)) = true := by rfl)
    (hl1 : (p2.endLine == p3.line) = true := by rfl) (hs1 : starEach [Expr.Call (.Attribute (.Name y p4) "pop" p5) [e] [] p6] X.env = (false, eval (Expr.Call (.Attribute (.Name y p4) "pop" p5) [e] [] p6) X.env) :: starEach [] X.env := by rfl) (hpl1 : (backTo p3 (starEach [] X.env)).any (·.1) = false := by rfl)
    (hb2 : attributeBase (.Name y p4) "pop" X.env (eval (.Name y p4) X.env) = eval (.Name y p4) X.env := by rfl)
    (hf2 : ((backTo p6 (starEach [e] X.env)).all (fun x => !x.1) && (backToKw p6 (keywordEach [] X.env)).all (fun x => x.1.isSome) && decide ([e].length + ([] : List Keyword).length + (if ([] : List Keyword).isEmpty then 0 else 1) < 30)) = true := by rfl)
    (hl2 : (p5.endLine == p6.line) = true := by rfl) (hs2 : starEach [e] X.env = (false, eval e X.env) :: starEach [] X.env := by rfl) (hpl2 : (backTo p6 (starEach [] X.env)).any (·.1) = false := by rfl)
    (hsw : swapsWith (.Call (.Attribute (.Name x p1) "append" p2) [.Call (.Attribute (.Name y p4) "pop" p5) [e] [] p6] [] p3) none pos.line X.env = pure false := by rfl) :
    GS K mg r X E O O Ol (.Expr (.Call (.Attribute (.Name x p1) "append" p2) [.Call (.Attribute (.Name y p4) "pop" p5) [e] [] p6] [] p3) pos) (tDrop (tBM K "list" rAppend (tVar i) (tCons (tBM K "list" rPopAt (tVar j) (tCons t tNil)) tNil))) (appPopS i j m) := by
  subst hK
  refine ⟨ps_expr (pe_bm PySem.F.plainAttrs_list PySem.F.slot_list_append PySem.F.type_list_append mt_append (pe_var hN hv hd hcd)
    (pa_cons (pe_bm PySem.F.plainAttrs_list PySem.F.slot_list_pop PySem.F.type_list_pop mt_popAt (pe_var hNy hvy hdy hcdy) (pa_cons h.pe pa_nil hs2) hb2 hf2 hl2 hs2 hpl2) pa_nil hs1) hb1 hf1 hl1 hs1 hpl1) hsw, fun Hs0 H0 Hs H σ env tp D R P => ?_⟩
  obtain ⟨d0, p, b1, b2, c, c0, ne, oa⟩ := R.own i hi
  obtain ⟨d0', p', b1', b2', c', c0', ne', oa'⟩ := R.own j hj
  unfold appPopS at P
  rw [b1, b1'] at P
  split at P
  · rename_i ds es q1 q2
    cases q1; cases q2
    obtain ⟨vs0, k1, _⟩ := oa
    obtain ⟨vs0', k1', _⟩ := oa'
    refine ⟨_, b2, .inl ⟨rfl, vs0, .of k1⟩, ?_⟩
    refine ⟨_, b2', .inl ⟨rfl, vs0', .of k1'⟩, ?_⟩
    refine h.snd _ _ _ _ _ _ _ _ R (PostS.bind R P fun v Hs1 H1 d tp1 _ g w R1 rv P1 => ?_)
    cases d with
    | int q =>
      cases rv
      obtain ⟨d1, p1, e1, e2, f, f0, fn, fo⟩ := R1.own i hi
      rw [b2] at e2; cases e2
      rw [b1] at e1; cases e1
      obtain ⟨vs, h1, h2⟩ := fo
      obtain ⟨d1', p1', e1', e2', f', f0', fn', fo'⟩ := R1.own j hj
      rw [b2'] at e2'; cases e2'
      rw [b1'] at e1'; cases e1'
      obtain ⟨us, h1', h2'⟩ := fo'
      have P1 : PostS X.K mg r E O Ol Hs0 H0 Hs1 (if (decide (-(2 ^ 63) ≤ q) && (decide (q < 2 ^ 63) && decide (ds.length < sizeLine))) = true then (match ixN es.length q with
        | some c => (match es[c]? with
          | some y => .nx ((env.set j (some (.lst (es.eraseIdx c)))).set i (some (.lst (ds ++ [y])))) tp1
          | none => .stuck)
        | none => .stuck) else .stuck) D := P1
      split at P1
      · rename_i hc
        have hc := Bool.and_eq_true_iff.mp hc
        have hc2 := Bool.and_eq_true_iff.mp hc.2
        cases qx : ixN es.length q with
        | none => rw [qx] at P1; exact P1.elim
        | some cc =>
          rw [qx] at P1
          simp only at P1
          cases qy : es[cc]? with
          | none => rw [qy] at P1; exact P1.elim
          | some yd =>
            rw [qy] at P1
            obtain ⟨yv, hy1, hy2⟩ := h2'.get' qy
            rw [← h2'.length] at qx
            refine ⟨p', us, q, cc, yv, rfl, rfl, h1', of_decide_eq_true hc.1, of_decide_eq_true hc2.1, (ixN_seq qx).1, hy1, ?_⟩
            have np : p ≠ p' := fun z => hij (R.dis i j p hi hj b2 (z ▸ b2'))
            refine ⟨p, vs, yv, rfl, rfl, by rw [upd_ne np]; exact h1, by rw [h2.length]; exact of_decide_eq_true hc2.2, ?_⟩
            have W1 := R1.write (d := .lst (es.eraseIdx cc)) (o := .lst (us.eraseIdx cc)) hj b2' ⟨_, upd_same, h2'.eraseIdx cc⟩
            exact P1 _ _ _ (Same.refl _) (W1.write hi b2 ⟨_, upd_same, h2.append (.cons hy2 .nil)⟩)
      · exact P1.elim
    | _ => exact P1.elim
  · exact P.elim
end
end G
namespace G
open PySem PySem.Spec PyProof.Rows L2
section
variable {K : PySem.W.Frag} {mg : Str → Option Value} {r : Addr} {X : Cx} {E : XK} {O O1 On Ol : List Nat} {e a b c : Expr} {es : List Expr} {pos p : Pos} {t ta tb tc : TE} {tt : TT} {ts : TA} {ma mb mc : SE D} {ms : SE (List D)}
/-! ### tests by names -/
theorem gt_eq (hu : X.A.units + 64 < cLine) (ha : GO K mg r X O E a ta ma) (hb : GO K mg r X O E b tb mb) (hK : X.K = K := by rfl) : GT K mg r X O E (.Compare a [.Eq] [b] pos) (tTest (tOp (rEqP K) ta tb)) (boolE (binE eqD ma mb)) := by subst hK; exact gt_cmp (op_eqP hu) ops_eq ha hb (nomark _)
theorem gt_ne (hu : X.A.units + 64 < cLine) (ha : GO K mg r X O E a ta ma) (hb : GO K mg r X O E b tb mb) (hK : X.K = K := by rfl) : GT K mg r X O E (.Compare a [.NotEq] [b] pos) (tTest (tOp (rNeP K) ta tb)) (boolE (binE neD ma mb)) := by subst hK; exact gt_cmp (op_neP hu) ops_ne ha hb (nomark _)
theorem gt_in (hu : X.A.units + 64 < cLine) (ha : GO K mg r X O E a ta ma) (hb : GO K mg r X O E b tb mb) (hm : behindInMarks .In b = false := by rfl) (hK : X.K = K := by rfl) : GT K mg r X O E (.Compare a [.In] [b] pos) (tTest (tOp (rInP K false) ta tb)) (boolE (binE inD ma mb)) := by subst hK; exact gt_cmp (op_inP hu) ops_in ha hb hm
theorem gt_notIn (hu : X.A.units + 64 < cLine) (ha : GO K mg r X O E a ta ma) (hb : GO K mg r X O E b tb mb) (hm : behindInMarks .NotIn b = false := by rfl) (hK : X.K = K := by rfl) : GT K mg r X O E (.Compare a [.NotIn] [b] pos) (tTest (tOp (rInP K true) ta tb)) (boolE (binE notInD ma mb)) := by subst hK; exact gt_cmp (op_notInP hu) ops_notIn ha hb hm
theorem gt_lt (ha : GO K mg r X O E a ta ma) (hb : GO K mg r X O E b tb mb) : GT K mg r X O E (.Compare a [.Lt] [b] pos) (tTest (tOp rLtD ta tb)) (boolE (binE ltD ma mb)) := gt_cmp opr_lt ops_lt ha hb (nomark _)
theorem gt_le (ha : GO K mg r X O E a ta ma) (hb : GO K mg r X O E b tb mb) : GT K mg r X O E (.Compare a [.LtE] [b] pos) (tTest (tOp rLeD ta tb)) (boolE (binE leD ma mb)) := gt_cmp op_le ops_le ha hb (nomark _)
theorem gt_gt (ha : GO K mg r X O E a ta ma) (hb : GO K mg r X O E b tb mb) : GT K mg r X O E (.Compare a [.Gt] [b] pos) (tTest (tOp rGtD ta tb)) (boolE (binE gtD ma mb)) := gt_cmp op_gt ops_gt ha hb (nomark _)
theorem gt_ge (ha : GO K mg r X O E a ta ma) (hb : GO K mg r X O E b tb mb) : GT K mg r X O E (.Compare a [.GtE] [b] pos) (tTest (tOp rGeD ta tb)) (boolE (binE geD ma mb)) := gt_cmp op_ge ops_ge ha hb (nomark _)
theorem gt_is (ha : GO K mg r X O E a ta ma) (hb : GO K mg r X O E b tb mb) : GT K mg r X O E (.Compare a [.Is] [b] pos) (tTest (tOp rIsD ta tb)) (boolE (binE isNoneD ma mb)) := gt_cmp opr_is ops_is ha hb (nomark _)
theorem gt_isNot (ha : GO K mg r X O E a ta ma) (hb : GO K mg r X O E b tb mb) : GT K mg r X O E (.Compare a [.IsNot] [b] pos) (tTest (tOp rIsNotD ta tb)) (boolE (binE isNotNoneD ma mb)) := gt_cmp opr_isNot ops_isNot ha hb (nomark _)
theorem gt_leLe (ha : GO K mg r X O E a ta ma) (hb : GO K mg r X O E b tb mb) (hc : GO K mg r X O E c tc mc) (hm : lastMarks [.LtE, .LtE] [b, c] = false := by with_unfolding_all rfl) : GT K mg r X O E (.Compare a [.LtE, .LtE] [b, c] pos) (tTest (tChain rLeD rLeD ta tb tc)) (boolE (chainE leD leD ma mb mc)) := gt_chain op_le op_le ops_le ops_le ha hb hc hm
theorem ge_leLe (ha : GO K mg r X O E a ta ma) (hb : GO K mg r X O E b tb mb) (hc : GO K mg r X O E c tc mc) (hm : lastMarks [.LtE, .LtE] [b, c] = false := by with_unfolding_all rfl) : GE K mg r X O E (.Compare a [.LtE, .LtE] [b, c] pos) (tChain rLeD rLeD ta tb tc) (chainE leD leD ma mb mc) := ge_chain op_le op_le ops_le ops_le ha hb hc hm
theorem gt_leLt (ha : GO K mg r X O E a ta ma) (hb : GO K mg r X O E b tb mb) (hc : GO K mg r X O E c tc mc) (hm : lastMarks [.LtE, .Lt] [b, c] = false := by with_unfolding_all rfl) : GT K mg r X O E (.Compare a [.LtE, .Lt] [b, c] pos) (tTest (tChain rLeD rLtD ta tb tc)) (boolE (chainE leD ltD ma mb mc)) := gt_chain op_le opr_lt ops_le ops_lt ha hb hc hm
theorem ge_leLt (ha : GO K mg r X O E a ta ma) (hb : GO K mg r X O E b tb mb) (hc : GO K mg r X O E c tc mc) (hm : lastMarks [.LtE, .Lt] [b, c] = false := by with_unfolding_all rfl) : GE K mg r X O E (.Compare a [.LtE, .Lt] [b, c] pos) (tChain rLeD rLtD ta tb tc) (chainE leD ltD ma mb mc) := ge_chain op_le opr_lt ops_le ops_lt ha hb hc hm
/-! ### list(..) fresh -/
theorem gf_list1 (hm : X.mg "list" = none) (ha : GAO K mg r X O E [e] ts ms) (hg : Gl X "list" := by rfl) (he : starEach [e] X.env = (false, eval e X.env) :: starEach [] X.env := by rfl) (hpl : (backTo pos (starEach [] X.env)).any (·.1) = false := by rfl) (hK : X.K = K := by rfl) : GF K mg r X O E (.Call (.Name "list" p) [e] [] pos) (tCB (rListD1 K) ts) (callB listD ms) := by
  subst hK
  refine ⟨pe_callTy (r := rListD1 X.K) call_list_of hg hm (by decide +kernel) ha.pe (by decide) (by decide) he hpl, fun Hs0 H0 Hs H σ env tp Q Rl P => ?_⟩
  refine ha.snd _ _ _ _ _ _ _ _ Rl ?_
  unfold callB at P
  cases q : ms env tp with
  | stuck => rw [q] at P; exact P
  | exn cc fs tp1 => rw [q] at P; exact P
  | ok ds tp1 =>
    rw [q] at P
    intro xs Hs1 H1 g w rx
    obtain ⟨z, hz, k⟩ := Post.ok_of (show Post X.K mg r (Fresh X.K mg r H) E Hs H (RE.of (listD ds) tp1) Q from P)
    unfold listD at hz
    split at hz
    · cases hz
      obtain ⟨x, rfl, h⟩ := paired1 rx
      obtain ⟨p, vs, rfl, h1, h2⟩ := repT_lst w h
      refine ⟨p, vs, rfl, .inl (.of h1), fun q hq => ?_⟩
      obtain ⟨a, b, c⟩ := fresh_new (o := .lst vs) (d := .lst _) g w hq ⟨vs, upd_same, h2⟩
      exact k _ _ _ a b c
    · cases hz
      obtain ⟨x, rfl, h⟩ := paired1 rx
      obtain ⟨p, vs, rfl, h0, h1, h2⟩ := repT_tup w h
      refine ⟨p, vs, rfl, .inr (.of h1), fun q hq => ?_⟩
      obtain ⟨a, b, c⟩ := fresh_new (o := .lst vs) (d := .lst _) g w hq ⟨vs, upd_same, h2⟩
      exact k _ _ _ a b c
    · cases hz
      obtain ⟨x, rfl, h⟩ := paired1 rx
      obtain ⟨p, rfl, h1⟩ := repT_scr w h
      refine ⟨p, _, rfl, .inl h1, fun q hq => ?_⟩
      obtain ⟨a, b, c⟩ := fresh_new (o := .lst (List.map V.int _)) (d := .lst _) g w hq ⟨_, upd_same, RepDs.ints _⟩
      exact k _ _ _ a b c
    · cases hz
/-! ### list(range(..)), tuple(range(..)) -/
def cRgOk (a b : Int) : Bool := cRg a && (cRg b && decide ((b - a).toNat ≤ 16777216))
theorem cRgOk_ok {a b : Int} (h : cRgOk a b = true) : RgOk a b := by
  have h := Bool.and_eq_true_iff.mp h
  have h2 := Bool.and_eq_true_iff.mp h.2
  have h1 := cRg_ok h.1
  have h3 := cRg_ok h2.1
  have h4 := of_decide_eq_true h2.2
  exact ⟨h1.1, h1.2, h3.1, h3.2, h4⟩
theorem reps_range {Hs : Hp} (a b : Int) : RepDs K mg r Hs (rgV a b) (rangeL a b) := by
  unfold rgV rangeL
  induction (List.range (b - a).toNat) with
  | nil => exact .nil
  | cons x xs ih => exact .cons (.int _) ih
def rg1E (k : List D → D) (ma : SE D) : SE D := fun env tp => (ma env tp).bind fun d tp1 => match d with
  | .int n => if cRgOk 0 n = true then .ok (k (rangeL 0 n)) tp1 else .stuck
  | _ => .stuck
def rg2E (k : List D → D) (ma mb : SE D) : SE D := fun env tp => (ma env tp).bind fun d tp1 => (mb env tp1).bind fun e tp2 => match d, e with
  | .int m, .int n => if cRgOk m n = true then .ok (k (rangeL m n)) tp2 else .stuck
  | _, _ => .stuck
theorem gf_listRg1 {pa pb : Pos} (hm : X.mg "list" = none) (hm2 : X.mg "range" = none) (ha : GO K mg r X O E a ta ma) (hc : X.calm = true := by rfl) (hg : Gl X "list" := by rfl) (hg2 : Gl X "range" := by rfl) (na : starEach [a] X.env = (false, eval a X.env) :: starEach [] X.env := by rfl) (nb : starEach [Expr.Call (.Name "range" pa) [a] [] pb] X.env = (false, eval (Expr.Call (.Name "range" pa) [a] [] pb) X.env) :: starEach [] X.env := by rfl) :
    GF K mg r X O E (.Call (.Name "list" p) [.Call (.Name "range" pa) [a] [] pb] [] pos) (tLstRg (tRg1 ta)) (rg1E .lst ma) := by
  refine ⟨pe_listRg hc hg hm (prg_1 hg2 hm2 ha.pe na) nb, fun Hs0 H0 Hs H σ env tp Q Rl P => ?_⟩
  refine ha.snd _ _ _ _ _ _ _ _ Rl ?_
  unfold rg1E at P
  cases q : ma env tp with
  | stuck => rw [q] at P; exact P
  | exn cc fs tp1 => rw [q] at P; exact P
  | ok d tp1 =>
    rw [q] at P
    intro x Hs1 H1 g w rx
    simp only [RE.bind_ok] at P
    cases d with
    | int n =>
      have P : Post K mg r (Fresh K mg r H) E Hs H (if cRgOk 0 n = true then .ok (.lst (rangeL 0 n)) tp1 else .stuck) Q := P
      split at P
      · rename_i c
        refine ⟨n, repT_int rx, cRgOk_ok c, fun q hq => ?_⟩
        obtain ⟨a, b, c⟩ := fresh_new (o := .lst (rgV 0 n)) (d := .lst _) g w hq ⟨_, upd_same, reps_range 0 n⟩
        exact P _ _ _ a b c
      · exact P.elim
    | _ => exact P.elim
theorem gf_listRg2 {pa pb : Pos} (hm : X.mg "list" = none) (hm2 : X.mg "range" = none) (ha : GO K mg r X O E a ta ma) (hb : GO K mg r X O E b tb mb) (hc : X.calm = true := by rfl) (hg : Gl X "list" := by rfl) (hg2 : Gl X "range" := by rfl) (na : starEach [a, b] X.env = (false, eval a X.env) :: starEach [b] X.env := by rfl) (na2 : starEach [b] X.env = (false, eval b X.env) :: starEach [] X.env := by rfl)
    (hpl : (backTo pb (starEach [b] X.env)).any (·.1) = false := by rfl) (nb : starEach [Expr.Call (.Name "range" pa) [a, b] [] pb] X.env = (false, eval (Expr.Call (.Name "range" pa) [a, b] [] pb) X.env) :: starEach [] X.env := by rfl) :
    GF K mg r X O E (.Call (.Name "list" p) [.Call (.Name "range" pa) [a, b] [] pb] [] pos) (tLstRg (tRg2 ta tb)) (rg2E .lst ma mb) := by
  refine ⟨pe_listRg hc hg hm (prg_2 hg2 hm2 ha.pe hb.pe na na2 hpl) nb, fun Hs0 H0 Hs H σ env tp Q Rl P => ?_⟩
  refine ha.snd _ _ _ _ _ _ _ _ Rl ?_
  unfold rg2E at P
  cases q : ma env tp with
  | stuck => rw [q] at P; exact P
  | exn cc fs tp1 => rw [q] at P; exact P
  | ok d tp1 =>
    rw [q] at P
    intro x Hs1 H1 g w rx
    simp only [RE.bind_ok] at P
    refine hb.snd _ _ _ _ _ _ _ _ (Rl.grow g w) ?_
    cases q2 : mb env tp1 with
    | stuck => rw [q2] at P; exact P
    | exn cc fs tp1 => rw [q2] at P; exact Post.shift g P
    | ok e tp2 =>
      rw [q2] at P
      intro y Hs2 H2 g2 w2 ry
      simp only [RE.bind_ok] at P
      split at P
      · split at P
        · rename_i c
          refine ⟨_, _, repT_int rx, repT_int ry, cRgOk_ok c, fun q hq => ?_⟩
          obtain ⟨a, b, c⟩ := fresh_new (o := .lst (rgV _ _)) (d := .lst _) (g.trans g2) w2 hq ⟨_, upd_same, reps_range _ _⟩
          exact P _ _ _ a b c
        · exact P.elim
      · exact P.elim
theorem ge_tupRg1 {pa pb : Pos} (hm : X.mg "tuple" = none) (hm2 : X.mg "range" = none) (ha : GO K mg r X O E a ta ma) (hc : X.calm = true := by rfl) (hg : Gl X "tuple" := by rfl) (hg2 : Gl X "range" := by rfl) (na : starEach [a] X.env = (false, eval a X.env) :: starEach [] X.env := by rfl) (nb : starEach [Expr.Call (.Name "range" pa) [a] [] pb] X.env = (false, eval (Expr.Call (.Name "range" pa) [a] [] pb) X.env) :: starEach [] X.env := by rfl) :
    GE K mg r X O E (.Call (.Name "tuple" p) [.Call (.Name "range" pa) [a] [] pb] [] pos) (tTupRg (tRg1 ta)) (rg1E .tup ma) := by
  refine ⟨pe_tupRg hc hg hm (prg_1 hg2 hm2 ha.pe na) nb, fun Hs0 H0 Hs H σ env tp Q Rl P => ?_⟩
  refine ha.snd _ _ _ _ _ _ _ _ Rl (Post.bind P fun x Hs1 H1 d tp1 _ g w rx P1 => ?_)
  cases d with
  | int n =>
    have P1 : PostE K mg r E Hs1 H1 (if cRgOk 0 n = true then .ok (.tup (rangeL 0 n)) tp1 else .stuck) Q := P1
    split at P1
    · rename_i c
      refine ⟨n, repT_int rx, cRgOk_ok c, fun q hq => ?_⟩
      obtain ⟨g2, w2⟩ := w.alloc (o := .tup (rgV 0 n)) hq
      exact P1 _ _ _ g2 w2 (.tup upd_same (reps_range 0 n))
    · exact P1.elim
  | _ => exact P1.elim
theorem ge_tupRg2 {pa pb : Pos} (hm : X.mg "tuple" = none) (hm2 : X.mg "range" = none) (ha : GO K mg r X O E a ta ma) (hb : GO K mg r X O E b tb mb) (hc : X.calm = true := by rfl) (hg : Gl X "tuple" := by rfl) (hg2 : Gl X "range" := by rfl) (na : starEach [a, b] X.env = (false, eval a X.env) :: starEach [b] X.env := by rfl) (na2 : starEach [b] X.env = (false, eval b X.env) :: starEach [] X.env := by rfl)
    (hpl : (backTo pb (starEach [b] X.env)).any (·.1) = false := by rfl) (nb : starEach [Expr.Call (.Name "range" pa) [a, b] [] pb] X.env = (false, eval (Expr.Call (.Name "range" pa) [a, b] [] pb) X.env) :: starEach [] X.env := by rfl) :
    GE K mg r X O E (.Call (.Name "tuple" p) [.Call (.Name "range" pa) [a, b] [] pb] [] pos) (tTupRg (tRg2 ta tb)) (rg2E .tup ma mb) := by
  refine ⟨pe_tupRg hc hg hm (prg_2 hg2 hm2 ha.pe hb.pe na na2 hpl) nb, fun Hs0 H0 Hs H σ env tp Q Rl P => ?_⟩
  refine ha.snd _ _ _ _ _ _ _ _ Rl (Post.bind P fun x Hs1 H1 d tp1 _ g w rx P1 => ?_)
  refine hb.snd _ _ _ _ _ _ _ _ (Rl.grow g w) (Post.bind P1 fun y Hs2 H2 e tp2 _ g2 w2 ry P2 => ?_)
  split at P2
  · split at P2
    · rename_i c
      refine ⟨_, _, repT_int rx, repT_int ry, cRgOk_ok c, fun q hq => ?_⟩
      obtain ⟨g3, w3⟩ := w2.alloc (o := .tup (rgV _ _)) hq
      exact P2 _ _ _ g3 w3 (.tup upd_same (reps_range _ _))
    · exact P2.elim
  · exact P2.elim
theorem tN_len {n : Nat} {d : D} {ds : List D} (h : tN n d = some ds) : ds.length = n := by
  cases d with
  | tup xs =>
    have h : (if xs.length = n then some xs else none) = some ds := h
    split at h
    · cases h; assumption
    · cases h
  | _ => cases h
theorem def_stuck {P : Program} {w : World} {base : Heap} {x qual : Str} {params : Arguments} {body : List Stmt} {scope : Scope} {f : Addr} {fd : FuncData} {ps : List Str} {k : Nat} (F : FunD K x qual params body scope [] [] f fd) (hm : mg x = some (.ref f))
    (hb : ∀ (kV doc pm : Value) (an : Option Addr) (cdv ct : Value) (us : List Value), us.length = ps.length → bindArgs (PySem.W.fnOf x qual params body scope .none kV doc pm an cdv ct) ⟨us, []⟩ = pure (ps.zip us)) :
    DefOk P w K mg base CX0 r x k ps.length (fun _ _ => .stuck) :=
  ⟨f, fd, ps, ⟨fun vs H Q E h => by
      obtain ⟨_, _, _, _, _, _, h⟩ := h
      exact h.elim, fun A outer s H args us vs Q E hr e0 hb r h => by
      obtain ⟨_, _, _, _, _, _, h⟩ := h
      exact h.elim⟩, hm, F.kp, F.bindsN hb⟩
end
end G

set_option Elab.async false
set_option linter.all false
set_option maxRecDepth 100000
set_option maxHeartbeats 1000000
/-! G6: enumerate over a tuple, a text. -/
namespace G
open PySem PySem.Spec PyProof.Rows L2

theorem meets_enum1 {v : Value} {o : Obj} {Ho : Heap → Prop} (B : Begins v o Ho) :
    Meets (Builtin.«enumerate.__new__» ⟨[.type "enumerate", v], []⟩) (fun _ R s => Ho s.heap ∧
      R (.ok (.ret (.ref (s.heap.push o).objs.size))) { s with heap := (s.heap.push o).push { cls := .type "enumerate", data := .fields #[.none, .bool false, .ref s.heap.objs.size, rawInt 0, .none, .none] } }) :=
  .of_wp fun prog w A R s h => by
    obtain ⟨hp, g, d, tk, os⟩ := s; obtain ⟨h1, h⟩ := h
    have hsub := sub_enumerate
    have q1 : ∀ {A' : Around} {E : Value → Shared → Prop} {Q : Value → Shared → Prop}, Q (.ref hp.objs.size) ⟨hp.push o, g, d, tk, os⟩ → wpAny (model prog w) A' (pyIter v) Q E ⟨hp, g, d, tk, os⟩ :=
      fun q => B.iter prog w _ _ ⟨hp, g, d, tk, os⟩ _ h1 q
    wp_walk using q1
    refine wpAny_stack_any fun st => wpAny_pure ?_
    split
    · rename_i c _ _ _ _ _
      cases (c == Value.type "enumerate")
      · wp_walk using q1
        exact ⟨_, rfl, h⟩
      · wp_walk using q1
        exact ⟨_, rfl, h⟩
    · wp_walk using q1
      exact ⟨_, rfl, h⟩
section
variable {prog : Program} {w : World} {A : Around} {E : Value → Shared → Prop} {s : Shared}
theorem call_enum1 {v : Value} {o : Obj} {Ho : Heap → Prop} {Q : Value → Shared → Prop} (B : Begins v o Ho) (h1 : Ho s.heap)
    (h : ∀ h', IsEnum h' (s.heap.objs.size + 1) s.heap.objs.size 0 .none → h'.get? s.heap.objs.size = some o → h'.objs.size = s.heap.objs.size + 2 →
      (∀ b o, s.heap.get? b = some o → h'.get? b = some o) → Q (.ref (s.heap.objs.size + 1)) { s with heap := h' }) :
    wpAny (model prog w) A (call (.type "enumerate") [v]) Q E s := by
  refine callType_new F.called_enumerate (by decide) (F.typeCall_enumerate_1 _) (F.newCall_enumerate_1 _) (fun obj => F.args_object_init_2 obj _) F.entry_enumerate_new
    (meets_enum1 B) ⟨h1, ?_⟩
  have hz : (s.heap.push o).objs.size = s.heap.objs.size + 1 := Heap.size_push ..
  show _ ∧ _
  rw [hz]
  have he : IsEnum ((s.heap.push o).push { cls := .type "enumerate", data := .fields #[.none, .bool false, .ref s.heap.objs.size, rawInt 0, .none, .none] }) (s.heap.objs.size + 1) s.heap.objs.size 0 .none := by
    have := Heap.get?_push_size (s.heap.push o) (o := { cls := .type "enumerate", data := .fields #[.none, .bool false, .ref s.heap.objs.size, rawInt 0, .none, .none] }) rfl
    rw [hz] at this; exact this
  refine ⟨⟨_, he, rfl⟩, h _ he (Heap.get?_push_of_some _ (Heap.get?_push_size _ B.free)) (by rw [Heap.size_push, hz]) fun b o x => Heap.get?_push_of_some _ (Heap.get?_push_of_some _ x)⟩
end
/-- the items of what a Draws tells, numbered; V's items by Pv -/
def IteD (n : Nat) (Gd : Hp → Prop) (Pv : Nat → Hp → V → Prop) : It :=
  ⟨fun i H => i < n ∧ Gd H, fun i H v H' => ∃ T x, v = .ref T ∧ H T = none ∧ H' = upd H T (.tup [.int (i : Nat), x]) ∧ Pv i H x, fun i H => i = n ∧ Gd H⟩
theorem turn_enumS {P : Program} {w : World} {K : PySem.W.Frag} {elts : List Expr} {kk : Nat} {tpos : Pos} (e it : Addr) (z : Str) (t : Tok) :
    Turn P w K (.Tuple elts kk tpos) (IteD z.cps.size (fun _ => True) (fun i _ x => ∃ c, z.cps[i]? = some c ∧ x = .str ⟨#[c]⟩)) [e, it] e (fun i h => (∃ old, IsEnum h e it ((i : Nat) : Int) old) ∧ h.IsStrIter it (strIterType z) z t i ∧ e ≠ it) where
  mem := by simp
  obj := fun i h st b hb => by
    obtain ⟨⟨old, he⟩, ⟨o, ho, hc, hd⟩, _⟩ := st
    have e' : b = e ∨ b = it := by simpa using hb
    rcases e' with z | z
    · rw [z]; exact ⟨_, he, fun v q => nomatch q⟩
    · rw [z]; exact ⟨o, ho, fun v q => by rw [hd] at q; cases q⟩
  keep := fun i h h' st k => by
    obtain ⟨⟨old, he⟩, ⟨o, ho, r⟩, hne⟩ := st
    exact ⟨⟨old, k e (by simp) _ he⟩, ⟨o, k it (by simp) o ho, r⟩, hne⟩
  item := by
    intro X hP hw hK hc i pins s σ H E I hf st hg
    subst hP hw hK
    obtain ⟨⟨old, he⟩, hit, hne⟩ := st
    have hel : e < s.heap.objs.size := Heap.lt_size he
    have hil : it < s.heap.objs.size := by obtain ⟨_, q, _⟩ := hit; exact Heap.lt_size q
    refine wpAny_pyNext_enum_itemD (Draws.text (A := X.A.in1) (I.ok.hd hc) it z t) he hit hg.1 hne (by simp [hne]) fun v h' tk hv ho hit' hT hsz hk => ?_
    obtain ⟨c, u, hcx, rfl⟩ := hv
    refine ⟨_, rfl, wpAny_letOwnedTupleGo_enum (s := { s with heap := h', toks := tk + 1 }) ho fun h'' he' sb => ?_⟩
    have hT2 : h''.get? s.heap.objs.size = some { cls := .type "tuple", data := .seq #[.int i tk, .str ⟨#[c]⟩ u] } := (sb.2 _ (Nat.ne_of_gt hel)).trans hT
    have new : ObjOk X.prog X.w (upd H s.heap.objs.size (.tup [.int (i : Nat), .str ⟨#[c]⟩])) h'' s.heap.objs.size (.tup [.int (i : Nat), .str ⟨#[c]⟩]) :=
      ⟨by show 2 ≤ sizeLine; decide, [.int i tk, .str ⟨#[c]⟩ u], .cons ⟨_, rfl⟩ (.cons ⟨_, rfl⟩ .nil), ⟨_, hT2, rfl, _, rfl⟩⟩
    have I1 : Inv X pins σ (upd H s.heap.objs.size (.tup [.int (i : Nat), .str ⟨#[c]⟩])) { s with heap := h'', toks := tk + 1 } :=
      I.turnedNew (ch := [e, it]) (fun b ob hb q => (sb.2 b (fun z => hb (by simp [z]))).trans (hk b ob (fun z => hb (by simp [z])) (fun z => hb (by simp [z])) q)) hf (Nat.le_refl _) new
    refine ⟨.ref s.heap.objs.size, _, I1, rfl, ⟨_, _, rfl, I.hok.fresh (Nat.le_refl _), rfl, c, hcx, rfl⟩, ⟨⟨.str ⟨#[c]⟩ u, ?_⟩, ?_, hne⟩, fun b hb => ?_⟩
    · have e1 : ((i + 1 : Nat) : Int) = (i : Int) + 1 := by omega
      rw [e1]; exact he'
    · obtain ⟨o, q, r⟩ := hit'
      exact ⟨o, (sb.2 it (Ne.symm hne)).trans q, r⟩
    · have hb' : b < s.heap.objs.size := by
        have e' : b = e ∨ b = it := by simpa using hb
        rcases e' with z | z
        · rw [z]; exact hel
        · rw [z]; exact hil
      rw [upd_ne (Nat.ne_of_lt hb')]
      exact (hf b hb).1
  done := by
    intro X hP hw hK hc i pins s σ H E I hf st hg
    subst hP hw hK
    obtain ⟨⟨old, he⟩, hit, hne⟩ := st
    obtain ⟨f0, f1, f2, f3, f4, f5⟩ := hf it (by simp)
    obtain ⟨rfl, _⟩ := hg
    exact wpAny_pyNext_enum_endD (Draws.text (A := X.A.in1) (I.ok.hd hc) it z t) he hit fun h' eb => ⟨rfl, I.turned (t' := s.toks) (fun b o hb q => eb b o hb q) f0 f1 f3 f4 f5⟩
  self := fun A i s Q E st h => let ⟨⟨_, he⟩, _⟩ := st; wpAny_pyIter_enum he h
theorem turn_enumT {P : Program} {w : World} {K : PySem.W.Frag} {elts : List Expr} {kk : Nat} {tpos : Pos} (e it a : Addr) (xs : List V) :
    Turn P w K (.Tuple elts kk tpos) (IteD xs.length (fun H => SqT K H a xs) (fun i _ x => xs[i]? = some x)) [e, it] e (fun i h => (∃ old, IsEnum h e it ((i : Nat) : Int) old) ∧ h.IsTupleIter it a i ∧ e ≠ it) where
  mem := by simp
  obj := fun i h st b hb => by
    obtain ⟨⟨old, he⟩, ⟨o, ho, hc, hd⟩, _⟩ := st
    have e' : b = e ∨ b = it := by simpa using hb
    rcases e' with z | z
    · rw [z]; exact ⟨_, he, fun v q => nomatch q⟩
    · rw [z]; exact ⟨o, ho, fun v q => by rw [hd] at q; cases q⟩
  keep := fun i h h' st k => by
    obtain ⟨⟨old, he⟩, hi, hne⟩ := st
    exact ⟨⟨old, k e (by simp) _ he⟩, hi.at fun o q => k it (by simp) o q, hne⟩
  item := by
    intro X hP hw hK hc i pins s σ H E I hf st hg
    subst hP hw hK
    obtain ⟨⟨old, he⟩, hit, hne⟩ := st
    obtain ⟨hi, hq⟩ := hg
    obtain ⟨its, rv, p, hz⟩ := I.tuple hq
    have hel : e < s.heap.objs.size := Heap.lt_size he
    have hil : it < s.heap.objs.size := by obtain ⟨_, q, _⟩ := hit; exact Heap.lt_size q
    have hea : e ≠ a := by
      rintro rfl
      obtain ⟨o, q1, q2, _⟩ := id p
      rw [show s.heap.get? e = _ from he] at q1
      cases q1
      have q2' : (Value.type "enumerate") = .type "tuple" := q2
      exact absurd q2' (by decide)
    have hia : a ≠ it := by
      rintro rfl
      obtain ⟨o, q1, q2, _⟩ := id p
      obtain ⟨o', q3, q4, _⟩ := id hit
      rw [q1] at q3
      cases q3
      rw [q2] at q4
      exact absurd q4 (by decide)
    have hl : its.toArray.size = xs.length := by rw [List.size_toArray]; exact rv.length.symm
    refine wpAny_pyNext_enum_itemD (Draws.tuple (A := X.A.in1) (I.ok.hd hc) it a hia its.toArray) he ⟨hit, p⟩ (by rw [hl]; exact hi) hne (by simp [hne, hea]) fun v h' tk hv ho hit' hT hsz hk => ?_
    obtain ⟨x, hx⟩ : ∃ x, xs[i]? = some x := ⟨xs[i], List.getElem?_eq_getElem hi⟩
    obtain ⟨u, hu, ru⟩ := rv.get hx
    have ev : v = u := by
      have hv' : its[i]? = some v := by simpa using hv
      rw [hu] at hv'
      exact (Option.some.inj hv').symm
    subst ev
    refine ⟨_, rfl, wpAny_letOwnedTupleGo_enum (s := { s with heap := h', toks := tk + 1 }) ho fun h'' he' sb => ?_⟩
    have hT2 : h''.get? s.heap.objs.size = some { cls := .type "tuple", data := .seq #[.int i tk, v] } := (sb.2 _ (Nat.ne_of_gt hel)).trans hT
    have new : ObjOk X.prog X.w (upd H s.heap.objs.size (.tup [.int (i : Nat), x])) h'' s.heap.objs.size (.tup [.int (i : Nat), x]) :=
      ⟨by show 2 ≤ sizeLine; decide, [.int i tk, v], .cons ⟨_, rfl⟩ (.cons ru .nil), ⟨_, hT2, rfl, _, rfl⟩⟩
    have I1 : Inv X pins σ (upd H s.heap.objs.size (.tup [.int (i : Nat), x])) { s with heap := h'', toks := tk + 1 } :=
      I.turnedNew (ch := [e, it]) (fun b ob hb q => (sb.2 b (fun z => hb (by simp [z]))).trans (hk b ob (fun z => hb (by simp [z])) (fun z => hb (by simp [z])) q)) hf (Nat.le_refl _) new
    refine ⟨.ref s.heap.objs.size, _, I1, rfl, ⟨_, _, rfl, I.hok.fresh (Nat.le_refl _), rfl, hx⟩, ⟨⟨v, ?_⟩, ?_, hne⟩, fun b hb => ?_⟩
    · have e1 : ((i + 1 : Nat) : Int) = (i : Int) + 1 := by omega
      rw [e1]; exact he'
    · exact hit'.1.at fun o q => (sb.2 it (Ne.symm hne)).trans q
    · have hb' : b < s.heap.objs.size := by
        have e' : b = e ∨ b = it := by simpa using hb
        rcases e' with z | z
        · rw [z]; exact hel
        · rw [z]; exact hil
      rw [upd_ne (Nat.ne_of_lt hb')]
      exact (hf b hb).1
  done := by
    intro X hP hw hK hc i pins s σ H E I hf st hg
    subst hP hw hK
    obtain ⟨⟨old, he⟩, hit, hne⟩ := st
    obtain ⟨rfl, hq⟩ := hg
    obtain ⟨its, rv, p, hz⟩ := I.tuple hq
    have hia : a ≠ it := by
      rintro rfl
      obtain ⟨o, q1, q2, _⟩ := id p
      obtain ⟨o', q3, q4, _⟩ := id hit
      rw [q1] at q3
      cases q3
      rw [q2] at q4
      exact absurd q4 (by decide)
    have hl : its.toArray.size = xs.length := by rw [List.size_toArray]; exact rv.length.symm
    obtain ⟨f0, f1, f2, f3, f4, f5⟩ := hf it (by simp)
    exact wpAny_pyNext_enum_endD (Draws.tuple (A := X.A.in1) (I.ok.hd hc) it a hia its.toArray) he ⟨by rw [hl]; exact hit, p⟩ fun h' eb => ⟨rfl, I.turned (t' := s.toks) (fun b o hb q => eb b o hb q) f0 f1 f3 f4 f5⟩
  self := fun A i s Q E st h => let ⟨⟨_, he⟩, _⟩ := st; wpAny_pyIter_enum he h
def iEnumA (K : PySem.W.Frag) (ta : TA) : TI := fun σ H R => ta σ H fun vs H1 => (∃ a xs, vs = [.ref a] ∧ SqT K H1 a xs ∧ R (IteD xs.length (fun H => SqT K H a xs) (fun i _ x => xs[i]? = some x)) H1) ∨ (∃ z, vs = [.str z] ∧ R (IteD z.cps.size (fun _ => True) (fun i _ x => ∃ c, z.cps[i]? = some c ∧ x = .str ⟨#[c]⟩)) H1) ∨ ∃ a xs, vs = [.ref a] ∧ SqL K H1 a xs ∧ R (Ite K a) H1
theorem pi_enumA {X : Cx} {e : Expr} {ta : TA} {p pos tpos : Pos} {elts : List Expr} {kk : Nat} (hg : Gl X "enumerate") (hm : X.mg "enumerate" = none) (ha : PA X [e] ta) (hs : starEach [e] X.env = [(false, eval e X.env)] := by rfl) :
    PI X (.Tuple elts kk tpos) (.Call (.Name "enumerate" p) [e] [] pos) (iEnumA X.K ta) := by
  refine ⟨fun pins s σ H R I h => ?_⟩
  refine Call_ (ld_blt I hg hm boot_enumerate (PyProof.Rows.callWith_type1 (thn (ha.run pos pins s σ H _ I h) fun us s1 ⟨vs, H1, I1, r1, q1⟩ => ?_) hs rfl))
  have fin : ∀ b, b ∈ [s1.heap.objs.size + 1, s1.heap.objs.size] → FpOk X pins H1 b := fun b hb => by
    have e' : b = s1.heap.objs.size + 1 ∨ b = s1.heap.objs.size := by simpa using hb
    have hle : s1.heap.objs.size ≤ b := by
      rcases e' with z | z
      · rw [z]; exact Nat.le_add_right _ _
      · rw [z]; exact Nat.le_refl _
    exact I1.fpOk hle (I1.hok.fresh hle)
  rcases q1 with ⟨a, xs, ex, hq, q⟩ | ⟨z, ex, q⟩ | ⟨a, xs, ex, hq, q⟩
  · subst ex
    cases r1 with
    | cons r rr =>
      cases rr
      cases r
      obtain ⟨its, rv, p', hz⟩ := I1.tuple hq
      refine call_enum1 (begins_tuple a its.toArray) p' fun h' he hit hsz hk => wpAny_pyIter_enum he ?_
      have I2 : Inv X pins σ H1 { s1 with heap := h' } := I1.kept (t' := s1.toks) hk
      exact ⟨s1.heap.objs.size + 1, [s1.heap.objs.size + 1, s1.heap.objs.size], _, _, H1, rfl, I2, turn_enumT (s1.heap.objs.size + 1) s1.heap.objs.size a xs, ⟨⟨.none, he⟩, ⟨_, hit, rfl, rfl⟩, Nat.succ_ne_self _⟩, fin, q⟩
  · subst ex
    cases r1 with
    | cons r rr =>
      cases rr
      obtain ⟨t, rfl⟩ := r
      refine call_enum1 (begins_text z t) trivial fun h' he hit hsz hk => wpAny_pyIter_enum he ?_
      have I2 : Inv X pins σ H1 { s1 with heap := h' } := I1.kept (t' := s1.toks) hk
      exact ⟨s1.heap.objs.size + 1, [s1.heap.objs.size + 1, s1.heap.objs.size], _, _, H1, rfl, I2, turn_enumS (s1.heap.objs.size + 1) s1.heap.objs.size z t, ⟨⟨.none, he⟩, ⟨_, hit, rfl, rfl⟩, Nat.succ_ne_self _⟩, fin, q⟩
  · subst ex
    cases r1 with
    | cons r rr =>
      cases rr
      cases r
      obtain ⟨its, rv, p', hz⟩ := I1.list hq
      refine call_enumerate_list p'.isList fun h' he hit hsz hk => wpAny_pyIter_enum he ?_
      have I2 : Inv X pins σ H1 { s1 with heap := h' } := I1.kept (t' := s1.toks) hk
      exact ⟨s1.heap.objs.size + 1, [s1.heap.objs.size + 1, s1.heap.objs.size], _, _, H1, rfl, I2, turn_enum a (s1.heap.objs.size + 1) s1.heap.objs.size, ⟨⟨.none, he⟩, hit, Nat.succ_ne_self _⟩, fin, q⟩

/-! the rule -/
section
variable {r : Addr} {X : Cx} {K : PySem.W.Frag} {mg : Str → Option Value} {O : List Nat} {E : XK} {e : Expr} {ts : TA}
def numD (xs : List D) : List D := xs.mapIdx fun i x => .tup [.int (i : Int), x]
def enumD : List D → Option (List D)
  | [d] => (seqD d).map numD
  | _ => none
theorem numD_len (xs : List D) : (numD xs).length = xs.length := by unfold numD; simp
theorem numD_get {xs : List D} {i : Nat} {x : D} (h : xs[i]? = some x) : (numD xs)[i]? = some (.tup [.int (i : Int), x]) := by
  unfold numD; rw [List.getElem?_mapIdx, h]; rfl
theorem walks_pair {J : It} {Hs1 : Hp} {ds : List D} {Gd : Hp → Prop} {Y : Nat → Hp → V → Hp → Prop} (wk : Walk J ds.length Gd Y) (hG : ∀ Hs H, Same Hs1 Hs → Same Hs H → Gd H)
    (hY : ∀ i Hs H v H', i < ds.length → Same Hs1 Hs → Same Hs H → Y i H v H' → ∃ T x d, v = .ref T ∧ H T = none ∧ H' = upd H T (.tup [.int (i : Nat), x]) ∧ ds[i]? = some d ∧ RepD K mg r Hs x d) : WalksD K mg r J Hs1 (numD ds) := by
  refine ⟨Gd, Y, by rw [numD_len]; exact wk, hG, fun i Hs H tp v H' hi e w y => ?_⟩
  rw [numD_len] at hi
  obtain ⟨T, x, d, rfl, hT, rfl, hd, hx⟩ := hY i Hs H v H' hi e w.sub y
  obtain ⟨g', w'⟩ := w.alloc (o := .tup [.int (i : Nat), x]) hT
  exact ⟨_, _, g', w', numD_get hd, .tup upd_same (.cons (.int _) (.cons (hx.mono g'.ex) .nil))⟩
theorem enumD_ok {ds items : List D} (h : enumD ds = some items) : ∃ d xs, ds = [d] ∧ seqD d = some xs ∧ items = numD xs := by
  match ds, h with
  | [d], h =>
    obtain ⟨xs, h1, h2⟩ := Option.map_eq_some_iff.mp h
    exact ⟨d, xs, rfl, h1, h2.symm⟩
theorem gi_enum {p tpos : Pos} {pos : Pos} {elts : List Expr} {kk : Nat} {m : SE (List D)} (hm : X.mg "enumerate" = none) (h : GA K mg r X O E [e] ts m) (hg : Gl X "enumerate" := by rfl) (hs : starEach [e] X.env = [(false, eval e X.env)] := by rfl) (hK : X.K = K := by rfl) :
    GI K mg r X O E (.Tuple elts kk tpos) (.Call (.Name "enumerate" p) [e] [] pos) (iEnumA K ts) (rangeI enumD m) := by
  subst hK
  refine ⟨pi_enumA hg hm h.pe hs, fun Hs0 H0 Hs H σ env tp Q R P => ?_⟩
  refine h.snd _ _ _ _ _ _ _ _ R (Post.bind P fun vs Hs1 H1 ds tp1 _ g w rv P1 => ?_)
  obtain ⟨items, hz, k⟩ := Post.ok_of P1
  obtain ⟨d, xs, rfl, h1, rfl⟩ := enumD_ok hz
  cases rv with
  | cons rx rr =>
    cases rr
    cases d with
    | lst ys =>
      cases h1
      cases rx with
      | lst q1 q2 =>
        rename_i a vs
        refine .inr (.inr ⟨a, vs, rfl, .of (w.sub _ _ q1), k _ Hs1 H1 (Grow.refl _ _) w ?_⟩)
        refine walks_pair (Gd := fun H => SqL X.K H a vs) (Y := fun i H v H' => ∃ T x, v = .ref T ∧ H T = none ∧ H' = upd H T (.tup [.int (i : Nat), x]) ∧ vs[i]? = some x) ?_ (fun Hs H e1 e2 => .of (e2 _ _ (e1 _ _ q1))) fun i Hs H v H' hi e e2 y => ?_
        · rw [← q2.length]
          exact ⟨fun i H hi q => ⟨vs, vs[i], q, List.getElem?_eq_getElem hi⟩, fun H q => ⟨vs, q, Nat.le_refl _⟩, fun i H x H' hi q y => by
            obtain ⟨T, z, h1, h2, h3, h4⟩ := y
            exact ⟨T, z, h1, h2, h3, h4 vs q⟩⟩
        · obtain ⟨T, x, h1, h2, h3, h4⟩ := y
          obtain ⟨d, h5, h6⟩ := q2.get h4
          exact ⟨T, x, d, h1, h2, h3, h5, h6.mono e⟩
    | tup ys =>
      cases h1
      cases rx with
      | tup q1 q2 =>
        rename_i a vs
        refine .inl ⟨a, vs, rfl, .of (w.sub _ _ q1), k _ Hs1 H1 (Grow.refl _ _) w ?_⟩
        refine walks_pair (Gd := fun H => SqT X.K H a vs) (Y := fun i H v H' => ∃ T x, v = .ref T ∧ H T = none ∧ H' = upd H T (.tup [.int (i : Nat), x]) ∧ vs[i]? = some x) ?_ (fun Hs H e1 e2 => .of (e2 _ _ (e1 _ _ q1))) fun i Hs H v H' hi e e2 y => ?_
        · rw [← q2.length]
          exact ⟨fun i H hi q => ⟨hi, q⟩, fun H q => ⟨rfl, q⟩, fun i H x H' hi q y => y⟩
        · obtain ⟨T, x, h1, h2, h3, h4⟩ := y
          obtain ⟨d, h5, h6⟩ := q2.get h4
          exact ⟨T, x, d, h1, h2, h3, h5, h6.mono e⟩
    | scr ns =>
      cases h1
      cases rx with
      | scr q1 =>
        rename_i a
        refine .inr (.inr ⟨a, ns.map V.int, rfl, Same.seq w.sub q1, k _ Hs1 H1 (Grow.refl _ _) w ?_⟩)
        refine walks_pair (Gd := fun H => SqL X.K H a (ns.map V.int)) (Y := fun i H v H' => ∃ T x, v = .ref T ∧ H T = none ∧ H' = upd H T (.tup [.int (i : Nat), x]) ∧ (ns.map V.int)[i]? = some x) ?_ (fun Hs H e1 e2 => Same.seq e2 (Same.seq e1 q1)) fun i Hs H v H' hi e e2 y => ?_
        · rw [List.length_map]
          exact ⟨fun i H hi q => ⟨ns.map V.int, .int ns[i], q, by rw [List.getElem?_map, List.getElem?_eq_getElem hi]; rfl⟩, fun H q => ⟨ns.map V.int, q, by rw [List.length_map]; exact Nat.le_refl _⟩, fun i H x H' hi q y => by
            obtain ⟨T, z, h1, h2, h3, h4⟩ := y
            exact ⟨T, z, h1, h2, h3, h4 _ q⟩⟩
        · obtain ⟨T, x, h1, h2, h3, h4⟩ := y
          rw [List.getElem?_map] at h4
          obtain ⟨n, h5, rfl⟩ := Option.map_eq_some_iff.mp h4
          exact ⟨T, _, .int n, h1, h2, h3, by rw [List.getElem?_map, h5]; rfl, .int _⟩
    | str s =>
      cases h1
      cases rx
      refine .inr (.inl ⟨s, rfl, k _ Hs1 H1 (Grow.refl _ _) w ?_⟩)
      refine walks_pair (Gd := fun _ => True) (Y := fun i H v H' => ∃ T x, v = .ref T ∧ H T = none ∧ H' = upd H T (.tup [.int (i : Nat), x]) ∧ ∃ c, s.cps[i]? = some c ∧ x = .str ⟨#[c]⟩) ?_ (fun _ _ _ _ => trivial) fun i Hs H v H' hi e e2 y => ?_
      · rw [List.length_map, Array.length_toList]
        exact ⟨fun _ _ hi _ => ⟨hi, trivial⟩, fun _ _ => ⟨rfl, trivial⟩, fun _ _ _ _ _ _ y => y⟩
      · obtain ⟨T, x, rfl, hT, rfl, c, hc, rfl⟩ := y
        exact ⟨T, _, .str ⟨#[c]⟩, rfl, hT, rfl, by rw [List.getElem?_map, Array.getElem?_toList, hc]; rfl, .str _⟩
    | _ => cases h1
end
end G

set_option Elab.async false
set_option linter.all false
set_option maxRecDepth 100000
set_option maxHeartbeats 1000000
/-! G7: sorted, a list turned about. -/
namespace SrtT
open PySem PySem.Spec PyProof.Rows SrtO
section
variable {prog : Program} {w : World} {A : Around} {E : Value → Shared → Prop} {s : Shared}
theorem collect_tuple {l : Addr} {vs : List Value} {Q : List Value → Shared → Prop} (hl : s.heap.IsTuple l vs.toArray)
    (h : Q vs { s with heap := (s.heap.push (seqObj "list" #[] 0)).update s.heap.objs.size (Obj.mapSeq (· ++ vs.toArray)) }) (hsz : vs.length ≤ sizeLine) :
    wpAny (model prog w) A (collect (.ref l)) Q E s := by
  obtain ⟨o, ho, hc, n, hd⟩ := id hl
  unfold collect
  refine wpAny_bind (wpAny_runValue (codeAny_builtin entry_proto_collect' ?_))
  show wpAny _ _ (do again (.builtin "list.__iadd__" ⟨[← newList [], .ref l], []⟩)) _ _ s
  refine wpAny_bind (wpAny_newList (wpAny_pure ⟨Code.quiet_builtin _ (by decide +kernel), codeAny_builtin entry_list_iadd' ?_⟩))
  show wpAny _ _ (Builtin.List.listExtendWith (.ref s.heap.objs.size) (.ref l) (.ref s.heap.objs.size)) _ _ { s with heap := s.heap.push (seqObj "list" #[] 0) }
  unfold Builtin.List.listExtendWith
  have ho' : (s.heap.push (seqObj "list" #[] 0)).get? l = some o := Heap.get?_push_of_some _ ho
  refine wpAny_bind (wpAny_typeOf (T := "tuple") ⟨o, ho', hc⟩ ?_)
  have ht : (Value.type "tuple" == Value.type "tuple") = true := by rfl
  rw [if_pos (by rw [ht]; simp)]
  refine wpAny_bind (listItems_at ho' hd ?_)
  refine wpAny_bind (listItems_at (xs := #[]) (n := 0) (Heap.get?_push_size _ rfl) rfl ?_)
  rw [if_neg (by simp)]
  refine wpAny_bind (listUpdate_at (xs := #[]) (n := 0) (Heap.get?_push_size _ rfl) rfl ?_ (Nat.zero_le _) (by show (#[] ++ vs.toArray).size ≤ sizeLine + 1; simp only [Array.size_append, List.size_toArray, List.length_nil]; omega))
  refine wpAny_pure ?_
  show wpAny (model prog w) A (do
      let o ← load s.heap.objs.size
      match o.data with
      | .seq xs _ => pure xs.toList
      | _ => unsupported "internal:collect") Q E { s with heap := (s.heap.push (seqObj "list" #[] 0)).update s.heap.objs.size (Obj.mapSeq (· ++ vs.toArray)) }
  refine wpAny_bind (wpAny_load (get?_update_seq (Heap.get?_push_size _ rfl) _) ?_)
  show wpAny _ _ (pure ((#[] : Array Value) ++ vs.toArray).toList) Q E _
  rw [show ((#[] : Array Value) ++ vs.toArray).toList = vs by simp]
  exact wpAny_pure h
theorem sorted_ordT {l : Addr} {vs : List Value} {ltv : Value → Value → Bool} {Q : Value → Shared → Prop} (O : Swo ltv) (hl : s.heap.IsTuple l vs.toArray) (hz : vs.length ≤ sizeLine)
    (hS : 2 ≤ vs.length → ∀ (h₁ : Heap) (a : Addr), h₁.get? a = some (seqObj "list" vs.toArray 0) → (∀ b o, s.heap.get? b = some o → b ≠ a ∧ h₁.get? b = some o) → SortableO prog w A.in1.in1 { s with heap := h₁ } a vs ltv)
    (h : ∀ out : List Value, Srtd ltv out → Stb ltv out vs → Q (.ref (s.heap.objs.size + 1)) { s with heap := sortedAll s.heap vs out.toArray }) :
    wpAny (model prog w) A (call (.builtin "sorted") [.ref l]) Q E s := by
  refine Calls.call_function_entry kind_sorted plain_sorted entry_sorted (args_sorted1 _) ?_
  unfold Builtin.«sorted»
  refine wpAny_bind (m := checkCount "sorted" 1 1 _) (wpAny_pure ?_)
  refine wpAny_bind (collect_tuple hl ?_ hz)
  refine wpAny_bind (wpAny_newList ?_ hz)
  have hsz : ((s.heap.push (seqObj "list" #[] 0)).update s.heap.objs.size (Obj.mapSeq (· ++ vs.toArray))).objs.size = s.heap.objs.size + 1 := by
    rw [Heap.size_update, size_push']
  have hoL : (((s.heap.push (seqObj "list" #[] 0)).update s.heap.objs.size (Obj.mapSeq (· ++ vs.toArray))).push (seqObj "list" vs.toArray 0)).get? (s.heap.objs.size + 1) = some (seqObj "list" vs.toArray 0) := by
    rw [← hsz]; exact Heap.get?_push_size _ rfl
  have keep : ∀ b o, s.heap.get? b = some o → b ≠ s.heap.objs.size + 1 ∧ (((s.heap.push (seqObj "list" #[] 0)).update s.heap.objs.size (Obj.mapSeq (· ++ vs.toArray))).push (seqObj "list" vs.toArray 0)).get? b = some o := fun b o q => by
    have hlt : b < s.heap.objs.size := Heap.lt_size q
    refine ⟨Nat.ne_of_lt (Nat.lt_succ_of_lt hlt), Heap.get?_push_of_some _ ?_⟩
    rw [Heap.get?_update_ne _ _ _ _ (Nat.ne_of_lt hlt)]
    exact Heap.get?_push_of_some _ q
  show wpAny _ _ _ _ _ { s with heap := ((s.heap.push (seqObj "list" #[] 0)).update s.heap.objs.size (Obj.mapSeq (· ++ vs.toArray))).push (seqObj "list" vs.toArray 0) }
  rw [hsz]
  refine wpAny_bind (wpAny_holding (wpAny_call_entry slot_list_sort ⟨_, hoL, rfl⟩ entry_list_sort (list_sort_ord O hoL hz (fun h2 => hS h2 _ _ hoL keep) fun out hs hb => ⟨_, rfl, ?_⟩) (args_list_sort _)))
  exact wpAny_pure ⟨_, rfl, h out hs hb⟩
end
end SrtT
namespace G
open PySem PySem.Spec PyProof.Rows L2
def rSortedA (K : PySem.W.Frag) : List V → Hp → VK → Prop := fun vs H Q => ∃ (a : Addr) (ns : List Int), vs = [V.ref a] ∧ SqT K H a (ns.map V.int) ∧
  ∀ (ns' : List Int) (p : Addr), ns'.Perm ns → ns'.Pairwise (· ≤ ·) → H p = none → Q (.ref p) (upd H p (.lst (ns'.map V.int)))
theorem cr_sortedA {X : Cx} : CallR X (.builtin "sorted") (rSortedA X.K) := by
  intro pins s σ H vs us Q I r h
  obtain ⟨a, ns, rfl, hs, q⟩ := h
  obtain ⟨its, rv, hl, hz⟩ := I.tuple hs
  rw [Vals.ref1 r]
  have hi := rv.ints
  refine SrtT.sorted_ordT SrtO.swo_int hl (by rw [← rv.length]; exact hz) (fun h2 h₁ a' _ _ => SrtO.ints_sortable hi h2) fun out h1 h2 => ?_
  obtain ⟨k1, k2, k3⟩ := SrtO.ints_out hi h1 h2
  obtain ⟨ep, he'⟩ := PyProof.Rows.sortedAll_at s.heap its out.toArray
  have hlen : ((out.map SrtO.iv).map V.int).length ≤ sizeLine := by
    rw [List.length_map, k2.length_eq]
    rw [List.length_map] at hz
    exact hz
  exact ⟨.ref _, upd H (s.heap.objs.size + 1) (.lst ((out.map SrtO.iv).map V.int)), I.laid (t' := s.toks) (fun _ _ => PyProof.Rows.sortedAll_old) (Nat.le_succ _) ⟨hlen, out, ep, vals_of_ints k1, he'⟩, rfl, q _ _ k2 k3 (I.hok.fresh (Nat.le_succ _))⟩
theorem crr_or {X : Cx} {f : Value} {r1 r2 : List V → Hp → VK → Prop} (h1 : CallR X f r1) (h2 : CallR X f r2) : CallR X f (fun vs H Q => r1 vs H Q ∨ r2 vs H Q) := by
  intro pins s σ H vs us Q I r h
  rcases h with h | h
  · exact h1 pins s σ H vs us Q I r h
  · exact h2 pins s σ H vs us Q I r h
abbrev rSortedB (K : PySem.W.Frag) : List V → Hp → VK → Prop := fun vs H Q => rSortedI K vs H Q ∨ rSortedA K vs H Q
/-- ints in order -/
def insI (x : Int) : List Int → List Int
  | [] => [x]
  | y :: ys => if x ≤ y then x :: y :: ys else y :: insI x ys
def sortI : List Int → List Int
  | [] => []
  | x :: xs => insI x (sortI xs)
theorem insI_perm (x : Int) : ∀ ys, (insI x ys).Perm (x :: ys)
  | [] => .refl _
  | y :: ys => by
    unfold insI
    split
    · exact .refl _
    · exact ((insI_perm x ys).cons y).trans (.swap _ _ _)
theorem sortI_perm : ∀ xs, (sortI xs).Perm xs
  | [] => .refl _
  | x :: xs => (insI_perm x _).trans ((sortI_perm xs).cons x)
theorem insI_sorted (x : Int) : ∀ {ys : List Int}, ys.Pairwise (· ≤ ·) → (insI x ys).Pairwise (· ≤ ·)
  | [], _ => List.pairwise_singleton _ _
  | y :: ys, h => by
    unfold insI
    have h' := List.pairwise_cons.mp h
    split
    · rename_i c
      exact List.pairwise_cons.mpr ⟨fun z hz => (List.mem_cons.mp hz).elim (fun e => e ▸ c) (fun q => Int.le_trans c (h'.1 z q)), h⟩
    · rename_i c
      refine List.pairwise_cons.mpr ⟨fun z hz => ?_, insI_sorted x h'.2⟩
      rcases List.mem_cons.mp ((insI_perm x ys).mem_iff.mp hz) with e | q
      · subst e; omega
      · exact h'.1 z q
theorem sortI_sorted : ∀ xs, (sortI xs).Pairwise (· ≤ ·)
  | [] => .nil
  | x :: xs => insI_sorted x (sortI_sorted xs)
theorem sorted_unique : ∀ {xs ys : List Int}, xs.Perm ys → xs.Pairwise (· ≤ ·) → ys.Pairwise (· ≤ ·) → xs = ys
  | [], ys, p, _, _ => p.nil_eq
  | x :: xs, [], p, _, _ => absurd p.symm.nil_eq (by simp)
  | x :: xs, y :: ys, p, h1, h2 => by
    have h1' := List.pairwise_cons.mp h1
    have h2' := List.pairwise_cons.mp h2
    have e : x = y := by
      have a : x ∈ y :: ys := p.mem_iff.mp List.mem_cons_self
      have b : y ∈ x :: xs := p.mem_iff.mpr List.mem_cons_self
      rcases List.mem_cons.mp a with e | a
      · exact e
      rcases List.mem_cons.mp b with e | b
      · exact e.symm
      have := h1'.1 y b
      have := h2'.1 x a
      omega
    subst e
    rw [sorted_unique (List.Perm.cons_inv p) h1'.2 h2'.2]
section
variable {r : Addr} {X : Cx} {K : PySem.W.Frag} {mg : Str → Option Value} {O : List Nat} {E : XK} {e a : Expr} {ts : TA} {ta : TE} {p pos : Pos} {ms : SE (List D)} {ma : SE D}
def sortD : List D → Option D
  | [.lst xs] => (unI xs).map fun ns => .lst ((sortI ns).map .int)
  | [.scr ns] => some (.lst ((sortI ns).map .int))
  | [.tup xs] => (unI xs).map fun ns => .lst ((sortI ns).map .int)
  | _ => none
theorem gf_sorted (hm : X.mg "sorted" = none) (ha : GAO K mg r X O E [e] ts ms) (hg : Gl X "sorted" := by rfl) (he : starEach [e] X.env = (false, eval e X.env) :: starEach [] X.env := by rfl) (hpl : (backTo pos (starEach [] X.env)).any (·.1) = false := by rfl) (hK : X.K = K := by rfl) : GF K mg r X O E (.Call (.Name "sorted" p) [e] [] pos) (tCB (rSortedB K) ts) (callB sortD ms) := by
  subst hK
  refine ⟨pe_callB (r := rSortedB X.K) (crr_or cr_sortedI cr_sortedA) hg hm boot_sorted ha.pe (by decide) (by decide) he hpl, fun Hs0 H0 Hs H σ env tp Q Rl P => ?_⟩
  refine ha.snd _ _ _ _ _ _ _ _ Rl ?_
  unfold callB at P
  cases q : ms env tp with
  | stuck => rw [q] at P; exact P
  | exn cc fs tp1 => rw [q] at P; exact P
  | ok ds tp1 =>
    rw [q] at P
    intro xs Hs1 H1 g w rx
    obtain ⟨z, hz, k⟩ := Post.ok_of (show Post X.K mg r (Fresh X.K mg r H) E Hs H (RE.of (sortD ds) tp1) Q from P)
    unfold sortD at hz
    split at hz
    · obtain ⟨ns, h1, h2⟩ := Option.map_eq_some_iff.mp hz
      subst h2
      obtain ⟨x, rfl, h⟩ := paired1 rx
      rw [unI_ok h1] at h
      obtain ⟨p, rfl, h3⟩ := lst_typed RepDs.ints_of w h
      refine .inl ⟨p, ns, rfl, .of h3, fun ns' q hp hs hq => ?_⟩
      have e : ns' = sortI ns := sorted_unique (hp.trans (sortI_perm ns).symm) hs (sortI_sorted ns)
      subst e
      obtain ⟨a, b, c⟩ := fresh_new (o := .lst ((sortI ns).map V.int)) (d := .lst ((sortI ns).map D.int)) g w hq ⟨_, upd_same, RepDs.ints _⟩
      exact k _ _ _ a b c
    · cases hz
      rename_i ns
      obtain ⟨x, rfl, h⟩ := paired1 rx
      obtain ⟨p, rfl, h3⟩ := repT_scr w h
      refine .inl ⟨p, ns, rfl, h3, fun ns' q hp hs hq => ?_⟩
      have e : ns' = sortI ns := sorted_unique (hp.trans (sortI_perm ns).symm) hs (sortI_sorted ns)
      subst e
      obtain ⟨a, b, c⟩ := fresh_new (o := .lst ((sortI ns).map V.int)) (d := .lst ((sortI ns).map D.int)) g w hq ⟨_, upd_same, RepDs.ints _⟩
      exact k _ _ _ a b c
    · obtain ⟨ns, h1, h2⟩ := Option.map_eq_some_iff.mp hz
      subst h2
      obtain ⟨x, rfl, h⟩ := paired1 rx
      rw [unI_ok h1] at h
      obtain ⟨p, vs, rfl, h0, h3, h4⟩ := repT_tup w h
      rw [RepDs.ints_of h4] at h3
      refine .inr ⟨p, ns, rfl, .of h3, fun ns' q hp hs hq => ?_⟩
      have e : ns' = sortI ns := sorted_unique (hp.trans (sortI_perm ns).symm) hs (sortI_sorted ns)
      subst e
      obtain ⟨a, b, c⟩ := fresh_new (o := .lst ((sortI ns).map V.int)) (d := .lst ((sortI ns).map D.int)) g w hq ⟨_, upd_same, RepDs.ints _⟩
      exact k _ _ _ a b c
    · cases hz
def revD : D → Option D
  | .lst xs => some (.lst xs.reverse)
  | _ => none
def revE (m : SE D) : SE D := fun env tp => (m env tp).bind fun d tp1 => RE.of (revD d) tp1
theorem RepDs.rev {Hs : Hp} {vs : List V} {ds : List D} (h : RepDs K mg r Hs vs ds) : RepDs K mg r Hs vs.reverse ds.reverse := by
  induction vs generalizing ds with
  | nil => cases h; exact .nil
  | cons v vs ih =>
    cases h with
    | cons h1 h2 =>
      rw [List.reverse_cons, List.reverse_cons]
      exact (ih h2).append (.cons h1 .nil)
theorem gf_rev {k : Nat} {p1 p2 p3 : Pos} (ha : GO K mg r X O E a ta ma) (hK : X.K = K := by rfl) : GF K mg r X O E (.Subscript a (.Slice none none (some (.UnaryOp .USub (.Constant (.int 1) k p1) p2)) p3) pos) (tRevL K ta) (revE ma) := by
  subst hK
  refine ⟨pe_revL ha.pe, fun Hs0 H0 Hs H σ env tp Q Rl P => ?_⟩
  refine ha.snd _ _ _ _ _ _ _ _ Rl ?_
  unfold revE at P
  cases q : ma env tp with
  | stuck => rw [q] at P; exact P
  | exn cc fs tp1 => rw [q] at P; exact P
  | ok d tp1 =>
    rw [q] at P
    intro x Hs1 H1 g w rx
    obtain ⟨z, hz, k⟩ := Post.ok_of (show Post X.K mg r (Fresh X.K mg r H) E Hs H (RE.of (revD d) tp1) Q from P)
    unfold revD at hz
    split at hz
    · cases hz
      obtain ⟨p, vs, rfl, h1, h2⟩ := repT_lst w rx
      refine ⟨p, vs, rfl, .of h1, fun q hq => ?_⟩
      obtain ⟨a, b, c⟩ := fresh_new (o := .lst vs.reverse) (d := .lst _) g w hq ⟨_, upd_same, RepDs.rev h2⟩
      exact k _ _ _ a b c
    · cases hz
end
end G

set_option Elab.async false
set_option linter.all false
set_option maxRecDepth 100000
set_option maxHeartbeats 1000000
/-! P0: the plain side: loops and comprehensions of data, pictures, the tape. -/
namespace G
open PySem L2

/-! ### comprehensions and loops, as plain functions -/
theorem compL_pure {f : D → List D → RE (Option D)} {g : D → Option D} {tp : List D} : ∀ {items : List D}, (∀ d ∈ items, f d tp = .ok (g d) tp) → compL f items tp = .ok (items.filterMap g) tp
  | [], _ => rfl
  | d :: ds, h => by
    unfold compL
    rw [h d List.mem_cons_self]
    simp only
    rw [compL_pure fun d' hd => h d' (List.mem_cons_of_mem _ hd)]
    simp only [List.filterMap_cons]
    cases g d <;> rfl
theorem compE_map {mi : SE (List D)} {vs : List Nat} {i : Nat} {m : SE D} {env : DEnv} {tp tp1 : List D} {items : List D} {g : D → D} (h1 : mi env tp = .ok items tp1) (hl : items.length ≤ sizeLine)
    (h : ∀ d ∈ items, m ((wipeE env vs).set i (some d)) tp1 = .ok (g d) tp1) : compE mi vs t1 [i] yesT m env tp = .ok (.lst (items.map g)) tp1 := by
  unfold compE
  rw [h1]
  simp only [RE.bind_ok]
  rw [if_pos hl, compL_pure (g := fun d => some (g d))]
  · simp only [List.filterMap_eq_map']
  · intro d hd
    unfold compTurn1 t1
    simp only [setAll]
    unfold yesT
    simp only [RE.bind_ok, if_true]
    rw [h d hd]
    rfl
theorem fm_if {b : D → Bool} {g : D → D} : ∀ items : List D, (items.filterMap fun d => if b d = true then some (g d) else none) = (items.filter b).map g
  | [] => rfl
  | d :: ds => by
    rw [List.filterMap_cons, List.filter_cons, fm_if ds]
    by_cases q : b d = true
    · simp [q]
    · simp [q]
theorem compE_filter {mi : SE (List D)} {vs : List Nat} {i : Nat} {c : SE Bool} {m : SE D} {env : DEnv} {tp tp1 : List D} {items : List D} {b : D → Bool} {g : D → D} (h1 : mi env tp = .ok items tp1) (hl : items.length ≤ sizeLine)
    (hc : ∀ d ∈ items, c ((wipeE env vs).set i (some d)) tp1 = .ok (b d) tp1) (h : ∀ d ∈ items, b d = true → m ((wipeE env vs).set i (some d)) tp1 = .ok (g d) tp1) : compE mi vs t1 [i] c m env tp = .ok (.lst ((items.filter b).map g)) tp1 := by
  unfold compE
  rw [h1]
  simp only [RE.bind_ok]
  rw [if_pos hl, compL_pure (g := fun d => if b d = true then some (g d) else none)]
  · rw [fm_if]
  · intro d hd
    unfold compTurn1 t1
    simp only [setAll]
    rw [hc d hd]
    simp only [RE.bind_ok]
    by_cases q : b d = true
    · rw [if_pos q, if_pos q, h d hd q]; rfl
    · rw [if_neg q, if_neg q]
/-- with draws: T holds of the tape -/
theorem compL_eff {T : List D → Prop} {R : D → D → Prop} {f : D → List D → RE (Option D)} : ∀ {items : List D} {tp : List D}, T tp → (∀ d ∈ items, ∀ tp, T tp → ∃ x tp', f d tp = .ok (some x) tp' ∧ T tp' ∧ R d x) → ∃ xs tp', compL f items tp = .ok xs tp' ∧ T tp' ∧ Paired R items xs
  | [], tp, ht, _ => ⟨[], tp, rfl, ht, .nil⟩
  | d :: ds, tp, ht, h => by
    obtain ⟨x, tp1, e1, t1, r1⟩ := h d List.mem_cons_self tp ht
    obtain ⟨xs, tp2, e2, t2, r2⟩ := compL_eff (items := ds) t1 fun d' hd => h d' (List.mem_cons_of_mem _ hd)
    refine ⟨x :: xs, tp2, ?_, t2, .cons r1 r2⟩
    unfold compL
    rw [e1]
    simp only
    rw [e2]
    rfl
theorem compE_eff {T : List D → Prop} {R : D → D → Prop} {mi : SE (List D)} {vs : List Nat} {i : Nat} {m : SE D} {env : DEnv} {tp tp1 : List D} {items : List D} (h1 : mi env tp = .ok items tp1) (ht : T tp1) (hl : items.length ≤ sizeLine)
    (h : ∀ d ∈ items, ∀ tp, T tp → ∃ x tp', m ((wipeE env vs).set i (some d)) tp = .ok x tp' ∧ T tp' ∧ R d x) : ∃ xs tp', compE mi vs t1 [i] yesT m env tp = .ok (.lst xs) tp' ∧ T tp' ∧ Paired R items xs := by
  obtain ⟨xs, tp', e, t, r⟩ := compL_eff (f := compTurn1 t1 [i] yesT m (wipeE env vs)) (items := items) ht (R := R) fun d hd tp ht => by
    obtain ⟨x, tp', e, t, r⟩ := h d hd tp ht
    refine ⟨x, tp', ?_, t, r⟩
    unfold compTurn1 t1
    simp only [setAll]
    unfold yesT
    simp only [RE.bind_ok, if_true]
    rw [e]
    rfl
  refine ⟨xs, tp', ?_, t, r⟩
  unfold compE
  rw [h1]
  simp only [RE.bind_ok]
  rw [if_pos hl, e]
/-- a loop by its invariant -/
theorem forL_inv {i : Nat} {body : SS} (I : Nat → DEnv → List D → Prop) : ∀ {items : List D} {env : DEnv} {tp : List D} (k : Nat), I k env tp → (∀ j d env tp, items[j]? = some d → I (k + j) env tp → ∃ env' tp', body (env.set i (some d)) tp = .nx env' tp' ∧ I (k + j + 1) env' tp') →
    ∃ env' tp', forL t1 [i] body items env tp = .nx env' tp' ∧ I (k + items.length) env' tp'
  | [], env, tp, k, h0, _ => ⟨env, tp, rfl, h0⟩
  | d :: ds, env, tp, k, h0, h => by
    obtain ⟨e1, tp1, q1, i1⟩ := h 0 d env tp rfl h0
    obtain ⟨e2, tp2, q2, i2⟩ := forL_inv I (items := ds) (k + 1) i1 fun j d' env tp hj hi => by
      have e : k + 1 + j = k + (j + 1) := by omega
      rw [e] at hi ⊢
      exact h (j + 1) d' env tp (by simpa using hj) hi
    refine ⟨e2, tp2, ?_, by rw [List.length_cons]; have e : k + (ds.length + 1) = k + 1 + ds.length := by omega
                            rw [e]; exact i2⟩
    unfold forL t1
    simp only [setAll]
    rw [q1]
    exact q2
/-- a loop whose body is plain -/
theorem forL_fold {i : Nat} {body : SS} {step : DEnv → D → DEnv} {tp : List D} : ∀ {items : List D} {env : DEnv}, (∀ env, ∀ d ∈ items, body (env.set i (some d)) tp = .nx (step env d) tp) → forL t1 [i] body items env tp = .nx (items.foldl step env) tp
  | [], env, _ => rfl
  | d :: ds, env, h => by
    unfold forL t1
    simp only [setAll]
    rw [h env d List.mem_cons_self]
    exact forL_fold fun env d' hd => h env d' (List.mem_cons_of_mem _ hd)

/-! ### pictures -/
abbrev Row := List Bool
abbrev Pic := List Row
def sg (b : Bool) : Nat := if b then 35 else 46
def rowS (r : Row) : Str := ⟨(r.map sg).toArray⟩
def picD (p : Pic) : D := .tup (p.map fun r => .str (rowS r))
structure PicOk (h w : Nat) (p : Pic) : Prop where
  len : p.length = h
  row : ∀ r ∈ p, r.length = w
  h1 : 1 ≤ h
  h30 : h ≤ 30
  w1 : 1 ≤ w
  w30 : w ≤ 30
theorem rowS_len (r : Row) : (rowS r).length = r.length := by
  show ((r.map sg).toArray).size = _
  rw [List.size_toArray, List.length_map]
theorem rowS_app (a b : Row) : rowS a ++ rowS b = rowS (a ++ b) := by
  show (⟨(a.map sg).toArray ++ (b.map sg).toArray⟩ : Str) = _
  unfold rowS
  rw [List.map_append, List.append_toArray]
theorem rowS_inj {a b : Row} (h : rowS a = rowS b) : a = b := by
  have h1 : (a.map sg).toArray = (b.map sg).toArray := congrArg Str.cps h
  have h2 : a.map sg = b.map sg := by
    have := congrArg Array.toList h1
    simpa using this
  have hs : ∀ x y, sg x = sg y → x = y := by decide
  exact List.map_inj_right (fun x y => hs x y) |>.mp h2
theorem str_black : ("#" : Str) = rowS [true] := by decide +kernel
theorem str_white : ("." : Str) = rowS [false] := by decide +kernel
theorem str_empty : ("" : Str) = rowS [] := by decide +kernel

theorem row_toList (r : Row) : (rowS r).cps.toList = r.map sg := by
  show ((r.map sg).toArray).toList = _
  simp
theorem row_cut (r : Row) (lo hi : Option Int) : cutS (rowS r) lo hi = rowS (cutD r lo hi) := by
  unfold cutS cutD
  rw [row_toList, rowS_len]
  unfold rowS
  rw [List.map_take, List.map_drop]
theorem atI_nat' {α : Type} (xs : List α) (j : Nat) : atI xs (j : Int) = xs[j]? := by
  unfold atI ixN
  rw [if_pos (by omega)]
  by_cases h : (j : Int) < xs.length
  · rw [if_pos h]; rfl
  · rw [if_neg h, List.getElem?_eq_none (by omega)]; rfl
theorem atI_int {α : Type} (xs : List α) {i : Int} (h : 0 ≤ i) : atI xs i = xs[i.toNat]? := by
  obtain ⟨j, rfl⟩ := Int.eq_ofNat_of_zero_le h
  rw [atI_nat', Int.toNat_natCast]
theorem chr_row (b : Bool) : (⟨#[sg b]⟩ : Str) = rowS [b] := rfl
theorem glue_nil : ∀ ys : List Row, Str.join (rowS []) (ys.map rowS) = rowS ys.flatten
  | [] => rfl
  | [y] => by
    show rowS y = _
    simp
  | y :: z :: ys => by
    have ih := glue_nil (z :: ys)
    show (rowS y ++ rowS []) ++ Str.join (rowS []) ((z :: ys).map rowS) = _
    rw [ih, rowS_app, rowS_app]
    simp
theorem join_rows (ys : List Row) : Txt.join (rowS []) (ys.map rowS) = rowS ys.flatten := by
  rw [TL.join_eq, glue_nil]
theorem mul_row (b : Bool) (n : Nat) : Txt.mul (rowS [b]) (n : Int) = rowS (List.replicate n b) := by
  unfold Txt.mul
  by_cases h : (n : Int) < 1
  · rw [if_pos h]
    have : n = 0 := by omega
    subst this
    rfl
  · rw [if_neg h]
    by_cases h1 : n = 1
    · subst h1; rfl
    · have : ((n : Int) == 1 || (rowS [b]).length == 0) = false := by
        rw [rowS_len]
        simp; omega
      rw [this, if_neg (by decide)]
      have key : ∀ (k : Nat) (acc : Array Nat), (List.replicate k (rowS [b]).cps).foldl (· ++ ·) acc = acc ++ ((List.replicate k b).map sg).toArray := by
        intro k
        induction k with
        | zero => intro acc; simp
        | succ k ih =>
          intro acc
          rw [List.replicate_succ, List.foldl_cons, ih, List.replicate_succ, List.map_cons]
          show (acc ++ [sg b].toArray) ++ _ = _
          rw [Array.append_assoc, List.append_toArray]
          simp
      rw [Int.toNat_natCast, key]
      unfold rowS
      simp
theorem small_line {n : Nat} (h : n ≤ 1000000) : n ≤ sizeLine := by rw [sizeLine_eq]; omega

/-! ### the tape -/
structure Tape (tp : List D) : Prop where
  ex : ∃ (ns : List Int) (pos seed rest : Int), tp = [.scr ns, .int pos, .int seed, .int rest] ∧ 0 ≤ pos ∧ 0 ≤ seed ∧ seed < 2147483647 ∧ ns.length ≤ 63
theorem tape0 (ns : List Int) (c : Int) (h : ns.length ≤ 63) (h0 : 0 ≤ c) (h1 : c < 2147483647) : Tape [.scr ns, .int 0, .int c, .int 0] := ⟨⟨ns, 0, c, 0, rfl, by omega, h0, h1, h⟩⟩
end G

set_option Elab.async false
set_option linter.all false
set_option maxRecDepth 100000
set_option maxHeartbeats 4000000
namespace W
open PySem L2 G
def top (i : Nat) : Stmt := PySem.Challenge.pw_linepainters_k90_swaps_of_deeds.main.body.getD i (.Pass ⟨0, 0, 0, 0⟩)
/-- what the top leaves -/
structure Tx (K : PySem.W.Frag) (mg : Str → Option Value) : Prop where
  all : mg "all" = none
  bool : mg "bool" = none
  int : mg "int" = none
  isinstance : mg "isinstance" = none
  len : mg "len" = none
  list : mg "list" = none
  range : mg "range" = none
  sorted : mg "sorted" = none
  str : mg "str" = none
  tuple : mg "tuple" = none
  MOST_SIDE : ∃ t, mg "MOST_SIDE" = some (.int 30 t)
  BLACK : ∃ t, mg "BLACK" = some (.str "#" t)
  WHITE : ∃ t, mg "WHITE" = some (.str "." t)
  f_is_int : ∃ f fd, FunD K "is_int" "is_int" (defArgs (top 8)) (defBody (top 8)) (defScope (top 8)) [] [] f fd ∧ mg "is_int" = some (.ref f)
  f_is_in : ∃ f fd, FunD K "is_in" "is_in" (defArgs (top 9)) (defBody (top 9)) (defScope (top 9)) [] [] f fd ∧ mg "is_in" = some (.ref f)
  f_is_picture : ∃ f fd, FunD K "is_picture" "is_picture" (defArgs (top 10)) (defBody (top 10)) (defScope (top 10)) [] [] f fd ∧ mg "is_picture" = some (.ref f)
  f_need_picture : ∃ f fd, FunD K "need_picture" "need_picture" (defArgs (top 11)) (defBody (top 11)) (defScope (top 11)) [] [] f fd ∧ mg "need_picture" = some (.ref f)
  f_lines_of : ∃ f fd, FunD K "lines_of" "lines_of" (defArgs (top 12)) (defBody (top 12)) (defScope (top 12)) [] [] f fd ∧ mg "lines_of" = some (.ref f)
  f_are_deeds : ∃ f fd, FunD K "are_deeds" "are_deeds" (defArgs (top 13)) (defBody (top 13)) (defScope (top 13)) [] [] f fd ∧ mg "are_deeds" = some (.ref f)
  f_painted_line : ∃ f fd, FunD K "painted_line" "painted_line" (defArgs (top 14)) (defBody (top 14)) (defScope (top 14)) [] [] f fd ∧ mg "painted_line" = some (.ref f)
  f_all_painted : ∃ f fd, FunD K "all_painted" "all_painted" (defArgs (top 15)) (defBody (top 15)) (defScope (top 15)) [] [] f fd ∧ mg "all_painted" = some (.ref f)
  f_painted : ∃ f fd, FunD K "painted" "painted" (defArgs (top 16)) (defBody (top 16)) (defScope (top 16)) [] [] f fd ∧ mg "painted" = some (.ref f)
  f_need_deeds : ∃ f fd, FunD K "need_deeds" "need_deeds" (defArgs (top 18)) (defBody (top 18)) (defScope (top 18)) [] [] f fd ∧ mg "need_deeds" = some (.ref f)
  f_needless : ∃ f fd, FunD K "needless" "needless" (defArgs (top 19)) (defBody (top 19)) (defScope (top 19)) [] [] f fd ∧ mg "needless" = some (.ref f)
  f_last_deeds : ∃ f fd, FunD K "last_deeds" "last_deeds" (defArgs (top 20)) (defBody (top 20)) (defScope (top 20)) [] [] f fd ∧ mg "last_deeds" = some (.ref f)
  f_same_end : ∃ f fd, FunD K "same_end" "same_end" (defArgs (top 21)) (defBody (top 21)) (defScope (top 21)) [] [] f fd ∧ mg "same_end" = some (.ref f)
  f_always_same : ∃ f fd, FunD K "always_same" "always_same" (defArgs (top 22)) (defBody (top 22)) (defScope (top 22)) [] [] f fd ∧ mg "always_same" = some (.ref f)
  f_swaps_free : ∃ f fd, FunD K "swaps_free" "swaps_free" (defArgs (top 23)) (defBody (top 23)) (defScope (top 23)) [] [] f fd ∧ mg "swaps_free" = some (.ref f)
  f_unpainted : ∃ f fd, FunD K "unpainted" "unpainted" (defArgs (top 24)) (defBody (top 24)) (defScope (top 24)) [] [] f fd ∧ mg "unpainted" = some (.ref f)
  f_law_taken : ∃ f fd, FunD K "_law_taken" "_law_taken" (defArgs (top 26)) (defBody (top 26)) (defScope (top 26)) [] [] f fd ∧ mg "_law_taken" = some (.ref f)
  f_law_pick : ∃ f fd, FunD K "_law_pick" "_law_pick" (defArgs (top 27)) (defBody (top 27)) (defScope (top 27)) [] [] f fd ∧ mg "_law_pick" = some (.ref f)
  f_law_mixed : ∃ f fd, FunD K "_law_mixed" "_law_mixed" (defArgs (top 28)) (defBody (top 28)) (defScope (top 28)) [] [] f fd ∧ mg "_law_mixed" = some (.ref f)
  f_law_any : ∃ f fd, FunD K "_law_any" "_law_any" (defArgs (top 29)) (defBody (top 29)) (defScope (top 29)) [] [] f fd ∧ mg "_law_any" = some (.ref f)
  f_law_paint : ∃ f fd, FunD K "_law_paint" "_law_paint" (defArgs (top 30)) (defBody (top 30)) (defScope (top 30)) [] [] f fd ∧ mg "_law_paint" = some (.ref f)
  f_law_painted : ∃ f fd, FunD K "_law_painted" "_law_painted" (defArgs (top 31)) (defBody (top 31)) (defScope (top 31)) [] [] f fd ∧ mg "_law_painted" = some (.ref f)
  f_law_deeds : ∃ f fd, FunD K "_law_deeds" "_law_deeds" (defArgs (top 32)) (defBody (top 32)) (defScope (top 32)) [] [] f fd ∧ mg "_law_deeds" = some (.ref f)
  f_law_picture : ∃ f fd, FunD K "_law_picture" "_law_picture" (defArgs (top 33)) (defBody (top 33)) (defScope (top 33)) [] [] f fd ∧ mg "_law_picture" = some (.ref f)
  f_law_wide : ∃ f fd, FunD K "_law_wide" "_law_wide" (defArgs (top 34)) (defBody (top 34)) (defScope (top 34)) [] [] f fd ∧ mg "_law_wide" = some (.ref f)
section
variable {P : Program} {w : World} {K : PySem.W.Frag} {mg : Str → Option Value} {base : Heap} {r : Addr}
abbrev s_is_int : Stmt := top 8
theorem sc_is_int : FnScope ["value"] ["value"] (defScope s_is_int) := ⟨rfl, rfl, rfl, by decide +kernel, rfl, by decide +kernel, by decide +kernel⟩
def b_is_int : SS := retS (andE (callB isiD (consA (vE 0) (consA (cE (.ty "int")) (nilA)))) (notE (callB isiD (consA (vE 0) (consA (cE (.ty "bool")) (nilA))))))
def m_is_int : List D → List D → RE D := defD 1 b_is_int
theorem d_is_int (T : Tx K mg) : DefOk P w K mg base CX0 r "is_int" 1 1 m_is_int := by
  obtain ⟨f, fd, F, hm⟩ := T.f_is_int
  refine fn_def (k := 0) F sc_is_int hm (fun _ _ _ _ _ _ us hl => match us, hl with | [_], _ => rfl) (fun cdv A outer s H E hr => ?_) (m := b_is_int)
  exact ⟨_, _, (gss_one (gs_ret (On := []) (ge_and (ge_isi T.isinstance (gao_cons ((ge_var 0)).go (gao_cons ((ge_ty T.int)).go gao_nil))) (ge_one (ge_not (ge_isi T.isinstance (gao_cons ((ge_var 0)).go (gao_cons ((ge_ty T.bool)).go gao_nil))))))))⟩
abbrev s_is_picture : Stmt := top 10
theorem sc_is_picture : FnScope ["value", "row", "sign"] ["value"] (defScope s_is_picture) := ⟨rfl, rfl, rfl, by decide +kernel, rfl, by decide +kernel, by decide +kernel⟩
def b_is_picture : SS := seqS (ifS (orT (notT (boolE (callB isiD (consA (vE 0) (consA (cE (.ty "tuple")) (nilA)))))) (notT (boolE (chainE leD leD (cE (.int 1)) (callB lenD (consA (vE 0) (nilA))) (cE (.int 30)))))) (retS (cE (.bl false))) (skipS)) (seqS (ifS (orT (notT (boolE (callB allD (consA (compE (seqI (vE 0)) [1] t1 [1] (yesT) (callB isiD (consA (vE 1) (consA (cE (.ty "str")) (nilA))))) (nilA))))) (notT (boolE (chainE leD leD (cE (.int 1)) (callB lenD (consA (binE ixD (vE 0) (cE (.int 0))) (nilA))) (cE (.int 30)))))) (retS (cE (.bl false))) (skipS)) (retS (callB allD (consA (compE (seqI (vE 0)) [1] t1 [1] (yesT) (andE (binE eqD (callB lenD (consA (vE 1) (nilA))) (callB lenD (consA (binE ixD (vE 0) (cE (.int 0))) (nilA)))) (callB allD (consA (compE (seqI (vE 1)) [2] t1 [2] (yesT) (binE inD (vE 2) (tupE (consA (cE (.str "#")) (consA (cE (.str ".")) (nilA)))))) (nilA))))) (nilA)))))
def m_is_picture : List D → List D → RE D := defD 3 b_is_picture
theorem d_is_picture (T : Tx K mg) : DefOk P w K mg base CX0 r "is_picture" 1 1 m_is_picture := by
  obtain ⟨f, fd, F, hm⟩ := T.f_is_picture
  refine fn_def (k := 0) F sc_is_picture hm (fun _ _ _ _ _ _ us hl => match us, hl with | [_], _ => rfl) (fun cdv A outer s H E hr => ?_) (m := b_is_picture)
  exact ⟨_, _, (gss_cons (gs_if ((gw_or (gt_not (gt_val (ge_isi T.isinstance (gao_cons ((ge_var 0)).go (gao_cons ((ge_ty T.tuple)).go gao_nil))))) (gw_or1 (gt_not (gt_leLe (ge_int).go ((ge_len T.len (gao_cons ((ge_var 0)).go gao_nil))).go ((ge_gint T.MOST_SIDE)).go))))).gt (gss_one (gs_ret (On := []) ge_bl)) (GSs.post (On' := []) (by decide) gss_nil)) (gss_cons (gs_if ((gw_or (gt_not (gt_val (ge_all rfl T.all (gao_cons (((gf_lc (own := [("row", 1)]) rfl sc_is_picture.nd (gi_seq (ge_var 0)) (blkOk_by (by kernel_rfl)) (fun _ _ _ _ _ => (gg_name 1 sc_is_picture.nd)) (fun _ _ _ _ _ => gts_nil) (fun _ _ _ _ _ => (ge_isi T.isinstance (gao_cons ((ge_var 1)).go (gao_cons ((ge_ty T.str)).go gao_nil)))) (by decide) (by decide))).ge).go gao_nil)))) (gw_or1 (gt_not (gt_leLe (ge_int).go ((ge_len T.len (gao_cons ((ge_sub1 ((ge_var 0)).go (ge_int).go)).go gao_nil))).go ((ge_gint T.MOST_SIDE)).go))))).gt (gss_one (gs_ret (On := []) ge_bl)) (GSs.post (On' := []) (by decide) gss_nil)) (gss_one (gs_ret (On := []) (ge_all rfl T.all (gao_cons (((gf_lc (own := [("row", 1)]) rfl sc_is_picture.nd (gi_seq (ge_var 0)) (blkOk_by (by kernel_rfl)) (fun _ _ _ _ _ => (gg_name 1 sc_is_picture.nd)) (fun _ _ _ _ _ => gts_nil) (fun _ _ _ _ _ => (ge_and (ge_eq hr.units ((ge_len T.len (gao_cons ((ge_var 1)).go gao_nil))).go ((ge_len T.len (gao_cons ((ge_sub1 ((ge_var 0)).go (ge_int).go)).go gao_nil))).go) (ge_one (ge_all rfl T.all (gao_cons (((gf_lc (own := [("sign", 2)]) rfl sc_is_picture.nd (gi_seq (ge_var 1)) (blkOk_by (by kernel_rfl)) (fun _ _ _ _ _ => (gg_name 2 sc_is_picture.nd)) (fun _ _ _ _ _ => gts_nil) (fun _ _ _ _ _ => (ge_in hr.units ((ge_var 2)).go ((ge_tup (ga_cons (ge_gstr T.BLACK) (ga_cons (ge_gstr T.WHITE) ga_nil)))).go)) (by decide) (by decide))).ge).go gao_nil))))) (by decide) (by decide))).ge).go gao_nil))))))⟩
abbrev s_lines_of : Stmt := top 12
theorem sc_lines_of : FnScope ["picture"] ["picture"] (defScope s_lines_of) := ⟨rfl, rfl, rfl, by decide +kernel, rfl, by decide +kernel, by decide +kernel⟩
def b_lines_of : SS := retS (binE addD (callB lenD (consA (vE 0) (nilA))) (callB lenD (consA (binE ixD (vE 0) (cE (.int 0))) (nilA))))
def m_lines_of : List D → List D → RE D := defD 1 b_lines_of
theorem d_lines_of (T : Tx K mg) : DefOk P w K mg base CX0 r "lines_of" 1 1 m_lines_of := by
  obtain ⟨f, fd, F, hm⟩ := T.f_lines_of
  refine fn_def (k := 0) F sc_lines_of hm (fun _ _ _ _ _ _ us hl => match us, hl with | [_], _ => rfl) (fun cdv A outer s H E hr => ?_) (m := b_lines_of)
  exact ⟨_, _, (gss_one (gs_ret (On := []) (ge_add ((ge_len T.len (gao_cons ((ge_var 0)).go gao_nil))).go ((ge_len T.len (gao_cons ((ge_sub1 ((ge_var 0)).go (ge_int).go)).go gao_nil))).go)))⟩
abbrev s_painted_line : Stmt := top 14
theorem sc_painted_line : FnScope ["picture", "line", "at", "row"] ["picture", "line"] (defScope s_painted_line) := ⟨rfl, rfl, rfl, by decide +kernel, rfl, by decide +kernel, by decide +kernel⟩
def b_painted_line : SS := seqS (ifS (boolE (binE ltD (vE 1) (callB lenD (consA (vE 0) (nilA))))) (retS (binE addD (binE addD (sliceE (vE 0) (optI none) (optI (some (vE 1)))) (tupE (consA (binE mulD (cE (.str "#")) (callB lenD (consA (binE ixD (vE 0) (cE (.int 0))) (nilA)))) (nilA)))) (sliceE (vE 0) (optI (some (binE addD (vE 1) (cE (.int 1))))) (optI none)))) (skipS)) (seqS (setS 2 (binE subD (vE 1) (callB lenD (consA (vE 0) (nilA))))) (retS (callB tupleD (consA (compE (seqI (vE 0)) [3] t1 [3] (yesT) (binE addD (binE addD (sliceE (vE 3) (optI none) (optI (some (vE 2)))) (cE (.str "."))) (sliceE (vE 3) (optI (some (binE addD (vE 2) (cE (.int 1))))) (optI none)))) (nilA)))))
def m_painted_line : List D → List D → RE D := defD 4 b_painted_line
theorem d_painted_line (T : Tx K mg) : DefOk P w K mg base CX0 r "painted_line" 1 2 m_painted_line := by
  obtain ⟨f, fd, F, hm⟩ := T.f_painted_line
  refine fn_def (k := 0) F sc_painted_line hm (fun _ _ _ _ _ _ us hl => match us, hl with | [_, _], _ => rfl) (fun cdv A outer s H E hr => ?_) (m := b_painted_line)
  exact ⟨_, _, (gss_cons (gs_if (gt_lt ((ge_var 1)).go ((ge_len T.len (gao_cons ((ge_var 0)).go gao_nil))).go) (gss_one (gs_ret (On := []) (ge_add ((ge_add ((ge_slice ((ge_var 0)).go gp_none (gp_some (ge_var 1)))).go ((ge_tup (ga_cons (ge_mul ((ge_gstr T.BLACK)).go ((ge_len T.len (gao_cons ((ge_sub1 ((ge_var 0)).go (ge_int).go)).go gao_nil))).go) ga_nil))).go)).go ((ge_slice ((ge_var 0)).go (gp_some (ge_add ((ge_var 1)).go (ge_int).go)) gp_none)).go))) (GSs.post (On' := []) (by decide) gss_nil)) (gss_cons (GS.post (On' := []) (by decide) (gs_set 2 sc_painted_line.nd (ge_sub ((ge_var 1)).go ((ge_len T.len (gao_cons ((ge_var 0)).go gao_nil))).go))) (gss_one (gs_ret (On := []) (ge_tuple T.tuple (gao_cons (((gf_lc (own := [("row", 3)]) rfl sc_painted_line.nd (gi_seq (ge_var 0)) (blkOk_by (by kernel_rfl)) (fun _ _ _ _ _ => (gg_name 3 sc_painted_line.nd)) (fun _ _ _ _ _ => gts_nil) (fun _ _ _ _ _ => (ge_add ((ge_add ((ge_slice ((ge_var 3)).go gp_none (gp_some (ge_var 2)))).go ((ge_gstr T.WHITE)).go)).go ((ge_slice ((ge_var 3)).go (gp_some (ge_add ((ge_var 2)).go (ge_int).go)) gp_none)).go)) (by decide) (by decide))).ge).go gao_nil))))))⟩
abbrev s_law_taken : Stmt := top 26
theorem sc_law_taken : FnScope ["_law_row", "_law_many", "_law_found", "_law_cell"] ["_law_row", "_law_many"] (defScope s_law_taken) := ⟨rfl, rfl, rfl, by decide +kernel, rfl, by decide +kernel, by decide +kernel⟩
def b_law_taken : SS := seqS (ifS (boolE (binE gtD (tixE (vE 0) (cE (.int 3))) (cE (.int 0)))) (seqS (setS 2 (binE modD (callB intD (consA (tixE (vE 0) (cE (.int 3))) (nilA))) (vE 1))) (seqS (tsetS 3 (vE 0) (cE (.int 3)) (binE fdivD (tixE (vE 0) (cE (.int 3))) (vE 1))) (retS (vE 2)))) (skipS)) (seqS (tsetS 1 (vE 0) (cE (.int 1)) (binE addD (tixE (vE 0) (cE (.int 1))) (cE (.int 1)))) (seqS (ifS (boolE (binE gtD (tixE (vE 0) (cE (.int 1))) (callB lenD (consA (tixE (vE 0) (cE (.int 0))) (nilA))))) (seqS (tsetS 2 (vE 0) (cE (.int 2)) (binE modD (callB intD (consA (binE addD (binE mulD (tixE (vE 0) (cE (.int 2))) (cE (.int 48271))) (cE (.int 11))) (nilA))) (cE (.int 2147483647)))) (retS (binE modD (callB intD (consA (binE fdivD (tixE (vE 0) (cE (.int 2))) (cE (.int 7))) (nilA))) (vE 1)))) (skipS)) (seqS (setS 3 (binE ixD (tixE (vE 0) (cE (.int 0))) (binE subD (tixE (vE 0) (cE (.int 1))) (cE (.int 1))))) (seqS (tsetS 2 (vE 0) (cE (.int 2)) (binE modD (callB intD (consA (binE addD (binE addD (binE mulD (tixE (vE 0) (cE (.int 2))) (cE (.int 48271))) (vE 3)) (cE (.int 11))) (nilA))) (cE (.int 2147483647)))) (seqS (ifS (boolE (binE geD (vE 3) (binE powD (cE (.int 10)) (cE (.int 18))))) (tsetS 3 (vE 0) (cE (.int 3)) (binE fdivD (vE 3) (vE 1))) (skipS)) (retS (binE modD (callB intD (consA (vE 3) (nilA))) (vE 1))))))))
def m_law_taken : List D → List D → RE D := defD 4 b_law_taken
theorem d_law_taken (T : Tx K mg) : DefOk P w K mg base CX0 r "_law_taken" 1 2 m_law_taken := by
  obtain ⟨f, fd, F, hm⟩ := T.f_law_taken
  refine fn_def (k := 0) F sc_law_taken hm (fun _ _ _ _ _ _ us hl => match us, hl with | [_, _], _ => rfl) (fun cdv A outer s H E hr => ?_) (m := b_law_taken)
  exact ⟨_, _, (gss_cons (gs_if (gt_gt ((ge_tix ((ge_var 0)).go (ge_int).go)).go (ge_int).go) (gss_cons (GS.post (On' := []) (by decide) (gs_set 2 sc_law_taken.nd (ge_mod ((ge_int1 T.int (gao_cons ((ge_tix ((ge_var 0)).go (ge_int).go)).go gao_nil))).go ((ge_var 1)).go))) (gss_cons (gs_tset 3 (ge_fdiv ((ge_tix ((ge_var 0)).go (ge_int).go)).go ((ge_var 1)).go) ((ge_var 0)).go (ge_int).go) (gss_one (gs_ret (On := []) (ge_var 2))))) (GSs.post (On' := []) (by decide) gss_nil)) (gss_cons (gs_tset 1 (ge_add ((ge_tix ((ge_var 0)).go (ge_int).go)).go (ge_int).go) ((ge_var 0)).go (ge_int).go) (gss_cons (gs_if (gt_gt ((ge_tix ((ge_var 0)).go (ge_int).go)).go ((ge_len T.len (gao_cons ((ge_tix ((ge_var 0)).go (ge_int).go)).go gao_nil))).go) (gss_cons (gs_tset 2 (ge_mod ((ge_int1 T.int (gao_cons ((ge_add ((ge_mul ((ge_tix ((ge_var 0)).go (ge_int).go)).go (ge_int).go)).go (ge_int).go)).go gao_nil))).go (ge_int).go) ((ge_var 0)).go (ge_int).go) (gss_one (gs_ret (On := []) (ge_mod ((ge_int1 T.int (gao_cons ((ge_fdiv ((ge_tix ((ge_var 0)).go (ge_int).go)).go (ge_int).go)).go gao_nil))).go ((ge_var 1)).go)))) (GSs.post (On' := []) (by decide) gss_nil)) (gss_cons (GS.post (On' := []) (by decide) (gs_set 3 sc_law_taken.nd (ge_sub1 ((ge_tix ((ge_var 0)).go (ge_int).go)).go ((ge_sub ((ge_tix ((ge_var 0)).go (ge_int).go)).go (ge_int).go)).go))) (gss_cons (gs_tset 2 (ge_mod ((ge_int1 T.int (gao_cons ((ge_add ((ge_add ((ge_mul ((ge_tix ((ge_var 0)).go (ge_int).go)).go (ge_int).go)).go ((ge_var 3)).go)).go (ge_int).go)).go gao_nil))).go (ge_int).go) ((ge_var 0)).go (ge_int).go) (gss_cons (gs_if (gt_ge ((ge_var 3)).go ((ge_pow (ge_int).go (ge_int).go)).go) (GSs.post (On' := []) (by decide) (gss_one (gs_tset 3 (ge_fdiv ((ge_var 3)).go ((ge_var 1)).go) ((ge_var 0)).go (ge_int).go))) (GSs.post (On' := []) (by decide) gss_nil)) (gss_one (gs_ret (On := []) (ge_mod ((ge_int1 T.int (gao_cons ((ge_var 3)).go gao_nil))).go ((ge_var 1)).go)))))))))⟩
abbrev s_law_paint : Stmt := top 30
theorem sc_law_paint : FnScope ["_law_picture_here", "_law_line", "_law_found", "_law_at", "_law_told", "_law_spot"] ["_law_picture_here", "_law_line"] (defScope s_law_paint) := ⟨rfl, rfl, rfl, by decide +kernel, rfl, by decide +kernel, by decide +kernel⟩
def b_law_paint : SS := seqS (setFS 2 (lstE (nilA))) (seqS (forS (rangeI range1D (consA (callB lenD (consA (vE 0) (nilA))) (nilA))) t1 [3] (seqS (setS 4 (cE (.str ""))) (seqS (forS (rangeI range1D (consA (callB lenD (consA (binE ixD (vE 0) (cE (.int 0))) (nilA))) (nilA))) t1 [5] (setS 4 (binE addD (vE 4) (ifE (boolE (binE eqD (vE 1) (vE 3))) (cE (.str "#")) (ifE (boolE (binE eqD (vE 1) (binE addD (callB lenD (consA (vE 0) (nilA))) (vE 5)))) (cE (.str ".")) (binE ixD (binE ixD (vE 0) (vE 3)) (vE 5))))))) (appS 2 (vE 4))))) (retS (callB tupleD (consA (vE 2) (nilA)))))
def m_law_paint : List D → List D → RE D := defD 6 b_law_paint
theorem d_law_paint (T : Tx K mg) : DefOk P w K mg base CX0 r "_law_paint" 1 2 m_law_paint := by
  obtain ⟨f, fd, F, hm⟩ := T.f_law_paint
  refine fn_def (k := 0) F sc_law_paint hm (fun _ _ _ _ _ _ us hl => match us, hl with | [_, _], _ => rfl) (fun cdv A outer s H E hr => ?_) (m := b_law_paint)
  exact ⟨_, _, (gss_cons (GS.post (On' := [2]) (by decide) (gs_setF 2 sc_law_paint.nd (gf_lst ga_nil))) (gss_cons (gs_for .never rfl (gi_range1 T.range (gao_cons ((ge_len T.len (gao_cons ((ge_var 0)).go gao_nil))).go gao_nil)) (gg_name 3 sc_law_paint.nd) (GSs.post (On' := [2]) (by decide) (gss_cons (GS.post (On' := [2]) (by decide) (gs_set 4 sc_law_paint.nd ge_str)) (gss_cons (gs_for .never rfl (gi_range1 T.range (gao_cons ((ge_len T.len (gao_cons ((ge_sub1 ((ge_var 0)).go (ge_int).go)).go gao_nil))).go gao_nil)) (gg_name 5 sc_law_paint.nd) (GSs.post (On' := [2]) (by decide) (gss_one (GS.post (On' := [2]) (by decide) (gs_set 4 sc_law_paint.nd (ge_add ((ge_var 4)).go ((ge_ifExp (gt_eq hr.units ((ge_var 1)).go ((ge_var 3)).go) ge_str (ge_ifExp (gt_eq hr.units ((ge_var 1)).go ((ge_add ((ge_len T.len (gao_cons ((ge_var 0)).go gao_nil))).go ((ge_var 5)).go)).go) ge_str (ge_sub1 ((ge_sub1 ((ge_var 0)).go ((ge_var 3)).go)).go ((ge_var 5)).go)))).go))))) (by decide) (fun d ds h => by cases h; rfl)) (gss_one (gs_append 2 (by decide) (ge_var 4)))))) (by decide) (fun d ds h => by cases h; rfl)) (gss_one (gs_ret (On := []) (ge_tuple T.tuple (gao_cons (go_own 2) gao_nil))))))⟩
abbrev s_is_in : Stmt := top 9
theorem sc_is_in : FnScope ["value", "least", "most"] ["value", "least", "most"] (defScope s_is_in) := ⟨rfl, rfl, rfl, by decide +kernel, rfl, by decide +kernel, by decide +kernel⟩
def b_is_in : SS := retS (andE (callE 1 m_is_int (consA (vE 0) (nilA))) (chainE leD leD (vE 1) (vE 0) (vE 2)))
def m_is_in : List D → List D → RE D := defD 3 b_is_in
theorem d_is_in (T : Tx K mg) : DefOk P w K mg base CX0 r "is_in" 2 3 m_is_in := by
  obtain ⟨f, fd, F, hm⟩ := T.f_is_in
  refine fn_def (k := 1) F sc_is_in hm (fun _ _ _ _ _ _ us hl => match us, hl with | [_, _, _], _ => rfl) (fun cdv A outer s H E hr => ?_) (m := b_is_in)
  exact ⟨_, _, (gss_one (gs_ret (On := []) (ge_and (ge_call (d_is_int T) (hr.mono (by decide)) pass0 (ga_cons (ge_var 0) ga_nil)) (ge_one (ge_leLe ((ge_var 1)).go ((ge_var 0)).go ((ge_var 2)).go)))))⟩
abbrev s_need_picture : Stmt := top 11
theorem sc_need_picture : FnScope ["value"] ["value"] (defScope s_need_picture) := ⟨rfl, rfl, rfl, by decide +kernel, rfl, by decide +kernel, by decide +kernel⟩
def b_need_picture : SS := ifS (notT (boolE (callE 1 m_is_picture (consA (vE 0) (nilA))))) ((fun _ _ => .stuck)) (skipS)
def m_need_picture : List D → List D → RE D := defD 1 b_need_picture
theorem d_need_picture (T : Tx K mg) : DefOk P w K mg base CX0 r "need_picture" 2 1 m_need_picture := by
  obtain ⟨f, fd, F, hm⟩ := T.f_need_picture
  refine fn_def (k := 1) F sc_need_picture hm (fun _ _ _ _ _ _ us hl => match us, hl with | [_], _ => rfl) (fun cdv A outer s H E hr => ?_) (m := b_need_picture)
  exact ⟨_, _, (gss_one (gs_if (gt_not (gt_val (ge_call (d_is_picture T) (hr.mono (by decide)) pass0 (ga_cons (ge_var 0) ga_nil)))) (gss_one (gs_never (On := []))) (GSs.post (On' := []) (by decide) gss_nil)))⟩
abbrev s_all_painted : Stmt := top 15
theorem sc_all_painted : FnScope ["picture", "deeds", "line"] ["picture", "deeds"] (defScope s_all_painted) := ⟨rfl, rfl, rfl, by decide +kernel, rfl, by decide +kernel, by decide +kernel⟩
def b_all_painted : SS := seqS (forS (seqI (vE 1)) t1 [2] (setS 0 (callE 2 m_painted_line (consA (vE 0) (consA (vE 2) (nilA)))))) (retS (vE 0))
def m_all_painted : List D → List D → RE D := defD 3 b_all_painted
theorem d_all_painted (T : Tx K mg) : DefOk P w K mg base CX0 r "all_painted" 2 2 m_all_painted := by
  obtain ⟨f, fd, F, hm⟩ := T.f_all_painted
  refine fn_def (k := 1) F sc_all_painted hm (fun _ _ _ _ _ _ us hl => match us, hl with | [_, _], _ => rfl) (fun cdv A outer s H E hr => ?_) (m := b_all_painted)
  exact ⟨_, _, (gss_cons (gs_for .never rfl (gi_seq (ge_var 1)) (gg_name 2 sc_all_painted.nd) (GSs.post (On' := []) (by decide) (gss_one (GS.post (On' := []) (by decide) (gs_set 0 sc_all_painted.nd (ge_call (d_painted_line T) (hr.mono (by decide)) pass0 (ga_cons (ge_var 0) (ga_cons (ge_var 2) ga_nil))))))) (by decide) (fun d ds h => by cases h; rfl)) (gss_one (gs_ret (On := []) (ge_var 0))))⟩
abbrev s_law_pick : Stmt := top 27
theorem sc_law_pick : FnScope ["_law_row", "_law_things"] ["_law_row", "_law_things"] (defScope s_law_pick) := ⟨rfl, rfl, rfl, by decide +kernel, rfl, by decide +kernel, by decide +kernel⟩
def b_law_pick : SS := retS (binE ixD (vE 1) (callE 2 m_law_taken (consA (vE 0) (consA (callB lenD (consA (vE 1) (nilA))) (nilA)))))
def m_law_pick : List D → List D → RE D := defD 2 b_law_pick
theorem d_law_pick (T : Tx K mg) : DefOk P w K mg base CX0 r "_law_pick" 2 2 m_law_pick := by
  obtain ⟨f, fd, F, hm⟩ := T.f_law_pick
  refine fn_def (k := 1) F sc_law_pick hm (fun _ _ _ _ _ _ us hl => match us, hl with | [_, _], _ => rfl) (fun cdv A outer s H E hr => ?_) (m := b_law_pick)
  exact ⟨_, _, (gss_one (gs_ret (On := []) (ge_sub1 ((ge_var 1)).go ((ge_call (d_law_taken T) (hr.mono (by decide)) pass0 (ga_cons (ge_var 0) (ga_cons (ge_len T.len (gao_cons ((ge_var 1)).go gao_nil)) ga_nil)))).go)))⟩
abbrev s_law_mixed : Stmt := top 28
theorem sc_law_mixed : FnScope ["_law_row", "_law_some", "_law_left", "_law_found", "_law_turn"] ["_law_row", "_law_some"] (defScope s_law_mixed) := ⟨rfl, rfl, rfl, by decide +kernel, rfl, by decide +kernel, by decide +kernel⟩
def b_law_mixed : SS := seqS (parS [2, 3] (consA (callB listD (consA (vE 1) (nilA))) (consA (lstE (nilA)) (nilA)))) (seqS (forS (rangeI range1D (consA (callB lenD (consA (vE 2) (nilA))) (nilA))) t1 [4] (appPopS 3 2 (callE 2 m_law_taken (consA (vE 0) (consA (callB lenD (consA (vE 2) (nilA))) (nilA)))))) (retS (vE 3)))
def m_law_mixed : List D → List D → RE D := defD 5 b_law_mixed
theorem d_law_mixed (T : Tx K mg) : DefOk P w K mg base CX0 r "_law_mixed" 2 2 m_law_mixed := by
  obtain ⟨f, fd, F, hm⟩ := T.f_law_mixed
  refine fn_def (k := 1) F sc_law_mixed hm (fun _ _ _ _ _ _ us hl => match us, hl with | [_, _], _ => rfl) (fun cdv A outer s H E hr => ?_) (m := b_law_mixed)
  exact ⟨_, _, (gss_cons (GS.post (On' := [2, 3]) (by decide) (gs_par2 2 3 sc_law_mixed.nd (gak_fr (gf_list1 T.list (gao_cons ((ge_var 1)).go gao_nil)) (gak_fr (gf_lst ga_nil) gak_nil)))) (gss_cons (gs_for .never rfl (gi_range1 T.range (gao_cons ((ge_len T.len (gao_cons (go_own 2) gao_nil))).go gao_nil)) (gg_name 4 sc_law_mixed.nd) (GSs.post (On' := [2, 3]) (by decide) (gss_one (gs_appPop 3 2 (by decide) (by decide) (by decide) (ge_call (d_law_taken T) (hr.mono (by decide)) pass0 (ga_cons (ge_var 0) (ga_cons (ge_len T.len (gao_cons (go_own 2) gao_nil)) ga_nil)))))) (by decide) (fun d ds h => by cases h; rfl)) (gss_one (gs_retO (On := []) 3 (by decide)))))⟩
abbrev s_law_painted : Stmt := top 31
theorem sc_law_painted : FnScope ["_law_picture_here", "_law_deeds_here", "_law_line"] ["_law_picture_here", "_law_deeds_here"] (defScope s_law_painted) := ⟨rfl, rfl, rfl, by decide +kernel, rfl, by decide +kernel, by decide +kernel⟩
def b_law_painted : SS := seqS (forS (seqI (vE 1)) t1 [2] (setS 0 (callE 2 m_law_paint (consA (vE 0) (consA (vE 2) (nilA)))))) (retS (vE 0))
def m_law_painted : List D → List D → RE D := defD 3 b_law_painted
theorem d_law_painted (T : Tx K mg) : DefOk P w K mg base CX0 r "_law_painted" 2 2 m_law_painted := by
  obtain ⟨f, fd, F, hm⟩ := T.f_law_painted
  refine fn_def (k := 1) F sc_law_painted hm (fun _ _ _ _ _ _ us hl => match us, hl with | [_, _], _ => rfl) (fun cdv A outer s H E hr => ?_) (m := b_law_painted)
  exact ⟨_, _, (gss_cons (gs_for .never rfl (gi_seq (ge_var 1)) (gg_name 2 sc_law_painted.nd) (GSs.post (On' := []) (by decide) (gss_one (GS.post (On' := []) (by decide) (gs_set 0 sc_law_painted.nd (ge_call (d_law_paint T) (hr.mono (by decide)) pass0 (ga_cons (ge_var 0) (ga_cons (ge_var 2) ga_nil))))))) (by decide) (fun d ds h => by cases h; rfl)) (gss_one (gs_ret (On := []) (ge_var 0))))⟩
abbrev s_law_deeds : Stmt := top 32
theorem sc_law_deeds : FnScope ["_law_row", "_law_picture_here", "_law_most", "_law_turn"] ["_law_row", "_law_picture_here", "_law_most"] (defScope s_law_deeds) := ⟨rfl, rfl, rfl, by decide +kernel, rfl, by decide +kernel, by decide +kernel⟩
def b_law_deeds : SS := retS (compE (rangeI range1D (consA (callE 2 m_law_taken (consA (vE 0) (consA (binE addD (vE 2) (cE (.int 1))) (nilA)))) (nilA))) [3] t1 [3] (yesT) (callE 2 m_law_taken (consA (vE 0) (consA (binE addD (callB lenD (consA (vE 1) (nilA))) (callB lenD (consA (binE ixD (vE 1) (cE (.int 0))) (nilA)))) (nilA)))))
def m_law_deeds : List D → List D → RE D := defD 4 b_law_deeds
theorem d_law_deeds (T : Tx K mg) : DefOk P w K mg base CX0 r "_law_deeds" 2 3 m_law_deeds := by
  obtain ⟨f, fd, F, hm⟩ := T.f_law_deeds
  refine fn_def (k := 1) F sc_law_deeds hm (fun _ _ _ _ _ _ us hl => match us, hl with | [_, _, _], _ => rfl) (fun cdv A outer s H E hr => ?_) (m := b_law_deeds)
  exact ⟨_, _, (gss_one (gs_ret (On := []) ((gf_lc (own := [("_law_turn", 3)]) rfl sc_law_deeds.nd (gi_range1 T.range (gao_cons ((ge_call (d_law_taken T) (hr.mono (by decide)) pass0 (ga_cons (ge_var 0) (ga_cons (ge_add ((ge_var 2)).go (ge_int).go) ga_nil)))).go gao_nil)) (blkOk_by (by kernel_rfl)) (fun _ _ _ _ _ => (gg_name 3 sc_law_deeds.nd)) (fun _ _ _ _ _ => gts_nil) (fun _ _ _ _ _ => (ge_call (d_law_taken T) (hr.mono (by decide)) pass0 (ga_cons (ge_var 0) (ga_cons (ge_add ((ge_len T.len (gao_cons ((ge_var 1)).go gao_nil))).go ((ge_len T.len (gao_cons ((ge_sub1 ((ge_var 1)).go (ge_int).go)).go gao_nil))).go) ga_nil)))) (by decide) (by decide))).ge))⟩
abbrev s_are_deeds : Stmt := top 13
theorem sc_are_deeds : FnScope ["picture", "value", "line"] ["picture", "value"] (defScope s_are_deeds) := ⟨rfl, rfl, rfl, by decide +kernel, rfl, by decide +kernel, by decide +kernel⟩
def b_are_deeds : SS := retS (andE (callB isiD (consA (vE 1) (consA (cE (.ty "list")) (nilA)))) (callB allD (consA (compE (seqI (vE 1)) [2] t1 [2] (yesT) (callE 3 m_is_in (consA (vE 2) (consA (cE (.int 0)) (consA (binE subD (callE 1 m_lines_of (consA (vE 0) (nilA))) (cE (.int 1))) (nilA)))))) (nilA))))
def m_are_deeds : List D → List D → RE D := defD 3 b_are_deeds
theorem d_are_deeds (T : Tx K mg) : DefOk P w K mg base CX0 r "are_deeds" 3 2 m_are_deeds := by
  obtain ⟨f, fd, F, hm⟩ := T.f_are_deeds
  refine fn_def (k := 2) F sc_are_deeds hm (fun _ _ _ _ _ _ us hl => match us, hl with | [_, _], _ => rfl) (fun cdv A outer s H E hr => ?_) (m := b_are_deeds)
  exact ⟨_, _, (gss_one (gs_ret (On := []) (ge_and (ge_isi T.isinstance (gao_cons ((ge_var 1)).go (gao_cons ((ge_ty T.list)).go gao_nil))) (ge_one (ge_all rfl T.all (gao_cons (((gf_lc (own := [("line", 2)]) rfl sc_are_deeds.nd (gi_seq (ge_var 1)) (blkOk_by (by kernel_rfl)) (fun _ _ _ _ _ => (gg_name 2 sc_are_deeds.nd)) (fun _ _ _ _ _ => gts_nil) (fun _ _ _ _ _ => (ge_call (d_is_in T) (hr.mono (by decide)) pass0 (ga_cons (ge_var 2) (ga_cons ge_int (ga_cons (ge_sub ((ge_call (d_lines_of T) (hr.mono (by decide)) pass0 (ga_cons (ge_var 0) ga_nil))).go (ge_int).go) ga_nil))))) (by decide) (by decide))).ge).go gao_nil))))))⟩
abbrev s_law_any : Stmt := top 29
theorem sc_law_any : FnScope ["_law_row", "_law_high", "_law_wide_here", "_law_often", "_law_found", "_law_at", "_law_spot"] ["_law_row", "_law_high", "_law_wide_here"] (defScope s_law_any) := ⟨rfl, rfl, rfl, by decide +kernel, rfl, by decide +kernel, by decide +kernel⟩
def b_law_any : SS := seqS (parS [3, 4] (consA (callE 2 m_law_pick (consA (vE 0) (consA (lstE (consA (cE (.int 2)) (consA (cE (.int 2)) (consA (cE (.int 3)) (consA (cE (.int 4)) (nilA)))))) (nilA)))) (consA (lstE (nilA)) (nilA)))) (seqS (forS (rangeI range1D (consA (vE 1) (nilA))) t1 [5] (appS 4 (methE isStrD joinD (cE (.str "")) (compE (rangeI range1D (consA (vE 2) (nilA))) [6] t1 [6] (yesT) (ifE (boolE (binE eqD (callE 2 m_law_taken (consA (vE 0) (consA (vE 3) (nilA)))) (cE (.int 0)))) (cE (.str "#")) (cE (.str "."))))))) (retS (callB tupleD (consA (vE 4) (nilA)))))
def m_law_any : List D → List D → RE D := defD 7 b_law_any
theorem d_law_any (T : Tx K mg) : DefOk P w K mg base CX0 r "_law_any" 3 3 m_law_any := by
  obtain ⟨f, fd, F, hm⟩ := T.f_law_any
  refine fn_def (k := 2) F sc_law_any hm (fun _ _ _ _ _ _ us hl => match us, hl with | [_, _, _], _ => rfl) (fun cdv A outer s H E hr => ?_) (m := b_law_any)
  exact ⟨_, _, (gss_cons (GS.post (On' := [4]) (by decide) (gs_tup (gak_st (ge_call (d_law_pick T) (hr.mono (by decide)) pass0 (ga_cons (ge_var 0) (ga_cons ((gf_lst (ga_cons ge_int (ga_cons ge_int (ga_cons ge_int (ga_cons ge_int ga_nil)))))).ge ga_nil))) (gak_fr (gf_lst ga_nil) gak_nil)) (ggs_cons 3 sc_law_any.nd (ggs_cons 4 sc_law_any.nd ggs_nil)))) (gss_cons (gs_for .never rfl (gi_range1 T.range (gao_cons ((ge_var 1)).go gao_nil)) (gg_name 5 sc_law_any.nd) (GSs.post (On' := [4]) (by decide) (gss_one (gs_append 4 (by decide) (ge_join (ge_str).go (((gf_lc (own := [("_law_spot", 6)]) rfl sc_law_any.nd (gi_range1 T.range (gao_cons ((ge_var 2)).go gao_nil)) (blkOk_by (by kernel_rfl)) (fun _ _ _ _ _ => (gg_name 6 sc_law_any.nd)) (fun _ _ _ _ _ => gts_nil) (fun _ _ _ _ _ => (ge_ifExp (gt_eq hr.units ((ge_call (d_law_taken T) (hr.mono (by decide)) pass0 (ga_cons (ge_var 0) (ga_cons (ge_var 3) ga_nil)))).go (ge_int).go) ge_str ge_str)) (by decide) (by decide))).ge).go)))) (by decide) (fun d ds h => by cases h; rfl)) (gss_one (gs_ret (On := []) (ge_tuple T.tuple (gao_cons (go_own 4) gao_nil))))))⟩
abbrev s_law_wide : Stmt := top 34
theorem sc_law_wide : FnScope ["_law_start", "_law_one", "_law_other", "_law_sign", "_law_plain"] ["_law_start", "_law_one", "_law_other"] (defScope s_law_wide) := ⟨rfl, rfl, rfl, by decide +kernel, rfl, by decide +kernel, by decide +kernel⟩
def b_law_wide : SS := seqS (forS (seqI (cE (.str "#."))) t1 [3] (seqS (setS 4 (binE mulD (tupE (consA (binE mulD (vE 3) (callB lenD (consA (binE ixD (vE 0) (cE (.int 0))) (nilA)))) (nilA))) (callB lenD (consA (vE 0) (nilA))))) (ifS (boolE (binE neD (callE 2 m_law_painted (consA (vE 4) (consA (vE 1) (nilA)))) (callE 2 m_law_painted (consA (vE 4) (consA (vE 2) (nilA)))))) (retS (cE (.bl false))) (skipS)))) (retS (cE (.bl true)))
def m_law_wide : List D → List D → RE D := defD 5 b_law_wide
theorem d_law_wide (T : Tx K mg) : DefOk P w K mg base CX0 r "_law_wide" 3 3 m_law_wide := by
  obtain ⟨f, fd, F, hm⟩ := T.f_law_wide
  refine fn_def (k := 2) F sc_law_wide hm (fun _ _ _ _ _ _ us hl => match us, hl with | [_, _, _], _ => rfl) (fun cdv A outer s H E hr => ?_) (m := b_law_wide)
  exact ⟨_, _, (gss_cons (gs_for .never rfl (gi_seq ge_str) (gg_name 3 sc_law_wide.nd) (GSs.post (On' := []) (by decide) (gss_cons (GS.post (On' := []) (by decide) (gs_set 4 sc_law_wide.nd (ge_mul ((ge_tup (ga_cons (ge_mul ((ge_var 3)).go ((ge_len T.len (gao_cons ((ge_sub1 ((ge_var 0)).go (ge_int).go)).go gao_nil))).go) ga_nil))).go ((ge_len T.len (gao_cons ((ge_var 0)).go gao_nil))).go))) (gss_one (gs_if (gt_ne hr.units ((ge_call (d_law_painted T) (hr.mono (by decide)) pass0 (ga_cons (ge_var 4) (ga_cons (ge_var 1) ga_nil)))).go ((ge_call (d_law_painted T) (hr.mono (by decide)) pass0 (ga_cons (ge_var 4) (ga_cons (ge_var 2) ga_nil)))).go) (gss_one (gs_ret (On := []) ge_bl)) (GSs.post (On' := []) (by decide) gss_nil))))) (by decide) (fun d ds h => by cases h; rfl)) (gss_one (gs_ret (On := []) ge_bl)))⟩
abbrev s_painted : Stmt := top 16
theorem sc_painted : FnScope ["picture", "deeds"] ["picture", "deeds"] (defScope s_painted) := ⟨rfl, rfl, rfl, by decide +kernel, rfl, by decide +kernel, by decide +kernel⟩
def b_painted : SS := seqS (dropS (callE 1 m_need_picture (consA (vE 0) (nilA)))) (seqS (ifS (notT (boolE (callE 2 m_are_deeds (consA (vE 0) (consA (vE 1) (nilA)))))) ((fun _ _ => .stuck)) (skipS)) (retS (callE 2 m_all_painted (consA (vE 0) (consA (vE 1) (nilA))))))
def m_painted : List D → List D → RE D := defD 2 b_painted
theorem d_painted (T : Tx K mg) : DefOk P w K mg base CX0 r "painted" 4 2 m_painted := by
  obtain ⟨f, fd, F, hm⟩ := T.f_painted
  refine fn_def (k := 3) F sc_painted hm (fun _ _ _ _ _ _ us hl => match us, hl with | [_, _], _ => rfl) (fun cdv A outer s H E hr => ?_) (m := b_painted)
  exact ⟨_, _, (gss_cons (gs_drop (ge_call (d_need_picture T) (hr.mono (by decide)) pass0 (ga_cons (ge_var 0) ga_nil))) (gss_cons (gs_if (gt_not (gt_val (ge_call (d_are_deeds T) (hr.mono (by decide)) pass0 (ga_cons (ge_var 0) (ga_cons (ge_var 1) ga_nil))))) (gss_one (gs_never (On := []))) (GSs.post (On' := []) (by decide) gss_nil)) (gss_one (gs_ret (On := []) (ge_call (d_all_painted T) (hr.mono (by decide)) pass0 (ga_cons (ge_var 0) (ga_cons (ge_var 1) ga_nil)))))))⟩
abbrev s_need_deeds : Stmt := top 18
theorem sc_need_deeds : FnScope ["picture", "value"] ["picture", "value"] (defScope s_need_deeds) := ⟨rfl, rfl, rfl, by decide +kernel, rfl, by decide +kernel, by decide +kernel⟩
def b_need_deeds : SS := seqS (dropS (callE 1 m_need_picture (consA (vE 0) (nilA)))) (ifS (notT (boolE (callE 2 m_are_deeds (consA (vE 0) (consA (vE 1) (nilA)))))) ((fun _ _ => .stuck)) (skipS))
def m_need_deeds : List D → List D → RE D := defD 2 b_need_deeds
theorem d_need_deeds (T : Tx K mg) : DefOk P w K mg base CX0 r "need_deeds" 4 2 m_need_deeds := by
  obtain ⟨f, fd, F, hm⟩ := T.f_need_deeds
  refine fn_def (k := 3) F sc_need_deeds hm (fun _ _ _ _ _ _ us hl => match us, hl with | [_, _], _ => rfl) (fun cdv A outer s H E hr => ?_) (m := b_need_deeds)
  exact ⟨_, _, (gss_cons (gs_drop (ge_call (d_need_picture T) (hr.mono (by decide)) pass0 (ga_cons (ge_var 0) ga_nil))) (gss_one (gs_if (gt_not (gt_val (ge_call (d_are_deeds T) (hr.mono (by decide)) pass0 (ga_cons (ge_var 0) (ga_cons (ge_var 1) ga_nil))))) (gss_one (gs_never (On := []))) (GSs.post (On' := []) (by decide) gss_nil))))⟩
abbrev s_same_end : Stmt := top 21
theorem sc_same_end : FnScope ["picture", "one", "other"] ["picture", "one", "other"] (defScope s_same_end) := ⟨rfl, rfl, rfl, by decide +kernel, rfl, by decide +kernel, by decide +kernel⟩
def b_same_end : SS := seqS (dropS (callE 1 m_need_picture (consA (vE 0) (nilA)))) (seqS (ifS (orT (notT (boolE (callE 2 m_are_deeds (consA (vE 0) (consA (vE 1) (nilA)))))) (notT (boolE (callE 2 m_are_deeds (consA (vE 0) (consA (vE 2) (nilA))))))) ((fun _ _ => .stuck)) (skipS)) (retS (binE eqD (callE 2 m_all_painted (consA (vE 0) (consA (vE 1) (nilA)))) (callE 2 m_all_painted (consA (vE 0) (consA (vE 2) (nilA)))))))
def m_same_end : List D → List D → RE D := defD 3 b_same_end
theorem d_same_end (T : Tx K mg) : DefOk P w K mg base CX0 r "same_end" 4 3 m_same_end := by
  obtain ⟨f, fd, F, hm⟩ := T.f_same_end
  refine fn_def (k := 3) F sc_same_end hm (fun _ _ _ _ _ _ us hl => match us, hl with | [_, _, _], _ => rfl) (fun cdv A outer s H E hr => ?_) (m := b_same_end)
  exact ⟨_, _, (gss_cons (gs_drop (ge_call (d_need_picture T) (hr.mono (by decide)) pass0 (ga_cons (ge_var 0) ga_nil))) (gss_cons (gs_if ((gw_or (gt_not (gt_val (ge_call (d_are_deeds T) (hr.mono (by decide)) pass0 (ga_cons (ge_var 0) (ga_cons (ge_var 1) ga_nil))))) (gw_or1 (gt_not (gt_val (ge_call (d_are_deeds T) (hr.mono (by decide)) pass0 (ga_cons (ge_var 0) (ga_cons (ge_var 2) ga_nil)))))))).gt (gss_one (gs_never (On := []))) (GSs.post (On' := []) (by decide) gss_nil)) (gss_one (gs_ret (On := []) (ge_eq hr.units ((ge_call (d_all_painted T) (hr.mono (by decide)) pass0 (ga_cons (ge_var 0) (ga_cons (ge_var 1) ga_nil)))).go ((ge_call (d_all_painted T) (hr.mono (by decide)) pass0 (ga_cons (ge_var 0) (ga_cons (ge_var 2) ga_nil)))).go)))))⟩
abbrev s_always_same : Stmt := top 22
theorem sc_always_same : FnScope ["picture", "one", "other", "sign", "plain"] ["picture", "one", "other"] (defScope s_always_same) := ⟨rfl, rfl, rfl, by decide +kernel, rfl, by decide +kernel, by decide +kernel⟩
def b_always_same : SS := seqS (dropS (callE 1 m_need_picture (consA (vE 0) (nilA)))) (seqS (ifS (orT (notT (boolE (callE 2 m_are_deeds (consA (vE 0) (consA (vE 1) (nilA)))))) (notT (boolE (callE 2 m_are_deeds (consA (vE 0) (consA (vE 2) (nilA))))))) ((fun _ _ => .stuck)) (skipS)) (seqS (forS (seqI (tupE (consA (cE (.str "#")) (consA (cE (.str ".")) (nilA))))) t1 [3] (seqS (setS 4 (binE mulD (tupE (consA (binE mulD (vE 3) (callB lenD (consA (binE ixD (vE 0) (cE (.int 0))) (nilA)))) (nilA))) (callB lenD (consA (vE 0) (nilA))))) (ifS (boolE (binE neD (callE 2 m_all_painted (consA (vE 4) (consA (vE 1) (nilA)))) (callE 2 m_all_painted (consA (vE 4) (consA (vE 2) (nilA)))))) (retS (cE (.bl false))) (skipS)))) (retS (cE (.bl true)))))
def m_always_same : List D → List D → RE D := defD 5 b_always_same
theorem d_always_same (T : Tx K mg) : DefOk P w K mg base CX0 r "always_same" 4 3 m_always_same := by
  obtain ⟨f, fd, F, hm⟩ := T.f_always_same
  refine fn_def (k := 3) F sc_always_same hm (fun _ _ _ _ _ _ us hl => match us, hl with | [_, _, _], _ => rfl) (fun cdv A outer s H E hr => ?_) (m := b_always_same)
  exact ⟨_, _, (gss_cons (gs_drop (ge_call (d_need_picture T) (hr.mono (by decide)) pass0 (ga_cons (ge_var 0) ga_nil))) (gss_cons (gs_if ((gw_or (gt_not (gt_val (ge_call (d_are_deeds T) (hr.mono (by decide)) pass0 (ga_cons (ge_var 0) (ga_cons (ge_var 1) ga_nil))))) (gw_or1 (gt_not (gt_val (ge_call (d_are_deeds T) (hr.mono (by decide)) pass0 (ga_cons (ge_var 0) (ga_cons (ge_var 2) ga_nil)))))))).gt (gss_one (gs_never (On := []))) (GSs.post (On' := []) (by decide) gss_nil)) (gss_cons (gs_for .never rfl (gi_seq (ge_tup (ga_cons (ge_gstr T.BLACK) (ga_cons (ge_gstr T.WHITE) ga_nil)))) (gg_name 3 sc_always_same.nd) (GSs.post (On' := []) (by decide) (gss_cons (GS.post (On' := []) (by decide) (gs_set 4 sc_always_same.nd (ge_mul ((ge_tup (ga_cons (ge_mul ((ge_var 3)).go ((ge_len T.len (gao_cons ((ge_sub1 ((ge_var 0)).go (ge_int).go)).go gao_nil))).go) ga_nil))).go ((ge_len T.len (gao_cons ((ge_var 0)).go gao_nil))).go))) (gss_one (gs_if (gt_ne hr.units ((ge_call (d_all_painted T) (hr.mono (by decide)) pass0 (ga_cons (ge_var 4) (ga_cons (ge_var 1) ga_nil)))).go ((ge_call (d_all_painted T) (hr.mono (by decide)) pass0 (ga_cons (ge_var 4) (ga_cons (ge_var 2) ga_nil)))).go) (gss_one (gs_ret (On := []) ge_bl)) (GSs.post (On' := []) (by decide) gss_nil))))) (by decide) (fun d ds h => by cases h; rfl)) (gss_one (gs_ret (On := []) ge_bl)))))⟩
abbrev s_law_picture : Stmt := top 33
theorem sc_law_picture : FnScope ["_law_row", "_law_most", "_law_high", "_law_wide_here", "_law_picture_here", "_law_kind"] ["_law_row", "_law_most"] (defScope s_law_picture) := ⟨rfl, rfl, rfl, by decide +kernel, rfl, by decide +kernel, by decide +kernel⟩
def b_law_picture : SS := seqS (parS [2, 3] (consA (binE addD (cE (.int 1)) (callE 2 m_law_taken (consA (vE 0) (consA (vE 1) (nilA))))) (consA (binE addD (cE (.int 1)) (callE 2 m_law_taken (consA (vE 0) (consA (vE 1) (nilA))))) (nilA)))) (seqS (parS [4, 5] (consA (callE 3 m_law_any (consA (vE 0) (consA (vE 2) (consA (vE 3) (nilA))))) (consA (callE 2 m_law_taken (consA (vE 0) (consA (cE (.int 4)) (nilA)))) (nilA)))) (seqS (ifS (boolE (binE eqD (vE 5) (cE (.int 0)))) (retS (vE 4)) (skipS)) (seqS (ifS (boolE (binE eqD (vE 5) (cE (.int 1)))) (retS (callE 2 m_law_painted (consA (vE 4) (consA (callE 3 m_law_deeds (consA (vE 0) (consA (vE 4) (consA (binE addD (vE 2) (vE 3)) (nilA))))) (nilA))))) (skipS)) (retS (callE 2 m_law_painted (consA (vE 4) (consA (callE 2 m_law_mixed (consA (vE 0) (consA (rg1E .lst (binE addD (vE 2) (vE 3))) (nilA)))) (nilA))))))))
def m_law_picture : List D → List D → RE D := defD 6 b_law_picture
theorem d_law_picture (T : Tx K mg) : DefOk P w K mg base CX0 r "_law_picture" 4 2 m_law_picture := by
  obtain ⟨f, fd, F, hm⟩ := T.f_law_picture
  refine fn_def (k := 3) F sc_law_picture hm (fun _ _ _ _ _ _ us hl => match us, hl with | [_, _], _ => rfl) (fun cdv A outer s H E hr => ?_) (m := b_law_picture)
  exact ⟨_, _, (gss_cons (GS.post (On' := []) (by decide) (gs_par2 2 3 sc_law_picture.nd (gak_st (ge_add (ge_int).go ((ge_call (d_law_taken T) (hr.mono (by decide)) pass0 (ga_cons (ge_var 0) (ga_cons (ge_var 1) ga_nil)))).go) (gak_st (ge_add (ge_int).go ((ge_call (d_law_taken T) (hr.mono (by decide)) pass0 (ga_cons (ge_var 0) (ga_cons (ge_var 1) ga_nil)))).go) gak_nil)))) (gss_cons (GS.post (On' := []) (by decide) (gs_par2 4 5 sc_law_picture.nd (gak_st (ge_call (d_law_any T) (hr.mono (by decide)) pass0 (ga_cons (ge_var 0) (ga_cons (ge_var 2) (ga_cons (ge_var 3) ga_nil)))) (gak_st (ge_call (d_law_taken T) (hr.mono (by decide)) pass0 (ga_cons (ge_var 0) (ga_cons ge_int ga_nil))) gak_nil)))) (gss_cons (gs_if (gt_eq hr.units ((ge_var 5)).go (ge_int).go) (gss_one (gs_ret (On := []) (ge_var 4))) (GSs.post (On' := []) (by decide) gss_nil)) (gss_cons (gs_if (gt_eq hr.units ((ge_var 5)).go (ge_int).go) (gss_one (gs_ret (On := []) (ge_call (d_law_painted T) (hr.mono (by decide)) pass0 (ga_cons (ge_var 4) (ga_cons (ge_call (d_law_deeds T) (hr.mono (by decide)) pass0 (ga_cons (ge_var 0) (ga_cons (ge_var 4) (ga_cons (ge_add ((ge_var 2)).go ((ge_var 3)).go) ga_nil)))) ga_nil))))) (GSs.post (On' := []) (by decide) gss_nil)) (gss_one (gs_ret (On := []) (ge_call (d_law_painted T) (hr.mono (by decide)) pass0 (ga_cons (ge_var 4) (ga_cons (ge_call (d_law_mixed T) (hr.mono (by decide)) pass0 (ga_cons (ge_var 0) (ga_cons ((gf_listRg1 T.list T.range ((ge_add ((ge_var 2)).go ((ge_var 3)).go)).go)).ge ga_nil))) ga_nil)))))))))⟩
abbrev s_needless : Stmt := top 19
theorem sc_needless : FnScope ["picture", "deeds", "end", "at"] ["picture", "deeds"] (defScope s_needless) := ⟨rfl, rfl, rfl, by decide +kernel, rfl, by decide +kernel, by decide +kernel⟩
def b_needless : SS := seqS (dropS (callE 2 m_need_deeds (consA (vE 0) (consA (vE 1) (nilA))))) (seqS (setS 2 (callE 2 m_all_painted (consA (vE 0) (consA (vE 1) (nilA))))) (retS (compE (rangeI range1D (consA (callB lenD (consA (vE 1) (nilA))) (nilA))) [3] t1 [3] (boolE (binE eqD (callE 2 m_all_painted (consA (vE 0) (consA (binE addD (sliceE (vE 1) (optI none) (optI (some (vE 3)))) (sliceE (vE 1) (optI (some (binE addD (vE 3) (cE (.int 1))))) (optI none))) (nilA)))) (vE 2))) (vE 3))))
def m_needless : List D → List D → RE D := defD 4 b_needless
theorem d_needless (T : Tx K mg) : DefOk P w K mg base CX0 r "needless" 5 2 m_needless := by
  obtain ⟨f, fd, F, hm⟩ := T.f_needless
  refine fn_def (k := 4) F sc_needless hm (fun _ _ _ _ _ _ us hl => match us, hl with | [_, _], _ => rfl) (fun cdv A outer s H E hr => ?_) (m := b_needless)
  exact ⟨_, _, (gss_cons (gs_drop (ge_call (d_need_deeds T) (hr.mono (by decide)) pass0 (ga_cons (ge_var 0) (ga_cons (ge_var 1) ga_nil)))) (gss_cons (GS.post (On' := []) (by decide) (gs_set 2 sc_needless.nd (ge_call (d_all_painted T) (hr.mono (by decide)) pass0 (ga_cons (ge_var 0) (ga_cons (ge_var 1) ga_nil))))) (gss_one (gs_ret (On := []) ((gf_lc (own := [("at", 3)]) rfl sc_needless.nd (gi_range1 T.range (gao_cons ((ge_len T.len (gao_cons ((ge_var 1)).go gao_nil))).go gao_nil)) (blkOk_by (by kernel_rfl)) (fun _ _ _ _ _ => (gg_name 3 sc_needless.nd)) (fun _ _ _ _ _ => (gts_one (gt_eq hr.units ((ge_call (d_all_painted T) (hr.mono (by decide)) pass0 (ga_cons (ge_var 0) (ga_cons (ge_add ((ge_slice ((ge_var 1)).go gp_none (gp_some (ge_var 3)))).go ((ge_slice ((ge_var 1)).go (gp_some (ge_add ((ge_var 3)).go (ge_int).go)) gp_none)).go) ga_nil)))).go ((ge_var 2)).go))) (fun _ _ _ _ _ => (ge_var 3)) (by decide) (by decide))).ge))))⟩
abbrev s_last_deeds : Stmt := top 20
theorem sc_last_deeds : FnScope ["picture", "deeds", "found", "line"] ["picture", "deeds"] (defScope s_last_deeds) := ⟨rfl, rfl, rfl, by decide +kernel, rfl, by decide +kernel, by decide +kernel⟩
def b_last_deeds : SS := seqS (dropS (callE 2 m_need_deeds (consA (vE 0) (consA (vE 1) (nilA))))) (seqS (setFS 2 (lstE (nilA))) (seqS (forS (seqI (revE (vE 1))) t1 [3] (ifS (boolE (binE notInD (vE 3) (vE 2))) (appS 2 (vE 3)) (skipS))) (retS (revE (vE 2)))))
def m_last_deeds : List D → List D → RE D := defD 4 b_last_deeds
theorem d_last_deeds (T : Tx K mg) : DefOk P w K mg base CX0 r "last_deeds" 5 2 m_last_deeds := by
  obtain ⟨f, fd, F, hm⟩ := T.f_last_deeds
  refine fn_def (k := 4) F sc_last_deeds hm (fun _ _ _ _ _ _ us hl => match us, hl with | [_, _], _ => rfl) (fun cdv A outer s H E hr => ?_) (m := b_last_deeds)
  exact ⟨_, _, (gss_cons (gs_drop (ge_call (d_need_deeds T) (hr.mono (by decide)) pass0 (ga_cons (ge_var 0) (ga_cons (ge_var 1) ga_nil)))) (gss_cons (GS.post (On' := [2]) (by decide) (gs_setF 2 sc_last_deeds.nd (gf_lst ga_nil))) (gss_cons (gs_for .never rfl (gi_seq ((gf_rev ((ge_var 1)).go)).ge) (gg_name 3 sc_last_deeds.nd) (GSs.post (On' := [2]) (by decide) (gss_one (gs_if (gt_notIn hr.units ((ge_var 3)).go (go_own 2)) (GSs.post (On' := [2]) (by decide) (gss_one (gs_append 2 (by decide) (ge_var 3)))) (GSs.post (On' := [2]) (by decide) gss_nil)))) (by decide) (fun d ds h => by cases h; rfl)) (gss_one (gs_ret (On := []) ((gf_rev (go_own 2))).ge)))))⟩
abbrev s_swaps_free : Stmt := top 23
theorem sc_swaps_free : FnScope ["picture", "deeds", "found", "at", "other"] ["picture", "deeds"] (defScope s_swaps_free) := ⟨rfl, rfl, rfl, by decide +kernel, rfl, by decide +kernel, by decide +kernel⟩
def b_swaps_free : SS := seqS (dropS (callE 2 m_need_deeds (consA (vE 0) (consA (vE 1) (nilA))))) (seqS (setFS 2 (lstE (nilA))) (seqS (forS (rangeI range1D (consA (binE subD (callB lenD (consA (vE 1) (nilA))) (cE (.int 1))) (nilA))) t1 [3] (seqS (setS 4 (binE addD (binE addD (sliceE (vE 1) (optI none) (optI (some (vE 3)))) (lstE (consA (binE ixD (vE 1) (binE addD (vE 3) (cE (.int 1)))) (consA (binE ixD (vE 1) (vE 3)) (nilA))))) (sliceE (vE 1) (optI (some (binE addD (vE 3) (cE (.int 2))))) (optI none)))) (ifS (boolE (callE 3 m_always_same (consA (vE 0) (consA (vE 1) (consA (vE 4) (nilA)))))) (appS 2 (vE 3)) (skipS)))) (retS (vE 2))))
def m_swaps_free : List D → List D → RE D := defD 5 b_swaps_free
theorem d_swaps_free (T : Tx K mg) : DefOk P w K mg base CX0 r "swaps_free" 5 2 m_swaps_free := by
  obtain ⟨f, fd, F, hm⟩ := T.f_swaps_free
  refine fn_def (k := 4) F sc_swaps_free hm (fun _ _ _ _ _ _ us hl => match us, hl with | [_, _], _ => rfl) (fun cdv A outer s H E hr => ?_) (m := b_swaps_free)
  exact ⟨_, _, (gss_cons (gs_drop (ge_call (d_need_deeds T) (hr.mono (by decide)) pass0 (ga_cons (ge_var 0) (ga_cons (ge_var 1) ga_nil)))) (gss_cons (GS.post (On' := [2]) (by decide) (gs_setF 2 sc_swaps_free.nd (gf_lst ga_nil))) (gss_cons (gs_for .never rfl (gi_range1 T.range (gao_cons ((ge_sub ((ge_len T.len (gao_cons ((ge_var 1)).go gao_nil))).go (ge_int).go)).go gao_nil)) (gg_name 3 sc_swaps_free.nd) (GSs.post (On' := [2]) (by decide) (gss_cons (GS.post (On' := [2]) (by decide) (gs_set 4 sc_swaps_free.nd (ge_add ((ge_add ((ge_slice ((ge_var 1)).go gp_none (gp_some (ge_var 3)))).go (((gf_lst (ga_cons (ge_sub1 ((ge_var 1)).go ((ge_add ((ge_var 3)).go (ge_int).go)).go) (ga_cons (ge_sub1 ((ge_var 1)).go ((ge_var 3)).go) ga_nil)))).ge).go)).go ((ge_slice ((ge_var 1)).go (gp_some (ge_add ((ge_var 3)).go (ge_int).go)) gp_none)).go))) (gss_one (gs_if (gt_val (ge_call (d_always_same T) (hr.mono (by decide)) pass0 (ga_cons (ge_var 0) (ga_cons (ge_var 1) (ga_cons (ge_var 4) ga_nil))))) (GSs.post (On' := [2]) (by decide) (gss_one (gs_append 2 (by decide) (ge_var 3)))) (GSs.post (On' := [2]) (by decide) gss_nil))))) (by decide) (fun d ds h => by cases h; rfl)) (gss_one (gs_retO (On := []) 2 (by decide))))))⟩
abbrev s_unpainted : Stmt := top 24
theorem sc_unpainted : FnScope ["picture", "deeds", "line"] ["picture", "deeds"] (defScope s_unpainted) := ⟨rfl, rfl, rfl, by decide +kernel, rfl, by decide +kernel, by decide +kernel⟩
def b_unpainted : SS := seqS (dropS (callE 2 m_need_deeds (consA (vE 0) (consA (vE 1) (nilA))))) (retS (callB tupleD (consA (compE (rangeI range1D (consA (callE 1 m_lines_of (consA (vE 0) (nilA))) (nilA))) [2] t1 [2] (boolE (binE notInD (vE 2) (vE 1))) (vE 2)) (nilA))))
def m_unpainted : List D → List D → RE D := defD 3 b_unpainted
theorem d_unpainted (T : Tx K mg) : DefOk P w K mg base CX0 r "unpainted" 5 2 m_unpainted := by
  obtain ⟨f, fd, F, hm⟩ := T.f_unpainted
  refine fn_def (k := 4) F sc_unpainted hm (fun _ _ _ _ _ _ us hl => match us, hl with | [_, _], _ => rfl) (fun cdv A outer s H E hr => ?_) (m := b_unpainted)
  exact ⟨_, _, (gss_cons (gs_drop (ge_call (d_need_deeds T) (hr.mono (by decide)) pass0 (ga_cons (ge_var 0) (ga_cons (ge_var 1) ga_nil)))) (gss_one (gs_ret (On := []) (ge_tuple T.tuple (gao_cons (((gf_lc (own := [("line", 2)]) rfl sc_unpainted.nd (gi_range1 T.range (gao_cons ((ge_call (d_lines_of T) (hr.mono (by decide)) pass0 (ga_cons (ge_var 0) ga_nil))).go gao_nil)) (blkOk_by (by kernel_rfl)) (fun _ _ _ _ _ => (gg_name 2 sc_unpainted.nd)) (fun _ _ _ _ _ => (gts_one (gt_notIn hr.units ((ge_var 2)).go ((ge_var 1)).go))) (fun _ _ _ _ _ => (ge_var 2)) (by decide) (by decide))).ge).go gao_nil)))))⟩
abbrev s_law : Stmt := top 35
theorem sc_law : FnScope ["_law_script", "_law_row", "_law_start", "_law_high", "_law_deeds_here", "_law_last", "_law_spots", "_law_due", "_law_at", "_law_one", "_law_other", "_law_there"] ["_law_script"] (defScope s_law) := ⟨rfl, rfl, rfl, by decide +kernel, rfl, by decide +kernel, by decide +kernel⟩
def b_law : SS := seqS (setS 2 (callE 2 m_law_picture (consA (vE 1) (consA (callE 2 m_law_pick (consA (vE 1) (consA (lstE (consA (cE (.int 3)) (consA (cE (.int 9)) (nilA)))) (nilA)))) (nilA))))) (seqS (parS [3, 4] (consA (callB lenD (consA (vE 2) (nilA))) (consA (callE 3 m_law_deeds (consA (vE 1) (consA (vE 2) (consA (cE (.int 9)) (nilA))))) (nilA)))) (seqS (parS [5, 6, 7] (consA (callE 2 m_last_deeds (consA (vE 2) (consA (vE 4) (nilA)))) (consA (callE 2 m_swaps_free (consA (vE 2) (consA (vE 4) (nilA)))) (consA (lstE (nilA)) (nilA))))) (seqS (forS (rangeI range1D (consA (binE subD (callB lenD (consA (vE 4) (nilA))) (cE (.int 1))) (nilA))) t1 [8] (seqS (parS [9, 10] (consA (binE ixD (vE 4) (vE 8)) (consA (binE ixD (vE 4) (binE addD (vE 8) (cE (.int 1)))) (nilA)))) (ifS (orT (boolE (binE eqD (binE ltD (vE 9) (vE 3)) (binE ltD (vE 10) (vE 3)))) (orT (boolE (binE inD (vE 9) (sliceE (vE 4) (optI (some (binE addD (vE 8) (cE (.int 2))))) (optI none)))) (boolE (binE inD (vE 10) (sliceE (vE 4) (optI (some (binE addD (vE 8) (cE (.int 2))))) (optI none)))))) (appS 7 (vE 8)) (skipS)))) (seqS (ifS (boolE (binE neD (vE 6) (vE 7))) (retS (cE (.bl false))) (skipS)) (seqS (ifS (orT (boolE (binE isNotNoneD (callE 3 m_always_same (consA (vE 2) (consA (vE 4) (consA (vE 5) (nilA))))) (cE (.bl true)))) (boolE (binE isNotNoneD (callE 3 m_same_end (consA (vE 2) (consA (vE 4) (consA (vE 5) (nilA))))) (cE (.bl true))))) (retS (cE (.bl false))) (skipS)) (seqS (ifS (boolE (binE neD (vE 6) (lstE (nilA)))) (seqS (setS 8 (callE 2 m_law_pick (consA (vE 1) (consA (vE 6) (nilA))))) (seqS (setS 11 (binE addD (binE addD (sliceE (vE 4) (optI none) (optI (some (vE 8)))) (lstE (consA (binE ixD (vE 4) (binE addD (vE 8) (cE (.int 1)))) (consA (binE ixD (vE 4) (vE 8)) (nilA))))) (sliceE (vE 4) (optI (some (binE addD (vE 8) (cE (.int 2))))) (optI none)))) (ifS (orT (boolE (binE neD (callE 2 m_painted (consA (vE 2) (consA (vE 11) (nilA)))) (callE 2 m_painted (consA (vE 2) (consA (vE 4) (nilA)))))) (boolE (binE isNotNoneD (callE 3 m_always_same (consA (vE 2) (consA (vE 11) (consA (vE 4) (nilA))))) (cE (.bl true))))) (retS (cE (.bl false))) (skipS)))) (skipS)) (seqS (forS (rangeI range1D (consA (callB lenD (consA (vE 4) (nilA))) (nilA))) t1 [8] (ifS (andT (boolE (binE inD (binE ixD (vE 4) (vE 8)) (sliceE (vE 4) (optI (some (binE addD (vE 8) (cE (.int 1))))) (optI none)))) (boolE (binE notInD (vE 8) (callE 2 m_needless (consA (vE 2) (consA (vE 4) (nilA))))))) (retS (cE (.bl false))) (skipS))) (seqS (setS 10 (callE 3 m_law_deeds (consA (vE 1) (consA (vE 2) (consA (cE (.int 9)) (nilA)))))) (seqS (ifS (boolE (binE neD (callB sortD (consA (binE addD (callB listD (consA (callE 2 m_unpainted (consA (vE 2) (consA (vE 4) (nilA)))) (nilA))) (vE 5)) (nilA))) (rg1E .lst (binE addD (vE 3) (callB lenD (consA (binE ixD (vE 2) (cE (.int 0))) (nilA))))))) (retS (cE (.bl false))) (skipS)) (seqS (ifS (boolE (binE neD (callE 3 m_same_end (consA (vE 2) (consA (vE 4) (consA (vE 10) (nilA))))) (binE eqD (callE 2 m_painted (consA (vE 2) (consA (vE 4) (nilA)))) (callE 2 m_painted (consA (vE 2) (consA (vE 10) (nilA))))))) (retS (cE (.bl false))) (skipS)) (retS (binE eqD (callE 3 m_always_same (consA (vE 2) (consA (binE addD (vE 4) (vE 10)) (consA (binE addD (vE 10) (vE 4)) (nilA))))) (callE 3 m_law_wide (consA (vE 2) (consA (binE addD (vE 4) (vE 10)) (consA (binE addD (vE 10) (vE 4)) (nilA)))))))))))))))))
theorem law_body (T : Tx K mg) {f : Addr} {qual : Str} (r : Addr) (cdv : Value) (A : Around) (outer : List Env) (s : Shared) (H : Hp) (E : XK) (hr : Room 5 (A.deeper (PyProof.Rows.envOfC qual (defScope s_law) s.heap.objs.size f cdv))) : ∃ On u, GSs K mg r (cxOf CX0 P w K mg base ["_law_script", "_law_row", "_law_start", "_law_high", "_law_deeds_here", "_law_last", "_law_spots", "_law_due", "_law_at", "_law_one", "_law_other", "_law_there"] qual (defScope s_law) f cdv A outer s H E).nox E0 [] On [] (defBody s_law).tail u b_law := by
  exact ⟨_, _, (gss_cons (GS.post (On' := []) (by decide) (gs_set 2 sc_law.nd (ge_call (d_law_picture T) (hr.mono (by decide)) pass0 (ga_cons (ge_var 1) (ga_cons (ge_call (d_law_pick T) (hr.mono (by decide)) pass0 (ga_cons (ge_var 1) (ga_cons ((gf_lst (ga_cons ge_int (ga_cons ge_int ga_nil)))).ge ga_nil))) ga_nil))))) (gss_cons (GS.post (On' := []) (by decide) (gs_par2 3 4 sc_law.nd (gak_st (ge_len T.len (gao_cons ((ge_var 2)).go gao_nil)) (gak_st (ge_call (d_law_deeds T) (hr.mono (by decide)) pass0 (ga_cons (ge_var 1) (ga_cons (ge_var 2) (ga_cons ge_int ga_nil)))) gak_nil)))) (gss_cons (GS.post (On' := [7]) (by decide) (gs_par3 5 6 7 sc_law.nd (gak_st (ge_call (d_last_deeds T) (hr.mono (by decide)) pass0 (ga_cons (ge_var 2) (ga_cons (ge_var 4) ga_nil))) (gak_st (ge_call (d_swaps_free T) (hr.mono (by decide)) pass0 (ga_cons (ge_var 2) (ga_cons (ge_var 4) ga_nil))) (gak_fr (gf_lst ga_nil) gak_nil))))) (gss_cons (gs_for .never rfl (gi_range1 T.range (gao_cons ((ge_sub ((ge_len T.len (gao_cons ((ge_var 4)).go gao_nil))).go (ge_int).go)).go gao_nil)) (gg_name 8 sc_law.nd) (GSs.post (On' := [7]) (by decide) (gss_cons (GS.post (On' := [7]) (by decide) (gs_par2 9 10 sc_law.nd (gak_st (ge_sub1 ((ge_var 4)).go ((ge_var 8)).go) (gak_st (ge_sub1 ((ge_var 4)).go ((ge_add ((ge_var 8)).go (ge_int).go)).go) gak_nil)))) (gss_one (gs_if ((gw_or (gt_eq hr.units ((ge_lt ((ge_var 9)).go ((ge_var 3)).go)).go ((ge_lt ((ge_var 10)).go ((ge_var 3)).go)).go) (gw_or (gt_in hr.units ((ge_var 9)).go ((ge_slice ((ge_var 4)).go (gp_some (ge_add ((ge_var 8)).go (ge_int).go)) gp_none)).go) (gw_or1 (gt_in hr.units ((ge_var 10)).go ((ge_slice ((ge_var 4)).go (gp_some (ge_add ((ge_var 8)).go (ge_int).go)) gp_none)).go))))).gt (GSs.post (On' := [7]) (by decide) (gss_one (gs_append 7 (by decide) (ge_var 8)))) (GSs.post (On' := [7]) (by decide) gss_nil))))) (by decide) (fun d ds h => by cases h; rfl)) (gss_cons (gs_if (gt_ne hr.units ((ge_var 6)).go (go_own 7)) (gss_one (gs_ret (On := [7]) ge_bl)) (GSs.post (On' := [7]) (by decide) gss_nil)) (gss_cons (gs_if ((gw_or (gt_isNot ((ge_call (d_always_same T) (hr.mono (by decide)) pass0 (ga_cons (ge_var 2) (ga_cons (ge_var 4) (ga_cons (ge_var 5) ga_nil))))).go (ge_bl).go) (gw_or1 (gt_isNot ((ge_call (d_same_end T) (hr.mono (by decide)) pass0 (ga_cons (ge_var 2) (ga_cons (ge_var 4) (ga_cons (ge_var 5) ga_nil))))).go (ge_bl).go)))).gt (gss_one (gs_ret (On := [7]) ge_bl)) (GSs.post (On' := [7]) (by decide) gss_nil)) (gss_cons (gs_if (gt_ne hr.units ((ge_var 6)).go (((gf_lst ga_nil)).ge).go) (GSs.post (On' := [7]) (by decide) (gss_cons (GS.post (On' := [7]) (by decide) (gs_set 8 sc_law.nd (ge_call (d_law_pick T) (hr.mono (by decide)) pass0 (ga_cons (ge_var 1) (ga_cons (ge_var 6) ga_nil))))) (gss_cons (GS.post (On' := [7]) (by decide) (gs_set 11 sc_law.nd (ge_add ((ge_add ((ge_slice ((ge_var 4)).go gp_none (gp_some (ge_var 8)))).go (((gf_lst (ga_cons (ge_sub1 ((ge_var 4)).go ((ge_add ((ge_var 8)).go (ge_int).go)).go) (ga_cons (ge_sub1 ((ge_var 4)).go ((ge_var 8)).go) ga_nil)))).ge).go)).go ((ge_slice ((ge_var 4)).go (gp_some (ge_add ((ge_var 8)).go (ge_int).go)) gp_none)).go))) (gss_one (gs_if ((gw_or (gt_ne hr.units ((ge_call (d_painted T) (hr.mono (by decide)) pass0 (ga_cons (ge_var 2) (ga_cons (ge_var 11) ga_nil)))).go ((ge_call (d_painted T) (hr.mono (by decide)) pass0 (ga_cons (ge_var 2) (ga_cons (ge_var 4) ga_nil)))).go) (gw_or1 (gt_isNot ((ge_call (d_always_same T) (hr.mono (by decide)) pass0 (ga_cons (ge_var 2) (ga_cons (ge_var 11) (ga_cons (ge_var 4) ga_nil))))).go (ge_bl).go)))).gt (gss_one (gs_ret (On := [7]) ge_bl)) (GSs.post (On' := [7]) (by decide) gss_nil)))))) (GSs.post (On' := [7]) (by decide) gss_nil)) (gss_cons (gs_for .never rfl (gi_range1 T.range (gao_cons ((ge_len T.len (gao_cons ((ge_var 4)).go gao_nil))).go gao_nil)) (gg_name 8 sc_law.nd) (GSs.post (On' := [7]) (by decide) (gss_one (gs_if ((gw_and (gt_in hr.units ((ge_sub1 ((ge_var 4)).go ((ge_var 8)).go)).go ((ge_slice ((ge_var 4)).go (gp_some (ge_add ((ge_var 8)).go (ge_int).go)) gp_none)).go) (gw_and1 (gt_notIn hr.units ((ge_var 8)).go ((ge_call (d_needless T) (hr.mono (by decide)) pass0 (ga_cons (ge_var 2) (ga_cons (ge_var 4) ga_nil)))).go)))).gt (gss_one (gs_ret (On := [7]) ge_bl)) (GSs.post (On' := [7]) (by decide) gss_nil)))) (by decide) (fun d ds h => by cases h; rfl)) (gss_cons (GS.post (On' := [7]) (by decide) (gs_set 10 sc_law.nd (ge_call (d_law_deeds T) (hr.mono (by decide)) pass0 (ga_cons (ge_var 1) (ga_cons (ge_var 2) (ga_cons ge_int ga_nil)))))) (gss_cons (gs_if (gt_ne hr.units (((gf_sorted T.sorted (gao_cons ((ge_add (((gf_list1 T.list (gao_cons ((ge_call (d_unpainted T) (hr.mono (by decide)) pass0 (ga_cons (ge_var 2) (ga_cons (ge_var 4) ga_nil)))).go gao_nil))).ge).go ((ge_var 5)).go)).go gao_nil))).ge).go (((gf_listRg1 T.list T.range ((ge_add ((ge_var 3)).go ((ge_len T.len (gao_cons ((ge_sub1 ((ge_var 2)).go (ge_int).go)).go gao_nil))).go)).go)).ge).go) (gss_one (gs_ret (On := [7]) ge_bl)) (GSs.post (On' := [7]) (by decide) gss_nil)) (gss_cons (gs_if (gt_ne hr.units ((ge_call (d_same_end T) (hr.mono (by decide)) pass0 (ga_cons (ge_var 2) (ga_cons (ge_var 4) (ga_cons (ge_var 10) ga_nil))))).go ((ge_eq hr.units ((ge_call (d_painted T) (hr.mono (by decide)) pass0 (ga_cons (ge_var 2) (ga_cons (ge_var 4) ga_nil)))).go ((ge_call (d_painted T) (hr.mono (by decide)) pass0 (ga_cons (ge_var 2) (ga_cons (ge_var 10) ga_nil)))).go)).go) (gss_one (gs_ret (On := [7]) ge_bl)) (GSs.post (On' := [7]) (by decide) gss_nil)) (gss_one (gs_ret (On := []) (ge_eq hr.units ((ge_call (d_always_same T) (hr.mono (by decide)) pass0 (ga_cons (ge_var 2) (ga_cons (ge_add ((ge_var 4)).go ((ge_var 10)).go) (ga_cons (ge_add ((ge_var 10)).go ((ge_var 4)).go) ga_nil))))).go ((ge_call (d_law_wide T) (hr.mono (by decide)) pass0 (ga_cons (ge_var 2) (ga_cons (ge_add ((ge_var 4)).go ((ge_var 10)).go) (ga_cons (ge_add ((ge_var 10)).go ((ge_var 4)).go) ga_nil))))).go))))))))))))))⟩
end
end W

set_option Elab.async false
set_option linter.all false
set_option maxRecDepth 100000
set_option maxHeartbeats 1000000
namespace W
open PySem L2 G
/-! the tape's draws -/
theorem log_small {m : Int} (h : m ≤ 2 ^ 30) (h1 : 1 ≤ m) : cDiv m = true := by
  unfold cDiv
  have : m.natAbs.log2 < 9000 := by
    have : m.natAbs.log2 < 31 := (Nat.log2_lt (by omega)).mpr (by omega)
    omega
  simp [this]; omega
theorem mul_small {i j : Int} (hi : 0 ≤ i) (hi2 : i < 2147483648) (hj : 0 ≤ j) (hj2 : j < 2147483648) : cMul i j = true := by
  unfold cMul
  have k : ∀ x : Int, 0 ≤ x → x < 2147483648 → x.natAbs.log2 ≤ 32 := fun x h1 h2 => by
    rcases Nat.eq_zero_or_pos x.natAbs with e | e
    · rw [e]; decide
    · have : x.natAbs.log2 < 32 := (Nat.log2_lt (by omega)).mpr (by omega)
      omega
  have := k i hi hi2
  have := k j hj hj2
  exact decide_eq_true (by omega)
theorem taken_ok {tp : List D} {m : Int} (h : Tape tp) (hm : 1 ≤ m) (hM : m ≤ 2 ^ 30) : ∃ v tp', m_law_taken [.tape, .int m] tp = .ok (.int v) tp' ∧ Tape tp' ∧ 0 ≤ v ∧ v < m := by
  obtain ⟨⟨ns, pos, seed, rest, rfl, p0, s0, s1, nl⟩⟩ := h
  have cd := log_small hM hm
  have cm : cMul seed 48271 = true := mul_small s0 (by omega) (by decide) (by decide)
  have m0 : (0 : Int) < m := by omega
  have c7 : cDiv 7 = true := by decide +kernel
  have a0 : ∀ a b c d : D, atI [a, b, c, d] 0 = some a := fun _ _ _ _ => rfl
  have a1 : ∀ a b c d : D, atI [a, b, c, d] 1 = some b := fun _ _ _ _ => rfl
  have a2 : ∀ a b c d : D, atI [a, b, c, d] 2 = some c := fun _ _ _ _ => rfl
  have a3 : ∀ a b c d : D, atI [a, b, c, d] 3 = some d := fun _ _ _ _ => rfl
  have i1 : ixN 4 1 = some 1 := rfl
  have i2 : ixN 4 2 = some 2 := rfl
  have i3 : ixN 4 3 = some 3 := rfl
  have b7 : (0 : Int) < 2147483647 := by decide
  by_cases c1 : 0 < rest
  · refine ⟨rest % m, [.scr ns, .int pos, .int seed, .int (rest / m)], ?_, ⟨⟨ns, pos, seed, _, rfl, p0, s0, s1, nl⟩⟩, Int.emod_nonneg _ (by omega), Int.emod_lt_of_pos _ m0⟩
    simp -implicitDefEqProofs only [m_law_taken, b_law_taken, defD, retR, seqS, ifS, setS, retS, skipS, dropS, parS, setAll, vE, cE, binE, chainE, callB, consA, nilA, tupE, lstE, boolE, isB, notT, orT, andT, andE, orE, notE, callE, tixE, tsetS, sliceE, optI, methE, seqI, rangeI, RE.bind_ok, RE.bindS, RE.of_some, RE.of_none, List.map_cons, List.map_nil, List.length_cons, List.length_nil, List.replicate, List.cons_append, List.nil_append, List.getElem?_cons_zero, List.getElem?_cons_succ, List.set_cons_zero, List.set_cons_succ, if_true, if_false, Nat.zero_add, Nat.reduceAdd, Nat.reduceSub, decide_true, decide_false, Bool.false_eq_true, Option.map_some, Option.bind_some, a0, a1, a2, a3, i1, i2, i3, gtD, modD, fdivD, intD, c1, cd, m0]
  · by_cases c2 : (ns.length : Int) < pos + 1
    · refine ⟨((seed * 48271 + 11) % 2147483647 / 7) % m, [.scr ns, .int (pos + 1), .int ((seed * 48271 + 11) % 2147483647), .int rest], ?_, ⟨⟨ns, _, _, _, rfl, by omega, by omega, by omega, nl⟩⟩, Int.emod_nonneg _ (by omega), Int.emod_lt_of_pos _ m0⟩
      simp -implicitDefEqProofs only [m_law_taken, b_law_taken, defD, retR, seqS, ifS, setS, retS, skipS, dropS, parS, setAll, vE, cE, binE, chainE, callB, consA, nilA, tupE, lstE, boolE, isB, notT, orT, andT, andE, orE, notE, callE, tixE, tsetS, sliceE, optI, methE, seqI, rangeI, RE.bind_ok, RE.bindS, RE.of_some, RE.of_none, List.map_cons, List.map_nil, List.length_cons, List.length_nil, List.replicate, List.cons_append, List.nil_append, List.getElem?_cons_zero, List.getElem?_cons_succ, List.set_cons_zero, List.set_cons_succ, if_true, if_false, Nat.zero_add, Nat.reduceAdd, Nat.reduceSub, decide_true, decide_false, Bool.false_eq_true, Option.map_some, Option.bind_some, a0, a1, a2, a3, i1, i2, i3, gtD, modD, fdivD, intD, c1, cd, m0, addD, mulD, lenD, c2, cm, b7, c7]
    · have hp : pos.toNat < ns.length := by omega
      have e : atI ns (pos + 1 - 1) = some (ns[pos.toNat]) := by
        have : pos + 1 - 1 = pos := by omega
        rw [this, atI_int ns p0, List.getElem?_eq_getElem hp]
      have cp : cPow 10 18 = true := by decide +kernel
      generalize hc : ns[pos.toNat] = c at e
      have ev : ∀ q : Prop, ∀ [Decidable q], q = ((10 : Int) ^ (Int.toNat 18) ≤ c) → True := fun _ _ _ => trivial
      by_cases c3 : (10 : Int) ^ (Int.toNat 18) ≤ c
      · refine ⟨c % m, [.scr ns, .int (pos + 1), .int ((seed * 48271 + c + 11) % 2147483647), .int (c / m)], ?_, ⟨⟨ns, _, _, _, rfl, by omega, by omega, by omega, nl⟩⟩, Int.emod_nonneg _ (by omega), Int.emod_lt_of_pos _ m0⟩
        simp -implicitDefEqProofs only [m_law_taken, b_law_taken, defD, retR, seqS, ifS, setS, retS, skipS, dropS, parS, setAll, vE, cE, binE, chainE, callB, consA, nilA, tupE, lstE, boolE, isB, notT, orT, andT, andE, orE, notE, callE, tixE, tsetS, sliceE, optI, methE, seqI, rangeI, RE.bind_ok, RE.bindS, RE.of_some, RE.of_none, List.map_cons, List.map_nil, List.length_cons, List.length_nil, List.replicate, List.cons_append, List.nil_append, List.getElem?_cons_zero, List.getElem?_cons_succ, List.set_cons_zero, List.set_cons_succ, if_true, if_false, Nat.zero_add, Nat.reduceAdd, Nat.reduceSub, decide_true, decide_false, Bool.false_eq_true, Option.map_some, Option.bind_some, a0, a1, a2, a3, i1, i2, i3, gtD, geD, modD, fdivD, intD, c1, cd, m0, addD, subD, mulD, powD, lenD, ixD, c2, cm, b7, c7, e, cp, c3]
      · refine ⟨c % m, [.scr ns, .int (pos + 1), .int ((seed * 48271 + c + 11) % 2147483647), .int rest], ?_, ⟨⟨ns, _, _, _, rfl, by omega, by omega, by omega, nl⟩⟩, Int.emod_nonneg _ (by omega), Int.emod_lt_of_pos _ m0⟩
        simp -implicitDefEqProofs only [m_law_taken, b_law_taken, defD, retR, seqS, ifS, setS, retS, skipS, dropS, parS, setAll, vE, cE, binE, chainE, callB, consA, nilA, tupE, lstE, boolE, isB, notT, orT, andT, andE, orE, notE, callE, tixE, tsetS, sliceE, optI, methE, seqI, rangeI, RE.bind_ok, RE.bindS, RE.of_some, RE.of_none, List.map_cons, List.map_nil, List.length_cons, List.length_nil, List.replicate, List.cons_append, List.nil_append, List.getElem?_cons_zero, List.getElem?_cons_succ, List.set_cons_zero, List.set_cons_succ, if_true, if_false, Nat.zero_add, Nat.reduceAdd, Nat.reduceSub, decide_true, decide_false, Bool.false_eq_true, Option.map_some, Option.bind_some, a0, a1, a2, a3, i1, i2, i3, gtD, geD, modD, fdivD, intD, c1, cd, m0, addD, subD, mulD, powD, lenD, ixD, c2, cm, b7, c7, e, cp, c3]
end W

set_option Elab.async false
set_option linter.all false
set_option maxRecDepth 100000
set_option maxHeartbeats 1000000
namespace W
open PySem L2 G
theorem eqD_int (a b : Int) : eqD (.int a) (.int b) = some (.bl (decide (a = b))) := by
  show some (D.bl (a == b)) = _
  by_cases h : a = b <;> simp [h]
theorem eqD_str (a b : Str) : eqD (.str a) (.str b) = some (.bl (a == b)) := rfl
theorem cRg_small {i : Int} (h0 : 0 ≤ i) (h : i ≤ 2 ^ 30) : cRg i = true := by
  unfold cRg
  have h1 : -(2 ^ 62) ≤ i := by omega
  have h2 : i < 2 ^ 62 := by omega
  rw [decide_eq_true h1, decide_eq_true h2]; rfl
theorem range1_ok {i : Int} (h0 : 0 ≤ i) (h : i ≤ 2 ^ 30) : range1D [.int i] = some (rangeL 0 i) := by
  show (if cRg i then some (rangeL 0 i) else none) = _
  rw [cRg_small h0 h, if_pos rfl]
theorem rangeL_len (n : Nat) : (rangeL 0 (n : Int)).length = n := by unfold rangeL; simp
theorem rangeL_get {n j : Nat} {d : D} (h : (rangeL 0 (n : Int))[j]? = some d) : d = .int j ∧ j < n := by
  unfold rangeL at h
  rw [List.getElem?_map] at h
  obtain ⟨x, h1, h2⟩ := Option.map_eq_some_iff.mp h
  have hl : j < (List.range ((n : Int) - 0).toNat).length := (List.getElem?_eq_some_iff.mp h1).1
  have e := (List.getElem?_eq_some_iff.mp h1).2
  rw [List.getElem_range] at e
  rw [List.length_range] at hl
  subst e
  refine ⟨by rw [← h2]; simp, by omega⟩
theorem rangeL_mem {n : Nat} {d : D} (h : d ∈ rangeL 0 (n : Int)) : ∃ j : Nat, d = .int j ∧ j < n := by
  obtain ⟨j, hj⟩ := List.getElem?_of_mem h
  exact ⟨j, rangeL_get hj⟩
theorem cut_to {α : Type} (xs : List α) (k : Nat) : cutD xs none (some (k : Int)) = xs.take k := by
  unfold cutD
  rw [HT.sIx_none, HT.sIx_nat, List.drop_zero, Nat.sub_zero]
  by_cases h : k ≤ xs.length
  · rw [Nat.min_eq_left h]
  · rw [Nat.min_eq_right (by omega), List.take_of_length_le (by omega), List.take_of_length_le (by omega)]
theorem cut_from {α : Type} (xs : List α) (k : Nat) : cutD xs (some (k : Int)) none = xs.drop k := by
  unfold cutD
  rw [HT.sIx_none, HT.sIx_nat]
  by_cases h : k ≤ xs.length
  · rw [Nat.min_eq_left h, List.take_of_length_le (by rw [List.length_drop]; omega)]
  · rw [Nat.min_eq_right (by omega), List.drop_of_length_le (by omega), List.drop_of_length_le (by omega)]; simp
theorem paired_len {α β : Type} {R : α → β → Prop} : ∀ {xs : List α} {ys : List β}, Paired R xs ys → ys.length = xs.length
  | _, _, .nil => rfl
  | _, _, .cons _ q => by simp [paired_len q]
theorem paired_all {α β γ : Type} {R : α → β → Prop} {f : γ → β} (h : ∀ x y, R x y → ∃ c, y = f c) : ∀ {xs : List α} {ys : List β}, Paired R xs ys → ∃ cs : List γ, ys = cs.map f ∧ cs.length = xs.length
  | _, _, .nil => ⟨[], rfl, rfl⟩
  | _, _, .cons r q => by
    obtain ⟨c, rfl⟩ := h _ _ r
    obtain ⟨cs, rfl, e⟩ := paired_all h q
    exact ⟨c :: cs, rfl, by simp [e]⟩
theorem paired_allP {α β γ : Type} {R : α → β → Prop} {f : γ → β} {P : γ → Prop} (h : ∀ x y, R x y → ∃ c, y = f c ∧ P c) : ∀ {xs : List α} {ys : List β}, Paired R xs ys → ∃ cs : List γ, ys = cs.map f ∧ cs.length = xs.length ∧ ∀ c ∈ cs, P c
  | _, _, .nil => ⟨[], rfl, rfl, fun _ h => nomatch h⟩
  | _, _, .cons r q => by
    obtain ⟨c, rfl, p⟩ := h _ _ r
    obtain ⟨cs, rfl, e, pp⟩ := paired_allP h q
    exact ⟨c :: cs, rfl, by simp [e], fun z hz => (List.mem_cons.mp hz).elim (fun q => q ▸ p) (pp z)⟩
theorem forS_eq {mi : SE (List D)} {tgt : D → Option (List D)} {is : List Nat} {body : SS} {env : DEnv} {tp tp1 : List D} {items : List D} (h : mi env tp = .ok items tp1) : forS mi tgt is body env tp = forL tgt is body items env tp1 := by
  unfold forS; rw [h]; rfl
theorem seqS_nx {m n : SS} {env env' : DEnv} {tp tp' : List D} (h : m env tp = .nx env' tp') : seqS m n env tp = n env' tp' := by
  unfold seqS; rw [h]
/-! ### pick -/
theorem pick_ok {tp : List D} {ds : List D} (h : Tape tp) (h0 : ds ≠ []) (hl : ds.length ≤ 2 ^ 30) : ∃ v tp', m_law_pick [.tape, .lst ds] tp = .ok v tp' ∧ Tape tp' ∧ v ∈ ds := by
  have hp := List.length_pos_iff.mpr h0
  obtain ⟨v, tp', e, t, v0, v1⟩ := taken_ok (m := (ds.length : Int)) h (by omega) (by omega)
  have hv : v.toNat < ds.length := by omega
  have ea : atI ds v = some ds[v.toNat] := by rw [atI_int ds v0, List.getElem?_eq_getElem hv]
  refine ⟨ds[v.toNat], tp', ?_, t, List.getElem_mem hv⟩
  simp -implicitDefEqProofs only [m_law_pick, b_law_pick, defD, retR, seqS, ifS, setS, retS, skipS, dropS, parS, setAll, vE, cE, binE, chainE, callB, consA, nilA, tupE, lstE, boolE, isB, notT, orT, andT, andE, orE, notE, callE, tixE, tsetS, sliceE, optI, methE, seqI, rangeI, RE.bind_ok, RE.bindS, RE.of_some, RE.of_none, List.map_cons, List.map_nil, List.length_cons, List.length_nil, List.replicate, List.cons_append, List.nil_append, List.getElem?_cons_zero, List.getElem?_cons_succ, List.set_cons_zero, List.set_cons_succ, if_true, if_false, Nat.zero_add, Nat.reduceAdd, Nat.reduceSub, decide_true, decide_false, Bool.false_eq_true, Option.map_some, Option.bind_some, lenD, e, ixD, ea]
/-! ### any -/
theorem row_of_bits {bs : List Bool} (h : bs.length ≤ 1000) : joinD (.str "") (.lst (bs.map fun b => D.str (rowS [b]))) = some (.str (rowS bs)) := by
  have e : bs.map (fun b => D.str (rowS [b])) = (bs.map fun b => rowS [b]).map D.str := by rw [List.map_map]; rfl
  have e2 : bs.map (fun b => rowS [b]) = (bs.map fun b => [b]).map rowS := by rw [List.map_map]; rfl
  have sm : ((bs.map fun b => rowS [b]).map (·.length)).sum = bs.length := by
    clear h e e2
    induction bs with
    | nil => rfl
    | cons b bs ih => rw [List.map_cons, List.map_cons, List.sum_cons, ih, List.length_cons, rowS_len]; simp; omega
  rw [e]
  unfold joinD
  simp only [itemsD, Option.bind_some, unS_map, sm, List.length_map]
  rw [str_empty, rowS_len, if_pos (by simp; omega), e2, join_rows]
  have : (bs.map fun b => [b]).flatten = bs := by
    clear h e e2 sm
    induction bs with
    | nil => rfl
    | cons b bs ih => rw [List.map_cons, List.flatten_cons, ih]; rfl
  rw [this]
def signE : SE D := ifE (boolE (binE eqD (callE 2 m_law_taken (consA (vE 0) (consA (vE 3) (nilA)))) (cE (.int 0)))) (cE (.str "#")) (cE (.str "."))
def rowE : SE D := compE (rangeI range1D (consA (vE 2) (nilA))) [6] t1 [6] (yesT) signE
def anyB : SS := appS 4 (methE isStrD joinD (cE (.str "")) rowE)
theorem b_any_eq : b_law_any = seqS (parS [3, 4] (consA (callE 2 m_law_pick (consA (vE 0) (consA (lstE (consA (cE (.int 2)) (consA (cE (.int 2)) (consA (cE (.int 3)) (consA (cE (.int 4)) (nilA)))))) (nilA)))) (consA (lstE (nilA)) (nilA)))) (seqS (forS (rangeI range1D (consA (vE 1) (nilA))) t1 [5] anyB) (retS (callB tupleD (consA (vE 4) (nilA))))) := rfl
theorem sign_ok {a1 a4 a5 a6 : Option D} {tp : List D} {o : Int} (ht : Tape tp) (o1 : 1 ≤ o) (o2 : o ≤ 4) {x7 : Option D} : ∃ x tp', signE [some .tape, a1, a4, some (.int o), a5, a6, x7] tp = .ok x tp' ∧ Tape tp' ∧ ∃ b : Bool, x = .str (rowS [b]) := by
  obtain ⟨v, tp3, e3, t3, v0, v1⟩ := taken_ok (m := o) ht (by omega) (by omega)
  by_cases c : v = 0
  · exact ⟨.str "#", tp3, by simp -implicitDefEqProofs only [signE, ifE, defD, retR, seqS, ifS, setS, retS, skipS, dropS, parS, setAll, vE, cE, binE, chainE, callB, consA, nilA, tupE, lstE, boolE, isB, notT, orT, andT, andE, orE, notE, callE, tixE, tsetS, sliceE, optI, methE, seqI, rangeI, RE.bind_ok, RE.bindS, RE.of_some, RE.of_none, List.map_cons, List.map_nil, List.length_cons, List.length_nil, List.replicate, List.cons_append, List.nil_append, List.getElem?_cons_zero, List.getElem?_cons_succ, List.set_cons_zero, List.set_cons_succ, if_true, if_false, Nat.zero_add, Nat.reduceAdd, Nat.reduceSub, decide_true, decide_false, Bool.false_eq_true, Option.map_some, Option.bind_some, e3, eqD_int, c], t3, true, by rw [str_black]⟩
  · exact ⟨.str ".", tp3, by simp -implicitDefEqProofs only [signE, ifE, defD, retR, seqS, ifS, setS, retS, skipS, dropS, parS, setAll, vE, cE, binE, chainE, callB, consA, nilA, tupE, lstE, boolE, isB, notT, orT, andT, andE, orE, notE, callE, tixE, tsetS, sliceE, optI, methE, seqI, rangeI, RE.bind_ok, RE.bindS, RE.of_some, RE.of_none, List.map_cons, List.map_nil, List.length_cons, List.length_nil, List.replicate, List.cons_append, List.nil_append, List.getElem?_cons_zero, List.getElem?_cons_succ, List.set_cons_zero, List.set_cons_succ, if_true, if_false, Nat.zero_add, Nat.reduceAdd, Nat.reduceSub, decide_true, decide_false, Bool.false_eq_true, Option.map_some, Option.bind_some, e3, eqD_int, c], t3, false, by rw [str_white]⟩
end W

set_option Elab.async false
set_option linter.all false
set_option maxRecDepth 100000
set_option maxHeartbeats 1000000
namespace W
open PySem L2 G
theorem appS_ok {i : Nat} {m : SE D} {env : DEnv} {tp tp1 : List D} {ds : List D} {d : D} (h1 : env[i]? = some (some (.lst ds))) (h2 : m env tp = .ok d tp1) (h3 : ds.length < 1000000) : appS i m env tp = .nx (env.set i (some (.lst (ds ++ [d])))) tp1 := by
  unfold appS
  rw [h1]
  simp only
  rw [h2]
  show (if ds.length < sizeLine then RS.nx (env.set i (some (.lst (ds ++ [d])))) tp1 else .stuck) = _
  exact if_pos (show ds.length < sizeLine from small_line (n := ds.length + 1) h3)
theorem methE_ok {p : D → Bool} {f : D → D → Option D} {ma mb : SE D} {env : DEnv} {tp tp1 tp2 : List D} {d e z : D} (h1 : ma env tp = .ok d tp1) (hp : p d = true) (h2 : mb env tp1 = .ok e tp2) (h3 : f d e = some z) : methE p f ma mb env tp = .ok z tp2 := by
  unfold methE
  rw [h1]
  simp only [RE.bind_ok]
  rw [if_pos hp, h2]
  simp only [RE.bind_ok]
  rw [h3]; rfl
theorem lstE_ok {ms : SE (List D)} {env : DEnv} {tp tp1 : List D} {ds : List D} (h : ms env tp = .ok ds tp1) (hl : ds.length ≤ 1000000) : lstE ms env tp = .ok (.lst ds) tp1 := by
  unfold lstE; rw [h]; simp only [RE.bind_ok]; rw [if_pos (small_line hl)]
theorem tupE_ok {ms : SE (List D)} {env : DEnv} {tp tp1 : List D} {ds : List D} (h : ms env tp = .ok ds tp1) (hl : ds.length ≤ 1000000) : tupE ms env tp = .ok (.tup ds) tp1 := by
  unfold tupE; rw [h]; simp only [RE.bind_ok]; rw [if_pos (small_line hl)]
theorem if_small {α : Type} {n : Nat} {a b : α} (h : n ≤ 1000000) : (if n ≤ sizeLine then a else b) = a := if_pos (small_line h)
theorem if_small' {α : Type} {n : Nat} {a b : α} (h : n < 1000000) : (if n < sizeLine then a else b) = a := if_pos (small_line (n := n + 1) h)
theorem bitrow_ok {a1 a5 a6 : Option D} {tp : List D} {o : Int} {w : Nat} (ht : Tape tp) (o1 : 1 ≤ o) (o2 : o ≤ 4) (w2 : w ≤ 30) : ∃ (bs : List Bool) (tp' : List D), rowE [some .tape, a1, some (.int w), some (.int o), a5, a6, none] tp = .ok (.lst (bs.map fun b => .str (rowS [b]))) tp' ∧ Tape tp' ∧ bs.length = w := by
  have em : rangeI range1D (consA (vE 2) (nilA)) [some .tape, a1, some (.int w), some (.int o), a5, a6, none] tp = .ok (rangeL 0 (w : Int)) tp := by
    simp -implicitDefEqProofs only [defD, retR, seqS, ifS, setS, retS, skipS, dropS, parS, setAll, vE, cE, binE, chainE, callB, consA, nilA, tupE, lstE, boolE, isB, notT, orT, andT, andE, orE, notE, callE, tixE, tsetS, sliceE, optI, methE, seqI, rangeI, RE.bind_ok, RE.bindS, RE.of_some, RE.of_none, List.map_cons, List.map_nil, List.length_cons, List.length_nil, List.replicate, List.cons_append, List.nil_append, List.getElem?_cons_zero, List.getElem?_cons_succ, List.set_cons_zero, List.set_cons_succ, if_true, if_false, Nat.zero_add, Nat.reduceAdd, Nat.reduceSub, decide_true, decide_false, Bool.false_eq_true, Option.map_some, Option.bind_some, range1_ok (i := (w : Int)) (by omega) (by omega)]
  obtain ⟨xs, tp', e, t', pr⟩ := compE_eff (T := Tape) (R := fun d x => ∃ b : Bool, x = .str (rowS [b])) (vs := [6]) (i := 6) (m := signE) em ht (by rw [rangeL_len]; exact small_line (by omega)) (fun d2 hd2 tp2 tt2 => sign_ok tt2 o1 o2)
  obtain ⟨bs, rfl, hl⟩ := paired_all (f := fun b => D.str (rowS [b])) (fun x y hh => hh) pr
  rw [rangeL_len] at hl
  exact ⟨bs, tp', e, t', hl⟩
theorem any_step {a1 x : Option D} {tp : List D} {o : Int} {w : Nat} {rs : List Row} {d : Option D} (ht : Tape tp) (o1 : 1 ≤ o) (o2 : o ≤ 4) (w2 : w ≤ 30) (hk : rs.length ≤ 100) : ∃ (bs : List Bool) (tp' : List D), anyB [some .tape, a1, some (.int w), some (.int o), some (.lst (rs.map fun r => .str (rowS r))), d, none] tp = .nx [some .tape, a1, some (.int w), some (.int o), some (.lst ((rs ++ [bs]).map fun r => .str (rowS r))), d, none] tp' ∧ Tape tp' ∧ bs.length = w := by
  obtain ⟨bs, tp', e, t', hl⟩ := bitrow_ok (a1 := a1) (a5 := some (.lst (rs.map fun r => .str (rowS r)))) (a6 := d) ht o1 o2 w2
  have jn := row_of_bits (bs := bs) (by omega)
  refine ⟨bs, tp', ?_, t', hl⟩
  have q := appS_ok (i := 4) (env := [some .tape, a1, some (.int w), some (.int o), some (.lst (rs.map fun r => .str (rowS r))), d, none]) rfl (methE_ok (p := isStrD) (f := joinD) (ma := cE (.str "")) (tp := tp) rfl rfl e jn) (by rw [List.length_map]; omega)
  rw [List.map_append]
  exact q
theorem any_loop {tp1 : List D} {o : Int} {h w : Nat} (ht : Tape tp1) (o1 : 1 ≤ o) (o2 : o ≤ 4) (h2 : h ≤ 30) (w2 : w ≤ 30) : ∃ (rs : List Row) (x : Option D) (tp' : List D), forS (rangeI range1D (consA (vE 1) (nilA))) t1 [5] anyB [some .tape, some (.int h), some (.int w), some (.int o), some (.lst []), none, none] tp1 = .nx [some .tape, some (.int h), some (.int w), some (.int o), some (.lst (rs.map fun r => .str (rowS r))), x, none] tp' ∧ Tape tp' ∧ rs.length = h ∧ (∀ r ∈ rs, r.length = w) := by
  have ei : rangeI range1D (consA (vE 1) (nilA)) [some .tape, some (.int h), some (.int w), some (.int o), some (.lst []), none, none] tp1 = .ok (rangeL 0 (h : Int)) tp1 := by
    simp -implicitDefEqProofs only [defD, retR, seqS, ifS, setS, retS, skipS, dropS, parS, setAll, vE, cE, binE, chainE, callB, consA, nilA, tupE, lstE, boolE, isB, notT, orT, andT, andE, orE, notE, callE, tixE, tsetS, sliceE, optI, methE, seqI, rangeI, RE.bind_ok, RE.bindS, RE.of_some, RE.of_none, List.map_cons, List.map_nil, List.length_cons, List.length_nil, List.replicate, List.cons_append, List.nil_append, List.getElem?_cons_zero, List.getElem?_cons_succ, List.set_cons_zero, List.set_cons_succ, if_true, if_false, Nat.zero_add, Nat.reduceAdd, Nat.reduceSub, decide_true, decide_false, Bool.false_eq_true, Option.map_some, Option.bind_some, range1_ok (i := (h : Int)) (by omega) (by omega)]
  rw [forS_eq ei]
  obtain ⟨env', tp2, e2, t2, rs, x, hk, hr, rfl⟩ := forL_inv (i := 5) (tp := tp1) (env := [some .tape, some (.int h), some (.int w), some (.int o), some (.lst []), none, none]) (items := rangeL 0 (h : Int)) (body := anyB)
    (fun k env tp => Tape tp ∧ ∃ (rs : List Row) (x : Option D), rs.length = k ∧ (∀ r ∈ rs, r.length = w) ∧ env = [some .tape, some (.int h), some (.int w), some (.int o), some (.lst (rs.map fun r => .str (rowS r))), x, none]) 0
    ⟨ht, [], none, rfl, (fun _ h => nomatch h), rfl⟩ (fun j d env tp hj hI => by
      obtain ⟨tt, rs, x, hk, hr, rfl⟩ := hI
      have hj' := rangeL_get hj
      obtain ⟨bs, tp', e, t', hl⟩ := any_step (a1 := some (.int h)) (x := x) (d := some d) (rs := rs) tt o1 o2 w2 (by omega)
      refine ⟨_, tp', e, t', rs ++ [bs], some d, by simp [hk], ?_, rfl⟩
      intro r hr'
      rcases List.mem_append.mp hr' with q | q
      · exact hr r q
      · rw [List.mem_singleton.mp q]; exact hl)
  rw [rangeL_len] at hk
  exact ⟨rs, x, tp2, e2, t2, by omega, hr⟩
theorem any_pick {tp : List D} (ht : Tape tp) : ∃ (o : Int) (tp' : List D), m_law_pick [.tape, .lst [.int 2, .int 2, .int 3, .int 4]] tp = .ok (.int o) tp' ∧ Tape tp' ∧ 1 ≤ o ∧ o ≤ 4 := by
  obtain ⟨v, tp1, e1, t1', v1⟩ := pick_ok (ds := [.int 2, .int 2, .int 3, .int 4]) ht (by simp) (by simp)
  rcases List.mem_cons.mp v1 with q | q
  · subst q; exact ⟨2, tp1, e1, t1', by decide, by decide⟩
  rcases List.mem_cons.mp q with q | q
  · subst q; exact ⟨2, tp1, e1, t1', by decide, by decide⟩
  rcases List.mem_cons.mp q with q | q
  · subst q; exact ⟨3, tp1, e1, t1', by decide, by decide⟩
  · have q := List.mem_singleton.mp q
    subst q; exact ⟨4, tp1, e1, t1', by decide, by decide⟩
theorem any_ok {tp : List D} {h w : Nat} (ht : Tape tp) (h1 : 1 ≤ h) (h2 : h ≤ 30) (w1 : 1 ≤ w) (w2 : w ≤ 30) : ∃ p tp', m_law_any [.tape, .int h, .int w] tp = .ok (picD p) tp' ∧ Tape tp' ∧ PicOk h w p := by
  obtain ⟨o, tp1, e1, t1', o1, o2⟩ := any_pick ht
  obtain ⟨rs, x, tp2, e2, t2, hk, hr⟩ := any_loop t1' o1 o2 h2 w2
  refine ⟨rs, tp2, ?_, t2, ⟨by omega, hr, h1, h2, w1, w2⟩⟩
  have hp : parS [3, 4] (consA (callE 2 m_law_pick (consA (vE 0) (consA (lstE (consA (cE (.int 2)) (consA (cE (.int 2)) (consA (cE (.int 3)) (consA (cE (.int 4)) (nilA)))))) (nilA)))) (consA (lstE (nilA)) (nilA))) [some .tape, some (.int h), some (.int w), none, none, none, none] tp = .nx [some .tape, some (.int h), some (.int w), some (.int o), some (.lst []), none, none] tp1 := by
    simp -implicitDefEqProofs only [defD, retR, seqS, ifS, setS, retS, skipS, dropS, parS, setAll, vE, cE, binE, chainE, callB, consA, nilA, tupE, lstE, boolE, isB, notT, orT, andT, andE, orE, notE, callE, tixE, tsetS, sliceE, optI, methE, seqI, rangeI, RE.bind_ok, RE.bindS, RE.of_some, RE.of_none, List.map_cons, List.map_nil, List.length_cons, List.length_nil, List.replicate, List.cons_append, List.nil_append, List.getElem?_cons_zero, List.getElem?_cons_succ, List.set_cons_zero, List.set_cons_succ, if_true, if_false, Nat.zero_add, Nat.reduceAdd, Nat.reduceSub, decide_true, decide_false, Bool.false_eq_true, Option.map_some, Option.bind_some, e1, if_small, Nat.reduceLeDiff, Nat.zero_le, List.all_cons, List.all_nil, Bool.and_true, Nat.reduceLT]
  show retR (b_law_any [some .tape, some (.int h), some (.int w), none, none, none, none] tp) = _
  rw [b_any_eq, seqS_nx hp, seqS_nx e2]
  rfl
end W

set_option Elab.async false
set_option linter.all false
set_option maxRecDepth 100000
set_option maxHeartbeats 1000000
namespace W
open PySem L2 G
theorem setS_ok {i : Nat} {m : SE D} {env : DEnv} {tp tp1 : List D} {d : D} (h : m env tp = .ok d tp1) : setS i m env tp = .nx (env.set i (some d)) tp1 := by
  unfold setS; rw [h]; rfl
theorem retS_ok {m : SE D} {env : DEnv} {tp tp1 : List D} {d : D} (h : m env tp = .ok d tp1) : retS m env tp = .rt d tp1 := by
  unfold retS; rw [h]; rfl
theorem dropS_ok {m : SE D} {env : DEnv} {tp tp1 : List D} {d : D} (h : m env tp = .ok d tp1) : dropS m env tp = .nx env tp1 := by
  unfold dropS; rw [h]; rfl
theorem callE_ok {n : Nat} {m : List D → List D → RE D} {ms : SE (List D)} {env : DEnv} {tp tp1 tp2 : List D} {ds : List D} {d : D} (h : ms env tp = .ok ds tp1) (hl : ds.length = n) (h2 : m ds tp1 = .ok d tp2) : callE n m ms env tp = .ok d tp2 := by
  unfold callE; rw [h]; simp only [RE.bind_ok]; rw [if_pos hl, h2]
theorem seqS_rt {m n : SS} {env : DEnv} {tp tp' : List D} {d : D} (h : m env tp = .rt d tp') : seqS m n env tp = .rt d tp' := by
  unfold seqS; rw [h]
theorem ifS_t {c : SE Bool} {m n : SS} {env : DEnv} {tp tp' : List D} (h : c env tp = .ok true tp') : ifS c m n env tp = m env tp' := by
  unfold ifS; rw [h]; rfl
theorem ifS_f {c : SE Bool} {m n : SS} {env : DEnv} {tp tp' : List D} (h : c env tp = .ok false tp') : ifS c m n env tp = n env tp' := by
  unfold ifS; rw [h]; rfl
theorem notT_ok {c : SE Bool} {env : DEnv} {tp tp' : List D} {b : Bool} (h : c env tp = .ok b tp') : notT c env tp = .ok (!b) tp' := by
  unfold notT; rw [h]; rfl
theorem boolE_ok {c : SE D} {env : DEnv} {tp tp' : List D} {b : Bool} (h : c env tp = .ok (.bl b) tp') : boolE c env tp = .ok b tp' := by
  unfold boolE; rw [h]; rfl
theorem orT_f {c d : SE Bool} {env : DEnv} {tp tp' : List D} (h : c env tp = .ok false tp') : orT c d env tp = d env tp' := by
  unfold orT; rw [h]; rfl
theorem andE_t {c d : SE D} {env : DEnv} {tp tp' : List D} (h : c env tp = .ok (.bl true) tp') : andE c d env tp = d env tp' := by
  unfold andE; rw [h]; rfl
theorem consA_ok {c : SE D} {d : SE (List D)} {env : DEnv} {tp tp' tp2 : List D} {x : D} {xs : List D} (h : c env tp = .ok x tp') (h2 : d env tp' = .ok xs tp2) : consA c d env tp = .ok (x :: xs) tp2 := by
  unfold consA; rw [h]; simp only [RE.bind_ok]; rw [h2]; rfl
theorem callB_ok {f : List D → Option D} {ms : SE (List D)} {env : DEnv} {tp tp1 : List D} {ds : List D} {d : D} (h : ms env tp = .ok ds tp1) (h2 : f ds = some d) : callB f ms env tp = .ok d tp1 := by
  unfold callB; rw [h]; simp only [RE.bind_ok]; rw [h2]; rfl
theorem binE_ok {f : D → D → Option D} {ma mb : SE D} {env : DEnv} {tp tp1 tp2 : List D} {d e z : D} (h1 : ma env tp = .ok d tp1) (h2 : mb env tp1 = .ok e tp2) (h3 : f d e = some z) : binE f ma mb env tp = .ok z tp2 := by
  unfold binE; rw [h1]; simp only [RE.bind_ok]; rw [h2]; simp only [RE.bind_ok]; rw [h3]; rfl
/-! ### pictures as data -/
theorem len_pic (p : Pic) : lenD [picD p] = some (.int (p.length : Int)) := by
  show some (D.int ((p.map fun r => D.str (rowS r)).length : Int)) = _
  rw [List.length_map]
theorem ix_pic {p : Pic} {i : Nat} {r : Row} (h : p[i]? = some r) : ixD (picD p) (.int (i : Int)) = some (.str (rowS r)) := by
  show atI (p.map fun r => D.str (rowS r)) (i : Int) = _
  rw [atI_nat', List.getElem?_map, h]; rfl
theorem ix_pic0 {p : Pic} {r : Row} (h : p[0]? = some r) : ixD (picD p) (.int 0) = some (.str (rowS r)) := ix_pic (i := 0) h
theorem len_row {r : Row} (h : r.length ≤ 1000000) : lenD [.str (rowS r)] = some (.int (r.length : Int)) := by
  show (if (rowS r).length ≤ sizeLine then some (D.int ((rowS r).length : Int)) else none) = _
  rw [rowS_len, if_small h]
theorem ix_row {r : Row} {j : Nat} {b : Bool} (hl : r.length ≤ 1000000) (h : r[j]? = some b) : ixD (.str (rowS r)) (.int (j : Int)) = some (.str (rowS [b])) := by
  show (if (rowS r).length ≤ sizeLine then (atI (rowS r).cps.toList (j : Int)).map fun c => D.str ⟨#[c]⟩ else none) = _
  rw [rowS_len, if_small hl, row_toList, atI_nat', List.getElem?_map, h]; rfl
theorem add_row {a b : Row} (h : a.length + b.length ≤ 1000000) : addD (.str (rowS a)) (.str (rowS b)) = some (.str (rowS (a ++ b))) := by
  show (if (rowS a).length + (rowS b).length ≤ sizeLine then some (D.str (rowS a ++ rowS b)) else none) = _
  rw [rowS_len, rowS_len, if_small h, rowS_app]
theorem _root_.G.PicOk.row0 {h w : Nat} {p : Pic} (k : PicOk h w p) : ∃ r, p[0]? = some r ∧ r.length = w := by
  have : 0 < p.length := by rw [k.len]; exact k.h1
  exact ⟨p[0], List.getElem?_eq_getElem this, k.row _ (List.getElem_mem this)⟩
theorem _root_.G.PicOk.get {h w : Nat} {p : Pic} (k : PicOk h w p) {i : Nat} (hi : i < h) : ∃ r, p[i]? = some r ∧ r.length = w ∧ p.getD i [] = r := by
  have : i < p.length := by rw [k.len]; exact hi
  exact ⟨p[i], List.getElem?_eq_getElem this, k.row _ (List.getElem_mem this), by rw [List.getD_eq_getElem?_getD, List.getElem?_eq_getElem this]; rfl⟩
/-- a line painted, cell by cell -/
def cellP (h : Nat) (p : Pic) (l i j : Nat) : Bool := if l = i then true else if l = h + j then false else (p.getD i []).getD j false
def lineP (h w : Nat) (p : Pic) (l : Nat) : Pic := (List.range h).map fun i => (List.range w).map fun j => cellP h p l i j
theorem lineP_ok {h w : Nat} {p : Pic} (k : PicOk h w p) (l : Nat) : PicOk h w (lineP h w p l) := by
  refine ⟨by unfold lineP; simp, fun r hr => ?_, k.h1, k.h30, k.w1, k.w30⟩
  obtain ⟨i, _, rfl⟩ := List.mem_map.mp hr
  simp
/-! ### the law's own painting -/
def lsignE : SE D := ifE (boolE (binE eqD (vE 1) (vE 3))) (cE (.str "#")) (ifE (boolE (binE eqD (vE 1) (binE addD (callB lenD (consA (vE 0) (nilA))) (vE 5)))) (cE (.str ".")) (binE ixD (binE ixD (vE 0) (vE 3)) (vE 5)))
def lspotB : SS := setS 4 (binE addD (vE 4) lsignE)
def lspotI : SE (List D) := rangeI range1D (consA (callB lenD (consA (binE ixD (vE 0) (cE (.int 0))) (nilA))) (nilA))
def lrowB : SS := seqS (setS 4 (cE (.str ""))) (seqS (forS lspotI t1 [5] lspotB) (appS 2 (vE 4)))
def lrowI : SE (List D) := rangeI range1D (consA (callB lenD (consA (vE 0) (nilA))) (nilA))
theorem b_lpaint_eq : b_law_paint = seqS (setFS 2 (lstE (nilA))) (seqS (forS lrowI t1 [3] lrowB) (retS (callB tupleD (consA (vE 2) (nilA))))) := rfl
theorem lsign_ok {h w : Nat} {p : Pic} (k : PicOk h w p) {l i j : Nat} (hi : i < h) (hj : j < w) (tp : List D) (a2 a4 : Option D) : lsignE [some (picD p), some (.int l), a2, some (.int i), a4, some (.int j)] tp = .ok (.str (rowS [cellP h p l i j])) tp := by
  obtain ⟨r, h1, h2, h3⟩ := k.get hi
  have hj' : j < r.length := by omega
  have e1 := ix_pic h1
  have e2 := ix_row (r := r) (j := j) (b := r[j]) (by have := k.w30; omega) (List.getElem?_eq_getElem hj')
  have e3 : r.getD j false = r[j] := by rw [List.getD_eq_getElem?_getD, List.getElem?_eq_getElem hj']; rfl
  unfold cellP
  rw [h3, e3]
  by_cases c1 : l = i
  · rw [if_pos c1, ← str_black]
    have c1' : (l : Int) = i := by omega
    simp -implicitDefEqProofs only [lsignE, ifE, defD, retR, seqS, ifS, setS, retS, skipS, dropS, parS, setAll, vE, cE, binE, chainE, callB, consA, nilA, tupE, lstE, boolE, isB, notT, orT, andT, andE, orE, notE, callE, tixE, tsetS, sliceE, optI, methE, seqI, rangeI, RE.bind_ok, RE.bindS, RE.of_some, RE.of_none, List.map_cons, List.map_nil, List.length_cons, List.length_nil, List.replicate, List.cons_append, List.nil_append, List.getElem?_cons_zero, List.getElem?_cons_succ, List.set_cons_zero, List.set_cons_succ, if_true, if_false, Nat.zero_add, Nat.reduceAdd, Nat.reduceSub, decide_true, decide_false, Bool.false_eq_true, Option.map_some, Option.bind_some, eqD_int, c1']
  · rw [if_neg c1]
    have c1' : ¬ (l : Int) = i := by omega
    by_cases c2 : l = h + j
    · rw [if_pos c2, ← str_white]
      have c2' : (l : Int) = (h : Int) + j := by omega
      simp -implicitDefEqProofs only [lsignE, ifE, defD, retR, seqS, ifS, setS, retS, skipS, dropS, parS, setAll, vE, cE, binE, chainE, callB, consA, nilA, tupE, lstE, boolE, isB, notT, orT, andT, andE, orE, notE, callE, tixE, tsetS, sliceE, optI, methE, seqI, rangeI, RE.bind_ok, RE.bindS, RE.of_some, RE.of_none, List.map_cons, List.map_nil, List.length_cons, List.length_nil, List.replicate, List.cons_append, List.nil_append, List.getElem?_cons_zero, List.getElem?_cons_succ, List.set_cons_zero, List.set_cons_succ, if_true, if_false, Nat.zero_add, Nat.reduceAdd, Nat.reduceSub, decide_true, decide_false, Bool.false_eq_true, Option.map_some, Option.bind_some, eqD_int, c1', len_pic, addD, k.len, c2']
      have : ¬ ((h : Int) + j = i) := by omega
      simp -implicitDefEqProofs only [this, defD, retR, seqS, ifS, setS, retS, skipS, dropS, parS, setAll, vE, cE, binE, chainE, callB, consA, nilA, tupE, lstE, boolE, isB, notT, orT, andT, andE, orE, notE, callE, tixE, tsetS, sliceE, optI, methE, seqI, rangeI, RE.bind_ok, RE.bindS, RE.of_some, RE.of_none, List.map_cons, List.map_nil, List.length_cons, List.length_nil, List.replicate, List.cons_append, List.nil_append, List.getElem?_cons_zero, List.getElem?_cons_succ, List.set_cons_zero, List.set_cons_succ, if_true, if_false, Nat.zero_add, Nat.reduceAdd, Nat.reduceSub, decide_true, decide_false, Bool.false_eq_true, Option.map_some, Option.bind_some]
    · rw [if_neg c2]
      have c2' : ¬ (l : Int) = (h : Int) + j := by omega
      simp -implicitDefEqProofs only [lsignE, ifE, defD, retR, seqS, ifS, setS, retS, skipS, dropS, parS, setAll, vE, cE, binE, chainE, callB, consA, nilA, tupE, lstE, boolE, isB, notT, orT, andT, andE, orE, notE, callE, tixE, tsetS, sliceE, optI, methE, seqI, rangeI, RE.bind_ok, RE.bindS, RE.of_some, RE.of_none, List.map_cons, List.map_nil, List.length_cons, List.length_nil, List.replicate, List.cons_append, List.nil_append, List.getElem?_cons_zero, List.getElem?_cons_succ, List.set_cons_zero, List.set_cons_succ, if_true, if_false, Nat.zero_add, Nat.reduceAdd, Nat.reduceSub, decide_true, decide_false, Bool.false_eq_true, Option.map_some, Option.bind_some, eqD_int, c1', len_pic, addD, k.len, c2', e1, e2]
theorem lspots_ok {h w : Nat} {p : Pic} (k : PicOk h w p) {l i : Nat} (hi : i < h) (tp : List D) (a2 a5 : Option D) : ∃ x, forS lspotI t1 [5] lspotB [some (picD p), some (.int l), a2, some (.int i), some (.str ""), a5] tp = .nx [some (picD p), some (.int l), a2, some (.int i), some (.str (rowS ((List.range w).map fun j => cellP h p l i j))), x] tp := by
  obtain ⟨r, h1, h2⟩ := k.row0
  have w30 := k.w30
  have ei : lspotI [some (picD p), some (.int l), a2, some (.int i), some (.str ""), a5] tp = .ok (rangeL 0 (w : Int)) tp := by
    simp -implicitDefEqProofs only [lspotI, defD, retR, seqS, ifS, setS, retS, skipS, dropS, parS, setAll, vE, cE, binE, chainE, callB, consA, nilA, tupE, lstE, boolE, isB, notT, orT, andT, andE, orE, notE, callE, tixE, tsetS, sliceE, optI, methE, seqI, rangeI, RE.bind_ok, RE.bindS, RE.of_some, RE.of_none, List.map_cons, List.map_nil, List.length_cons, List.length_nil, List.replicate, List.cons_append, List.nil_append, List.getElem?_cons_zero, List.getElem?_cons_succ, List.set_cons_zero, List.set_cons_succ, if_true, if_false, Nat.zero_add, Nat.reduceAdd, Nat.reduceSub, decide_true, decide_false, Bool.false_eq_true, Option.map_some, Option.bind_some, ix_pic0 h1, len_row (r := r) (by omega), h2, range1_ok (i := (w : Int)) (by omega) (by omega)]
  rw [forS_eq ei]
  obtain ⟨env', tp2, e2, rfl, x, rfl⟩ := forL_inv (i := 5) (tp := tp) (env := [some (picD p), some (.int l), a2, some (.int i), some (.str ""), a5]) (items := rangeL 0 (w : Int)) (body := lspotB)
    (fun n env tp' => tp' = tp ∧ ∃ x : Option D, env = [some (picD p), some (.int l), a2, some (.int i), some (.str (rowS ((List.range n).map fun j => cellP h p l i j))), x]) 0
    ⟨rfl, a5, by rw [str_empty]; rfl⟩ (fun j d env tp' hj hI => by
      obtain ⟨rfl, x, rfl⟩ := hI
      obtain ⟨rfl, hjw⟩ := rangeL_get hj
      rw [Nat.zero_add]
      refine ⟨_, tp', ?_, rfl, some (.int j), rfl⟩
      have es := lsign_ok k (l := l) hi hjw tp' a2 (some (.str (rowS ((List.range j).map fun j => cellP h p l i j))))
      have ea := add_row (a := (List.range j).map fun j => cellP h p l i j) (b := [cellP h p l i j]) (by simp; omega)
      simp -implicitDefEqProofs only [lspotB, defD, retR, seqS, ifS, setS, retS, skipS, dropS, parS, setAll, vE, cE, binE, chainE, callB, consA, nilA, tupE, lstE, boolE, isB, notT, orT, andT, andE, orE, notE, callE, tixE, tsetS, sliceE, optI, methE, seqI, rangeI, RE.bind_ok, RE.bindS, RE.of_some, RE.of_none, List.map_cons, List.map_nil, List.length_cons, List.length_nil, List.replicate, List.cons_append, List.nil_append, List.getElem?_cons_zero, List.getElem?_cons_succ, List.set_cons_zero, List.set_cons_succ, if_true, if_false, Nat.zero_add, Nat.reduceAdd, Nat.reduceSub, decide_true, decide_false, Bool.false_eq_true, Option.map_some, Option.bind_some, es, ea]
      rw [List.range_succ, List.map_append]; rfl)
  rw [rangeL_len, Nat.zero_add] at e2
  exact ⟨x, e2⟩
theorem lrows_ok {h w : Nat} {p : Pic} (k : PicOk h w p) {l : Nat} (tp : List D) : ∃ x3 x4 x5, forS lrowI t1 [3] lrowB [some (picD p), some (.int l), some (.lst []), none, none, none] tp = .nx [some (picD p), some (.int l), some (.lst ((lineP h w p l).map fun r => .str (rowS r))), x3, x4, x5] tp := by
  have h30 := k.h30
  have ei : lrowI [some (picD p), some (.int l), some (.lst []), none, none, none] tp = .ok (rangeL 0 (h : Int)) tp := by
    simp -implicitDefEqProofs only [lrowI, defD, retR, seqS, ifS, setS, retS, skipS, dropS, parS, setAll, vE, cE, binE, chainE, callB, consA, nilA, tupE, lstE, boolE, isB, notT, orT, andT, andE, orE, notE, callE, tixE, tsetS, sliceE, optI, methE, seqI, rangeI, RE.bind_ok, RE.bindS, RE.of_some, RE.of_none, List.map_cons, List.map_nil, List.length_cons, List.length_nil, List.replicate, List.cons_append, List.nil_append, List.getElem?_cons_zero, List.getElem?_cons_succ, List.set_cons_zero, List.set_cons_succ, if_true, if_false, Nat.zero_add, Nat.reduceAdd, Nat.reduceSub, decide_true, decide_false, Bool.false_eq_true, Option.map_some, Option.bind_some, len_pic, k.len, range1_ok (i := (h : Int)) (by omega) (by omega)]
  rw [forS_eq ei]
  obtain ⟨env', tp2, e2, rfl, x3, x4, x5, rfl⟩ := forL_inv (i := 3) (tp := tp) (env := [some (picD p), some (.int l), some (.lst []), none, none, none]) (items := rangeL 0 (h : Int)) (body := lrowB)
    (fun n env tp' => tp' = tp ∧ ∃ x3 x4 x5 : Option D, env = [some (picD p), some (.int l), some (.lst (((List.range n).map fun i => (List.range w).map fun j => cellP h p l i j).map fun r => .str (rowS r))), x3, x4, x5]) 0
    ⟨rfl, none, none, none, rfl⟩ (fun i d env tp' hj hI => by
      obtain ⟨rfl, x3, x4, x5, rfl⟩ := hI
      obtain ⟨rfl, hi⟩ := rangeL_get hj
      rw [Nat.zero_add]
      obtain ⟨x, es⟩ := lspots_ok k (l := l) hi tp' (some (.lst (((List.range i).map fun i => (List.range w).map fun j => cellP h p l i j).map fun r => .str (rowS r)))) x5
      have eq := appS_ok (i := 2) (m := vE 4) (tp := tp') (tp1 := tp') (env := [some (picD p), some (.int l), some (.lst (((List.range i).map fun i => (List.range w).map fun j => cellP h p l i j).map fun r => .str (rowS r))), some (.int i), some (.str (rowS ((List.range w).map fun j => cellP h p l i j))), x]) rfl rfl (by rw [List.length_map, List.length_map, List.length_range]; omega)
      refine ⟨_, tp', ?_, rfl, some (.int i), some (.str (rowS ((List.range w).map fun j => cellP h p l i j))), x, rfl⟩
      have e0 : setS 4 (cE (.str "")) [some (picD p), some (.int l), some (.lst (((List.range i).map fun i => (List.range w).map fun j => cellP h p l i j).map fun r => .str (rowS r))), some (.int i), x4, x5] tp' = .nx [some (picD p), some (.int l), some (.lst (((List.range i).map fun i => (List.range w).map fun j => cellP h p l i j).map fun r => .str (rowS r))), some (.int i), some (.str ""), x5] tp' := rfl
      show lrowB [some (picD p), some (.int l), some (.lst (((List.range i).map fun i => (List.range w).map fun j => cellP h p l i j).map fun r => .str (rowS r))), some (.int i), x4, x5] tp' = _
      unfold lrowB
      rw [seqS_nx e0, seqS_nx es, eq, List.range_succ, List.map_append, List.map_append]
      rfl)
  rw [rangeL_len, Nat.zero_add] at e2
  exact ⟨x3, x4, x5, e2⟩
theorem lpaint_ok {h w : Nat} {p : Pic} (k : PicOk h w p) (l : Nat) (tp : List D) : m_law_paint [picD p, .int l] tp = .ok (picD (lineP h w p l)) tp := by
  obtain ⟨x3, x4, x5, e⟩ := lrows_ok k (l := l) tp
  have e0 : setFS 2 (lstE (nilA)) [some (picD p), some (.int l), none, none, none, none] tp = .nx [some (picD p), some (.int l), some (.lst []), none, none, none] tp := by
    unfold setFS
    rw [lstE_ok (ds := []) (tp1 := tp) rfl (by decide)]
    rfl
  show retR (b_law_paint [some (picD p), some (.int l), none, none, none, none] tp) = _
  rw [b_lpaint_eq, seqS_nx e0, seqS_nx e]
  rfl
def linesP (h w : Nat) (p : Pic) (ls : List Nat) : Pic := ls.foldl (lineP h w) p
theorem linesP_ok {h w : Nat} : ∀ (ls : List Nat) {p : Pic}, PicOk h w p → PicOk h w (linesP h w p ls)
  | [], _, k => k
  | l :: ls, _, k => linesP_ok ls (lineP_ok k l)
def linesD (ls : List Nat) : D := .lst (ls.map fun l : Nat => .int (l : Int))
theorem lpainted_loop {h w : Nat} {b : SS} {x1 : Option D} (hb : ∀ (p : Pic) (l : Nat) (tp : List D), PicOk h w p → l < h + w → b [some (picD p), x1, some (.int l)] tp = .nx [some (picD (lineP h w p l)), x1, some (.int l)] tp) :
    ∀ (ls : List Nat) (p : Pic) (x : Option D) (tp : List D), PicOk h w p → (∀ l ∈ ls, l < h + w) → ∃ x', forL t1 [2] b (ls.map fun l : Nat => .int (l : Int)) [some (picD p), x1, x] tp = .nx [some (picD (linesP h w p ls)), x1, x'] tp
  | [], p, x, tp, k, _ => ⟨x, rfl⟩
  | l :: ls, p, x, tp, k, hl => by
    obtain ⟨x', e⟩ := lpainted_loop hb ls (lineP h w p l) (some (.int l)) tp (lineP_ok k l) fun l' h' => hl l' (List.mem_cons_of_mem _ h')
    refine ⟨x', ?_⟩
    have hb' := hb p l tp k (hl l List.mem_cons_self)
    rw [List.map_cons]
    unfold forL t1
    simp only [setAll, List.set_cons_succ, List.set_cons_zero]
    rw [hb']
    exact e
theorem lpainted_ok {h w : Nat} {p : Pic} (k : PicOk h w p) {ls : List Nat} (hl : ∀ l ∈ ls, l < h + w) (tp : List D) : m_law_painted [picD p, linesD ls] tp = .ok (picD (linesP h w p ls)) tp := by
  obtain ⟨x', e⟩ := lpainted_loop (b := setS 0 (callE 2 m_law_paint (consA (vE 0) (consA (vE 2) (nilA))))) (x1 := some (linesD ls)) (fun p l tp k hl => setS_ok (callE_ok (ds := [picD p, .int l]) rfl rfl (lpaint_ok k l tp))) ls p none tp k hl
  have ei : seqI (vE 1) [some (picD p), some (linesD ls), none] tp = .ok (ls.map fun l : Nat => .int (l : Int)) tp := rfl
  show retR (b_law_painted [some (picD p), some (linesD ls), none] tp) = _
  unfold b_law_painted
  rw [seqS_nx ((forS_eq ei).trans e)]
  rfl
end W

set_option Elab.async false
set_option linter.all false
set_option maxRecDepth 100000
set_option maxHeartbeats 1000000
namespace W
open PySem L2 G
theorem taken_nat {tp : List D} {m : Nat} (h : Tape tp) (hm : 1 ≤ m) (hM : m ≤ 2 ^ 30) : ∃ (n : Nat) (tp' : List D), m_law_taken [.tape, .int (m : Int)] tp = .ok (.int (n : Int)) tp' ∧ Tape tp' ∧ n < m := by
  obtain ⟨v, tp', e, t, v0, v1⟩ := taken_ok (m := (m : Int)) h (by omega) (by omega)
  exact ⟨v.toNat, tp', by rw [e]; congr 2; omega, t, by omega⟩
theorem taken_e {tp : List D} {m : Nat} {ms : SE (List D)} {env : DEnv} {tp0 : List D} (h : Tape tp) (hm : 1 ≤ m) (hM : m ≤ 2 ^ 30) (e : ms env tp0 = .ok [.tape, .int (m : Int)] tp) : ∃ (n : Nat) (tp' : List D), callE 2 m_law_taken ms env tp0 = .ok (.int (n : Int)) tp' ∧ Tape tp' ∧ n < m := by
  obtain ⟨n, tp', e1, t, l⟩ := taken_nat h hm hM
  exact ⟨n, tp', callE_ok e rfl e1, t, l⟩
theorem compE_of {T : List D → Prop} {R : D → D → Prop} {mi : SE (List D)} {vs : List Nat} {i : Nat} {m : SE D} {env : DEnv} {tp tp1 : List D} {items : List D} (h1 : mi env tp = .ok items tp1) (ht : T tp1) (hl : items.length ≤ 1000000)
    (h : ∀ d ∈ items, ∀ tp, T tp → ∃ x tp', m ((wipeE env vs).set i (some d)) tp = .ok x tp' ∧ T tp' ∧ R d x) : ∃ xs tp', compE mi vs t1 [i] yesT m env tp = .ok (.lst xs) tp' ∧ T tp' ∧ Paired R items xs := compE_eff h1 ht (small_line hl) h
theorem rangeI_ok {f : List D → Option (List D)} {ms : SE (List D)} {env : DEnv} {tp tp1 : List D} {ds items : List D} (h : ms env tp = .ok ds tp1) (h2 : f ds = some items) : rangeI f ms env tp = .ok items tp1 := by
  unfold rangeI; rw [h]; simp only [RE.bind_ok]; rw [h2]; rfl
/-- lines + columns -/
theorem sides_e {h w : Nat} {p : Pic} (k : PicOk h w p) {i : Nat} {env : DEnv} {tp : List D} (e : env[i]? = some (some (picD p))) : binE addD (callB lenD (consA (vE i) (nilA))) (callB lenD (consA (binE ixD (vE i) (cE (.int 0))) (nilA))) env tp = .ok (.int ((h + w : Nat) : Int)) tp := by
  obtain ⟨r, h1, h2⟩ := k.row0
  have w30 := k.w30
  have ev : vE i env tp = .ok (picD p) tp := by unfold vE; rw [e]
  refine binE_ok (callB_ok (consA_ok ev rfl) (len_pic p)) (callB_ok (consA_ok (binE_ok ev rfl (ix_pic0 h1)) rfl) (len_row (by omega))) ?_
  show some (D.int _) = _
  rw [k.len, h2]
  rfl
theorem len_e {h w : Nat} {p : Pic} (k : PicOk h w p) {i : Nat} {env : DEnv} {tp : List D} (e : env[i]? = some (some (picD p))) : callB lenD (consA (vE i) (nilA)) env tp = .ok (.int (h : Int)) tp := by
  have ev : vE i env tp = .ok (picD p) tp := by unfold vE; rw [e]
  have := callB_ok (consA_ok ev (rfl : nilA env tp = .ok [] tp)) (len_pic p)
  rw [k.len] at this
  exact this
theorem wide_e {h w : Nat} {p : Pic} (k : PicOk h w p) {i : Nat} {env : DEnv} {tp : List D} (e : env[i]? = some (some (picD p))) : callB lenD (consA (binE ixD (vE i) (cE (.int 0))) (nilA)) env tp = .ok (.int (w : Int)) tp := by
  obtain ⟨r, h1, h2⟩ := k.row0
  have w30 := k.w30
  have ev : vE i env tp = .ok (picD p) tp := by unfold vE; rw [e]
  have := callB_ok (consA_ok (binE_ok (mb := cE (.int 0)) (tp2 := tp) ev rfl (ix_pic0 h1)) (rfl : nilA env tp = .ok [] tp)) (len_row (r := r) (by omega))
  rw [h2] at this
  exact this
/-! ### deeds -/
theorem deeds_ok {tp : List D} {h w : Nat} {p : Pic} (ht : Tape tp) (k : PicOk h w p) {most : Nat} (hm : most ≤ 1000) : ∃ (ls : List Nat) (tp' : List D), m_law_deeds [.tape, picD p, .int (most : Int)] tp = .ok (linesD ls) tp' ∧ Tape tp' ∧ ls.length ≤ most ∧ ∀ l ∈ ls, l < h + w := by
  have h30 := k.h30
  have w30 := k.w30
  have h1 := k.h1
  obtain ⟨n, tp1, e1, t1', hn⟩ := taken_e (m := most + 1) (ms := consA (vE 0) (consA (binE addD (vE 2) (cE (.int 1))) (nilA))) (env := [some .tape, some (picD p), some (.int (most : Int)), none]) (tp0 := tp) ht (by omega) (by omega) rfl
  have ei : rangeI range1D (consA (callE 2 m_law_taken (consA (vE 0) (consA (binE addD (vE 2) (cE (.int 1))) (nilA)))) (nilA)) [some .tape, some (picD p), some (.int (most : Int)), none] tp = .ok (rangeL 0 (n : Int)) tp1 := by
    exact rangeI_ok (consA_ok e1 rfl) (range1_ok (by omega) (by omega))
  obtain ⟨xs, tp2, e2, t2, pr⟩ := compE_of (T := Tape) (R := fun d x => ∃ l : Nat, x = .int (l : Int) ∧ l < h + w) (vs := [3]) (i := 3) (m := callE 2 m_law_taken (consA (vE 0) (consA (binE addD (callB lenD (consA (vE 1) (nilA))) (callB lenD (consA (binE ixD (vE 1) (cE (.int 0))) (nilA)))) (nilA)))) ei t1' (by rw [rangeL_len]; omega)
    (fun d hd tp3 t3 => by
      obtain ⟨l, tp4, e4, t4, l4⟩ := taken_e (m := h + w) (ms := consA (vE 0) (consA (binE addD (callB lenD (consA (vE 1) (nilA))) (callB lenD (consA (binE ixD (vE 1) (cE (.int 0))) (nilA)))) (nilA))) (env := (wipeE [some .tape, some (picD p), some (.int (most : Int)), none] [3]).set 3 (some d)) (tp0 := tp3) t3 (by omega) (by omega) (consA_ok rfl (consA_ok (sides_e k rfl) rfl))
      exact ⟨_, tp4, e4, t4, l, rfl, l4⟩)
  obtain ⟨ls, rfl, hl, hall⟩ := paired_allP (f := fun l : Nat => D.int (l : Int)) (P := fun l => l < h + w) (fun x y hh => hh) pr
  rw [rangeL_len] at hl
  refine ⟨ls, tp2, ?_, t2, by omega, hall⟩
  show retR (b_law_deeds [some .tape, some (picD p), some (.int (most : Int)), none] tp) = _
  unfold b_law_deeds
  rw [retS_ok e2]
  rfl
/-! ### mixed -/
theorem appPop_z {i j : Nat} {m : SE D} {env : DEnv} {tp tp1 : List D} {ds es : List D} {z : Int} {y : D} (h1 : env[i]? = some (some (.lst ds))) (h2 : env[j]? = some (some (.lst es))) (h3 : m env tp = .ok (.int z) tp1) (hz : 0 ≤ z) (h4 : es[z.toNat]? = some y) (h5 : ds.length < 1000000) (h6 : es.length ≤ 1000000) :
    appPopS i j m env tp = .nx ((env.set j (some (.lst (es.eraseIdx z.toNat)))).set i (some (.lst (ds ++ [y])))) tp1 := by
  have hq : z.toNat < es.length := (List.getElem?_eq_some_iff.mp h4).1
  have c : (decide (-(2 ^ 63) ≤ z) && (decide (z < 2 ^ 63) && decide (ds.length < sizeLine))) = true := by
    have a1 : -(2 ^ 63) ≤ z := by omega
    have a2 : z < 2 ^ 63 := by omega
    have a3 : ds.length < sizeLine := small_line (n := ds.length + 1) h5
    rw [decide_eq_true a1, decide_eq_true a2, decide_eq_true a3]; rfl
  have cx : ixN es.length z = some z.toNat := by
    unfold ixN
    rw [if_pos hz, if_pos (by omega)]
  unfold appPopS
  rw [h1, h2]
  simp -implicitDefEqProofs only []
  rw [h3]
  simp -implicitDefEqProofs only [RE.bindS]
  rw [if_pos c, cx]
  simp -implicitDefEqProofs only []
  rw [h4]
theorem appPop_ok {i j : Nat} {m : SE D} {env : DEnv} {tp tp1 : List D} {ds es : List D} {q : Nat} {y : D} (h1 : env[i]? = some (some (.lst ds))) (h2 : env[j]? = some (some (.lst es))) (h3 : m env tp = .ok (.int (q : Int)) tp1) (h4 : es[q]? = some y) (h5 : ds.length < 1000000) (h6 : es.length ≤ 1000000) :
    appPopS i j m env tp = .nx ((env.set j (some (.lst (es.eraseIdx q)))).set i (some (.lst (ds ++ [y])))) tp1 := by
  have e : ((q : Int)).toNat = q := Int.toNat_natCast q
  have := appPop_z (z := (q : Int)) h1 h2 h3 (by omega) (by rw [e]; exact h4) h5 h6
  rw [e] at this
  exact this
theorem perm_erase {α : Type} : ∀ (es : List α) (q : Nat) (y : α), es[q]? = some y → (y :: es.eraseIdx q).Perm es
  | [], q, y, h => by simp at h
  | e :: es, 0, y, h => by simp at h; subst h; exact List.Perm.refl _
  | e :: es, q + 1, y, h => by
    have h' : es[q]? = some y := by simpa using h
    show (y :: e :: es.eraseIdx q).Perm (e :: es)
    exact (List.Perm.swap _ _ _).trans ((perm_erase es q y h').cons _)
theorem mixed_ok {tp : List D} {ds : List D} (ht : Tape tp) (hl : ds.length ≤ 10000) : ∃ (xs : List D) (tp' : List D), m_law_mixed [.tape, .lst ds] tp = .ok (.lst xs) tp' ∧ Tape tp' ∧ xs.Perm ds := by
  have e0 : parS [2, 3] (consA (callB listD (consA (vE 1) (nilA))) (consA (lstE (nilA)) (nilA))) [some .tape, some (.lst ds), none, none, none] tp = .nx [some .tape, some (.lst ds), some (.lst ds), some (.lst []), none] tp := by
    unfold parS
    rw [consA_ok (callB_ok (consA_ok rfl rfl) rfl) (consA_ok (lstE_ok (ds := []) rfl (by decide)) rfl)]
    rfl
  have ei : rangeI range1D (consA (callB lenD (consA (vE 2) (nilA))) (nilA)) [some .tape, some (.lst ds), some (.lst ds), some (.lst []), none] tp = .ok (rangeL 0 (ds.length : Int)) tp := by
    exact rangeI_ok (consA_ok (callB_ok (consA_ok rfl rfl) rfl) rfl) (range1_ok (by omega) (by omega))
  obtain ⟨env', tp2, e2, t2, left, found, x, hle, hp, rfl⟩ := forL_inv (i := 4) (tp := tp) (env := [some .tape, some (.lst ds), some (.lst ds), some (.lst []), none]) (items := rangeL 0 (ds.length : Int)) (body := appPopS 3 2 (callE 2 m_law_taken (consA (vE 0) (consA (callB lenD (consA (vE 2) (nilA))) (nilA)))))
    (fun n env tp' => Tape tp' ∧ ∃ (left found : List D) (x : Option D), left.length + n = ds.length ∧ (found ++ left).Perm ds ∧ env = [some .tape, some (.lst ds), some (.lst left), some (.lst found), x]) 0
    ⟨ht, ds, [], none, by omega, by rw [List.nil_append], rfl⟩ (fun i d env tp' hj hI => by
      obtain ⟨tt, left, found, x, hle, hp, rfl⟩ := hI
      obtain ⟨_, hi⟩ := rangeL_get hj
      obtain ⟨q, tp3, e3, t3, hq⟩ := taken_e (m := left.length) (ms := consA (vE 0) (consA (callB lenD (consA (vE 2) (nilA))) (nilA))) (env := [some .tape, some (.lst ds), some (.lst left), some (.lst found), some d]) (tp0 := tp') tt (by omega) (by omega) rfl
      have hf : found.length + left.length = ds.length := by rw [← hp.length_eq, List.length_append]
      refine ⟨_, tp3, appPop_ok (ds := found) (es := left) (y := left[q]) rfl rfl e3 (List.getElem?_eq_getElem hq) (by omega) (by omega), t3, left.eraseIdx q, found ++ [left[q]], some d, ?_, ?_, rfl⟩
      · rw [List.length_eraseIdx, if_pos hq]; omega
      · rw [List.append_assoc]
        exact ((perm_erase left q _ (List.getElem?_eq_getElem hq)).append_left found).trans hp)
  rw [rangeL_len, Nat.zero_add] at hle
  have : left = [] := List.eq_nil_of_length_eq_zero (by omega)
  subst this
  rw [List.append_nil] at hp
  refine ⟨found, tp2, ?_, t2, hp⟩
  show retR (b_law_mixed [some .tape, some (.lst ds), none, none, none] tp) = _
  unfold b_law_mixed
  rw [seqS_nx e0, seqS_nx ((forS_eq ei).trans e2)]
  rfl
end W

set_option Elab.async false
set_option linter.all false
set_option maxRecDepth 100000
set_option maxHeartbeats 1000000
namespace W
open PySem L2 G
/-! ### a picture drawn -/
theorem list_nats {n : Nat} {xs : List D} (hp : xs.Perm (rangeL 0 (n : Int))) : ∃ ls : List Nat, xs = ls.map (fun l : Nat => D.int (l : Int)) ∧ ls.Perm (List.range n) := by
  have e : rangeL 0 (n : Int) = (List.range n).map (fun l : Nat => D.int (l : Int)) := by
    unfold rangeL
    rw [Int.sub_zero, Int.toNat_natCast]
    refine List.map_congr_left fun a _ => ?_
    rw [Int.zero_add]
  rw [e] at hp
  have hinj : ∀ xs ys : List D, xs.Perm ys → ∀ ls : List Nat, ys = ls.map (fun l : Nat => D.int (l : Int)) → ∃ ks : List Nat, xs = ks.map (fun l : Nat => D.int (l : Int)) ∧ ks.Perm ls := by
    intro xs ys h
    induction h with
    | nil => intro ls h; cases ls with
      | nil => exact ⟨[], rfl, .refl _⟩
      | cons a as => cases h
    | cons x h ih => intro ls h; cases ls with
      | nil => cases h
      | cons a as =>
        rw [List.map_cons] at h
        cases h
        obtain ⟨ks, rfl, p⟩ := ih as rfl
        exact ⟨a :: ks, rfl, p.cons a⟩
    | swap x y l => intro ls h; match ls, h with
      | [], h => cases h
      | [a], h => cases h
      | a :: b :: as, h =>
        rw [List.map_cons, List.map_cons] at h
        cases h
        exact ⟨b :: a :: as, rfl, .swap _ _ _⟩
    | trans h1 h2 ih1 ih2 =>
      intro ls h
      obtain ⟨ks, rfl, p⟩ := ih2 ls h
      obtain ⟨js, rfl, q⟩ := ih1 ks rfl
      exact ⟨js, rfl, q.trans p⟩
  exact hinj xs _ hp _ rfl
theorem cRgOk_small {n : Nat} (h : n ≤ 1000000) : cRgOk 0 (n : Int) = true := by
  unfold cRgOk
  rw [cRg_small (i := 0) (by decide) (by decide), cRg_small (i := (n : Int)) (by omega) (by omega), Bool.true_and, Bool.true_and]
  exact decide_eq_true (by omega)
theorem rg1E_ok {k : List D → D} {ma : SE D} {env : DEnv} {tp tp1 : List D} {n : Nat} (h : ma env tp = .ok (.int (n : Int)) tp1) (hn : n ≤ 1000000) : rg1E k ma env tp = .ok (k (rangeL 0 (n : Int))) tp1 := by
  have := cRgOk_small hn
  generalize (n : Int) = z at *
  unfold rg1E
  rw [h]
  simp -implicitDefEqProofs only [RE.bind_ok]
  rw [if_pos this]
theorem parS2_ok {i j : Nat} {ms : SE (List D)} {env : DEnv} {tp tp1 : List D} {a b : D} (h : ms env tp = .ok [a, b] tp1) (hi : i < env.length) (hj : j < env.length) : parS [i, j] ms env tp = .nx ((env.set i (some a)).set j (some b)) tp1 := by
  unfold parS
  rw [h]
  simp only [RE.bindS]
  rw [if_pos (by simp [hi, hj])]
  rfl
theorem eqI_e {i : Nat} {k c : Nat} {env : DEnv} {tp : List D} (e : env[i]? = some (some (.int (k : Int)))) : boolE (binE eqD (vE i) (cE (.int (c : Int)))) env tp = .ok (decide (k = c)) tp := by
  have ev : vE i env tp = .ok (.int (k : Int)) tp := by unfold vE; rw [e]
  refine boolE_ok (binE_ok (mb := cE (.int (c : Int))) (tp2 := tp) ev rfl ?_)
  rw [eqD_int]
  by_cases q : k = c
  · rw [decide_eq_true q, decide_eq_true (by omega)]
  · rw [decide_eq_false q, decide_eq_false (by omega)]
theorem picture_ok {tp : List D} {most : Nat} (ht : Tape tp) (m1 : 1 ≤ most) (m30 : most ≤ 30) : ∃ (h w : Nat) (p : Pic) (tp' : List D), m_law_picture [.tape, .int (most : Int)] tp = .ok (picD p) tp' ∧ Tape tp' ∧ PicOk h w p ∧ h ≤ most ∧ w ≤ most := by
  obtain ⟨a, tp1, e1, t1', ha⟩ := taken_e (m := most) (ms := consA (vE 0) (consA (vE 1) (nilA))) (env := [some .tape, some (.int (most : Int)), none, none, none, none]) (tp0 := tp) ht m1 (by omega) rfl
  obtain ⟨b, tp2, e2, t2, hb⟩ := taken_e (m := most) (ms := consA (vE 0) (consA (vE 1) (nilA))) (env := [some .tape, some (.int (most : Int)), none, none, none, none]) (tp0 := tp1) t1' m1 (by omega) rfl
  have a1 : addD (.int 1) (.int (a : Int)) = some (.int ((a + 1 : Nat) : Int)) := by show some (D.int (1 + (a : Int))) = _; congr 2; omega
  have b1 : addD (.int 1) (.int (b : Int)) = some (.int ((b + 1 : Nat) : Int)) := by show some (D.int (1 + (b : Int))) = _; congr 2; omega
  have s1 := parS2_ok (i := 2) (j := 3) (consA_ok (binE_ok (ma := cE (.int 1)) (tp1 := tp) rfl e1 a1) (consA_ok (binE_ok (ma := cE (.int 1)) (tp1 := tp1) rfl e2 b1) (rfl : nilA _ tp2 = .ok [] tp2))) (by simp) (by simp)
  obtain ⟨p, tp3, e3, t3, k⟩ := any_ok (h := a + 1) (w := b + 1) t2 (by omega) (by omega) (by omega) (by omega)
  have e3' : callE 3 m_law_any (consA (vE 0) (consA (vE 2) (consA (vE 3) (nilA)))) [some .tape, some (.int (most : Int)), some (.int ((a + 1 : Nat) : Int)), some (.int ((b + 1 : Nat) : Int)), none, none] tp2 = .ok (picD p) tp3 := callE_ok rfl rfl e3
  obtain ⟨c, tp4, e4, t4, hc⟩ := taken_e (m := 4) (ms := consA (vE 0) (consA (cE (.int 4)) (nilA))) (env := [some .tape, some (.int (most : Int)), some (.int ((a + 1 : Nat) : Int)), some (.int ((b + 1 : Nat) : Int)), none, none]) (tp0 := tp3) t3 (by omega) (by omega) rfl
  have s2 := parS2_ok (i := 4) (j := 5) (consA_ok e3' (consA_ok e4 (rfl : nilA _ tp4 = .ok [] tp4))) (by simp) (by simp)
  have g0 := eqI_e (i := 5) (k := c) (c := 0) (env := [some .tape, some (.int (most : Int)), some (.int ((a + 1 : Nat) : Int)), some (.int ((b + 1 : Nat) : Int)), some (picD p), some (.int (c : Int))]) (tp := tp4) rfl
  have g1 := eqI_e (i := 5) (k := c) (c := 1) (env := [some .tape, some (.int (most : Int)), some (.int ((a + 1 : Nat) : Int)), some (.int ((b + 1 : Nat) : Int)), some (picD p), some (.int (c : Int))]) (tp := tp4) rfl
  have ab : addD (.int ((a + 1 : Nat) : Int)) (.int ((b + 1 : Nat) : Int)) = some (.int ((a + 1 + (b + 1) : Nat) : Int)) := rfl
  have hm := binE_ok (f := addD) (ma := vE 2) (mb := vE 3) (env := [some .tape, some (.int (most : Int)), some (.int ((a + 1 : Nat) : Int)), some (.int ((b + 1 : Nat) : Int)), some (picD p), some (.int (c : Int))]) (tp := tp4) (tp1 := tp4) (tp2 := tp4) rfl rfl ab
  by_cases c0 : c = 0
  · rw [decide_eq_true c0] at g0
    refine ⟨_, _, p, tp4, ?_, t4, k, by omega, by omega⟩
    show retR (b_law_picture [some .tape, some (.int (most : Int)), none, none, none, none] tp) = _
    unfold b_law_picture
    rw [seqS_nx s1]
    refine (congrArg retR (seqS_nx s2)).trans ?_
    refine (congrArg retR (seqS_rt ((ifS_t g0).trans (retS_ok rfl)))).trans ?_
    rfl
  rw [decide_eq_false c0] at g0
  by_cases c1 : c = 1
  · rw [decide_eq_true c1] at g1
    obtain ⟨ls, tp5, e5, t5, _, hls⟩ := deeds_ok t4 k (most := a + 1 + (b + 1)) (by omega)
    have e6 := lpainted_ok k hls tp5
    refine ⟨_, _, _, tp5, ?_, t5, linesP_ok ls k, by omega, by omega⟩
    show retR (b_law_picture [some .tape, some (.int (most : Int)), none, none, none, none] tp) = _
    unfold b_law_picture
    rw [seqS_nx s1]
    refine (congrArg retR (seqS_nx s2)).trans ?_
    refine (congrArg retR (seqS_nx ((ifS_f g0).trans rfl))).trans ?_
    refine (congrArg retR (seqS_rt ((ifS_t g1).trans (retS_ok (callE_ok (consA_ok rfl (consA_ok (callE_ok (consA_ok rfl (consA_ok rfl (consA_ok hm rfl))) rfl e5) rfl)) rfl e6))))).trans ?_
    rfl
  · rw [decide_eq_false c1] at g1
    obtain ⟨xs, tp5, e5, t5, hp⟩ := mixed_ok (ds := rangeL 0 ((a + 1 + (b + 1) : Nat) : Int)) t4 (by rw [rangeL_len]; omega)
    obtain ⟨ls, rfl, hpl⟩ := list_nats hp
    have hls : ∀ l ∈ ls, l < a + 1 + (b + 1) := fun l hl => List.mem_range.mp (hpl.mem_iff.mp hl)
    have e6 := lpainted_ok k hls tp5
    refine ⟨_, _, _, tp5, ?_, t5, linesP_ok ls k, by omega, by omega⟩
    show retR (b_law_picture [some .tape, some (.int (most : Int)), none, none, none, none] tp) = _
    unfold b_law_picture
    rw [seqS_nx s1]
    refine (congrArg retR (seqS_nx s2)).trans ?_
    refine (congrArg retR (seqS_nx ((ifS_f g0).trans rfl))).trans ?_
    refine (congrArg retR (seqS_nx ((ifS_f g1).trans rfl))).trans ?_
    refine (congrArg retR (retS_ok (callE_ok (consA_ok rfl (consA_ok (callE_ok (consA_ok rfl (consA_ok (rg1E_ok hm (by omega)) rfl)) rfl e5) rfl)) rfl e6))).trans ?_
    rfl
end W

set_option Elab.async false
set_option linter.all false
set_option maxRecDepth 100000
set_option maxHeartbeats 1000000
namespace W
open PySem L2 G
/-! ### the program's guards -/
theorem compE_all {mi : SE (List D)} {vs : List Nat} {i : Nat} {m : SE D} {env : DEnv} {tp tp1 : List D} {items : List D} (h1 : mi env tp = .ok items tp1) (hl : items.length ≤ 1000000) (h : ∀ d ∈ items, m ((wipeE env vs).set i (some d)) tp1 = .ok (.bl true) tp1) : callB allD (consA (compE mi vs t1 [i] yesT m) (nilA)) env tp = .ok (.bl true) tp1 := by
  have e := compE_map (vs := vs) (i := i) (m := m) (g := fun _ => .bl true) h1 (small_line hl) h
  refine callB_ok (consA_ok e rfl) ?_
  have q : items.map (fun _ => D.bl true) = (items.map fun _ => true).map D.bl := by rw [List.map_map]; rfl
  show (unB (items.map fun _ => D.bl true)).map (fun bs => D.bl (bs.all id)) = _
  rw [q, unB_map]
  have : (items.map fun _ => true).all id = true := by simp
  show some (D.bl ((items.map fun _ => true).all id)) = _
  rw [this]
theorem chainE_ok {f g : D → D → Option D} {ma mb mc : SE D} {env : DEnv} {tp tp1 tp2 tp3 : List D} {d e c z : D} (h1 : ma env tp = .ok d tp1) (h2 : mb env tp1 = .ok e tp2) (h3 : f d e = some (.bl true)) (h4 : mc env tp2 = .ok c tp3) (h5 : g e c = some z) : chainE f g ma mb mc env tp = .ok z tp3 := by
  unfold chainE; rw [h1]; simp only [RE.bind_ok]; rw [h2]; simp only [RE.bind_ok]; rw [h3]; simp only; rw [h4]; simp only [RE.bind_ok]; rw [h5]; rfl
theorem leD_t {a b : Int} (h : a ≤ b) : leD (.int a) (.int b) = some (.bl true) := by
  show some (D.bl (decide (a ≤ b))) = _
  rw [decide_eq_true h]
theorem seqD_pic (p : Pic) : seqD (picD p) = some (p.map fun r => D.str (rowS r)) := rfl
theorem seqD_row (r : Row) : seqD (.str (rowS r)) = some (r.map fun b => D.str (rowS [b])) := by
  show some ((rowS r).cps.toList.map fun c => D.str ⟨#[c]⟩) = _
  rw [row_toList, List.map_map]
  rfl
theorem seqI_ok {m : SE D} {env : DEnv} {tp tp1 : List D} {d : D} {xs : List D} (h : m env tp = .ok d tp1) (h2 : seqD d = some xs) : seqI m env tp = .ok xs tp1 := by
  unfold seqI; rw [h]; simp only [RE.bind_ok]; rw [h2]; rfl
theorem in_signs (b : Bool) : inD (.str (rowS [b])) (.tup [.str "#", .str "."]) = some (.bl true) := by cases b <;> rfl
theorem PicOk.len_small {h w : Nat} {p : Pic} (k : PicOk h w p) : p.length ≤ 1000000 := by rw [k.len]; have := k.h30; omega
theorem is_picture_ok {h w : Nat} {p : Pic} (k : PicOk h w p) (tp : List D) : m_is_picture [picD p] tp = .ok (.bl true) tp := by
  have h30 := k.h30
  have h1 := k.h1
  have w30 := k.w30
  have w1 := k.w1
  have hl : p.length ≤ 1000000 := by rw [k.len]; omega
  have c1 : chainE leD leD (cE (.int 1)) (callB lenD (consA (vE 0) (nilA))) (cE (.int 30)) [some (picD p), none, none] tp = .ok (.bl true) tp :=
    chainE_ok rfl (len_e k rfl) (leD_t (by omega)) rfl (leD_t (by omega))
  have c2 : chainE leD leD (cE (.int 1)) (callB lenD (consA (binE ixD (vE 0) (cE (.int 0))) (nilA))) (cE (.int 30)) [some (picD p), none, none] tp = .ok (.bl true) tp :=
    chainE_ok rfl (wide_e k rfl) (leD_t (by omega)) rfl (leD_t (by omega))
  have ei : seqI (vE 0) [some (picD p), none, none] tp = .ok (p.map fun r => D.str (rowS r)) tp := rfl
  have a1 := compE_all (vs := [1]) (i := 1) (m := callB isiD (consA (vE 1) (consA (cE (.ty "str")) (nilA)))) ei (by rw [List.length_map]; exact hl) fun d hd => by
    obtain ⟨r, _, rfl⟩ := List.mem_map.mp hd
    rfl
  have a2 := compE_all (vs := [1]) (i := 1) (m := andE (binE eqD (callB lenD (consA (vE 1) (nilA))) (callB lenD (consA (binE ixD (vE 0) (cE (.int 0))) (nilA)))) (callB allD (consA (compE (seqI (vE 1)) [2] t1 [2] (yesT) (binE inD (vE 2) (tupE (consA (cE (.str "#")) (consA (cE (.str ".")) (nilA)))))) (nilA)))) ei (by rw [List.length_map]; exact hl) fun d hd => by
    obtain ⟨r, hr, rfl⟩ := List.mem_map.mp hd
    have rl := k.row r hr
    have el : eqD (.int (r.length : Int)) (.int (w : Int)) = some (.bl true) := by rw [eqD_int, rl, decide_eq_true rfl]
    refine (andE_t (binE_ok (callB_ok (consA_ok rfl rfl) (len_row (by omega))) (wide_e k rfl) el)).trans ?_
    refine compE_all (seqI_ok rfl (seqD_row r)) (by rw [List.length_map]; omega) fun d2 hd2 => ?_
    obtain ⟨b, _, rfl⟩ := List.mem_map.mp hd2
    exact binE_ok rfl (tupE_ok rfl (by decide)) (in_signs b)
  show retR (b_is_picture [some (picD p), none, none] tp) = _
  unfold b_is_picture
  refine (congrArg retR (seqS_nx ((ifS_f ((orT_f (notT_ok (boolE_ok (b := true) rfl))).trans (notT_ok (boolE_ok c1)))).trans rfl))).trans ?_
  refine (congrArg retR (seqS_nx ((ifS_f ((orT_f (notT_ok (boolE_ok a1))).trans (notT_ok (boolE_ok c2)))).trans rfl))).trans ?_
  refine (congrArg retR (retS_ok a2)).trans ?_
  rfl
theorem need_picture_ok {h w : Nat} {p : Pic} (k : PicOk h w p) (tp : List D) : m_need_picture [picD p] tp = .ok .non tp := by
  show retR (b_need_picture [some (picD p)] tp) = _
  unfold b_need_picture
  exact congrArg retR ((ifS_f (notT_ok (boolE_ok (callE_ok rfl rfl (is_picture_ok k tp))))).trans rfl)
theorem is_in_ok {a lo hi : Int} (h1 : lo ≤ a) (h2 : a ≤ hi) (tp : List D) : m_is_in [.int a, .int lo, .int hi] tp = .ok (.bl true) tp := by
  show retR (b_is_in [some (.int a), some (.int lo), some (.int hi)] tp) = _
  unfold b_is_in
  exact congrArg retR (retS_ok ((andE_t (callE_ok (d := .bl true) (ds := [.int a]) (tp1 := tp) (tp2 := tp) (ms := consA (vE 0) (nilA)) (m := m_is_int) rfl rfl rfl)).trans (chainE_ok (ma := vE 1) (mb := vE 0) (mc := vE 2) (env := [some (.int a), some (.int lo), some (.int hi)]) (c := .int hi) (tp1 := tp) (tp2 := tp) (tp3 := tp) rfl rfl (leD_t h1) rfl (leD_t h2))))
theorem lines_of_ok {h w : Nat} {p : Pic} (k : PicOk h w p) (tp : List D) : m_lines_of [picD p] tp = .ok (.int ((h + w : Nat) : Int)) tp := by
  show retR (b_lines_of [some (picD p)] tp) = _
  unfold b_lines_of
  exact congrArg retR (retS_ok (sides_e k rfl))
theorem in_line {h w : Nat} {p : Pic} (k : PicOk h w p) {l : Nat} (hl : l < h + w) {env : DEnv} {tp : List D} {i j : Nat} (e0 : env[i]? = some (some (picD p))) (e1 : env[j]? = some (some (.int (l : Int)))) : callE 3 m_is_in (consA (vE j) (consA (cE (.int 0)) (consA (binE subD (callE 1 m_lines_of (consA (vE i) (nilA))) (cE (.int 1))) (nilA)))) env tp = .ok (.bl true) tp := by
  have ev : vE i env tp = .ok (picD p) tp := by unfold vE; rw [e0]
  have ej : vE j env tp = .ok (.int (l : Int)) tp := by unfold vE; rw [e1]
  have es : subD (.int ((h + w : Nat) : Int)) (.int 1) = some (.int (((h + w : Nat) : Int) - 1)) := rfl
  exact callE_ok (consA_ok ej (consA_ok (c := cE (.int 0)) (tp' := tp) rfl (consA_ok (binE_ok (mb := cE (.int 1)) (tp2 := tp) (callE_ok (consA_ok ev rfl) rfl (lines_of_ok k tp)) rfl es) rfl))) rfl (is_in_ok (by omega) (by omega) tp)
/-! ### the program's painting -/
theorem ltD_nat (a b : Nat) : ltD (.int (a : Int)) (.int (b : Int)) = some (.bl (decide (a < b))) := by
  show some (D.bl (decide ((a : Int) < b))) = _
  by_cases h : a < b
  · rw [decide_eq_true h, decide_eq_true (by omega)]
  · rw [decide_eq_false h, decide_eq_false (by omega)]
theorem getD_of {α : Type} {xs : List α} {i : Nat} {x d : α} (h : xs[i]? = some x) : xs.getD i d = x := by rw [List.getD_eq_getElem?_getD, h]; rfl
theorem line_row_law {h w : Nat} {p : Pic} (k : PicOk h w p) {l : Nat} (hl : l < h) : p.take l ++ [List.replicate w true] ++ p.drop (l + 1) = lineP h w p l := by
  have kl := k.len
  refine List.ext_getElem? fun i => ?_
  unfold lineP
  rw [List.getElem?_map]
  by_cases hi : i < h
  · rw [List.getElem?_range hi]
    show _ = some ((List.range w).map fun j => cellP h p l i j)
    by_cases c : l = i
    · subst c
      rw [List.append_assoc, List.getElem?_append_right (by rw [List.length_take]; omega), List.length_take]
      have : l - min l p.length = 0 := by omega
      rw [this]
      show some (List.replicate w true) = _
      congr 1
      refine List.ext_getElem? fun j => ?_
      rw [List.getElem?_map]
      by_cases hj : j < w
      · rw [List.getElem?_range hj, List.getElem?_replicate, if_pos hj]
        unfold cellP
        simp
      · rw [List.getElem?_eq_none (by rw [List.length_replicate]; omega), List.getElem?_eq_none (by rw [List.length_range]; omega)]; rfl
    · obtain ⟨r, h1, h2, h3⟩ := k.get hi
      have e : (p.take l ++ [List.replicate w true] ++ p.drop (l + 1))[i]? = some r := by
        by_cases c2 : i < l
        · rw [List.append_assoc, List.getElem?_append_left (by rw [List.length_take]; omega), List.getElem?_take_of_lt c2, h1]
        · rw [List.getElem?_append_right (by simp; omega)]
          rw [List.getElem?_drop]
          have : l + 1 + (i - (p.take l ++ [List.replicate w true]).length) = i := by simp; omega
          rw [this, h1]
      rw [e]
      congr 1
      refine List.ext_getElem? fun j => ?_
      rw [List.getElem?_map]
      by_cases hj : j < w
      · rw [List.getElem?_range hj]
        have hj' : j < r.length := by omega
        show _ = some (cellP h p l i j)
        unfold cellP
        rw [List.getElem?_eq_getElem hj', if_neg c, if_neg (by omega), h3]
        exact congrArg some (getD_of (List.getElem?_eq_getElem hj')).symm
      · rw [List.getElem?_eq_none (by omega), List.getElem?_eq_none (by rw [List.length_range]; omega)]; rfl
  · rw [List.getElem?_eq_none (by simp; omega), List.getElem?_eq_none (by rw [List.length_range]; omega)]; rfl
theorem line_col_law {h w : Nat} {p : Pic} (k : PicOk h w p) {a : Nat} (ha : a < w) : (p.map fun r => r.take a ++ [false] ++ r.drop (a + 1)) = lineP h w p (h + a) := by
  have kl := k.len
  refine List.ext_getElem? fun i => ?_
  unfold lineP
  rw [List.getElem?_map, List.getElem?_map]
  by_cases hi : i < h
  · obtain ⟨r, h1, h2, h3⟩ := k.get hi
    rw [List.getElem?_range hi, h1]
 
    show some (r.take a ++ [false] ++ r.drop (a + 1)) = some ((List.range w).map fun j => cellP h p (h + a) i j)
    congr 1
    refine List.ext_getElem? fun j => ?_
    rw [List.getElem?_map]
    by_cases hj : j < w
    · have hj' : j < r.length := by omega
      rw [List.getElem?_range hj]
      show _ = some (cellP h p (h + a) i j)
      unfold cellP
      rw [if_neg (by omega), h3]
      by_cases c : j = a
      · subst c
        rw [if_pos rfl, List.append_assoc, List.getElem?_append_right (by rw [List.length_take]; omega), List.length_take]
        have : j - min j r.length = 0 := by omega
        rw [this]; rfl
      · rw [if_neg (by omega), getD_of (List.getElem?_eq_getElem hj')]
        by_cases c2 : j < a
        · rw [List.append_assoc, List.getElem?_append_left (by rw [List.length_take]; omega), List.getElem?_take_of_lt c2, List.getElem?_eq_getElem hj']
        · rw [List.getElem?_append_right (by simp; omega), List.getElem?_drop]
          have : a + 1 + (j - (r.take a ++ [false]).length) = j := by simp; omega
          rw [this, List.getElem?_eq_getElem hj']
    · rw [List.getElem?_eq_none (by simp; omega), List.getElem?_eq_none (by rw [List.length_range]; omega)]; rfl
  · rw [List.getElem?_eq_none (by omega), List.getElem?_eq_none (by rw [List.length_range]; omega)]; rfl
theorem sliceE_ok {m : SE D} {ml mh : SE (Option Int)} {env : DEnv} {tp : List D} {d z : D} {lo hi : Option Int} (h1 : m env tp = .ok d tp) (h2 : ml env tp = .ok lo tp) (h3 : mh env tp = .ok hi tp) (h4 : sliceD d lo hi = some z) : sliceE m ml mh env tp = .ok z tp := by
  unfold sliceE; rw [h1]; simp only [RE.bind_ok]; rw [h2]; simp only [RE.bind_ok]; rw [h3]; simp only [RE.bind_ok]; rw [h4]; rfl
theorem slice_pic_to (p : Pic) (l : Nat) : sliceD (picD p) none (some (l : Int)) = some (picD (p.take l)) := by
  show some (D.tup (cutD (p.map fun r => D.str (rowS r)) none (some (l : Int)))) = _
  rw [cut_to, ← List.map_take]; rfl
theorem slice_pic_from (p : Pic) (l : Nat) : sliceD (picD p) (some ((l + 1 : Nat) : Int)) none = some (picD (p.drop (l + 1))) := by
  show some (D.tup (cutD (p.map fun r => D.str (rowS r)) (some ((l + 1 : Nat) : Int)) none)) = _
  rw [cut_from, ← List.map_drop]; rfl
theorem slice_row_to {r : Row} (h : r.length ≤ 1000000) (l : Nat) : sliceD (.str (rowS r)) none (some (l : Int)) = some (.str (rowS (r.take l))) := by
  show (if (rowS r).length ≤ sizeLine then some (D.str (cutS (rowS r) none (some (l : Int)))) else none) = _
  rw [rowS_len, if_small h, row_cut, cut_to]
theorem slice_row_from {r : Row} (h : r.length ≤ 1000000) (l : Nat) : sliceD (.str (rowS r)) (some ((l + 1 : Nat) : Int)) none = some (.str (rowS (r.drop (l + 1)))) := by
  show (if (rowS r).length ≤ sizeLine then some (D.str (cutS (rowS r) (some ((l + 1 : Nat) : Int)) none)) else none) = _
  rw [rowS_len, if_small h, row_cut, cut_from]
theorem mul_black {w : Nat} (h : w ≤ 1000) : mulD (.str "#") (.int (w : Int)) = some (.str (rowS (List.replicate w true))) := by
  have c : cRep ("#" : Str).length (w : Int) = true := by
    rw [str_black, rowS_len]
    unfold cRep
    have a1 : (0 : Int) ≤ w := by omega
    have a2 : (([true] : Row).length : Int) * (w : Int) ≤ 16777216 := by simp; omega
    have a3 : (w : Int) ≤ 16777216 := by omega
    rw [decide_eq_true a1, decide_eq_true a2, decide_eq_true a3]; rfl
  show (if cRep ("#" : Str).length (w : Int) then some (D.str (Txt.mul "#" (w : Int))) else none) = _
  rw [if_pos c, str_black, mul_row]
theorem add_pic {a b : Pic} (h : a.length + b.length ≤ 1000000) : addD (picD a) (picD b) = some (picD (a ++ b)) := by
  show (if (a.map fun r => D.str (rowS r)).length + (b.map fun r => D.str (rowS r)).length ≤ sizeLine then some (D.tup ((a.map fun r => D.str (rowS r)) ++ b.map fun r => D.str (rowS r))) else none) = _
  rw [List.length_map, List.length_map, if_small h, ← List.map_append]; rfl
theorem painted_line_ok {h w : Nat} {p : Pic} (k : PicOk h w p) {l : Nat} (hl : l < h + w) (tp : List D) : m_painted_line [picD p, .int (l : Int)] tp = .ok (picD (lineP h w p l)) tp := by
  have h30 := k.h30
  have w30 := k.w30
  have kl := k.len
  have c1 : boolE (binE ltD (vE 1) (callB lenD (consA (vE 0) (nilA)))) [some (picD p), some (.int (l : Int)), none, none] tp = .ok (decide (l < h)) tp := boolE_ok (binE_ok rfl (len_e k rfl) (ltD_nat l h))
  show retR (b_painted_line [some (picD p), some (.int (l : Int)), none, none] tp) = _
  unfold b_painted_line
  by_cases hlh : l < h
  · rw [decide_eq_true hlh] at c1
    have e1 := sliceE_ok (m := vE 0) (ml := optI none) (mh := optI (some (vE 1))) (env := [some (picD p), some (.int (l : Int)), none, none]) (tp := tp) rfl rfl rfl (slice_pic_to p l)
    have e2 := tupE_ok (consA_ok (binE_ok (ma := cE (.str "#")) (tp1 := tp) rfl (wide_e (i := 0) (env := [some (picD p), some (.int (l : Int)), none, none]) (tp := tp) k rfl) (mul_black (w := w) (by omega))) (rfl : nilA _ tp = .ok [] tp)) (by simp)
    have e3 := sliceE_ok (m := vE 0) (ml := optI (some (binE addD (vE 1) (cE (.int 1))))) (mh := optI none) (env := [some (picD p), some (.int (l : Int)), none, none]) (tp := tp) rfl rfl rfl (slice_pic_from p l)
    have a1 := add_pic (a := p.take l) (b := [List.replicate w true]) (by simp; omega)
    have a2 := add_pic (a := p.take l ++ [List.replicate w true]) (b := p.drop (l + 1)) (by simp; omega)
    rw [line_row_law k hlh] at a2
    refine (congrArg retR (seqS_rt ((ifS_t c1).trans (retS_ok (binE_ok (binE_ok e1 e2 a1) e3 a2))))).trans ?_
    rfl
  · rw [decide_eq_false hlh] at c1
    obtain ⟨a, rfl⟩ : ∃ a, l = h + a := ⟨l - h, by omega⟩
    have ea : subD (.int ((h + a : Nat) : Int)) (.int (h : Int)) = some (.int (a : Int)) := by show some (D.int (((h + a : Nat) : Int) - (h : Int))) = _; congr 2; omega
    have s2 := setS_ok (i := 2) (binE_ok (f := subD) (ma := vE 1) (env := [some (picD p), some (.int ((h + a : Nat) : Int)), none, none]) (tp := tp) (tp1 := tp) rfl (len_e (i := 0) k rfl) ea)
    have ei : seqI (vE 0) [some (picD p), some (.int ((h + a : Nat) : Int)), some (.int (a : Int)), none] tp = .ok (p.map fun r => D.str (rowS r)) tp := rfl
    have ec : compE (seqI (vE 0)) [3] t1 [3] (yesT) (binE addD (binE addD (sliceE (vE 3) (optI none) (optI (some (vE 2)))) (cE (.str "."))) (sliceE (vE 3) (optI (some (binE addD (vE 2) (cE (.int 1))))) (optI none))) [some (picD p), some (.int ((h + a : Nat) : Int)), some (.int (a : Int)), none] tp = .ok (.lst ((p.map fun r => r.take a ++ [false] ++ r.drop (a + 1)).map fun r => D.str (rowS r))) tp := by
      unfold compE
      rw [ei]
      simp only [RE.bind_ok]
      have ln : (p.map fun r => D.str (rowS r)).length ≤ 1000000 := by rw [List.length_map]; omega
      rw [if_pos (small_line ln)]
      have key : ∀ q : Pic, (∀ r ∈ q, r.length = w) → compL (compTurn1 t1 [3] yesT (binE addD (binE addD (sliceE (vE 3) (optI none) (optI (some (vE 2)))) (cE (.str "."))) (sliceE (vE 3) (optI (some (binE addD (vE 2) (cE (.int 1))))) (optI none))) (wipeE [some (picD p), some (.int ((h + a : Nat) : Int)), some (.int (a : Int)), none] [3])) (q.map fun r => D.str (rowS r)) tp = .ok ((q.map fun r => r.take a ++ [false] ++ r.drop (a + 1)).map fun r => D.str (rowS r)) tp := by
        intro q
        induction q with
        | nil => intro _; rfl
        | cons r q ih =>
          intro hq
          have rl := hq r List.mem_cons_self
          have e1 := sliceE_ok (m := vE 3) (ml := optI none) (mh := optI (some (vE 2))) (env := [some (picD p), some (.int ((h + a : Nat) : Int)), some (.int (a : Int)), some (.str (rowS r))]) (tp := tp) rfl rfl rfl (slice_row_to (r := r) (by omega) a)
          have e3 := sliceE_ok (m := vE 3) (ml := optI (some (binE addD (vE 2) (cE (.int 1))))) (mh := optI none) (env := [some (picD p), some (.int ((h + a : Nat) : Int)), some (.int (a : Int)), some (.str (rowS r))]) (tp := tp) rfl rfl rfl (slice_row_from (r := r) (by omega) a)
          have a1 := add_row (a := r.take a) (b := [false]) (by simp; omega)
          rw [← str_white] at a1
          have a2 := add_row (a := r.take a ++ [false]) (b := r.drop (a + 1)) (by simp; omega)
          have ee := binE_ok (binE_ok (mb := cE (.str ".")) (tp2 := tp) e1 rfl a1) e3 a2
          rw [List.map_cons, List.map_cons, List.map_cons]
          unfold compL
          have et : compTurn1 t1 [3] yesT (binE addD (binE addD (sliceE (vE 3) (optI none) (optI (some (vE 2)))) (cE (.str "."))) (sliceE (vE 3) (optI (some (binE addD (vE 2) (cE (.int 1))))) (optI none))) (wipeE [some (picD p), some (.int ((h + a : Nat) : Int)), some (.int (a : Int)), none] [3]) (.str (rowS r)) tp = .ok (some (.str (rowS (r.take a ++ [false] ++ r.drop (a + 1))))) tp := by
            unfold compTurn1 t1
            simp only [setAll, wipeE, List.set_cons_succ, List.set_cons_zero]
            unfold yesT
            simp only [RE.bind_ok, if_true]
            rw [ee]
            rfl
          rw [et]
          simp only
          rw [ih fun r' hr' => hq r' (List.mem_cons_of_mem _ hr')]
          rfl
      rw [key p k.row]
    rw [line_col_law k (by omega)] at ec
    refine (congrArg retR (seqS_nx ((ifS_f c1).trans rfl))).trans ?_
    refine (congrArg retR (seqS_nx s2)).trans ?_
    refine (congrArg retR (retS_ok (callB_ok (consA_ok ec rfl) rfl))).trans ?_
    rfl
theorem all_painted_ok {h w : Nat} {p : Pic} (k : PicOk h w p) {ls : List Nat} (hl : ∀ l ∈ ls, l < h + w) (tp : List D) : m_all_painted [picD p, linesD ls] tp = .ok (picD (linesP h w p ls)) tp := by
  obtain ⟨x', e⟩ := lpainted_loop (b := setS 0 (callE 2 m_painted_line (consA (vE 0) (consA (vE 2) (nilA))))) (x1 := some (linesD ls)) (fun p l tp k hl => setS_ok (callE_ok (ds := [picD p, .int (l : Int)]) rfl rfl (painted_line_ok k hl tp))) ls p none tp k hl
  have ei : seqI (vE 1) [some (picD p), some (linesD ls), none] tp = .ok (ls.map fun l : Nat => .int (l : Int)) tp := rfl
  show retR (b_all_painted [some (picD p), some (linesD ls), none] tp) = _
  unfold b_all_painted
  rw [seqS_nx ((forS_eq ei).trans e)]
  rfl
theorem are_deeds_ok {h w : Nat} {p : Pic} (k : PicOk h w p) {ls : List Nat} (hl : ∀ l ∈ ls, l < h + w) (hn : ls.length ≤ 1000000) (tp : List D) : m_are_deeds [picD p, linesD ls] tp = .ok (.bl true) tp := by
  have ei : seqI (vE 1) [some (picD p), some (linesD ls), none] tp = .ok (ls.map fun l : Nat => .int (l : Int)) tp := rfl
  have a := compE_all (vs := [2]) (i := 2) (m := callE 3 m_is_in (consA (vE 2) (consA (cE (.int 0)) (consA (binE subD (callE 1 m_lines_of (consA (vE 0) (nilA))) (cE (.int 1))) (nilA))))) ei (by rw [List.length_map]; exact hn) fun d hd => by
    obtain ⟨l, hl', rfl⟩ := List.mem_map.mp hd
    exact in_line k (hl l hl') rfl rfl
  show retR (b_are_deeds [some (picD p), some (linesD ls), none] tp) = _
  unfold b_are_deeds
  exact congrArg retR (retS_ok ((andE_t rfl).trans a))
theorem painted_ok {h w : Nat} {p : Pic} (k : PicOk h w p) {ls : List Nat} (hl : ∀ l ∈ ls, l < h + w) (hn : ls.length ≤ 1000000) (tp : List D) : m_painted [picD p, linesD ls] tp = .ok (picD (linesP h w p ls)) tp := by
  show retR (b_painted [some (picD p), some (linesD ls)] tp) = _
  unfold b_painted
  refine (congrArg retR (seqS_nx (dropS_ok (callE_ok rfl rfl (need_picture_ok k tp))))).trans ?_
  refine (congrArg retR (seqS_nx ((ifS_f (notT_ok (boolE_ok (callE_ok rfl rfl (are_deeds_ok k hl hn tp))))).trans rfl))).trans ?_
  exact congrArg retR (retS_ok (callE_ok rfl rfl (all_painted_ok k hl tp)))
end W

set_option Elab.async false
set_option linter.all false
set_option maxRecDepth 100000
set_option maxHeartbeats 1000000
namespace W
open PySem L2 G
theorem pickI_ok {tp : List D} {a b c : Nat} (ht : Tape tp) : ∃ (m : Nat) (tp' : List D), m_law_pick [.tape, .lst [.int (a : Int), .int (b : Int), .int (c : Int)]] tp = .ok (.int (m : Int)) tp' ∧ Tape tp' ∧ (m = a ∨ m = b ∨ m = c) := by
  obtain ⟨v, tp1, e1, t1', v1⟩ := pick_ok (ds := [.int (a : Int), .int (b : Int), .int (c : Int)]) ht (by simp) (by simp)
  rcases List.mem_cons.mp v1 with q | q
  · subst q; exact ⟨a, tp1, e1, t1', .inl rfl⟩
  rcases List.mem_cons.mp q with q | q
  · subst q; exact ⟨b, tp1, e1, t1', .inr (.inl rfl)⟩
  · have q := List.mem_singleton.mp q
    subst q; exact ⟨c, tp1, e1, t1', .inr (.inr rfl)⟩
theorem eqvAll_refl : ∀ xs : List PyData, (∀ x ∈ xs, PyData.eqv x x = true) → PyData.eqvAll xs xs = true
  | [], _ => rfl
  | x :: xs, h => by
    show (PyData.eqv x x && PyData.eqvAll xs xs) = true
    rw [h x List.mem_cons_self, eqvAll_refl xs fun y hy => h y (List.mem_cons_of_mem _ hy)]; rfl
theorem pdAll_map : ∀ xs : List D, pdAll xs = xs.map D.pd
  | [] => rfl
  | x :: xs => by
    show x.pd :: pdAll xs = _
    rw [pdAll_map xs]; rfl
theorem okq_ints (ls : List Nat) : (linesD ls).okq = true := by
  have hp : ∀ ls : List Nat, PyData.plainAll (pdAll (ls.map fun l : Nat => D.int (l : Int))) = true := by
    intro ls
    induction ls with
    | nil => rfl
    | cons l ls ih => show (true && PyData.plainAll _) = true; rw [ih]; rfl
  have hd : ∀ ls : List Nat, PyData.depthAll (pdAll (ls.map fun l : Nat => D.int (l : Int))) ≤ 10 := by
    intro ls
    induction ls with
    | nil => decide
    | cons l ls ih =>
      show PyData.depthAll (PyData.int (l : Int) :: pdAll (ls.map fun l : Nat => D.int (l : Int))) ≤ 10
      simp only [PyData.depthAll, PyData.depth]
      omega
  unfold D.okq
  have e : (linesD ls).pd = .list (pdAll (ls.map fun l : Nat => D.int (l : Int))) := rfl
  rw [e]
  have h1 : (PyData.list (pdAll (ls.map fun l : Nat => D.int (l : Int)))).plain = true := by
    simp only [PyData.plain]; exact hp ls
  have h2 : (PyData.list (pdAll (ls.map fun l : Nat => D.int (l : Int)))).depth ≤ 60 := by
    have := hd ls
    simp only [PyData.depth]; omega
  rw [h1, decide_eq_true h2]; rfl
theorem eq_lines (ls : List Nat) : eqD (linesD ls) (linesD ls) = some (.bl true) := by
  unfold eqD
  rw [okq_ints ls]
  show some (D.bl (PyData.eqvAll (pdAll (ls.map fun l : Nat => D.int (l : Int))) (pdAll (ls.map fun l : Nat => D.int (l : Int))))) = _
  rw [eqvAll_refl]
  intro x hx
  rw [pdAll_map, List.map_map] at hx
  obtain ⟨l, _, rfl⟩ := List.mem_map.mp hx
  show ((l : Int) == (l : Int)) = true
  simp
end W

set_option Elab.async false
set_option linter.all false
set_option maxRecDepth 100000
set_option maxHeartbeats 1000000
namespace W
open PySem L2 G
/-! ### the last deed at a cell -/
def lastCol (h : Nat) : List Nat → Nat → Nat → Option Bool
  | [], _, _ => none
  | l :: ls, i, j => match lastCol h ls i j with
    | some b => some b
    | none => if l = i then some true else if l = h + j then some false else none
/-- the colour that one deed gives -/
def oneCol (h l i j : Nat) : Option Bool := if l = i then some true else if l = h + j then some false else none
def orO (a b : Option Bool) : Option Bool := match a with
  | some c => some c
  | none => b
theorem lastCol_cons (h l : Nat) (ls : List Nat) (i j : Nat) : lastCol h (l :: ls) i j = orO (lastCol h ls i j) (oneCol h l i j) := rfl
theorem optB_ext : ∀ o o' : Option Bool, o.getD true = o'.getD true → o.getD false = o'.getD false → o = o' := by
  intro o o'
  cases o with
  | none => cases o' with
    | none => intros; rfl
    | some y => cases y <;> intro a b <;> simp at a b
  | some x => cases o' with
    | none => cases x <;> intro a b <;> simp at a b
    | some y => intro a b; simp at a; rw [a]
def cellAt (p : Pic) (i j : Nat) : Bool := (p.getD i []).getD j false
theorem cellAt_line {h w : Nat} (p : Pic) (l : Nat) {i j : Nat} (hi : i < h) (hj : j < w) : cellAt (lineP h w p l) i j = cellP h p l i j := by
  unfold cellAt lineP
  have e1 : ((List.range h).map fun i => (List.range w).map fun j => cellP h p l i j)[i]? = some ((List.range w).map fun j => cellP h p l i j) := by
    rw [List.getElem?_map, List.getElem?_range hi]; rfl
  rw [getD_of e1]
  exact getD_of (by rw [List.getElem?_map, List.getElem?_range hj]; rfl)
theorem cellAt_lines {h w : Nat} : ∀ (ls : List Nat) (p : Pic) {i j : Nat}, i < h → j < w → cellAt (linesP h w p ls) i j = (lastCol h ls i j).getD (cellAt p i j)
  | [], p, i, j, _, _ => rfl
  | l :: ls, p, i, j, hi, hj => by
    show cellAt (linesP h w (lineP h w p l) ls) i j = _
    rw [cellAt_lines ls _ hi hj, cellAt_line p l hi hj]
    rw [lastCol_cons]
    cases lastCol h ls i j with
    | some b => rfl
    | none =>
      show cellP h p l i j = (oneCol h l i j).getD (cellAt p i j)
      unfold cellP cellAt oneCol
      by_cases c1 : l = i
      · rw [if_pos c1, if_pos c1]; rfl
      · rw [if_neg c1, if_neg c1]
        by_cases c2 : l = h + j
        · rw [if_pos c2, if_pos c2]; rfl
        · rw [if_neg c2, if_neg c2]; rfl
theorem pic_ext {h w : Nat} {p q : Pic} (kp : PicOk h w p) (kq : PicOk h w q) (e : ∀ i j, i < h → j < w → cellAt p i j = cellAt q i j) : p = q := by
  refine List.ext_getElem? fun i => ?_
  by_cases hi : i < h
  · obtain ⟨r, h1, h2, h3⟩ := kp.get hi
    obtain ⟨r', h1', h2', h3'⟩ := kq.get hi
    rw [h1, h1']
    congr 1
    refine List.ext_getElem? fun j => ?_
    by_cases hj : j < w
    · have := e i j hi hj
      unfold cellAt at this
      rw [h3, h3', getD_of (List.getElem?_eq_getElem (show j < r.length by omega)), getD_of (List.getElem?_eq_getElem (show j < r'.length by omega))] at this
      rw [List.getElem?_eq_getElem (show j < r.length by omega), List.getElem?_eq_getElem (show j < r'.length by omega), this]
    · rw [List.getElem?_eq_none (by omega), List.getElem?_eq_none (by omega)]
  · rw [List.getElem?_eq_none (by rw [kp.len]; omega), List.getElem?_eq_none (by rw [kq.len]; omega)]
def plainP (h w : Nat) (b : Bool) : Pic := List.replicate h (List.replicate w b)
theorem plainP_ok {h w : Nat} {p : Pic} (k : PicOk h w p) (b : Bool) : PicOk h w (plainP h w b) :=
  ⟨by unfold plainP; simp, fun r hr => by rw [List.eq_of_mem_replicate hr]; simp, k.h1, k.h30, k.w1, k.w30⟩
theorem cellAt_plain {h w i j : Nat} (b : Bool) (hi : i < h) (hj : j < w) : cellAt (plainP h w b) i j = b := by
  unfold cellAt plainP
  have e1 : (List.replicate h (List.replicate w b))[i]? = some (List.replicate w b) := by rw [List.getElem?_replicate, if_pos hi]
  rw [getD_of e1]
  exact getD_of (by rw [List.getElem?_replicate, if_pos hj])
/-- alike at every start -/
def Same2 (h w : Nat) (a b : List Nat) : Prop := ∀ i j, i < h → j < w → lastCol h a i j = lastCol h b i j
theorem same2_all {h w : Nat} {a b : List Nat} (e : Same2 h w a b) {p : Pic} (k : PicOk h w p) : linesP h w p a = linesP h w p b :=
  pic_ext (linesP_ok a k) (linesP_ok b k) fun i j hi hj => by rw [cellAt_lines a p hi hj, cellAt_lines b p hi hj, e i j hi hj]
def sameB (h w : Nat) (a b : List Nat) : Bool := decide (linesP h w (plainP h w true) a = linesP h w (plainP h w true) b) && decide (linesP h w (plainP h w false) a = linesP h w (plainP h w false) b)
theorem sameB_iff {h w : Nat} {a b : List Nat} {p : Pic} (k : PicOk h w p) : sameB h w a b = true ↔ Same2 h w a b := by
  unfold sameB
  rw [Bool.and_eq_true, decide_eq_true_iff, decide_eq_true_iff]
  refine ⟨fun ⟨h1, h2⟩ i j hi hj => ?_, fun e => ⟨same2_all e (plainP_ok k true), same2_all e (plainP_ok k false)⟩⟩
  have e1 := cellAt_lines a (plainP h w true) hi hj
  rw [h1, cellAt_lines b _ hi hj, cellAt_plain true hi hj] at e1
  have e2 := cellAt_lines a (plainP h w false) hi hj
  rw [h2, cellAt_lines b _ hi hj, cellAt_plain false hi hj] at e2
  exact optB_ext _ _ e1.symm e2.symm
theorem lastCol_app {h : Nat} {i j : Nat} : ∀ (a b : List Nat), lastCol h (a ++ b) i j = orO (lastCol h b i j) (lastCol h a i j)
  | [], b => by show lastCol h b i j = orO _ none; cases lastCol h b i j <;> rfl
  | l :: a, b => by
    rw [List.cons_append, lastCol_cons, lastCol_cons, lastCol_app a b]
    cases lastCol h b i j <;> rfl
theorem mem_eq {a b : Nat} {xs : List Nat} (z : a = b) (h : a ∈ xs) : b ∈ xs := z ▸ h
theorem oneCol_none {h l i j : Nat} : oneCol h l i j = none ↔ l ≠ i ∧ l ≠ h + j := by
  unfold oneCol
  by_cases c1 : l = i
  · rw [if_pos c1]; simp [c1]
  · rw [if_neg c1]
    by_cases c2 : l = h + j
    · rw [if_pos c2]; simp [c2]
    · rw [if_neg c2]; simp [c1, c2]
theorem lastCol_none {h : Nat} {i j : Nat} : ∀ (a : List Nat), lastCol h a i j = none ↔ i ∉ a ∧ h + j ∉ a
  | [] => by simp [lastCol]
  | l :: a => by
    have ih := lastCol_none (h := h) (i := i) (j := j) a
    rw [lastCol_cons]
    constructor
    · intro q
      cases e : lastCol h a i j with
      | some b => rw [e] at q; cases q
      | none =>
        rw [e] at q
        obtain ⟨n1, n2⟩ := ih.mp e
        obtain ⟨m1, m2⟩ := oneCol_none.mp (show oneCol h l i j = none from q)
        exact ⟨fun z => (List.mem_cons.mp z).elim (fun z => m1 z.symm) n1, fun z => (List.mem_cons.mp z).elim (fun z => m2 z.symm) n2⟩
    · intro ⟨q1, q2⟩
      rw [ih.mpr ⟨fun z => q1 (List.mem_cons_of_mem _ z), fun z => q2 (List.mem_cons_of_mem _ z)⟩]
      exact oneCol_none.mpr ⟨fun z => q1 (z ▸ List.mem_cons_self), fun z => q2 (z ▸ List.mem_cons_self)⟩
/-- a swap of neighbours -/
theorem swap_same {h w : Nat} (pre post : List Nat) (a b : Nat) (ha : a < h + w) (hb : b < h + w) :
    Same2 h w (pre ++ (a :: b :: post)) (pre ++ (b :: a :: post)) ↔ (decide (a < h) = decide (b < h) ∨ a ∈ post ∨ b ∈ post) := by
  have e0 : ∀ i j x y, lastCol h (pre ++ (x :: y :: post)) i j = orO (orO (orO (lastCol h post i j) (oneCol h y i j)) (oneCol h x i j)) (lastCol h pre i j) := fun i j x y => by
    rw [lastCol_app, lastCol_cons, lastCol_cons]
  constructor
  · intro e
    by_cases c : decide (a < h) = decide (b < h)
    · exact .inl c
    by_cases ca : a ∈ post
    · exact .inr (.inl ca)
    by_cases cb : b ∈ post
    · exact .inr (.inr cb)
    exfalso
    by_cases ah : a < h
    · have bh : ¬ b < h := fun z => c (by simp [ah, z])
      have q := e a (b - h) ah (by omega)
      have np : lastCol h post a (b - h) = none := (lastCol_none post).mpr ⟨ca, by rw [show h + (b - h) = b by omega]; exact cb⟩
      have x1 : oneCol h b a (b - h) = some false := by unfold oneCol; rw [if_neg (by omega), if_pos (by omega)]
      have x2 : oneCol h a a (b - h) = some true := by unfold oneCol; rw [if_pos rfl]
      rw [e0, e0, np, x1, x2] at q
      cases q
    · have bh : b < h := Decidable.byContradiction fun z => c (by simp [ah, z])
      have q := e b (a - h) bh (by omega)
      have np : lastCol h post b (a - h) = none := (lastCol_none post).mpr ⟨cb, by rw [show h + (a - h) = a by omega]; exact ca⟩
      have x1 : oneCol h a b (a - h) = some false := by unfold oneCol; rw [if_neg (by omega), if_pos (by omega)]
      have x2 : oneCol h b b (a - h) = some true := by unfold oneCol; rw [if_pos rfl]
      rw [e0, e0, np, x1, x2] at q
      cases q
  · intro e i j hi hj
    rw [e0, e0]
    cases np : lastCol h post i j with
    | some c => rfl
    | none =>
      obtain ⟨n1, n2⟩ := (lastCol_none post).mp np
      show orO (orO (oneCol h b i j) (oneCol h a i j)) _ = orO (orO (oneCol h a i j) (oneCol h b i j)) _
      have k : orO (oneCol h b i j) (oneCol h a i j) = orO (oneCol h a i j) (oneCol h b i j) := by
        rcases e with e | e | e
        · have e' : a < h ↔ b < h := by simpa using e
          unfold oneCol
          by_cases b1 : b = i
          · rw [if_pos b1]
            by_cases a1 : a = i
            · rw [if_pos a1]
            · rw [if_neg a1, if_neg (by omega)]; rfl
          · rw [if_neg b1]
            by_cases b2 : b = h + j
            · rw [if_pos b2]
              rw [if_neg (show ¬ a = i by omega)]
              by_cases a2 : a = h + j
              · rw [if_pos a2]
              · rw [if_neg a2]; rfl
            · rw [if_neg b2]
              by_cases a1 : a = i
              · rw [if_pos a1]; rfl
              · rw [if_neg a1]
                by_cases a2 : a = h + j
                · rw [if_pos a2]; rfl
                · rw [if_neg a2]
        · rw [oneCol_none.mpr ⟨fun z => n1 (mem_eq z e), fun z => n2 (mem_eq z e)⟩]
          cases oneCol h b i j <;> rfl
        · rw [(oneCol_none (l := b)).mpr ⟨fun z => n1 (mem_eq z e), fun z => n2 (mem_eq z e)⟩]
          cases oneCol h a i j <;> rfl
      rw [k]
/-- the deeds, each at its last place -/
def lastD : List Nat → List Nat
  | [] => []
  | x :: xs => if x ∈ xs then lastD xs else x :: lastD xs
theorem lastD_mem {y : Nat} : ∀ {xs : List Nat}, y ∈ lastD xs ↔ y ∈ xs
  | [] => Iff.rfl
  | x :: xs => by
    unfold lastD
    by_cases c : x ∈ xs
    · rw [if_pos c, lastD_mem (xs := xs)]
      exact ⟨fun z => List.mem_cons_of_mem _ z, fun z => (List.mem_cons.mp z).elim (fun e => e ▸ c) id⟩
    · rw [if_neg c, List.mem_cons, List.mem_cons, lastD_mem (xs := xs)]
theorem lastD_nodup : ∀ xs : List Nat, (lastD xs).Nodup
  | [] => .nil
  | x :: xs => by
    unfold lastD
    by_cases c : x ∈ xs
    · rw [if_pos c]; exact lastD_nodup xs
    · rw [if_neg c]; exact List.nodup_cons.mpr ⟨fun z => c (lastD_mem.mp z), lastD_nodup xs⟩
theorem lastD_col {h : Nat} {i j : Nat} : ∀ xs : List Nat, lastCol h (lastD xs) i j = lastCol h xs i j
  | [] => rfl
  | x :: xs => by
    have ih := lastD_col (h := h) (i := i) (j := j) xs
    unfold lastD
    rw [lastCol_cons]
    by_cases c : x ∈ xs
    · rw [if_pos c, ih]
      cases e : lastCol h xs i j with
      | some b => rfl
      | none =>
        obtain ⟨n1, n2⟩ := (lastCol_none xs).mp e
        exact (oneCol_none.mpr ⟨fun z => n1 (mem_eq z c), fun z => n2 (mem_eq z c)⟩).symm
    · rw [if_neg c, lastCol_cons, ih]
/-- a deed done again later is needless -/
theorem needless_col {h : Nat} {i j : Nat} (pre post : List Nat) (x : Nat) (hx : x ∈ post) : lastCol h (pre ++ post) i j = lastCol h (pre ++ (x :: post)) i j := by
  rw [lastCol_app, lastCol_app, lastCol_cons]
  cases e : lastCol h post i j with
  | some c => rfl
  | none =>
    obtain ⟨n1, n2⟩ := (lastCol_none post).mp e
    rw [oneCol_none.mpr ⟨fun z => n1 (mem_eq z hx), fun z => n2 (mem_eq z hx)⟩]
    rfl
end W

set_option Elab.async false
set_option linter.all false
set_option maxRecDepth 100000
set_option maxHeartbeats 1000000
namespace W
open PySem L2 G
/-! ### comparing -/
theorem eqvAll_map {α : Type} [DecidableEq α] {f : α → PyData} (hf : ∀ x y, PyData.eqv (f x) (f y) = decide (x = y)) : ∀ xs ys : List α, PyData.eqvAll (xs.map f) (ys.map f) = decide (xs = ys)
  | [], [] => rfl
  | [], y :: ys => by show false = _; simp
  | x :: xs, [] => by show false = _; simp
  | x :: xs, y :: ys => by
    show (PyData.eqv (f x) (f y) && PyData.eqvAll (xs.map f) (ys.map f)) = _
    rw [hf, eqvAll_map hf xs ys]
    by_cases h1 : x = y <;> by_cases h2 : xs = ys <;> simp [h1, h2]
theorem okq_leafs {α : Type} {f : α → D} (h1 : ∀ x, (f x).pd.plain = true) (h2 : ∀ x, (f x).pd.depth ≤ 8) : ∀ xs : List α, PyData.plainAll (pdAll (xs.map f)) = true ∧ PyData.depthAll (pdAll (xs.map f)) ≤ 10
  | [] => ⟨rfl, by show PyData.depthAll [] ≤ 10; decide⟩
  | x :: xs => by
    obtain ⟨a, b⟩ := okq_leafs h1 h2 xs
    show PyData.plainAll ((f x).pd :: pdAll (xs.map f)) = true ∧ PyData.depthAll ((f x).pd :: pdAll (xs.map f)) ≤ 10
    have := h2 x
    simp only [PyData.plainAll, PyData.depthAll, h1 x, a, Bool.and_self, true_and]
    omega
theorem okq_lst {α : Type} {f : α → D} (h1 : ∀ x, (f x).pd.plain = true) (h2 : ∀ x, (f x).pd.depth ≤ 8) (xs : List α) : (D.lst (xs.map f)).okq = true := by
  obtain ⟨a, b⟩ := okq_leafs h1 h2 xs
  unfold D.okq
  have e1 : (D.lst (xs.map f)).pd.plain = true := by show (PyData.list (pdAll (xs.map f))).plain = true; simp only [PyData.plain]; exact a
  have e2 : (D.lst (xs.map f)).pd.depth ≤ 60 := by show (PyData.list (pdAll (xs.map f))).depth ≤ 60; simp only [PyData.depth]; omega
  rw [e1, decide_eq_true e2]; rfl
theorem okq_tup {α : Type} {f : α → D} (h1 : ∀ x, (f x).pd.plain = true) (h2 : ∀ x, (f x).pd.depth ≤ 8) (xs : List α) : (D.tup (xs.map f)).okq = true := by
  obtain ⟨a, b⟩ := okq_leafs h1 h2 xs
  unfold D.okq
  have e1 : (D.tup (xs.map f)).pd.plain = true := by show (PyData.tuple (pdAll (xs.map f))).plain = true; simp only [PyData.plain]; exact a
  have e2 : (D.tup (xs.map f)).pd.depth ≤ 60 := by show (PyData.tuple (pdAll (xs.map f))).depth ≤ 60; simp only [PyData.depth]; omega
  rw [e1, decide_eq_true e2]; rfl
theorem str_dec (a b : Row) : (rowS a == rowS b) = decide (a = b) := by
  by_cases h : a = b
  · subst h; simp
  · rw [decide_eq_false h]
    exact beq_eq_false_iff_ne.mpr fun e => h (rowS_inj e)
theorem eq_pics (p q : Pic) : eqD (picD p) (picD q) = some (.bl (decide (p = q))) := by
  unfold eqD
  have a : (picD p).okq = true := okq_tup (fun _ => rfl) (fun _ => by simp [D.pd, PyData.depth]) p
  have b : (picD q).okq = true := okq_tup (fun _ => rfl) (fun _ => by simp [D.pd, PyData.depth]) q
  rw [a, b]
  show some (D.bl (PyData.eqvAll (pdAll (p.map fun r => D.str (rowS r))) (pdAll (q.map fun r => D.str (rowS r))))) = _
  rw [pdAll_map, pdAll_map, List.map_map, List.map_map, eqvAll_map (f := D.pd ∘ fun r => D.str (rowS r)) (fun x y => str_dec x y)]
theorem eq_nats (p q : List Nat) : eqD (linesD p) (linesD q) = some (.bl (decide (p = q))) := by
  unfold eqD
  have a : (linesD p).okq = true := okq_lst (fun _ => rfl) (fun _ => by simp [D.pd, PyData.depth]) p
  have b : (linesD q).okq = true := okq_lst (fun _ => rfl) (fun _ => by simp [D.pd, PyData.depth]) q
  rw [a, b]
  show some (D.bl (PyData.eqvAll (pdAll (p.map fun l : Nat => D.int (l : Int))) (pdAll (q.map fun l : Nat => D.int (l : Int))))) = _
  rw [pdAll_map, pdAll_map, List.map_map, List.map_map, eqvAll_map (f := D.pd ∘ fun l : Nat => D.int (l : Int)) (fun x y => by
    show ((x : Int) == (y : Int)) = _
    by_cases h : x = y
    · subst h; simp
    · rw [decide_eq_false h]; exact beq_eq_false_iff_ne.mpr fun e => h (by omega))]
theorem ne_of_eq {d e : D} {b : Bool} (h : eqD d e = some (.bl b)) : neD d e = some (.bl (!b)) := by
  unfold eqD at h
  unfold neD
  split at h
  · rename_i c
    rw [if_pos c]
    cases h; rfl
  · cases h
theorem eq_bls (a b : Bool) : eqD (.bl a) (.bl b) = some (.bl (decide (a = b))) := by cases a <;> cases b <;> rfl
theorem in_nats (x : Nat) (ls : List Nat) : inD (.int (x : Int)) (linesD ls) = some (.bl (decide (x ∈ ls))) := by
  show (if (D.int (x : Int)).okq && (linesD ls).okq then some (D.bl (memD (.int (x : Int)) (ls.map fun l : Nat => D.int (l : Int)))) else none) = _
  have a : (D.int (x : Int)).okq = true := rfl
  have b : (linesD ls).okq = true := okq_lst (fun _ => rfl) (fun _ => by simp [D.pd, PyData.depth]) ls
  rw [a, b]
  show some (D.bl ((ls.map fun l : Nat => D.int (l : Int)).any fun z => PyData.eqv z.pd (D.int (x : Int)).pd)) = _
  congr 2
  rw [List.any_map]
  by_cases h : x ∈ ls
  · rw [decide_eq_true h]
    exact List.any_eq_true.mpr ⟨x, h, by show ((x : Int) == (x : Int)) = true; simp⟩
  · rw [decide_eq_false h]
    refine List.any_eq_false.mpr fun y hy => ?_
    show ¬ ((y : Int) == (x : Int)) = true
    intro e
    have : (y : Int) = x := by simpa using e
    have : y = x := by omega
    exact h (this ▸ hy)
theorem notin_of_in {d e : D} {b : Bool} (h : inD d e = some (.bl b)) : notInD d e = some (.bl (!b)) := by
  unfold inD at h
  unfold notInD
  obtain ⟨xs, h1, h2⟩ := Option.bind_eq_some_iff.mp h
  rw [h1]
  show (if _ then _ else _) = _
  split at h2
  · rename_i c
    rw [if_pos c]; cases h2; rfl
  · cases h2
/-! ### lists of deeds cut and joined -/
theorem ix_nats {ls : List Nat} {k : Nat} {x : Nat} (h : ls[k]? = some x) : ixD (linesD ls) (.int (k : Int)) = some (.int (x : Int)) := by
  show atI (ls.map fun l : Nat => D.int (l : Int)) (k : Int) = _
  rw [atI_nat', List.getElem?_map, h]; rfl
theorem to_nats (ls : List Nat) (k : Nat) : sliceD (linesD ls) none (some (k : Int)) = some (linesD (ls.take k)) := by
  show some (D.lst (cutD (ls.map fun l : Nat => D.int (l : Int)) none (some (k : Int)))) = _
  rw [cut_to, ← List.map_take]; rfl
theorem from_nats (ls : List Nat) (k : Nat) : sliceD (linesD ls) (some (k : Int)) none = some (linesD (ls.drop k)) := by
  show some (D.lst (cutD (ls.map fun l : Nat => D.int (l : Int)) (some (k : Int)) none)) = _
  rw [cut_from, ← List.map_drop]; rfl
theorem add_nats {a b : List Nat} (h : a.length + b.length ≤ 1000000) : addD (linesD a) (linesD b) = some (linesD (a ++ b)) := by
  show (if (a.map fun l : Nat => D.int (l : Int)).length + (b.map fun l : Nat => D.int (l : Int)).length ≤ sizeLine then some (D.lst ((a.map fun l : Nat => D.int (l : Int)) ++ b.map fun l : Nat => D.int (l : Int))) else none) = _
  rw [List.length_map, List.length_map, if_small h, ← List.map_append]; rfl
theorem len_nats (ls : List Nat) : lenD [linesD ls] = some (.int (ls.length : Int)) := by
  show some (D.int ((ls.map fun l : Nat => D.int (l : Int)).length : Int)) = _
  rw [List.length_map]
theorem vE_ok {i : Nat} {env : DEnv} {tp : List D} {d : D} (e : env[i]? = some (some d)) : vE i env tp = .ok d tp := by unfold vE; rw [e]
/-! ### a plain board -/
theorem mul_sign {b : Bool} {w : Nat} (h : w ≤ 1000) : mulD (.str (rowS [b])) (.int (w : Int)) = some (.str (rowS (List.replicate w b))) := by
  have c : cRep (rowS [b]).length (w : Int) = true := by
    rw [rowS_len]
    unfold cRep
    have a1 : (0 : Int) ≤ w := by omega
    have a2 : (([b] : Row).length : Int) * (w : Int) ≤ 16777216 := by simp; omega
    have a3 : (w : Int) ≤ 16777216 := by omega
    rw [decide_eq_true a1, decide_eq_true a2, decide_eq_true a3]; rfl
  show (if cRep (rowS [b]).length (w : Int) then some (D.str (Txt.mul (rowS [b]) (w : Int))) else none) = _
  rw [if_pos c, mul_row]
theorem mul_pic {r : Row} {h : Nat} (h1 : 1 ≤ h) (h30 : h ≤ 1000) : mulD (.tup [.str (rowS r)]) (.int (h : Int)) = some (picD (List.replicate h r)) := by
  have c : cRepT ([D.str (rowS r)]).length (h : Int) = true := by
    unfold cRepT
    have a0 : 0 < ([D.str (rowS r)]).length := by simp
    have a1 : ([D.str (rowS r)]).length ≤ 1000 := by simp
    have a2 : (1 : Int) ≤ h := by omega
    have a3 : (h : Int) ≤ 1000 := by omega
    rw [decide_eq_true a0, decide_eq_true a1, decide_eq_true a2, decide_eq_true a3]; rfl
  show (if cRepT ([D.str (rowS r)]).length (h : Int) then some (D.tup (List.replicate (h : Int).toNat [D.str (rowS r)]).flatten) else none) = _
  rw [if_pos c, Int.toNat_natCast]
  unfold picD
  have e : ∀ n : Nat, (List.replicate n [D.str (rowS r)]).flatten = (List.replicate n r).map fun r => D.str (rowS r) := by
    intro n
    induction n with
    | zero => rfl
    | succ n ih => rw [List.replicate_succ, List.flatten_cons, ih, List.replicate_succ, List.map_cons]; rfl
  rw [e]
def plainE : SE D := binE mulD (tupE (consA (binE mulD (vE 3) (callB lenD (consA (binE ixD (vE 0) (cE (.int 0))) (nilA)))) (nilA))) (callB lenD (consA (vE 0) (nilA)))
theorem plainE_ok {h w : Nat} {p : Pic} (k : PicOk h w p) {b : Bool} {env : DEnv} {tp : List D} (e0 : env[0]? = some (some (picD p))) (e3 : env[3]? = some (some (.str (rowS [b])))) : plainE env tp = .ok (picD (plainP h w b)) tp := by
  have h30 := k.h30
  have w30 := k.w30
  exact binE_ok (tupE_ok (consA_ok (binE_ok (vE_ok e3) (wide_e k e0) (mul_sign (by omega))) rfl) (by simp)) (len_e k e0) (mul_pic k.h1 (by omega))
theorem forL_nx {i : Nat} {body : SS} {d : D} {ds : List D} {env env' : DEnv} {tp tp' : List D} (h : body (env.set i (some d)) tp = .nx env' tp') : forL t1 [i] body (d :: ds) env tp = forL t1 [i] body ds env' tp' := by
  rw [show forL t1 [i] body (d :: ds) env tp = (match body (env.set i (some d)) tp with
    | .nx e t => forL t1 [i] body ds e t
    | .ct e t => forL t1 [i] body ds e t
    | .bk e t => .nx e t
    | x => x) from rfl, h]
theorem forL_rt {i : Nat} {body : SS} {d x : D} {ds : List D} {env : DEnv} {tp tp' : List D} (h : body (env.set i (some d)) tp = .rt x tp') : forL t1 [i] body (d :: ds) env tp = .rt x tp' := by
  rw [show forL t1 [i] body (d :: ds) env tp = (match body (env.set i (some d)) tp with
    | .nx e t => forL t1 [i] body ds e t
    | .ct e t => forL t1 [i] body ds e t
    | .bk e t => .nx e t
    | x => x) from rfl, h]
def plainB (m : List D → List D → RE D) : SS := seqS (setS 4 plainE) (ifS (boolE (binE neD (callE 2 m (consA (vE 4) (consA (vE 1) (nilA)))) (callE 2 m (consA (vE 4) (consA (vE 2) (nilA)))))) (retS (cE (.bl false))) (skipS))
/-- what paints as all_painted does -/
def Painter (m : List D → List D → RE D) : Prop := ∀ (h w : Nat) (p : Pic) (ls : List Nat) (tp : List D), PicOk h w p → (∀ l ∈ ls, l < h + w) → m [picD p, linesD ls] tp = .ok (picD (linesP h w p ls)) tp
theorem plainB_ok {m : List D → List D → RE D} (pm : Painter m) {h w : Nat} {p : Pic} (k : PicOk h w p) {a b : List Nat} (ha : ∀ l ∈ a, l < h + w) (hb : ∀ l ∈ b, l < h + w) {c : Bool} {x4 : Option D} {tp : List D} :
    plainB m [some (picD p), some (linesD a), some (linesD b), some (.str (rowS [c])), x4] tp = if linesP h w (plainP h w c) a = linesP h w (plainP h w c) b then .nx [some (picD p), some (linesD a), some (linesD b), some (.str (rowS [c])), some (picD (plainP h w c))] tp else .rt (.bl false) tp := by
  have s1 := setS_ok (i := 4) (plainE_ok (b := c) (env := [some (picD p), some (linesD a), some (linesD b), some (.str (rowS [c])), x4]) (tp := tp) k rfl rfl)
  have e1 := pm h w _ a tp (plainP_ok k c) ha
  have e2 := pm h w _ b tp (plainP_ok k c) hb
  have t1 := boolE_ok (binE_ok (callE_ok (n := 2) (ms := consA (vE 4) (consA (vE 1) (nilA))) (env := [some (picD p), some (linesD a), some (linesD b), some (.str (rowS [c])), some (picD (plainP h w c))]) (tp := tp) (tp1 := tp) rfl rfl e1) (callE_ok (n := 2) (ms := consA (vE 4) (consA (vE 2) (nilA))) rfl rfl e2) (ne_of_eq (eq_pics _ _)))
  unfold plainB
  refine (seqS_nx s1).trans ?_
  by_cases q : linesP h w (plainP h w c) a = linesP h w (plainP h w c) b
  · rw [if_pos q]
    rw [decide_eq_true q] at t1
    exact (ifS_f t1).trans rfl
  · rw [if_neg q]
    rw [decide_eq_false q] at t1
    exact (ifS_t t1).trans (retS_ok rfl)
theorem plain_loop {m : List D → List D → RE D} (pm : Painter m) {h w : Nat} {p : Pic} (k : PicOk h w p) {a b : List Nat} (ha : ∀ l ∈ a, l < h + w) (hb : ∀ l ∈ b, l < h + w) {mi : SE (List D)} {tp : List D}
    (ei : mi [some (picD p), some (linesD a), some (linesD b), none, none] tp = .ok [.str "#", .str "."] tp) :
    retR (seqS (forS mi t1 [3] (plainB m)) (retS (cE (.bl true))) [some (picD p), some (linesD a), some (linesD b), none, none] tp) = .ok (.bl (sameB h w a b)) tp := by
  rw [str_black, str_white] at ei
  have b1 := plainB_ok pm k ha hb (c := true) (x4 := none) (tp := tp)
  have b2 := plainB_ok pm k ha hb (c := false) (x4 := some (picD (plainP h w true))) (tp := tp)
  unfold sameB
  by_cases q1 : linesP h w (plainP h w true) a = linesP h w (plainP h w true) b
  · rw [if_pos q1] at b1
    rw [decide_eq_true q1]
    by_cases q2 : linesP h w (plainP h w false) a = linesP h w (plainP h w false) b
    · rw [if_pos q2] at b2
      rw [decide_eq_true q2]
      refine (congrArg retR (seqS_nx ((forS_eq ei).trans ((forL_nx b1).trans ((forL_nx b2).trans rfl))))).trans ?_
      rfl
    · rw [if_neg q2] at b2
      rw [decide_eq_false q2]
      refine (congrArg retR (seqS_rt ((forS_eq ei).trans ((forL_nx b1).trans (forL_rt b2))))).trans ?_
      rfl
  · rw [if_neg q1] at b1
    rw [decide_eq_false q1]
    refine (congrArg retR (seqS_rt ((forS_eq ei).trans (forL_rt b1)))).trans ?_
    rfl
theorem painter1 : Painter m_all_painted := fun h w p ls tp k hl => all_painted_ok k hl tp
theorem painter2 : Painter m_law_painted := fun h w p ls tp k hl => lpainted_ok k hl tp
theorem are_e {h w : Nat} {p : Pic} (k : PicOk h w p) {ls : List Nat} (hl : ∀ l ∈ ls, l < h + w) (hn : ls.length ≤ 1000) {env : DEnv} {tp : List D} {j : Nat} (e0 : env[0]? = some (some (picD p))) (e1 : env[j]? = some (some (linesD ls))) : notT (boolE (callE 2 m_are_deeds (consA (vE 0) (consA (vE j) (nilA))))) env tp = .ok false tp :=
  notT_ok (boolE_ok (callE_ok (consA_ok (vE_ok e0) (consA_ok (vE_ok e1) rfl)) rfl (are_deeds_ok k hl (by omega) tp)))
theorem need_e {h w : Nat} {p : Pic} (k : PicOk h w p) {env : DEnv} {tp : List D} (e0 : env[0]? = some (some (picD p))) : dropS (callE 1 m_need_picture (consA (vE 0) (nilA))) env tp = .nx env tp :=
  dropS_ok (callE_ok (consA_ok (vE_ok e0) rfl) rfl (need_picture_ok k tp))
theorem need_deeds_ok {h w : Nat} {p : Pic} (k : PicOk h w p) {ls : List Nat} (hl : ∀ l ∈ ls, l < h + w) (hn : ls.length ≤ 1000) (tp : List D) : m_need_deeds [picD p, linesD ls] tp = .ok .non tp := by
  show retR (b_need_deeds [some (picD p), some (linesD ls)] tp) = _
  unfold b_need_deeds
  refine (congrArg retR (seqS_nx (need_e k rfl))).trans ?_
  exact congrArg retR ((ifS_f (are_e k hl hn rfl rfl)).trans rfl)
theorem needd_e {h w : Nat} {p : Pic} (k : PicOk h w p) {ls : List Nat} (hl : ∀ l ∈ ls, l < h + w) (hn : ls.length ≤ 1000) {env : DEnv} {tp : List D} (e0 : env[0]? = some (some (picD p))) (e1 : env[1]? = some (some (linesD ls))) : dropS (callE 2 m_need_deeds (consA (vE 0) (consA (vE 1) (nilA)))) env tp = .nx env tp :=
  dropS_ok (callE_ok (consA_ok (vE_ok e0) (consA_ok (vE_ok e1) rfl)) rfl (need_deeds_ok k hl hn tp))
theorem always_same_ok {h w : Nat} {p : Pic} (k : PicOk h w p) {a b : List Nat} (ha : ∀ l ∈ a, l < h + w) (hb : ∀ l ∈ b, l < h + w) (na : a.length ≤ 1000) (nb : b.length ≤ 1000) (tp : List D) : m_always_same [picD p, linesD a, linesD b] tp = .ok (.bl (sameB h w a b)) tp := by
  show retR (b_always_same [some (picD p), some (linesD a), some (linesD b), none, none] tp) = _
  unfold b_always_same
  refine (congrArg retR (seqS_nx (need_e k rfl))).trans ?_
  refine (congrArg retR (seqS_nx ((ifS_f ((orT_f (are_e k ha na rfl rfl)).trans (are_e k hb nb rfl rfl))).trans rfl))).trans ?_
  exact plain_loop painter1 k ha hb (seqI_ok (tupE_ok rfl (by simp)) rfl)
theorem law_wide_ok {h w : Nat} {p : Pic} (k : PicOk h w p) {a b : List Nat} (ha : ∀ l ∈ a, l < h + w) (hb : ∀ l ∈ b, l < h + w) (tp : List D) : m_law_wide [picD p, linesD a, linesD b] tp = .ok (.bl (sameB h w a b)) tp := by
  show retR (b_law_wide [some (picD p), some (linesD a), some (linesD b), none, none] tp) = _
  unfold b_law_wide
  exact plain_loop painter2 k ha hb (seqI_ok rfl rfl)
theorem same_end_ok {h w : Nat} {p : Pic} (k : PicOk h w p) {a b : List Nat} (ha : ∀ l ∈ a, l < h + w) (hb : ∀ l ∈ b, l < h + w) (na : a.length ≤ 1000) (nb : b.length ≤ 1000) (tp : List D) : m_same_end [picD p, linesD a, linesD b] tp = .ok (.bl (decide (linesP h w p a = linesP h w p b))) tp := by
  show retR (b_same_end [some (picD p), some (linesD a), some (linesD b)] tp) = _
  unfold b_same_end
  refine (congrArg retR (seqS_nx (need_e k rfl))).trans ?_
  refine (congrArg retR (seqS_nx ((ifS_f ((orT_f (are_e k ha na rfl rfl)).trans (are_e k hb nb rfl rfl))).trans rfl))).trans ?_
  exact congrArg retR (retS_ok (binE_ok (callE_ok rfl rfl (all_painted_ok k ha tp)) (callE_ok rfl rfl (all_painted_ok k hb tp)) (eq_pics _ _)))
end W

set_option Elab.async false
set_option linter.all false
set_option maxRecDepth 100000
set_option maxHeartbeats 1000000
namespace W
open PySem L2 G
/-! ### swaps, needless, last, unpainted -/
def swapAt (ls : List Nat) (k : Nat) : List Nat := ls.take k ++ [ls.getD (k + 1) 0, ls.getD k 0] ++ ls.drop (k + 2)
theorem split_two {ls : List Nat} {k : Nat} (hk : k + 1 < ls.length) : ls = ls.take k ++ (ls.getD k 0 :: ls.getD (k + 1) 0 :: ls.drop (k + 2)) := by
  have e1 : ls.getD k 0 = ls[k] := getD_of (List.getElem?_eq_getElem (by omega))
  have e2 : ls.getD (k + 1) 0 = ls[k + 1] := getD_of (List.getElem?_eq_getElem hk)
  rw [e1, e2]
  conv => lhs; rw [← List.take_append_drop k ls]
  rw [List.drop_eq_getElem_cons (show k < ls.length by omega), List.drop_eq_getElem_cons hk]
theorem swapAt_eq (ls : List Nat) (k : Nat) : swapAt ls k = ls.take k ++ (ls.getD (k + 1) 0 :: ls.getD k 0 :: ls.drop (k + 2)) := by
  unfold swapAt
  rw [List.append_assoc]; rfl
theorem swapAt_mem {ls : List Nat} {k : Nat} (hk : k + 1 < ls.length) {n : Nat} (hl : ∀ l ∈ ls, l < n) : ∀ l ∈ swapAt ls k, l < n := by
  intro l hm
  refine hl l ?_
  rw [swapAt_eq] at hm
  rw [split_two hk]
  simp only [List.mem_append, List.mem_cons] at hm ⊢
  rcases hm with h | h | h | h
  · exact .inl h
  · exact .inr (.inr (.inl h))
  · exact .inr (.inl h)
  · exact .inr (.inr (.inr h))
theorem swapAt_len {ls : List Nat} {k : Nat} (hk : k + 1 < ls.length) : (swapAt ls k).length = ls.length := by
  unfold swapAt; simp; omega
/-- the mirror of the swapped list, slots i (the list) and j (the place) -/
def swapE (i j : Nat) : SE D := binE addD (binE addD (sliceE (vE i) (optI none) (optI (some (vE j)))) (lstE (consA (binE ixD (vE i) (binE addD (vE j) (cE (.int 1)))) (consA (binE ixD (vE i) (vE j)) (nilA))))) (sliceE (vE i) (optI (some (binE addD (vE j) (cE (.int 2))))) (optI none))
theorem optI_ok {m : SE D} {env : DEnv} {tp : List D} {i : Int} (h : m env tp = .ok (.int i) tp) : optI (some m) env tp = .ok (some i) tp := by
  unfold optI; simp only; rw [h]; rfl
theorem plus_e {j c k : Nat} {env : DEnv} {tp : List D} (e1 : env[j]? = some (some (.int (k : Int)))) : binE addD (vE j) (cE (.int (c : Int))) env tp = .ok (.int ((k + c : Nat) : Int)) tp :=
  binE_ok (mb := cE (.int (c : Int))) (tp2 := tp) (vE_ok e1) rfl rfl
theorem ixn_e {i : Nat} {ls : List Nat} {mj : SE D} {k x : Nat} {env : DEnv} {tp : List D} (e0 : env[i]? = some (some (linesD ls))) (e1 : mj env tp = .ok (.int (k : Int)) tp) (h : ls[k]? = some x) : binE ixD (vE i) mj env tp = .ok (.int (x : Int)) tp :=
  binE_ok (vE_ok e0) e1 (ix_nats h)
theorem swapE_ok {i j k : Nat} {ls : List Nat} {env : DEnv} {tp : List D} (e0 : env[i]? = some (some (linesD ls))) (e1 : env[j]? = some (some (.int (k : Int)))) (hk : k + 1 < ls.length) (hl : ls.length ≤ 1000) : swapE i j env tp = .ok (linesD (swapAt ls k)) tp := by
  have x1 := ixn_e (k := k + 1) (x := ls.getD (k + 1) 0) e0 (plus_e (c := 1) (tp := tp) e1) (by rw [getD_of (List.getElem?_eq_getElem hk), List.getElem?_eq_getElem hk])
  have x2 := ixn_e (k := k) (x := ls.getD k 0) (tp := tp) e0 (vE_ok e1) (by rw [getD_of (List.getElem?_eq_getElem (show k < ls.length by omega)), List.getElem?_eq_getElem (show k < ls.length by omega)])
  have l1 : lstE (consA (binE ixD (vE i) (binE addD (vE j) (cE (.int 1)))) (consA (binE ixD (vE i) (vE j)) (nilA))) env tp = .ok (linesD [ls.getD (k + 1) 0, ls.getD k 0]) tp := lstE_ok (consA_ok x1 (consA_ok x2 rfl)) (by simp)
  have s1 := sliceE_ok (ml := optI none) (mh := optI (some (vE j))) (tp := tp) (vE_ok e0) rfl (optI_ok (vE_ok e1)) (to_nats ls k)
  have s2 := sliceE_ok (ml := optI (some (binE addD (vE j) (cE (.int 2))))) (mh := optI none) (tp := tp) (vE_ok e0) (optI_ok (plus_e (c := 2) e1)) rfl (from_nats ls (k + 2))
  exact binE_ok (binE_ok s1 l1 (add_nats (by simp; omega))) s2 (add_nats (by simp; omega))
theorem minus1 {n : Nat} (h : 1 ≤ n) : subD (.int (n : Int)) (.int 1) = some (.int ((n - 1 : Nat) : Int)) := by
  show some (D.int ((n : Int) - 1)) = _
  congr 2; omega
/-- range(len(xs) - 1) -/
theorem rangeN1 {i : Nat} {ls : List Nat} {env : DEnv} {tp : List D} (e0 : env[i]? = some (some (linesD ls))) (hl : ls.length ≤ 1000) : rangeI range1D (consA (binE subD (callB lenD (consA (vE i) (nilA))) (cE (.int 1))) (nilA)) env tp = .ok (rangeL 0 ((ls.length - 1 : Nat) : Int)) tp := by
  by_cases h : 1 ≤ ls.length
  · exact rangeI_ok (consA_ok (binE_ok (mb := cE (.int 1)) (tp2 := tp) (callB_ok (consA_ok (vE_ok e0) rfl) (len_nats ls)) rfl (minus1 h)) rfl) (range1_ok (by omega) (by omega))
  · have e : ls = [] := List.eq_nil_of_length_eq_zero (by omega)
    subst e
    exact rangeI_ok (consA_ok (binE_ok (mb := cE (.int 1)) (tp2 := tp) (callB_ok (consA_ok (vE_ok e0) rfl) (len_nats [])) rfl rfl) rfl) rfl
theorem rangeN {i : Nat} {ls : List Nat} {env : DEnv} {tp : List D} (e0 : env[i]? = some (some (linesD ls))) (hl : ls.length ≤ 1000) : rangeI range1D (consA (callB lenD (consA (vE i) (nilA))) (nilA)) env tp = .ok (rangeL 0 (ls.length : Int)) tp :=
  rangeI_ok (consA_ok (callB_ok (consA_ok (vE_ok e0) rfl) (len_nats ls)) rfl) (range1_ok (by omega) (by omega))
theorem swaps_free_ok {h w : Nat} {p : Pic} (k : PicOk h w p) {ls : List Nat} (hl : ∀ l ∈ ls, l < h + w) (hn : ls.length ≤ 1000) (tp : List D) : m_swaps_free [picD p, linesD ls] tp = .ok (linesD ((List.range (ls.length - 1)).filter fun at_ => sameB h w ls (swapAt ls at_))) tp := by
  have e0 : setFS 2 (lstE (nilA)) [some (picD p), some (linesD ls), none, none, none] tp = .nx [some (picD p), some (linesD ls), some (linesD []), none, none] tp := by
    unfold setFS
    rw [lstE_ok (ds := []) (tp1 := tp) rfl (by decide)]
    rfl
  have loop := forL_inv (i := 3) (tp := tp) (env := [some (picD p), some (linesD ls), some (linesD []), none, none]) (items := rangeL 0 ((ls.length - 1 : Nat) : Int)) (body := seqS (setS 4 (swapE 1 3)) (ifS (boolE (callE 3 m_always_same (consA (vE 0) (consA (vE 1) (consA (vE 4) (nilA)))))) (appS 2 (vE 3)) (skipS)))
    (fun n env tp' => tp' = tp ∧ ∃ x3 x4 : Option D, env = [some (picD p), some (linesD ls), some (linesD ((List.range n).filter fun at_ => sameB h w ls (swapAt ls at_))), x3, x4]) 0 ⟨rfl, none, none, rfl⟩ (fun i d env tp' hj hI => by
      obtain ⟨rfl, x3, x4, rfl⟩ := hI
      obtain ⟨rfl, hi⟩ := rangeL_get hj
      rw [Nat.zero_add]
      have hk : i + 1 < ls.length := by omega
      have s1 := setS_ok (i := 4) (swapE_ok (i := 1) (j := 3) (env := [some (picD p), some (linesD ls), some (linesD ((List.range i).filter fun at_ => sameB h w ls (swapAt ls at_))), some (.int (i : Int)), x4]) (tp := tp') rfl rfl hk hn)
      have c1 := boolE_ok (callE_ok (n := 3) (ms := consA (vE 0) (consA (vE 1) (consA (vE 4) (nilA)))) (env := [some (picD p), some (linesD ls), some (linesD ((List.range i).filter fun at_ => sameB h w ls (swapAt ls at_))), some (.int (i : Int)), some (linesD (swapAt ls i))]) (tp := tp') rfl rfl (always_same_ok k hl (swapAt_mem hk hl) hn (by rw [swapAt_len hk]; exact hn) tp'))
      refine ⟨_, tp', ?_, rfl, some (.int (i : Int)), some (linesD (swapAt ls i)), rfl⟩
      refine (seqS_nx s1).trans ?_
      rw [List.range_succ, List.filter_append]
      cases q : sameB h w ls (swapAt ls i) with
      | true =>
        rw [q] at c1
        have ef : List.filter (fun at_ => sameB h w ls (swapAt ls at_)) [i] = [i] := by simp [q]
        rw [ef]
        refine (ifS_t c1).trans ((appS_ok (i := 2) (ds := ((List.range i).filter fun at_ => sameB h w ls (swapAt ls at_)).map fun l : Nat => D.int (l : Int)) (tp1 := tp') (d := .int (i : Int)) rfl rfl ?_).trans ?_)
        · rw [List.length_map]
          have := List.length_filter_le (fun at_ => sameB h w ls (swapAt ls at_)) (List.range i)
          rw [List.length_range] at this
          omega
        · unfold linesD
          rw [List.map_append]
          rfl
      | false =>
        rw [q] at c1
        have ef : List.filter (fun at_ => sameB h w ls (swapAt ls at_)) [i] = [] := by simp [q]
        rw [ef, List.append_nil]
        exact (ifS_f c1).trans rfl)
  obtain ⟨env', tp2, e2, rfl, x3, x4, rfl⟩ := loop
  rw [rangeL_len, Nat.zero_add] at e2
  show retR (b_swaps_free [some (picD p), some (linesD ls), none, none, none] tp2) = _
  unfold b_swaps_free
  refine (congrArg retR (seqS_nx (needd_e k hl hn rfl rfl))).trans ?_
  refine (congrArg retR (seqS_nx e0)).trans ?_
  refine (congrArg retR (seqS_nx ((forS_eq (rangeN1 (i := 1) rfl hn)).trans e2))).trans ?_
  rfl
def dropAt (ls : List Nat) (k : Nat) : List Nat := ls.take k ++ ls.drop (k + 1)
theorem dropAt_mem {ls : List Nat} {k n : Nat} (hl : ∀ l ∈ ls, l < n) : ∀ l ∈ dropAt ls k, l < n := fun l hm => by
  rcases List.mem_append.mp hm with h | h
  · exact hl l (List.mem_of_mem_take h)
  · exact hl l (List.mem_of_mem_drop h)
theorem compE_nats {mi : SE (List D)} {vs : List Nat} {i : Nat} {c : SE Bool} {m : SE D} {env : DEnv} {tp tp1 : List D} {n : Nat} {b : Nat → Bool} (h1 : mi env tp = .ok (rangeL 0 (n : Int)) tp1) (hn : n ≤ 1000)
    (hc : ∀ j : Nat, j < n → c ((wipeE env vs).set i (some (.int (j : Int)))) tp1 = .ok (b j) tp1) (hm : ∀ j : Nat, j < n → m ((wipeE env vs).set i (some (.int (j : Int)))) tp1 = .ok (.int (j : Int)) tp1) : compE mi vs t1 [i] c m env tp = .ok (linesD ((List.range n).filter b)) tp1 := by
  have e : rangeL 0 (n : Int) = (List.range n).map fun l : Nat => D.int (l : Int) := by
    unfold rangeL
    rw [Int.sub_zero, Int.toNat_natCast]
    exact List.map_congr_left fun a _ => by rw [Int.zero_add]
  have gd : ∀ d : D, ∃ x : Bool, x = (match d with | .int j => b j.toNat | _ => false) := fun d => ⟨_, rfl⟩
  have r := compE_filter (vs := vs) (i := i) (c := c) (m := m) (b := fun d => match d with | .int j => b j.toNat | _ => false) (g := fun d => d) h1 (by rw [rangeL_len]; exact small_line (by omega)) (fun d hd => by
    obtain ⟨j, rfl, hj⟩ := rangeL_mem hd
    show _ = RE.ok (b ((j : Int)).toNat) tp1
    rw [Int.toNat_natCast]; exact hc j hj) (fun d hd _ => by
    obtain ⟨j, rfl, hj⟩ := rangeL_mem hd
    exact hm j hj)
  rw [r, e, List.filter_map, List.map_map]
  unfold linesD
  congr 2
theorem needless_ok {h w : Nat} {p : Pic} (k : PicOk h w p) {ls : List Nat} (hl : ∀ l ∈ ls, l < h + w) (hn : ls.length ≤ 1000) (tp : List D) : m_needless [picD p, linesD ls] tp = .ok (linesD ((List.range ls.length).filter fun at_ => decide (linesP h w p (dropAt ls at_) = linesP h w p ls))) tp := by
  have s2 := setS_ok (i := 2) (callE_ok (n := 2) (ms := consA (vE 0) (consA (vE 1) (nilA))) (env := [some (picD p), some (linesD ls), none, none]) (tp := tp) rfl rfl (all_painted_ok k hl tp))
  have ec := compE_nats (vs := [3]) (i := 3) (m := vE 3) (c := boolE (binE eqD (callE 2 m_all_painted (consA (vE 0) (consA (binE addD (sliceE (vE 1) (optI none) (optI (some (vE 3)))) (sliceE (vE 1) (optI (some (binE addD (vE 3) (cE (.int 1))))) (optI none))) (nilA)))) (vE 2))) (b := fun at_ => decide (linesP h w p (dropAt ls at_) = linesP h w p ls)) (rangeN (i := 1) (env := [some (picD p), some (linesD ls), some (picD (linesP h w p ls)), none]) (tp := tp) rfl hn) hn (fun j hj => by
    have a1 := sliceE_ok (m := vE 1) (ml := optI none) (mh := optI (some (vE 3))) (env := [some (picD p), some (linesD ls), some (picD (linesP h w p ls)), some (.int (j : Int))]) (tp := tp) rfl rfl rfl (to_nats ls j)
    have a2 := sliceE_ok (m := vE 1) (ml := optI (some (binE addD (vE 3) (cE (.int 1))))) (mh := optI none) (env := [some (picD p), some (linesD ls), some (picD (linesP h w p ls)), some (.int (j : Int))]) (tp := tp) rfl (optI_ok (plus_e (c := 1) (k := j) rfl)) rfl (from_nats ls (j + 1))
    exact boolE_ok (binE_ok (callE_ok (consA_ok rfl (consA_ok (binE_ok a1 a2 (add_nats (by simp; omega))) rfl)) rfl (all_painted_ok k (dropAt_mem hl) tp)) rfl (eq_pics _ _))) (fun j hj => rfl)
  show retR (b_needless [some (picD p), some (linesD ls), none, none] tp) = _
  unfold b_needless
  refine (congrArg retR (seqS_nx (needd_e k hl hn rfl rfl))).trans ?_
  refine (congrArg retR (seqS_nx s2)).trans ?_
  exact congrArg retR (retS_ok ec)
theorem unpainted_ok {h w : Nat} {p : Pic} (k : PicOk h w p) {ls : List Nat} (hl : ∀ l ∈ ls, l < h + w) (hn : ls.length ≤ 1000) (tp : List D) : m_unpainted [picD p, linesD ls] tp = .ok (.tup (((List.range (h + w)).filter fun l => !decide (l ∈ ls)).map fun l : Nat => D.int (l : Int))) tp := by
  have h30 := k.h30
  have w30 := k.w30
  have ei : rangeI range1D (consA (callE 1 m_lines_of (consA (vE 0) (nilA))) (nilA)) [some (picD p), some (linesD ls), none] tp = .ok (rangeL 0 ((h + w : Nat) : Int)) tp := rangeI_ok (consA_ok (callE_ok rfl rfl (lines_of_ok k tp)) rfl) (range1_ok (by omega) (by omega))
  have ec := compE_nats (vs := [2]) (i := 2) (m := vE 2) (c := boolE (binE notInD (vE 2) (vE 1))) (b := fun l => !decide (l ∈ ls)) ei (by omega) (fun j hj => boolE_ok (binE_ok rfl rfl (notin_of_in (in_nats j ls)))) (fun j hj => rfl)
  show retR (b_unpainted [some (picD p), some (linesD ls), none] tp) = _
  unfold b_unpainted
  refine (congrArg retR (seqS_nx (needd_e k hl hn rfl rfl))).trans ?_
  exact congrArg retR (retS_ok (callB_ok (consA_ok ec rfl) rfl))
end W

set_option Elab.async false
set_option linter.all false
set_option maxRecDepth 100000
set_option maxHeartbeats 1000000
namespace W
open PySem L2 G
theorem lastD_len : ∀ xs : List Nat, (lastD xs).length ≤ xs.length
  | [] => Nat.le_refl _
  | x :: xs => by
    have := lastD_len xs
    unfold lastD
    split
    · simp; omega
    · simp; omega
theorem last_deeds_ok {h w : Nat} {p : Pic} (k : PicOk h w p) {ls : List Nat} (hl : ∀ l ∈ ls, l < h + w) (hn : ls.length ≤ 1000) (tp : List D) : m_last_deeds [picD p, linesD ls] tp = .ok (linesD (lastD ls)) tp := by
  have e0 : setFS 2 (lstE (nilA)) [some (picD p), some (linesD ls), none, none] tp = .nx [some (picD p), some (linesD ls), some (linesD []), none] tp := by
    unfold setFS
    rw [lstE_ok (ds := []) (tp1 := tp) rfl (by decide)]
    rfl
  have ei : seqI (revE (vE 1)) [some (picD p), some (linesD ls), some (linesD []), none] tp = .ok (ls.reverse.map fun l : Nat => D.int (l : Int)) tp := by
    refine seqI_ok (d := linesD ls.reverse) ?_ rfl
    show RE.of (revD (linesD ls)) tp = _
    show RE.ok (D.lst (ls.map fun l : Nat => D.int (l : Int)).reverse) tp = _
    rw [← List.map_reverse]; rfl
  have loop := forL_inv (i := 3) (tp := tp) (env := [some (picD p), some (linesD ls), some (linesD []), none]) (items := ls.reverse.map fun l : Nat => D.int (l : Int)) (body := ifS (boolE (binE notInD (vE 3) (vE 2))) (appS 2 (vE 3)) (skipS))
    (fun n env tp' => tp' = tp ∧ ∃ x3 : Option D, env = [some (picD p), some (linesD ls), some (linesD (lastD (ls.reverse.take n).reverse).reverse), x3]) 0 ⟨rfl, none, rfl⟩ (fun i d env tp' hj hI => by
      obtain ⟨rfl, x3, rfl⟩ := hI
      rw [Nat.zero_add]
      rw [List.getElem?_map] at hj
      obtain ⟨x, hx, rfl⟩ := Option.map_eq_some_iff.mp hj
      have hi : i < ls.reverse.length := (List.getElem?_eq_some_iff.mp hx).1
      have et : ls.reverse.take (i + 1) = ls.reverse.take i ++ [x] := by rw [List.take_succ, hx]; rfl
      generalize hxs : (ls.reverse.take i).reverse = xs
      have er : (ls.reverse.take (i + 1)).reverse = x :: xs := by rw [et, List.reverse_append, hxs]; rfl
      have xl : xs.length ≤ 1000 := by have q : ls.reverse.length = ls.length := List.length_reverse; rw [← hxs, List.length_reverse, List.length_take, q]; omega
      rw [er]
      have c1 := boolE_ok (binE_ok (f := notInD) (ma := vE 3) (mb := vE 2) (env := [some (picD p), some (linesD ls), some (linesD (lastD xs).reverse), some (.int (x : Int))]) (tp := tp') (tp1 := tp') (tp2 := tp') rfl rfl (notin_of_in (in_nats x _)))
      refine ⟨_, tp', ?_, rfl, some (.int (x : Int)), rfl⟩
      show ifS _ _ _ [some (picD p), some (linesD ls), some (linesD (lastD xs).reverse), some (.int (x : Int))] tp' = _
      have em : x ∈ (lastD xs).reverse ↔ x ∈ xs := by rw [List.mem_reverse]; exact lastD_mem
      by_cases c : x ∈ xs
      · rw [decide_eq_true (em.mpr c)] at c1
        have el : lastD (x :: xs) = lastD xs := by show (if x ∈ xs then lastD xs else x :: lastD xs) = _; rw [if_pos c]
        rw [el]
        exact (ifS_f c1).trans rfl
      · rw [decide_eq_false (fun z => c (em.mp z))] at c1
        have el : lastD (x :: xs) = x :: lastD xs := by show (if x ∈ xs then lastD xs else x :: lastD xs) = _; rw [if_neg c]
        rw [el]
        refine (ifS_t c1).trans ((appS_ok (i := 2) (ds := (lastD xs).reverse.map fun l : Nat => D.int (l : Int)) (tp1 := tp') (d := .int (x : Int)) rfl rfl ?_).trans ?_)
        · have := lastD_len xs
          rw [List.length_map, List.length_reverse]; omega
        · rw [List.reverse_cons]
          unfold linesD
          rw [List.map_append]
          rfl)
  obtain ⟨env', tp2, e2, rfl, x3, rfl⟩ := loop
  rw [List.length_map, Nat.zero_add, List.take_length, List.reverse_reverse] at e2
  show retR (b_last_deeds [some (picD p), some (linesD ls), none, none] tp2) = _
  unfold b_last_deeds
  refine (congrArg retR (seqS_nx (needd_e k hl hn rfl rfl))).trans ?_
  refine (congrArg retR (seqS_nx e0)).trans ?_
  refine (congrArg retR (seqS_nx ((forS_eq ei).trans e2))).trans ?_
  refine (congrArg retR (retS_ok (d := linesD (lastD ls)) (tp1 := tp2) ?_)).trans rfl
  show RE.ok (D.lst ((lastD ls).reverse.map fun l : Nat => D.int (l : Int)).reverse) tp2 = _
  rw [← List.map_reverse, List.reverse_reverse]; rfl
/-! ### what the law asks -/
theorem swaps_due {h w : Nat} {p : Pic} (k : PicOk h w p) {ls : List Nat} (hl : ∀ l ∈ ls, l < h + w) {at_ : Nat} (hk : at_ + 1 < ls.length) :
    sameB h w ls (swapAt ls at_) = (decide (decide (ls.getD at_ 0 < h) = decide (ls.getD (at_ + 1) 0 < h)) || (decide (ls.getD at_ 0 ∈ ls.drop (at_ + 2)) || decide (ls.getD (at_ + 1) 0 ∈ ls.drop (at_ + 2)))) := by
  have g0 : ls.getD at_ 0 < h + w := by
    rw [getD_of (List.getElem?_eq_getElem (show at_ < ls.length by omega))]
    exact hl _ (List.getElem_mem _)
  have g1 : ls.getD (at_ + 1) 0 < h + w := by
    rw [getD_of (List.getElem?_eq_getElem hk)]
    exact hl _ (List.getElem_mem _)
  have e := swap_same (ls.take at_) (ls.drop (at_ + 2)) (ls.getD at_ 0) (ls.getD (at_ + 1) 0) g0 g1
  rw [← split_two hk, ← swapAt_eq] at e
  have e2 := (sameB_iff (a := ls) (b := swapAt ls at_) k).trans e
  cases q : sameB h w ls (swapAt ls at_) with
  | true =>
    have := e2.mp q
    symm
    simpa [Bool.or_eq_true] using this
  | false =>
    symm
    rw [Bool.eq_false_iff]
    intro z
    have : sameB h w ls (swapAt ls at_) = true := e2.mpr (by simpa [Bool.or_eq_true] using z)
    rw [q] at this; cases this
theorem filter_congr' {b c : Nat → Bool} {n : Nat} (e : ∀ i, i < n → b i = c i) : (List.range n).filter b = (List.range n).filter c :=
  List.filter_congr fun i hi => e i (List.mem_range.mp hi)
theorem last_same {h w : Nat} {p : Pic} (k : PicOk h w p) (ls : List Nat) : sameB h w ls (lastD ls) = true := (sameB_iff k).mpr fun i j _ _ => (lastD_col ls).symm
theorem sameB_all {h w : Nat} {p : Pic} (k : PicOk h w p) {a b : List Nat} (e : sameB h w a b = true) : linesP h w p a = linesP h w p b := same2_all ((sameB_iff k).mp e) k
theorem sameB_symm {h w : Nat} {a b : List Nat} (e : sameB h w a b = true) : sameB h w b a = true := by
  unfold sameB at e ⊢
  rw [Bool.and_eq_true, decide_eq_true_iff, decide_eq_true_iff] at e ⊢
  exact ⟨e.1.symm, e.2.symm⟩
theorem needless_in {h w : Nat} {p : Pic} (k : PicOk h w p) {ls : List Nat} {i x : Nat} (hx : ls[i]? = some x) (hm : x ∈ ls.drop (i + 1)) : i ∈ (List.range ls.length).filter fun at_ => decide (linesP h w p (dropAt ls at_) = linesP h w p ls) := by
  have hi : i < ls.length := (List.getElem?_eq_some_iff.mp hx).1
  refine List.mem_filter.mpr ⟨List.mem_range.mpr hi, decide_eq_true (same2_all (fun a b _ _ => ?_) k)⟩
  have e : ls = ls.take i ++ (x :: ls.drop (i + 1)) := by
    conv => lhs; rw [← List.take_append_drop i ls]
    rw [List.drop_eq_getElem_cons hi]
    rw [List.getElem?_eq_getElem hi] at hx
    cases hx; rfl
  conv => rhs; rw [e]
  exact needless_col _ _ _ hm
theorem order_all {n : Nat} {ls : List Nat} (hl : ∀ l ∈ ls, l < n) : sortI ((((List.range n).filter fun l => !decide (l ∈ ls)) ++ lastD ls).map fun l : Nat => (l : Int)) = (List.range n).map fun l : Nat => (l : Int) := by
  have p : (((List.range n).filter fun l => !decide (l ∈ ls)) ++ lastD ls).Perm (List.range n) := by
    refine (List.perm_ext_iff_of_nodup ?_ List.nodup_range).mpr fun a => ?_
    · refine List.nodup_append.mpr ⟨List.nodup_range.filter _, lastD_nodup ls, fun a ha b hb e => ?_⟩
      subst e
      have h1 := (List.mem_filter.mp ha).2
      have h2 := lastD_mem.mp hb
      simp [h2] at h1
    · rw [List.mem_append, List.mem_filter, List.mem_range, lastD_mem]
      constructor
      · rintro (h | h)
        · exact h.1
        · exact hl a h
      · intro h
        by_cases c : a ∈ ls
        · exact .inr c
        · exact .inl ⟨h, by simp [c]⟩
  refine sorted_unique ((sortI_perm _).trans (p.map _)) (sortI_sorted _) ?_
  refine List.pairwise_map.mpr ?_
  exact List.pairwise_lt_range.imp fun {a b} h => by omega
end W

set_option Elab.async false
set_option linter.all false
set_option maxRecDepth 100000
set_option maxHeartbeats 1000000
namespace V
open PySem L2 G W
abbrev en (ns : List Int) (p : Pic) (h : Nat) (ls : List Nat) (x5 x6 x7 x8 x9 x10 x11 : Option D) : DEnv := [some (.scr ns), some .tape, some (picD p), some (.int (h : Int)), some (linesD ls), x5, x6, x7, x8, x9, x10, x11]
theorem orT_ok {c d : SE Bool} {env : DEnv} {tp : List D} {a b : Bool} (h1 : c env tp = .ok a tp) (h2 : d env tp = .ok b tp) : orT c d env tp = .ok (a || b) tp := by
  unfold orT; rw [h1]; simp only [RE.bind_ok]
  cases a with
  | true => rfl
  | false => rw [if_neg (by decide), h2]; rfl
def dueb (h : Nat) (ls : List Nat) (at_ : Nat) : Bool := decide (decide (ls.getD at_ 0 < h) = decide (ls.getD (at_ + 1) 0 < h)) || (decide (ls.getD at_ 0 ∈ ls.drop (at_ + 2)) || decide (ls.getD (at_ + 1) 0 ∈ ls.drop (at_ + 2)))
def tailE : SE D := sliceE (vE 4) (optI (some (binE addD (vE 8) (cE (.int 2))))) (optI none)
def dueB : SS := seqS (parS [9, 10] (consA (binE ixD (vE 4) (vE 8)) (consA (binE ixD (vE 4) (binE addD (vE 8) (cE (.int 1)))) (nilA)))) (ifS (orT (boolE (binE eqD (binE ltD (vE 9) (vE 3)) (binE ltD (vE 10) (vE 3)))) (orT (boolE (binE inD (vE 9) tailE)) (boolE (binE inD (vE 10) tailE)))) (appS 7 (vE 8)) (skipS))
theorem due_loop {ns : List Int} {p : Pic} {h : Nat} {ls : List Nat} (hn : ls.length ≤ 1000) (x5 x6 : Option D) (tp : List D) : ∃ x8 x9 x10, forS (rangeI range1D (consA (binE subD (callB lenD (consA (vE 4) (nilA))) (cE (.int 1))) (nilA))) t1 [8] dueB (en ns p h ls x5 x6 (some (linesD [])) none none none none) tp =
    .nx (en ns p h ls x5 x6 (some (linesD ((List.range (ls.length - 1)).filter (dueb h ls)))) x8 x9 x10 none) tp := by
  rw [forS_eq (rangeN1 (i := 4) (ls := ls) rfl hn)]
  obtain ⟨env', tp2, e2, rfl, x8, x9, x10, rfl⟩ := forL_inv (i := 8) (tp := tp) (env := en ns p h ls x5 x6 (some (linesD [])) none none none none) (items := rangeL 0 ((ls.length - 1 : Nat) : Int)) (body := dueB)
    (fun n env tp' => tp' = tp ∧ ∃ x8 x9 x10 : Option D, env = en ns p h ls x5 x6 (some (linesD ((List.range n).filter (dueb h ls)))) x8 x9 x10 none) 0 ⟨rfl, none, none, none, rfl⟩ (fun i d env tp' hj hI => by
      obtain ⟨rfl, x8, x9, x10, rfl⟩ := hI
      obtain ⟨rfl, hi⟩ := rangeL_get hj
      rw [Nat.zero_add]
      have hk : i + 1 < ls.length := by omega
      have g0 : ls[i]? = some (ls.getD i 0) := by rw [getD_of (List.getElem?_eq_getElem (show i < ls.length by omega)), List.getElem?_eq_getElem (show i < ls.length by omega)]
      have g1 : ls[i + 1]? = some (ls.getD (i + 1) 0) := by rw [getD_of (List.getElem?_eq_getElem hk), List.getElem?_eq_getElem hk]
      have s1 := parS2_ok (i := 9) (j := 10) (env := en ns p h ls x5 x6 (some (linesD ((List.range i).filter (dueb h ls)))) (some (.int (i : Int))) x9 x10 none) (tp := tp') (consA_ok (ixn_e (i := 4) (mj := vE 8) (k := i) rfl rfl g0) (consA_ok (ixn_e (i := 4) (k := i + 1) rfl (plus_e (j := 8) (c := 1) (k := i) rfl) g1) (rfl : nilA _ tp' = .ok [] tp'))) (by simp) (by simp)
      have et := sliceE_ok (m := vE 4) (ml := optI (some (binE addD (vE 8) (cE (.int 2))))) (mh := optI none) (env := en ns p h ls x5 x6 (some (linesD ((List.range i).filter (dueb h ls)))) (some (.int (i : Int))) (some (.int (ls.getD i 0 : Int))) (some (.int (ls.getD (i + 1) 0 : Int))) none) (tp := tp') rfl (optI_ok (plus_e (j := 8) (c := 2) (k := i) rfl)) rfl (from_nats ls (i + 2))
      have c1 := boolE_ok (binE_ok (binE_ok (ma := vE 9) (mb := vE 3) (env := en ns p h ls x5 x6 (some (linesD ((List.range i).filter (dueb h ls)))) (some (.int (i : Int))) (some (.int (ls.getD i 0 : Int))) (some (.int (ls.getD (i + 1) 0 : Int))) none) (tp := tp') (tp1 := tp') (tp2 := tp') rfl rfl (ltD_nat _ _)) (binE_ok (ma := vE 10) (mb := vE 3) (tp1 := tp') (tp2 := tp') rfl rfl (ltD_nat _ _)) (eq_bls _ _))
      have c2 := boolE_ok (binE_ok (ma := vE 9) (tp1 := tp') rfl et (in_nats (ls.getD i 0) _))
      have c3 := boolE_ok (binE_ok (ma := vE 10) (tp1 := tp') rfl et (in_nats (ls.getD (i + 1) 0) _))
      have cc : orT (boolE (binE eqD (binE ltD (vE 9) (vE 3)) (binE ltD (vE 10) (vE 3)))) (orT (boolE (binE inD (vE 9) tailE)) (boolE (binE inD (vE 10) tailE))) (en ns p h ls x5 x6 (some (linesD ((List.range i).filter (dueb h ls)))) (some (.int (i : Int))) (some (.int (ls.getD i 0 : Int))) (some (.int (ls.getD (i + 1) 0 : Int))) none) tp' = .ok (dueb h ls i) tp' := orT_ok c1 (orT_ok c2 c3)
      refine ⟨_, tp', ?_, rfl, some (.int (i : Int)), some (.int (ls.getD i 0 : Int)), some (.int (ls.getD (i + 1) 0 : Int)), rfl⟩
      refine (seqS_nx s1).trans ?_
      rw [List.range_succ, List.filter_append]
      cases q : dueb h ls i with
      | true =>
        rw [q] at cc
        have ef : List.filter (dueb h ls) [i] = [i] := by simp [q]
        rw [ef]
        refine (ifS_t cc).trans ((appS_ok (i := 7) (ds := ((List.range i).filter (dueb h ls)).map fun l : Nat => D.int (l : Int)) (tp1 := tp') (d := .int (i : Int)) rfl rfl ?_).trans ?_)
        · rw [List.length_map]
          have := List.length_filter_le (dueb h ls) (List.range i)
          rw [List.length_range] at this
          omega
        · unfold linesD
          rw [List.map_append]
          rfl
      | false =>
        rw [q] at cc
        have ef : List.filter (dueb h ls) [i] = [] := by simp [q]
        rw [ef, List.append_nil]
        exact (ifS_f cc).trans rfl)
  rw [rangeL_len, Nat.zero_add] at e2
  exact ⟨x8, x9, x10, e2⟩
def lessB : SS := ifS (andT (boolE (binE inD (binE ixD (vE 4) (vE 8)) (sliceE (vE 4) (optI (some (binE addD (vE 8) (cE (.int 1))))) (optI none)))) (boolE (binE notInD (vE 8) (callE 2 m_needless (consA (vE 2) (consA (vE 4) (nilA))))))) (retS (cE (.bl false))) (skipS)
theorem less_loop {ns : List Int} {p : Pic} {h w : Nat} (k : PicOk h w p) {ls : List Nat} (hl : ∀ l ∈ ls, l < h + w) (hn : ls.length ≤ 1000) (x5 x6 x7 x8 x9 x10 x11 : Option D) (tp : List D) : ∃ x8', forS (rangeI range1D (consA (callB lenD (consA (vE 4) (nilA))) (nilA))) t1 [8] lessB (en ns p h ls x5 x6 x7 x8 x9 x10 x11) tp = .nx (en ns p h ls x5 x6 x7 x8' x9 x10 x11) tp := by
  rw [forS_eq (rangeN (i := 4) (ls := ls) rfl hn)]
  obtain ⟨env', tp2, e2, rfl, x8', rfl⟩ := forL_inv (i := 8) (tp := tp) (env := en ns p h ls x5 x6 x7 x8 x9 x10 x11) (items := rangeL 0 (ls.length : Int)) (body := lessB)
    (fun n env tp' => tp' = tp ∧ ∃ x8 : Option D, env = en ns p h ls x5 x6 x7 x8 x9 x10 x11) 0 ⟨rfl, x8, rfl⟩ (fun i d env tp' hj hI => by
      obtain ⟨rfl, y8, rfl⟩ := hI
      obtain ⟨rfl, hi⟩ := rangeL_get hj
      have g0 : ls[i]? = some ls[i] := List.getElem?_eq_getElem hi
      have et := sliceE_ok (m := vE 4) (ml := optI (some (binE addD (vE 8) (cE (.int 1))))) (mh := optI none) (env := en ns p h ls x5 x6 x7 (some (.int (i : Int))) x9 x10 x11) (tp := tp') rfl (optI_ok (plus_e (j := 8) (c := 1) (k := i) rfl)) rfl (from_nats ls (i + 1))
      have c1 := boolE_ok (binE_ok (ixn_e (i := 4) (mj := vE 8) (k := i) (env := en ns p h ls x5 x6 x7 (some (.int (i : Int))) x9 x10 x11) (tp := tp') rfl rfl g0) et (in_nats ls[i] _))
      have c2 := boolE_ok (binE_ok (ma := vE 8) (env := en ns p h ls x5 x6 x7 (some (.int (i : Int))) x9 x10 x11) (tp := tp') (tp1 := tp') rfl (callE_ok (n := 2) (ms := consA (vE 2) (consA (vE 4) (nilA))) rfl rfl (needless_ok k hl hn tp')) (notin_of_in (in_nats i _)))
      refine ⟨_, tp', ?_, rfl, some (.int (i : Int)), rfl⟩
      refine (ifS_f (tp' := tp') ?_).trans rfl
      unfold andT
      rw [show (boolE (binE inD (binE ixD (vE 4) (vE 8)) (sliceE (vE 4) (optI (some (binE addD (vE 8) (cE (.int 1))))) (optI none)))) ((en ns p h ls x5 x6 x7 y8 x9 x10 x11).set 8 (some (.int (i : Int)))) tp' = _ from c1]
      simp only [RE.bind_ok]
      by_cases q : ls[i] ∈ ls.drop (i + 1)
      · rw [if_pos (decide_eq_true q)]
        refine c2.trans ?_
        rw [decide_eq_true (needless_in k g0 q)]; rfl
      · rw [if_neg (by simp [q])])
  exact ⟨x8', e2⟩
theorem sort_nats (z : List Nat) : sortD [linesD z] = some (.lst ((_root_.G.sortI (z.map fun l : Nat => (l : Int))).map D.int)) := by
  show (unI (z.map fun l : Nat => D.int (l : Int))).map (fun ns => D.lst ((_root_.G.sortI ns).map .int)) = _
  have e : (z.map fun l : Nat => D.int (l : Int)) = (z.map fun l : Nat => (l : Int)).map D.int := by rw [List.map_map]; rfl
  rw [e, unI_map]; rfl
theorem rangeL_nats (n : Nat) : D.lst (rangeL 0 (n : Int)) = linesD (List.range n) := by
  unfold rangeL linesD
  rw [Int.sub_zero, Int.toNat_natCast]
  congr 1
  exact List.map_congr_left fun a _ => by rw [Int.zero_add]
theorem pickL_ok {tp : List D} {zs : List Nat} (ht : Tape tp) (h0 : zs ≠ []) (hl : zs.length ≤ 1000) : ∃ (a : Nat) (tp' : List D), m_law_pick [.tape, linesD zs] tp = .ok (.int (a : Int)) tp' ∧ Tape tp' ∧ a ∈ zs := by
  obtain ⟨v, tp', e, t, hv⟩ := pick_ok (ds := zs.map fun l : Nat => D.int (l : Int)) ht (by simpa using h0) (by rw [List.length_map]; omega)
  obtain ⟨a, ha, rfl⟩ := List.mem_map.mp hv
  exact ⟨a, tp', e, t, ha⟩
def swapS : SS := seqS (setS 8 (callE 2 m_law_pick (consA (vE 1) (consA (vE 6) (nilA))))) (seqS (setS 11 (swapE 4 8)) (ifS (orT (boolE (binE neD (callE 2 m_painted (consA (vE 2) (consA (vE 11) (nilA)))) (callE 2 m_painted (consA (vE 2) (consA (vE 4) (nilA)))))) (boolE (binE isNotNoneD (callE 3 m_always_same (consA (vE 2) (consA (vE 11) (consA (vE 4) (nilA))))) (cE (.bl true))))) (retS (cE (.bl false))) (skipS)))
theorem swap_part {ns : List Int} {p : Pic} {h w : Nat} (k : PicOk h w p) {ls sp : List Nat} (hl : ∀ l ∈ ls, l < h + w) (hn : ls.length ≤ 1000) (hs : ∀ a ∈ sp, a + 1 < ls.length ∧ sameB h w ls (swapAt ls a) = true) (nsp : sp.length ≤ 1000) (x5 x7 x8 x9 x10 : Option D) {tp : List D} (ht : Tape tp) :
    ∃ x8' x11' tp', ifS (boolE (binE neD (vE 6) (lstE (nilA)))) swapS (skipS) (en ns p h ls x5 (some (linesD sp)) x7 x8 x9 x10 none) tp = .nx (en ns p h ls x5 (some (linesD sp)) x7 x8' x9 x10 x11') tp' ∧ Tape tp' := by
  have c0 := boolE_ok (binE_ok (ma := vE 6) (mb := lstE (nilA)) (env := en ns p h ls x5 (some (linesD sp)) x7 x8 x9 x10 none) (tp := tp) (tp1 := tp) rfl (lstE_ok (ds := []) rfl (by decide)) (ne_of_eq (eq_nats sp [])))
  by_cases q : sp = []
  · rw [decide_eq_true q] at c0
    exact ⟨x8, none, tp, (ifS_f c0).trans rfl, ht⟩
  · rw [decide_eq_false q] at c0
    obtain ⟨a, tp', e, t', ha⟩ := pickL_ok ht q nsp
    obtain ⟨hk, hsm⟩ := hs a ha
    have sm := swapAt_mem hk hl
    have sn : (swapAt ls a).length ≤ 1000 := by rw [swapAt_len hk]; exact hn
    have s1 := setS_ok (i := 8) (callE_ok (n := 2) (ms := consA (vE 1) (consA (vE 6) (nilA))) (env := en ns p h ls x5 (some (linesD sp)) x7 x8 x9 x10 none) (tp := tp) rfl rfl e)
    have s2 := setS_ok (i := 11) (swapE_ok (i := 4) (j := 8) (env := en ns p h ls x5 (some (linesD sp)) x7 (some (.int (a : Int))) x9 x10 none) (tp := tp') rfl rfl hk hn)
    have ep := sameB_all k hsm
    have c1 := boolE_ok (binE_ok (callE_ok (n := 2) (ms := consA (vE 2) (consA (vE 11) (nilA))) (env := en ns p h ls x5 (some (linesD sp)) x7 (some (.int (a : Int))) x9 x10 (some (linesD (swapAt ls a)))) (tp := tp') rfl rfl (painted_ok k sm (by omega) tp')) (callE_ok (n := 2) (ms := consA (vE 2) (consA (vE 4) (nilA))) rfl rfl (painted_ok k hl (by omega) tp')) (ne_of_eq (eq_pics _ _)))
    rw [decide_eq_true ep.symm] at c1
    have as := always_same_ok k sm hl sn hn tp'
    rw [sameB_symm hsm] at as
    have c2 := boolE_ok (binE_ok (f := isNotNoneD) (mb := cE (.bl true)) (tp2 := tp') (callE_ok (n := 3) (ms := consA (vE 2) (consA (vE 11) (consA (vE 4) (nilA)))) (env := en ns p h ls x5 (some (linesD sp)) x7 (some (.int (a : Int))) x9 x10 (some (linesD (swapAt ls a)))) (tp := tp') rfl rfl as) rfl (rfl : isNotNoneD (.bl true) (.bl true) = some (.bl false)))
    refine ⟨some (.int (a : Int)), some (linesD (swapAt ls a)), tp', ?_, t'⟩
    refine (ifS_t c0).trans ?_
    refine (seqS_nx s1).trans ((seqS_nx s2).trans ?_)
    exact (ifS_f (orT_ok c1 c2)).trans rfl
theorem parS3_ok {i j l : Nat} {ms : SE (List D)} {env : DEnv} {tp tp1 : List D} {a b c : D} (h : ms env tp = .ok [a, b, c] tp1) (hi : i < env.length) (hj : j < env.length) (hl : l < env.length) : parS [i, j, l] ms env tp = .nx (((env.set i (some a)).set j (some b)).set l (some c)) tp1 := by
  unfold parS
  rw [h]
  simp only [RE.bindS]
  rw [if_pos (by simp [hi, hj, hl])]
  rfl
theorem pick2_ok {tp : List D} {a b : Nat} (ht : Tape tp) : ∃ (m : Nat) (tp' : List D), m_law_pick [.tape, .lst [.int (a : Int), .int (b : Int)]] tp = .ok (.int (m : Int)) tp' ∧ Tape tp' ∧ (m = a ∨ m = b) := by
  obtain ⟨v, tp1, e1, t1', v1⟩ := pick_ok (ds := [.int (a : Int), .int (b : Int)]) ht (by simp) (by simp)
  rcases List.mem_cons.mp v1 with q | q
  · subst q; exact ⟨a, tp1, e1, t1', .inl rfl⟩
  · have q := List.mem_singleton.mp q
    subst q; exact ⟨b, tp1, e1, t1', .inr rfl⟩
theorem hv (ns : List Int) (hns : ns.length ≤ 63) : ∃ tp', retR (b_law (some (.scr ns) :: some .tape :: List.replicate 10 none) [.scr ns, .int 0, .int 5390, .int 0]) = .ok (.bl true) tp' := by
  have t0 := tape0 ns 5390 hns (by decide) (by decide)
  generalize [D.scr ns, D.int 0, D.int 5390, D.int 0] = tp at t0
  show ∃ tp', retR (b_law [some (.scr ns), some .tape, none, none, none, none, none, none, none, none, none, none] tp) = .ok (.bl true) tp'
  obtain ⟨m, tp1, e1, t1', hm⟩ := pick2_ok (a := 3) (b := 9) t0
  obtain ⟨h, w, p, tp2, e2, t2, k, hh, hw⟩ := picture_ok (most := m) t1' (by omega) (by omega)
  have h30 := k.h30
  have w30 := k.w30
  have h1 := k.h1
  have s1 := setS_ok (i := 2) (callE_ok (n := 2) (m := m_law_picture) (env := [some (.scr ns), some .tape, none, none, none, none, none, none, none, none, none, none]) (ms := consA (vE 1) (consA (callE 2 m_law_pick (consA (vE 1) (consA (lstE (consA (cE (.int 3)) (consA (cE (.int 9)) (nilA)))) (nilA)))) (nilA))) (consA_ok rfl (consA_ok (callE_ok (consA_ok rfl (consA_ok (lstE_ok (ds := [.int 3, .int 9]) rfl (by simp)) rfl)) rfl e1) rfl)) rfl e2)
  obtain ⟨ls, tp3, e3, t3, hn3, hls⟩ := deeds_ok (most := 9) t2 k (by omega)
  have hn : ls.length ≤ 1000 := by omega
  have s2 := parS2_ok (i := 3) (j := 4) (env := [some (.scr ns), some .tape, some (picD p), none, none, none, none, none, none, none, none, none]) (tp := tp2) (consA_ok (len_e (i := 2) k rfl) (consA_ok (callE_ok (n := 3) (m := m_law_deeds) (ms := consA (vE 1) (consA (vE 2) (consA (cE (.int 9)) (nilA)))) rfl rfl e3) (rfl : nilA _ tp3 = .ok [] tp3))) (by simp) (by simp)
  have s3 := parS3_ok (i := 5) (j := 6) (l := 7) (env := en ns p h ls none none none none none none none) (tp := tp3) (consA_ok (callE_ok (n := 2) (m := m_last_deeds) (ms := consA (vE 2) (consA (vE 4) (nilA))) rfl rfl (last_deeds_ok k hls hn tp3)) (consA_ok (callE_ok (n := 2) (m := m_swaps_free) (ms := consA (vE 2) (consA (vE 4) (nilA))) rfl rfl (swaps_free_ok k hls hn tp3)) (consA_ok (lstE_ok (ms := nilA) (env := en ns p h ls none none none none none none none) (tp := tp3) (ds := []) (tp1 := tp3) rfl (by simp)) (rfl : nilA _ tp3 = .ok [] tp3)))) (by simp) (by simp) (by simp)
  generalize hsp : ((List.range (ls.length - 1)).filter fun at_ => sameB h w ls (swapAt ls at_)) = sp at s3
  obtain ⟨x8, x9, x10, s4⟩ := due_loop (ns := ns) (p := p) (h := h) (ls := ls) hn (some (linesD (lastD ls))) (some (linesD sp)) tp3
  have edue : (List.range (ls.length - 1)).filter (dueb h ls) = sp := by
    rw [← hsp]
    exact filter_congr' fun i hi => (swaps_due k hls (show i + 1 < ls.length by omega)).symm
  rw [edue] at s4
  have c5 := boolE_ok (binE_ok (ma := vE 6) (mb := vE 7) (env := en ns p h ls (some (linesD (lastD ls))) (some (linesD sp)) (some (linesD sp)) x8 x9 x10 none) (tp := tp3) (tp1 := tp3) (tp2 := tp3) rfl rfl (ne_of_eq (eq_nats sp sp)))
  rw [decide_eq_true rfl] at c5
  have lm : ∀ l ∈ lastD ls, l < h + w := fun l q => hls l (lastD_mem.mp q)
  have ll : (lastD ls).length ≤ 1000 := by have := lastD_len ls; omega
  have as := always_same_ok k hls lm hn ll tp3
  rw [last_same k ls] at as
  have se := same_end_ok k hls lm hn ll tp3
  rw [decide_eq_true (sameB_all k (last_same k ls))] at se
  have c6 := orT_ok (boolE_ok (binE_ok (f := isNotNoneD) (mb := cE (.bl true)) (tp2 := tp3) (callE_ok (n := 3) (ms := consA (vE 2) (consA (vE 4) (consA (vE 5) (nilA)))) (env := en ns p h ls (some (linesD (lastD ls))) (some (linesD sp)) (some (linesD sp)) x8 x9 x10 none) (tp := tp3) rfl rfl as) rfl (rfl : isNotNoneD (.bl true) (.bl true) = some (.bl false))))
    (boolE_ok (binE_ok (f := isNotNoneD) (mb := cE (.bl true)) (tp2 := tp3) (callE_ok (n := 3) (ms := consA (vE 2) (consA (vE 4) (consA (vE 5) (nilA)))) (tp := tp3) rfl rfl se) rfl (rfl : isNotNoneD (.bl true) (.bl true) = some (.bl false))))
  have hs : ∀ a ∈ sp, a + 1 < ls.length ∧ sameB h w ls (swapAt ls a) = true := fun a ha => by
    rw [← hsp] at ha
    obtain ⟨q1, q2⟩ := List.mem_filter.mp ha
    have := List.mem_range.mp q1
    exact ⟨by omega, q2⟩
  have nsp : sp.length ≤ 1000 := by
    rw [← hsp]
    have := List.length_filter_le (fun at_ => sameB h w ls (swapAt ls at_)) (List.range (ls.length - 1))
    rw [List.length_range] at this
    omega
  obtain ⟨y8, y11, tp4, s7, t4⟩ := swap_part (ns := ns) k hls hn hs nsp (some (linesD (lastD ls))) (some (linesD sp)) x8 x9 x10 t3
  obtain ⟨z8, s8⟩ := less_loop (ns := ns) k hls hn (some (linesD (lastD ls))) (some (linesD sp)) (some (linesD sp)) y8 x9 x10 y11 tp4
  obtain ⟨os, tp5, e5, t5, hn5, hos⟩ := deeds_ok (most := 9) t4 k (by omega)
  have on : os.length ≤ 1000 := by omega
  have s9 := setS_ok (i := 10) (callE_ok (n := 3) (m := m_law_deeds) (env := en ns p h ls (some (linesD (lastD ls))) (some (linesD sp)) (some (linesD sp)) z8 x9 x10 y11) (ms := consA (vE 1) (consA (vE 2) (consA (cE (.int 9)) (nilA)))) (tp := tp4) rfl rfl e5)
  have un := unpainted_ok k hls hn tp5
  have ul : (((List.range (h + w)).filter fun l => !decide (l ∈ ls))).length ≤ 1000 := by
    have := List.length_filter_le (fun l => !decide (l ∈ ls)) (List.range (h + w))
    rw [List.length_range] at this
    omega
  have so := sort_nats (((List.range (h + w)).filter fun l => !decide (l ∈ ls)) ++ lastD ls)
  rw [order_all hls] at so
  have so2 : D.lst (((List.range (h + w)).map fun l : Nat => (l : Int)).map D.int) = linesD (List.range (h + w)) := by unfold linesD; rw [List.map_map]; rfl
  rw [so2] at so
  have rg := rg1E_ok (k := .lst) (ma := binE addD (vE 3) (callB lenD (consA (binE ixD (vE 2) (cE (.int 0))) (nilA)))) (env := en ns p h ls (some (linesD (lastD ls))) (some (linesD sp)) (some (linesD sp)) z8 x9 (some (linesD os)) y11) (tp := tp5) (n := h + w) (binE_ok rfl (wide_e (i := 2) k rfl) rfl) (by omega)
  rw [rangeL_nats] at rg
  have c10 := boolE_ok (binE_ok (callB_ok (ms := consA (binE addD (callB listD (consA (callE 2 m_unpainted (consA (vE 2) (consA (vE 4) (nilA)))) (nilA))) (vE 5)) (nilA)) (env := en ns p h ls (some (linesD (lastD ls))) (some (linesD sp)) (some (linesD sp)) z8 x9 (some (linesD os)) y11) (tp := tp5) (consA_ok (binE_ok (mb := vE 5) (tp2 := tp5) (callB_ok (d := linesD ((List.range (h + w)).filter fun l => !decide (l ∈ ls))) (consA_ok (callE_ok rfl rfl un) rfl) rfl) rfl (add_nats (by omega))) rfl) so) rg (ne_of_eq (eq_nats _ _)))
  rw [decide_eq_true rfl] at c10
  have c11 := boolE_ok (binE_ok (callE_ok (n := 3) (ms := consA (vE 2) (consA (vE 4) (consA (vE 10) (nilA)))) (env := en ns p h ls (some (linesD (lastD ls))) (some (linesD sp)) (some (linesD sp)) z8 x9 (some (linesD os)) y11) (tp := tp5) rfl rfl (same_end_ok k hls hos hn on tp5)) (binE_ok (callE_ok (n := 2) (ms := consA (vE 2) (consA (vE 4) (nilA))) rfl rfl (painted_ok k hls (by omega) tp5)) (callE_ok (n := 2) (ms := consA (vE 2) (consA (vE 10) (nilA))) rfl rfl (painted_ok k hos (by omega) tp5)) (eq_pics _ _)) (ne_of_eq (eq_bls _ _)))
  rw [decide_eq_true rfl] at c11
  have ab : ∀ l ∈ ls ++ os, l < h + w := fun l q => (List.mem_append.mp q).elim (hls l) (hos l)
  have ba : ∀ l ∈ os ++ ls, l < h + w := fun l q => (List.mem_append.mp q).elim (hos l) (hls l)
  have nab : (ls ++ os).length ≤ 1000 := by rw [List.length_append]; omega
  have nba : (os ++ ls).length ≤ 1000 := by rw [List.length_append]; omega
  have argsE := consA_ok (c := vE 2) (env := en ns p h ls (some (linesD (lastD ls))) (some (linesD sp)) (some (linesD sp)) z8 x9 (some (linesD os)) y11) (tp := tp5) (tp' := tp5) rfl (consA_ok (binE_ok (ma := vE 4) (mb := vE 10) (tp1 := tp5) (tp2 := tp5) rfl rfl (add_nats (a := ls) (b := os) (by omega))) (consA_ok (binE_ok (ma := vE 10) (mb := vE 4) (tp1 := tp5) (tp2 := tp5) rfl rfl (add_nats (a := os) (b := ls) (by omega))) (rfl : nilA _ tp5 = .ok [] tp5)))
  have c12 := retS_ok (binE_ok (callE_ok argsE rfl (always_same_ok k ab ba nab nba tp5)) (callE_ok argsE rfl (law_wide_ok k ab ba tp5)) (eq_bls _ _))
  rw [decide_eq_true rfl] at c12
  refine ⟨tp5, ?_⟩
  unfold b_law
  refine (congrArg retR (seqS_nx s1)).trans ?_
  refine (congrArg retR (seqS_nx s2)).trans ?_
  refine (congrArg retR (seqS_nx s3)).trans ?_
  refine (congrArg retR (seqS_nx s4)).trans ?_
  refine (congrArg retR (seqS_nx ((ifS_f c5).trans rfl))).trans ?_
  refine (congrArg retR (seqS_nx ((ifS_f c6).trans rfl))).trans ?_
  refine (congrArg retR (seqS_nx s7)).trans ?_
  refine (congrArg retR (seqS_nx s8)).trans ?_
  refine (congrArg retR (seqS_nx s9)).trans ?_
  refine (congrArg retR (seqS_nx ((ifS_f c10).trans rfl))).trans ?_
  refine (congrArg retR (seqS_nx ((ifS_f c11).trans rfl))).trans ?_
  exact congrArg retR c12
end V

set_option Elab.async false
set_option linter.all false
set_option maxRecDepth 100000
set_option maxHeartbeats 0
namespace Hd
open PySem PySem.Spec PyProof.Rows L2
def d_is_int : He.DefD := ⟨("is_int", none), "is_int", "is_int", defArgs (W.top 8), defBody (W.top 8), defScope (W.top 8), [], []⟩
def d_is_in : He.DefD := ⟨("is_in", none), "is_in", "is_in", defArgs (W.top 9), defBody (W.top 9), defScope (W.top 9), [], []⟩
def d_is_picture : He.DefD := ⟨("is_picture", none), "is_picture", "is_picture", defArgs (W.top 10), defBody (W.top 10), defScope (W.top 10), [], []⟩
def d_need_picture : He.DefD := ⟨("need_picture", none), "need_picture", "need_picture", defArgs (W.top 11), defBody (W.top 11), defScope (W.top 11), [], []⟩
def d_lines_of : He.DefD := ⟨("lines_of", none), "lines_of", "lines_of", defArgs (W.top 12), defBody (W.top 12), defScope (W.top 12), [], []⟩
def d_are_deeds : He.DefD := ⟨("are_deeds", none), "are_deeds", "are_deeds", defArgs (W.top 13), defBody (W.top 13), defScope (W.top 13), [], []⟩
def d_painted_line : He.DefD := ⟨("painted_line", none), "painted_line", "painted_line", defArgs (W.top 14), defBody (W.top 14), defScope (W.top 14), [], []⟩
def d_all_painted : He.DefD := ⟨("all_painted", none), "all_painted", "all_painted", defArgs (W.top 15), defBody (W.top 15), defScope (W.top 15), [], []⟩
def d_painted : He.DefD := ⟨("painted", none), "painted", "painted", defArgs (W.top 16), defBody (W.top 16), defScope (W.top 16), [], []⟩
def d_need_deeds : He.DefD := ⟨("need_deeds", none), "need_deeds", "need_deeds", defArgs (W.top 18), defBody (W.top 18), defScope (W.top 18), [], []⟩
def d_needless : He.DefD := ⟨("needless", none), "needless", "needless", defArgs (W.top 19), defBody (W.top 19), defScope (W.top 19), [], []⟩
def d_last_deeds : He.DefD := ⟨("last_deeds", none), "last_deeds", "last_deeds", defArgs (W.top 20), defBody (W.top 20), defScope (W.top 20), [], []⟩
def d_same_end : He.DefD := ⟨("same_end", none), "same_end", "same_end", defArgs (W.top 21), defBody (W.top 21), defScope (W.top 21), [], []⟩
def d_always_same : He.DefD := ⟨("always_same", none), "always_same", "always_same", defArgs (W.top 22), defBody (W.top 22), defScope (W.top 22), [], []⟩
def d_swaps_free : He.DefD := ⟨("swaps_free", none), "swaps_free", "swaps_free", defArgs (W.top 23), defBody (W.top 23), defScope (W.top 23), [], []⟩
def d_unpainted : He.DefD := ⟨("unpainted", none), "unpainted", "unpainted", defArgs (W.top 24), defBody (W.top 24), defScope (W.top 24), [], []⟩
def d_law_taken : He.DefD := ⟨("_law_taken", none), "_law_taken", "_law_taken", defArgs (W.top 26), defBody (W.top 26), defScope (W.top 26), [], []⟩
def d_law_pick : He.DefD := ⟨("_law_pick", none), "_law_pick", "_law_pick", defArgs (W.top 27), defBody (W.top 27), defScope (W.top 27), [], []⟩
def d_law_mixed : He.DefD := ⟨("_law_mixed", none), "_law_mixed", "_law_mixed", defArgs (W.top 28), defBody (W.top 28), defScope (W.top 28), [], []⟩
def d_law_any : He.DefD := ⟨("_law_any", none), "_law_any", "_law_any", defArgs (W.top 29), defBody (W.top 29), defScope (W.top 29), [], []⟩
def d_law_paint : He.DefD := ⟨("_law_paint", none), "_law_paint", "_law_paint", defArgs (W.top 30), defBody (W.top 30), defScope (W.top 30), [], []⟩
def d_law_painted : He.DefD := ⟨("_law_painted", none), "_law_painted", "_law_painted", defArgs (W.top 31), defBody (W.top 31), defScope (W.top 31), [], []⟩
def d_law_deeds : He.DefD := ⟨("_law_deeds", none), "_law_deeds", "_law_deeds", defArgs (W.top 32), defBody (W.top 32), defScope (W.top 32), [], []⟩
def d_law_picture : He.DefD := ⟨("_law_picture", none), "_law_picture", "_law_picture", defArgs (W.top 33), defBody (W.top 33), defScope (W.top 33), [], []⟩
def d_law_wide : He.DefD := ⟨("_law_wide", none), "_law_wide", "_law_wide", defArgs (W.top 34), defBody (W.top 34), defScope (W.top 34), [], []⟩
def d_law : He.DefD := ⟨("law", none), "law", "law", defArgs (W.top 35), defBody (W.top 35), defScope (W.top 35), [], []⟩
def fn : List He.DefD := [d_is_int, d_is_in, d_is_picture, d_need_picture, d_lines_of, d_are_deeds, d_painted_line, d_all_painted, d_painted, d_need_deeds, d_needless, d_last_deeds, d_same_end, d_always_same, d_swaps_free, d_unpainted, d_law_taken, d_law_pick, d_law_mixed, d_law_any, d_law_paint, d_law_painted, d_law_deeds, d_law_picture, d_law_wide, d_law]
def fa0 : List He.Fa := [.glo "is_int", .glo "is_in", .glo "is_picture", .glo "need_picture", .glo "lines_of", .glo "are_deeds", .glo "painted_line", .glo "all_painted", .glo "painted", .glo "need_deeds", .glo "needless", .glo "last_deeds", .glo "same_end", .glo "always_same", .glo "swaps_free", .glo "unpainted", .glo "_law_taken", .glo "_law_pick", .glo "_law_mixed", .glo "_law_any", .glo "_law_paint", .glo "_law_painted", .glo "_law_deeds", .glo "_law_picture", .glo "_law_wide", .glo "law", .free "all", .free "bool", .free "int", .free "isinstance"]
def fa1 : List He.Fa := [.free "len", .free "list", .free "range", .free "sorted", .free "str", .free "tuple", .int "MOST_SIDE" 30, .str "BLACK" "#", .str "WHITE" "."]
def fa : List He.Fa := fa0 ++ fa1
def nm0 : List Str := ["__name__", "PaintError", "BadPicture", "BadDeeds", "MOST_SIDE", "BLACK", "WHITE", "is_int", "is_in", "is_picture", "need_picture", "lines_of", "are_deeds", "painted_line", "all_painted", "painted", "need_deeds", "needless", "last_deeds", "same_end", "always_same", "swaps_free", "unpainted", "_law_taken", "_law_pick", "_law_mixed", "_law_any", "_law_paint", "_law_painted", "_law_deeds"]
def nm1 : List Str := ["_law_picture", "_law_wide"]
abbrev nms : List Str := nm0 ++ nm1
abbrev R : PySem.W.OpenRow := PySem.W.OpenLaw.row PySem.Challenge.rw_linepainters_k90_swaps_of_deeds
abbrev hk : PySem.W.Hook := He.hookD 4 fa fn
def ob (s : PySem.W.SharedT) : He.AlD := He.obsDG 4 fa fn (HandSHeadRun.getT s)
theorem ob_eq (s : PySem.W.SharedT) : ob s = hk.obs s.abs := He.obsDG_eq (HandSHeadRun.getT_eq s)
theorem run (w : World) : HandSHeadRun.RunEq R (PySem.W.view R.prog [35]) hk ob 6000 nms w := by
  intro os
  kernel_rfl
theorem facts {P : Program} {w : World} {K : PySem.W.Frag} {h : Heap} {mg : Str → Option Value} {f : Addr} (X : K.In h) (hG : h.Ns mainGlobals mg) (hfa : mg ("law" : Str) = some (.ref f)) (c : He.SaysD fa fn K) :
    ∃ fd : FuncData, (∀ (s : Shared) (v : Value), BindsTo s fd ⟨[v], []⟩ [("_law_script", v)]) ∧ ∀ base : Heap, K.In base → base.Ns mainGlobals mg → FnOk P w K mg base CX0 6 f fd ["_law_script"] (_root_.G.spLaw K) := by
  obtain ⟨fd0, F0⟩ := c.def_ 0 (d := d_is_int) rfl
  obtain ⟨fd1, F1⟩ := c.def_ 1 (d := d_is_in) rfl
  obtain ⟨fd2, F2⟩ := c.def_ 2 (d := d_is_picture) rfl
  obtain ⟨fd3, F3⟩ := c.def_ 3 (d := d_need_picture) rfl
  obtain ⟨fd4, F4⟩ := c.def_ 4 (d := d_lines_of) rfl
  obtain ⟨fd5, F5⟩ := c.def_ 5 (d := d_are_deeds) rfl
  obtain ⟨fd6, F6⟩ := c.def_ 6 (d := d_painted_line) rfl
  obtain ⟨fd7, F7⟩ := c.def_ 7 (d := d_all_painted) rfl
  obtain ⟨fd8, F8⟩ := c.def_ 8 (d := d_painted) rfl
  obtain ⟨fd9, F9⟩ := c.def_ 9 (d := d_need_deeds) rfl
  obtain ⟨fd10, F10⟩ := c.def_ 10 (d := d_needless) rfl
  obtain ⟨fd11, F11⟩ := c.def_ 11 (d := d_last_deeds) rfl
  obtain ⟨fd12, F12⟩ := c.def_ 12 (d := d_same_end) rfl
  obtain ⟨fd13, F13⟩ := c.def_ 13 (d := d_always_same) rfl
  obtain ⟨fd14, F14⟩ := c.def_ 14 (d := d_swaps_free) rfl
  obtain ⟨fd15, F15⟩ := c.def_ 15 (d := d_unpainted) rfl
  obtain ⟨fd16, F16⟩ := c.def_ 16 (d := d_law_taken) rfl
  obtain ⟨fd17, F17⟩ := c.def_ 17 (d := d_law_pick) rfl
  obtain ⟨fd18, F18⟩ := c.def_ 18 (d := d_law_mixed) rfl
  obtain ⟨fd19, F19⟩ := c.def_ 19 (d := d_law_any) rfl
  obtain ⟨fd20, F20⟩ := c.def_ 20 (d := d_law_paint) rfl
  obtain ⟨fd21, F21⟩ := c.def_ 21 (d := d_law_painted) rfl
  obtain ⟨fd22, F22⟩ := c.def_ 22 (d := d_law_deeds) rfl
  obtain ⟨fd23, F23⟩ := c.def_ 23 (d := d_law_picture) rfl
  obtain ⟨fd24, F24⟩ := c.def_ 24 (d := d_law_wide) rfl
  obtain ⟨fd25, F25⟩ := c.def_ 25 (d := d_law) rfl
  have T : W.Tx K mg := {
    all := He.free_ok X hG (c.fact 26 (f := .free "all") rfl),
    bool := He.free_ok X hG (c.fact 27 (f := .free "bool") rfl),
    int := He.free_ok X hG (c.fact 28 (f := .free "int") rfl),
    isinstance := He.free_ok X hG (c.fact 29 (f := .free "isinstance") rfl),
    len := He.free_ok X hG (c.fact 30 (f := .free "len") rfl),
    list := He.free_ok X hG (c.fact 31 (f := .free "list") rfl),
    range := He.free_ok X hG (c.fact 32 (f := .free "range") rfl),
    sorted := He.free_ok X hG (c.fact 33 (f := .free "sorted") rfl),
    str := He.free_ok X hG (c.fact 34 (f := .free "str") rfl),
    tuple := He.free_ok X hG (c.fact 35 (f := .free "tuple") rfl),
    MOST_SIDE := He.int_ok X hG (c.fact 36 (f := .int "MOST_SIDE" 30) rfl),
    BLACK := He.str_ok X hG (c.fact 37 (f := .str "BLACK" "#") rfl),
    WHITE := He.str_ok X hG (c.fact 38 (f := .str "WHITE" ".") rfl),
    f_is_int := ⟨_, _, F0, He.glo_ok X hG (c.fact 0 (f := .glo "is_int") rfl)⟩,
    f_is_in := ⟨_, _, F1, He.glo_ok X hG (c.fact 1 (f := .glo "is_in") rfl)⟩,
    f_is_picture := ⟨_, _, F2, He.glo_ok X hG (c.fact 2 (f := .glo "is_picture") rfl)⟩,
    f_need_picture := ⟨_, _, F3, He.glo_ok X hG (c.fact 3 (f := .glo "need_picture") rfl)⟩,
    f_lines_of := ⟨_, _, F4, He.glo_ok X hG (c.fact 4 (f := .glo "lines_of") rfl)⟩,
    f_are_deeds := ⟨_, _, F5, He.glo_ok X hG (c.fact 5 (f := .glo "are_deeds") rfl)⟩,
    f_painted_line := ⟨_, _, F6, He.glo_ok X hG (c.fact 6 (f := .glo "painted_line") rfl)⟩,
    f_all_painted := ⟨_, _, F7, He.glo_ok X hG (c.fact 7 (f := .glo "all_painted") rfl)⟩,
    f_painted := ⟨_, _, F8, He.glo_ok X hG (c.fact 8 (f := .glo "painted") rfl)⟩,
    f_need_deeds := ⟨_, _, F9, He.glo_ok X hG (c.fact 9 (f := .glo "need_deeds") rfl)⟩,
    f_needless := ⟨_, _, F10, He.glo_ok X hG (c.fact 10 (f := .glo "needless") rfl)⟩,
    f_last_deeds := ⟨_, _, F11, He.glo_ok X hG (c.fact 11 (f := .glo "last_deeds") rfl)⟩,
    f_same_end := ⟨_, _, F12, He.glo_ok X hG (c.fact 12 (f := .glo "same_end") rfl)⟩,
    f_always_same := ⟨_, _, F13, He.glo_ok X hG (c.fact 13 (f := .glo "always_same") rfl)⟩,
    f_swaps_free := ⟨_, _, F14, He.glo_ok X hG (c.fact 14 (f := .glo "swaps_free") rfl)⟩,
    f_unpainted := ⟨_, _, F15, He.glo_ok X hG (c.fact 15 (f := .glo "unpainted") rfl)⟩,
    f_law_taken := ⟨_, _, F16, He.glo_ok X hG (c.fact 16 (f := .glo "_law_taken") rfl)⟩,
    f_law_pick := ⟨_, _, F17, He.glo_ok X hG (c.fact 17 (f := .glo "_law_pick") rfl)⟩,
    f_law_mixed := ⟨_, _, F18, He.glo_ok X hG (c.fact 18 (f := .glo "_law_mixed") rfl)⟩,
    f_law_any := ⟨_, _, F19, He.glo_ok X hG (c.fact 19 (f := .glo "_law_any") rfl)⟩,
    f_law_paint := ⟨_, _, F20, He.glo_ok X hG (c.fact 20 (f := .glo "_law_paint") rfl)⟩,
    f_law_painted := ⟨_, _, F21, He.glo_ok X hG (c.fact 21 (f := .glo "_law_painted") rfl)⟩,
    f_law_deeds := ⟨_, _, F22, He.glo_ok X hG (c.fact 22 (f := .glo "_law_deeds") rfl)⟩,
    f_law_picture := ⟨_, _, F23, He.glo_ok X hG (c.fact 23 (f := .glo "_law_picture") rfl)⟩,
    f_law_wide := ⟨_, _, F24, He.glo_ok X hG (c.fact 24 (f := .glo "_law_wide") rfl)⟩ }
  have e := hfa.symm.trans (He.glo_ok X hG (c.fact 25 (f := .glo "law") rfl))
  cases e
  have b := FunD.bindsA (ps := ["_law_script"]) F25 fun _ _ _ _ _ _ us hl => match us, hl with | [_], _ => rfl
  exact ⟨fd25, fun s v => b s [v] rfl, fun base _ _ => _root_.G.fn_law (k := 5) (N := ["_law_start", "_law_high", "_law_deeds_here", "_law_last", "_law_spots", "_law_due", "_law_at", "_law_one", "_law_other", "_law_there"]) F25 W.sc_law (Or.inl rfl) (Or.inl rfl) (by decide +kernel) (by decide +kernel) (m := W.b_law) (fun r cdv A outer s H E hr => W.law_body T r cdv A outer s H E hr) _root_.V.hv⟩
end Hd
open PySem PySem.W PySem.Calls PyProof.Rows
theorem PySem.Challenge.cw_linepainters_k90_swaps_of_deeds_holds : PySem.Challenge.rw_linepainters_k90_swaps_of_deeds.Holds := by
  w_on; o_law
  refine HandSHeadRun.head_any (r := OpenLaw.row PySem.Challenge.rw_linepainters_k90_swaps_of_deeds) (q := view (OpenLaw.row PySem.Challenge.rw_linepainters_k90_swaps_of_deeds).prog [35]) (H := Hd.hk) (ob := Hd.ob) (M := 6000) (loose := Hd.nms) (d := HandSHeadRun.topDef (OpenLaw.row PySem.Challenge.rw_linepainters_k90_swaps_of_deeds).prog 35) (kwd := []) Hd.ob_eq
    (by kernel_rfl) (fun s => by kernel_rfl) Hd.run (by kernel_rfl) (by kernel_rfl) (by kernel_rfl) (by rfl) (by first | assumption | decide +kernel) (by decide +kernel) ⟨rfl, rfl, rfl, rfl, rfl, by decide +kernel⟩ ?hw ?hc
  case hw => w_witness2
  case hc =>
    refine L2.walk_ofE (l := PySem.Challenge.rw_linepainters_k90_swaps_of_deeds) (n := 63) (k := 6) (x := "_law_script") (CX := L2.CX0) rfl (by decide) (by kernel_rfl) ⟨rfl, by decide, by decide⟩ ?F (fun _ _ _ _ z => z)
    intro w mg fa h Y hG hmg0
    obtain ⟨K, KX, c⟩ := Y
    have hmg : mg ("law" : PySem.Str) = some (.ref fa) := by
      have e : (HandSHeadRun.topDef (OpenLaw.row PySem.Challenge.rw_linepainters_k90_swaps_of_deeds).prog 35).name = ("law" : PySem.Str) := by kernel_rfl
      rw [← e]
      exact hmg0
    obtain ⟨fd, hb, hF⟩ := Hd.facts (P := (PySem.Challenge.rw_linepainters_k90_swaps_of_deeds).prog) (w := w) KX hG hmg c
    exact ⟨K, fd, _root_.G.spLaw K, KX, hb, fun H a ns hl hh hS => ⟨a, ns, rfl, hS, hl, fun _ => rfl⟩, hF⟩

