import PyProof.Rows.All
import Wide.All
import OpenK.AllK
import Wide.FinOn
import HandS.ForMost
import HandS.ForExc
import HandS.CallSlots
import HandS.Flow
import HandS.TupAny
import HandS.Deep
import HandS.IsInst
import HandS.RaiseMore
import HandS.SortInts
import HandS.Style
import HandS.Codes
import HandS.NoneIn
import HandS.Walk
import HandS.Comp
import HandS.OwnEq
import PySem.Challenge.RW_meetwhere_k07_results_equal_by_all_attri
set_option Elab.async false
section
set_option Elab.async false
set_option linter.all false
set_option autoImplicit false
set_option maxRecDepth 100000
set_option maxHeartbeats 4000000
/-! Mw0: data as values, what bears them in the heap, steps of the heap. -/
namespace Mw
open PySem PySem.Spec L2

/-- data as a value -/
inductive D where
  | non | bl (b : Bool) | int (i : Int) | str (s : Str)
  | tup (ds : List D) | lst (ds : List D)
  | hand
  | dct (kvs : List (D × D))
  | ins (c : Nat) (fs : List (Str × D))

/-- the still context: the written part, the hand's place and word, the own classes by number -/
structure Gm where
  K : PySem.W.Frag
  hd : Addr
  word : List Int → Int → Int → Int → Prop
  cls : Nat → Addr

/-- a list that nobody writes any more -/
def FzL (H : Hp) (a : Addr) (xs : List V) : Prop := ∃ o, H a = some (.frz o (.lst xs))
def FzD (K : PySem.W.Frag) (H : Hp) (a : Addr) (kvs : List (Key × V)) : Prop := ∃ o, H a = some (.frz o (.dK kvs))
theorem FzL.sq {K : PySem.W.Frag} {H : Hp} {a : Addr} {xs : List V} (h : FzL H a xs) : SqL K H a xs := .inl (.inr h)

mutual
inductive Rep (Γ : Gm) (H : Hp) : V → D → Prop
  | non : Rep Γ H .non .non
  | bl (b : Bool) : Rep Γ H (.bl b) (.bl b)
  | int (i : Int) : Rep Γ H (.int i) (.int i)
  | str (x : Str) : Rep Γ H (.str x) (.str x)
  | tup {a : Addr} {xs : List V} {ds : List D} : SqT Γ.K H a xs → Reps Γ H xs ds → Rep Γ H (.ref a) (.tup ds)
  | lst {a : Addr} {xs : List V} {ds : List D} : FzL H a xs → Reps Γ H xs ds → Rep Γ H (.ref a) (.lst ds)
  | hand : Rep Γ H (.ref Γ.hd) .hand
  | ins {a dx : Addr} {c : Nat} {ks : List Str} {xs : List V} {ds : List D} : H a = some (.ins (Γ.cls c) dx (ks.zip xs)) → Reps Γ H xs ds → Rep Γ H (.ref a) (.ins c (ks.zip ds))
inductive Reps (Γ : Gm) (H : Hp) : List V → List D → Prop
  | nil : Reps Γ H [] []
  | cons {v : V} {vs : List V} {d : D} {ds : List D} : Rep Γ H v d → Reps Γ H vs ds → Reps Γ H (v :: vs) (d :: ds)
end

/-- a list that may be read: nobody's any more, or one's own -/
def LsR (Γ : Gm) (H : Hp) (a : Addr) (xs : List V) : Prop := FzL H a xs ∨ (a ≠ Γ.hd ∧ H a = some (.lst xs))
theorem LsR.sq {Γ : Gm} {H : Hp} {a : Addr} {xs : List V} (h : LsR Γ H a xs) : SqL Γ.K H a xs := h.elim (fun h => h.sq) fun h => .inl (.inl h.2)
/-- what may be read -/
inductive RepB (Γ : Gm) (H : Hp) : V → D → Prop
  | non : RepB Γ H .non .non
  | bl (b : Bool) : RepB Γ H (.bl b) (.bl b)
  | int (i : Int) : RepB Γ H (.int i) (.int i)
  | str (x : Str) : RepB Γ H (.str x) (.str x)
  | tup {a : Addr} {xs : List V} {ds : List D} : SqT Γ.K H a xs → Reps Γ H xs ds → RepB Γ H (.ref a) (.tup ds)
  | lst {a : Addr} {xs : List V} {ds : List D} : LsR Γ H a xs → Reps Γ H xs ds → RepB Γ H (.ref a) (.lst ds)
  | hand : RepB Γ H (.ref Γ.hd) .hand
  | ins {a dx : Addr} {c : Nat} {ks : List Str} {xs : List V} {ds : List D} : H a = some (.ins (Γ.cls c) dx (ks.zip xs)) → Reps Γ H xs ds → RepB Γ H (.ref a) (.ins c (ks.zip ds))
theorem Rep.b {Γ : Gm} {H : Hp} {v : V} {d : D} (r : Rep Γ H v d) : RepB Γ H v d := by
  cases r
  case non => exact .non
  case bl => exact .bl _
  case int => exact .int _
  case str => exact .str _
  case tup q r => exact .tup q r
  case lst q r => exact .lst (.inl q) r
  case hand => exact .hand
  case ins q r => exact .ins q r
/-- the hand: a list of a locked list of ints and three ints -/
def HandAt (Γ : Gm) (H : Hp) : Prop := ∃ (c : Addr) (ns : List Int) (i r t : Int), H Γ.hd = some (.lst [.ref c, .int i, .int r, .int t]) ∧ FzL H c (ns.map V.int) ∧ Γ.word ns i r t
theorem HandAt.lst {Γ : Gm} {H : Hp} (h : HandAt Γ H) : ∃ xs, H Γ.hd = some (.lst xs) := let ⟨_, _, _, _, _, e, _⟩ := h; ⟨_, e⟩
/-- all that was tracked is as it was, but the hand -/
structure Step (Γ : Gm) (H H' : Hp) : Prop where
  same : ∀ b u, b ≠ Γ.hd → H b = some u → H' b = some u
  hand : HandAt Γ H'
theorem Step.refl {Γ : Gm} {H : Hp} (h : HandAt Γ H) : Step Γ H H := ⟨fun _ _ _ e => e, h⟩
theorem Step.trans {Γ : Gm} {H H1 H2 : Hp} (a : Step Γ H H1) (b : Step Γ H1 H2) : Step Γ H H2 := ⟨fun c u n e => b.same c u n (a.same c u n e), b.hand⟩

section
variable {Γ : Gm} {H H' : Hp}
theorem Step.tup (s : Step Γ H H') (h : HandAt Γ H) {b : Addr} {xs : List V} (e : H b = some (.tup xs)) : H' b = some (.tup xs) := by
  obtain ⟨ys, hy⟩ := h.lst
  exact s.same b _ (fun z => by rw [z, hy] at e; cases e) e
theorem Step.ins (s : Step Γ H H') (h : HandAt Γ H) {b C dx : Addr} {fs : List (Str × V)} (e : H b = some (.ins C dx fs)) : H' b = some (.ins C dx fs) := by
  obtain ⟨ys, hy⟩ := h.lst
  exact s.same b _ (fun z => by rw [z, hy] at e; cases e) e
theorem Step.frz (s : Step Γ H H') (h : HandAt Γ H) {b : Addr} {o : Obj} {u : HO} (e : H b = some (.frz o u)) : H' b = some (.frz o u) := by
  obtain ⟨ys, hy⟩ := h.lst
  exact s.same b _ (fun z => by rw [z, hy] at e; cases e) e
theorem SqT.step (s : Step Γ H H') (h : HandAt Γ H) {a : Addr} {xs : List V} (q : SqT Γ.K H a xs) : SqT Γ.K H' a xs := by
  rcases q with (q | ⟨o, q⟩) | q
  · exact .inl (.inl (s.tup h q))
  · exact .inl (.inr ⟨o, s.frz h q⟩)
  · exact .inr q
theorem FzL.step (s : Step Γ H H') (h : HandAt Γ H) {a : Addr} {xs : List V} (q : FzL H a xs) : FzL H' a xs := let ⟨o, q⟩ := q; ⟨o, s.frz h q⟩
mutual
theorem Rep.step (s : Step Γ H H') (h : HandAt Γ H) : ∀ {v : V} {d : D}, Rep Γ H v d → Rep Γ H' v d
  | _, _, .non => .non
  | _, _, .bl b => .bl b
  | _, _, .int i => .int i
  | _, _, .str x => .str x
  | _, _, .tup q r => .tup (SqT.step s h q) (Reps.step s h r)
  | _, _, .lst q r => .lst (FzL.step s h q) (Reps.step s h r)
  | _, _, .hand => .hand
  | _, _, .ins q r => .ins (s.ins h q) (Reps.step s h r)
theorem Reps.step (s : Step Γ H H') (h : HandAt Γ H) : ∀ {vs : List V} {ds : List D}, Reps Γ H vs ds → Reps Γ H' vs ds
  | _, _, .nil => .nil
  | _, _, .cons q r => .cons (Rep.step s h q) (Reps.step s h r)
end
theorem LsR.step (s : Step Γ H H') (h : HandAt Γ H) {a : Addr} {xs : List V} (q : LsR Γ H a xs) : LsR Γ H' a xs := q.elim (fun q => .inl (FzL.step s h q)) fun q => .inr ⟨q.1, s.same a _ q.1 q.2⟩
theorem RepB.step (s : Step Γ H H') (h : HandAt Γ H) {v : V} {d : D} (r : RepB Γ H v d) : RepB Γ H' v d := by
  cases r
  case non => exact .non
  case bl => exact .bl _
  case int => exact .int _
  case str => exact .str _
  case tup q r => exact .tup (SqT.step s h q) (Reps.step s h r)
  case lst q r => exact .lst (LsR.step s h q) (Reps.step s h r)
  case hand => exact .hand
  case ins q r => exact .ins (s.ins h q) (Reps.step s h r)
theorem Reps.length : ∀ {vs : List V} {ds : List D}, Reps Γ H vs ds → vs.length = ds.length
  | _, _, .nil => rfl
  | _, _, .cons _ r => congrArg (· + 1) (Reps.length r)
theorem Reps.append : ∀ {vs : List V} {ds : List D} {us : List V} {es : List D}, Reps Γ H vs ds → Reps Γ H us es → Reps Γ H (vs ++ us) (ds ++ es)
  | _, _, _, _, .nil, s => s
  | _, _, _, _, .cons q r, s => .cons q (Reps.append r s)
theorem Reps.get : ∀ {vs : List V} {ds : List D} {i : Nat} {d : D}, Reps Γ H vs ds → ds[i]? = some d → ∃ v, vs[i]? = some v ∧ Rep Γ H v d
  | _, _, _, _, .nil, e => by simp at e
  | _, _, 0, d, .cons q _, e => by simp at e; subst e; exact ⟨_, rfl, q⟩
  | _, _, i + 1, d, .cons _ r, e => by
    obtain ⟨v, h1, h2⟩ := Reps.get (i := i) (d := d) r (by simpa using e)
    exact ⟨v, by simpa using h1, h2⟩
theorem Reps.getV : ∀ {vs : List V} {ds : List D} {i : Nat} {v : V}, Reps Γ H vs ds → vs[i]? = some v → ∃ d, ds[i]? = some d ∧ Rep Γ H v d
  | _, _, _, _, .nil, e => by simp at e
  | _, _, 0, v, .cons q _, e => by simp at e; subst e; exact ⟨_, rfl, q⟩
  | _, _, i + 1, v, .cons _ r, e => by
    obtain ⟨d, h1, h2⟩ := Reps.getV (i := i) (v := v) r (by simpa using e)
    exact ⟨d, by simpa using h1, h2⟩
theorem Reps.take : ∀ {vs : List V} {ds : List D} (n : Nat), Reps Γ H vs ds → Reps Γ H (vs.take n) (ds.take n)
  | _, _, 0, _ => .nil
  | _, _, _ + 1, .nil => .nil
  | _, _, n + 1, .cons q r => .cons q (Reps.take n r)
theorem Reps.drop : ∀ {vs : List V} {ds : List D} (n : Nat), Reps Γ H vs ds → Reps Γ H (vs.drop n) (ds.drop n)
  | _, _, 0, r => r
  | _, _, _ + 1, .nil => .nil
  | _, _, n + 1, .cons _ r => Reps.drop n r
theorem Reps.set {v : V} {d : D} (q : Rep Γ H v d) : ∀ {vs : List V} {ds : List D} (i : Nat), Reps Γ H vs ds → Reps Γ H (vs.set i v) (ds.set i d)
  | _, _, _, .nil => .nil
  | _, _, 0, .cons _ r => .cons q r
  | _, _, i + 1, .cons p r => .cons p (Reps.set q i r)
end

/-! ### to the library's data -/
mutual
def D.py : D → Option PyData
  | .non => some .none
  | .bl b => some (.bool b)
  | .int i => some (.int i)
  | .str x => some (.str x)
  | .tup ds => (D.pys ds).map .tuple
  | .lst ds => (D.pys ds).map .list
  | _ => none
def D.pys : List D → Option (List PyData)
  | [] => some []
  | d :: ds => match D.py d, D.pys ds with
    | some x, some xs => some (x :: xs)
    | _, _ => none
end
section
variable {Γ : Gm} {H : Hp}
mutual
theorem Rep.dp : ∀ {v : V} {d : D} {p : PyData}, Rep Γ H v d → d.py = some p → Dp Γ.K H v p
  | _, _, _, .non, e => by cases e; exact .non
  | _, _, _, .bl b, e => by cases e; exact .bl b
  | _, _, _, .int i, e => by cases e; exact .int i
  | _, _, _, .str x, e => by cases e; exact .str x
  | _, _, p, .tup q r, e => by
    unfold D.py at e
    obtain ⟨ps, h1, h2⟩ := Option.map_eq_some_iff.mp e
    subst h2
    exact .tup q (Reps.dp r h1)
  | _, _, p, .lst q r, e => by
    unfold D.py at e
    obtain ⟨ps, h1, h2⟩ := Option.map_eq_some_iff.mp e
    subst h2
    exact .lst q.sq (Reps.dp r h1)
  | _, _, _, .hand, e => by cases e
  | _, _, _, .ins q r, e => by cases e
theorem Reps.dp : ∀ {vs : List V} {ds : List D} {ps : List PyData}, Reps Γ H vs ds → D.pys ds = some ps → DpAll Γ.K H vs ps
  | _, _, _, .nil, e => by cases e; exact .nil
  | _, d :: ds, ps, .cons q r, e => by
    unfold D.pys at e
    cases h1 : D.py d with
    | none => rw [h1] at e; simp at e
    | some x =>
      cases h2 : D.pys ds with
      | none => rw [h1, h2] at e; simp at e
      | some xs =>
        rw [h1, h2] at e
        cases e
        exact .cons (Rep.dp q h1) (Reps.dp r h2)
end
theorem RepB.dp {v : V} {d : D} {p : PyData} (r : RepB Γ H v d) (e : d.py = some p) : Dp Γ.K H v p := by
  cases r
  case lst q r =>
    unfold D.py at e
    obtain ⟨ps, h1, h2⟩ := Option.map_eq_some_iff.mp e
    subst h2
    exact .lst q.sq (Reps.dp r h1)
  case tup q r => exact (Rep.tup q r).dp e
  case non => exact Rep.non.dp e
  case bl => exact (Rep.bl (Γ := Γ) _).dp e
  case int => exact (Rep.int (Γ := Γ) _).dp e
  case str => exact (Rep.str (Γ := Γ) _).dp e
  case hand => cases e
  case ins => cases e
end

/-! ### new things -/
theorem HandAt.keeps {Γ : Gm} {H H' : Hp} (h : ∀ b u, H b = some u → H' b = some u) (a : HandAt Γ H) : HandAt Γ H' :=
  let ⟨c, ns, i, r, t, e, ⟨o, q⟩, w⟩ := a; ⟨c, ns, i, r, t, h _ _ e, ⟨o, h _ _ q⟩, w⟩
theorem Step.ext {Γ : Gm} {H H' : Hp} (h : ∀ b u, H b = some u → H' b = some u) (a : HandAt Γ H) : Step Γ H H' := ⟨fun b u _ e => h b u e, a.keeps h⟩
theorem upd_keeps {H : Hp} {p : Addr} {o : HO} (hp : H p = none) : ∀ b u, H b = some u → upd H p o b = some u := fun b u e => by
  rw [upd_ne (ne_of_none e hp)]; exact e
theorem upd2_keeps {H : Hp} {p : Addr} {o o' : HO} (hp : H p = none) : ∀ b u, H b = some u → upd (upd H p o) p o' b = some u := fun b u e => by
  rw [upd_upd]; exact upd_keeps hp b u e
/-- a new tuple -/
theorem new_tup {Γ : Gm} {H : Hp} {p : Addr} {xs : List V} {ds : List D} (a : HandAt Γ H) (hp : H p = none) (r : Reps Γ H xs ds) :
    Step Γ H (upd H p (.tup xs)) ∧ Rep Γ (upd H p (.tup xs)) (.ref p) (.tup ds) := by
  have st := Step.ext (upd_keeps (o := .tup xs) hp) a
  exact ⟨st, .tup (.inl (.inl upd_same)) (r.step st a)⟩
/-- a new list, locked -/
theorem new_lst {Γ : Gm} {H : Hp} {p : Addr} {xs : List V} {ds : List D} {o : Obj} (a : HandAt Γ H) (hp : H p = none) (r : Reps Γ H xs ds) :
    Step Γ H (upd (upd H p (.lst xs)) p (.frz o (.lst xs))) ∧ Rep Γ (upd (upd H p (.lst xs)) p (.frz o (.lst xs))) (.ref p) (.lst ds) := by
  have st := Step.ext (upd2_keeps (o := .lst xs) (o' := .frz o (.lst xs)) hp) a
  exact ⟨st, .lst ⟨o, upd_same⟩ (r.step st a)⟩
end Mw
end

section
set_option Elab.async false
set_option linter.all false
set_option autoImplicit false
set_option maxRecDepth 100000
set_option maxHeartbeats 4000000
/-! Mw1: readings over data: what an expression asks, as a transformer over environments of data. -/
namespace Mw
open PySem PySem.Spec L2

/-- a raised error: its class by number, its fields -/
structure Xn where
  c : Nat
  fs : List (Str × D)
/-- what a name holds: data; a list that only this name holds -/
inductive L where
  | d (x : D)
  | ml (ds : List D)
  | xn (x : Xn)
abbrev En := List (Option L)
abbrev PD := D → Prop
abbrev PX := Xn → Prop
abbrev Sm := En → PD → PX → Prop

/-- the context of a def's run: the heap at its entry, the error in hand -/
structure Cm where
  g : Gm
  H0 : Hp
  now : Option (Addr × Value × Option Addr)
/-- an error, told by its class and its own dict -/
def XRep (g : Gm) (x : Xn) (t : Value) (dd : Option Addr) (H : Hp) : Prop := t = .ref (g.cls x.c) ∧ ∃ d vs, dd = some d ∧ H d = some (.xd vs) ∧ ∀ f y, x.fs.lookup f = some y → ∃ v, vs.lookup f = some v ∧ Rep g H v y
theorem XRep.step {g : Gm} {H H' : Hp} (s : Step g H H') (h : HandAt g H) {x : Xn} {t : Value} {dd : Option Addr} (r : XRep g x t dd H) : XRep g x t dd H' := by
  obtain ⟨e, d, vs, e1, e2, q⟩ := r
  obtain ⟨ys, hy⟩ := h.lst
  exact ⟨e, d, vs, e1, s.same d _ (fun z => by rw [z, hy] at e2; cases e2) e2, fun f y hf => let ⟨v, h1, h2⟩ := q f y hf; ⟨v, h1, h2.step s h⟩⟩
structure Fm where
  c : Cm
  W : WX
abbrev Fm.g (Φ : Fm) : Gm := Φ.c.g

def LRep (c : Cm) (H : Hp) (v : V) : L → Prop
  | .d d => Rep c.g H v d
  | .ml ds => ∃ p xs, v = .ref p ∧ p ≠ c.g.hd ∧ c.H0 p = none ∧ H p = some (.lst xs) ∧ Reps c.g H xs ds
  | .xn x => ∃ a t dd, c.now = some (a, t, dd) ∧ v = .ref a ∧ XRep c.g x t dd H

structure SOK (c : Cm) (env : En) (σ : St) (H : Hp) : Prop where
  hand : HandAt c.g H
  same : ∀ b u, b ≠ c.g.hd → c.H0 b = some u → H b = some u
  len : σ.length = env.length
  slot : ∀ (i : Nat) (l : L), env[i]? = some (some l) → ∃ v, σ[i]? = some (some v) ∧ LRep c H v l
  apart : ∀ (i j : Nat) (p : Addr) (ds es : List D), i ≠ j → env[i]? = some (some (.ml ds)) → env[j]? = some (some (.ml es)) → σ[i]? = some (some (.ref p)) → σ[j]? = some (some (.ref p)) → False

theorem LRep.step {c : Cm} {H H' : Hp} (s : Step c.g H H') (h : HandAt c.g H) {v : V} : ∀ {l : L}, LRep c H v l → LRep c H' v l
  | .d _, r => Rep.step s h r
  | .ml _, ⟨p, xs, e, n, n0, hp, r⟩ => ⟨p, xs, e, n, n0, s.same p _ n hp, Reps.step s h r⟩
  | .xn _, ⟨a, t, dd, e1, e2, r⟩ => ⟨a, t, dd, e1, e2, r.step s h⟩
theorem SOK.step {c : Cm} {env : En} {σ : St} {H H' : Hp} (k : SOK c env σ H) (s : Step c.g H H') : SOK c env σ H' :=
  ⟨s.hand, fun b u n e => s.same b u n (k.same b u n e), k.len, fun i l e => let ⟨v, h1, h2⟩ := k.slot i l e; ⟨v, h1, h2.step s k.hand⟩, k.apart⟩

/-- what is wanted behind: of a value, of an error -/
structure WX1 (Φ : Fm) (σ : St) (H : Hp) (Qx : PX) : Prop where
  x : ∀ x t dd H', Qx x → Step Φ.g H H' → XRep Φ.g x t dd H' → Φ.W t dd σ H'
theorem WX1.step {Φ : Fm} {σ : St} {H H1 : Hp} {Qx : PX} (w : WX1 Φ σ H Qx) (s : Step Φ.g H H1) : WX1 Φ σ H1 Qx := ⟨fun x t dd H' q s' r => w.x x t dd H' q (s.trans s') r⟩
/-- the reading of a semantic term; R: how the value is told (Rep: nobody's; RepB: to be read) -/
def tX (R : Gm → Hp → V → D → Prop) (Φ : Fm) (s : Sm) : TE := fun σ H Q => ∃ env Qd Qx, SOK Φ.c env σ H ∧ s env Qd Qx ∧ (∀ d v H', Qd d → Step Φ.g H H' → R Φ.g H' v d → Q v H') ∧ WX1 Φ σ H Qx
abbrev tE := tX Rep
abbrev tR := tX RepB
theorem PE.imp {X : Cx} {e : Expr} {t t' : TE} (h : PE X e t) (i : ∀ σ H Q, t' σ H Q → t σ H Q) : PE X e t' := ⟨fun pins s σ H Q I q => h.run pins s σ H Q I (i σ H Q q)⟩
theorem PT.imp {X : Cx} {e : Expr} {t t' : TT} (h : PT X e t) (i : ∀ σ H Q, t' σ H Q → t σ H Q) : PT X e t' := ⟨fun pins s σ H Q I q => h.run pins s σ H Q I (i σ H Q q)⟩

/-! ### a new thing is locked -/
def Lk (Q : VK) : VK := fun v H => Q v H ∨ ∃ p u, v = .ref p ∧ H p = some u ∧ Mut (some u) ∧ ∀ o, Q v (upd H p (.frz o u))
theorem EP.lk {X : Cx} {pins : List (Addr × Obj)} {σ : St} {Q : VK} {u : Value} {s : Shared} (h : EP X pins σ (Lk Q) u s) : EP X pins σ Q u s := by
  obtain ⟨v, H, I, r, q⟩ := h
  rcases q with q | ⟨p, o, rfl, hp, hm, q⟩
  · exact ⟨v, H, I, r, q⟩
  · obtain ⟨od, I'⟩ := I.lock hp hm
    exact ⟨.ref p, _, I', r, q od⟩
theorem PE.lk {X : Cx} {e : Expr} {t : TE} (h : PE X e t) : PE X e (fun σ H Q => t σ H (Lk Q)) :=
  ⟨fun pins s σ H Q I q => wpAny_mono (h.run pins s σ H _ I q) (fun _ _ z => EP.lk z) fun _ _ z => z⟩

theorem PE.rd {X : Cx} {e : Expr} {Φ : Fm} {s : Sm} (h : PE X e (tE Φ s)) : PE X e (tR Φ s) := PE.imp h fun σ H Q ⟨env, Qd, Qx, k, h, w, wx⟩ => ⟨env, Qd, Qx, k, h, fun d v H' q s r => w d v H' q s r.b, wx⟩
theorem lk_lst {Γ : Gm} {H : Hp} {p : Addr} {xs : List V} {ds : List D} (a : HandAt Γ H) (hp : H p = none) (r : Reps Γ H xs ds) {Q : VK}
    (q : ∀ H', Step Γ H H' → Rep Γ H' (.ref p) (.lst ds) → Q (.ref p) H') : Lk Q (.ref p) (upd H p (.lst xs)) :=
  .inr ⟨p, _, rfl, upd_same, trivial, fun o => let ⟨s, z⟩ := new_lst (o := o) a hp r; q _ s z⟩

/-! ### values -/
def vBin (f : D → D → PD → Prop) (a b : Sm) : Sm := fun env Q Qx => a env (fun x => b env (fun y => f x y Q) Qx) Qx
def vUn (f : D → PD → Prop) (a : Sm) : Sm := fun env Q Qx => a env (fun x => f x Q) Qx

section
variable {X : Cx} {Φ : Fm} {a b e : Expr} {sa sb : Sm} {pos : Pos}
/-- a two-place operation that a rule serves -/
def Serves2 (Φ : Fm) (r : R2) (f : D → D → PD → Prop) : Prop := ∀ (x y : V) (d e : D) (H : Hp) (Qd : PD) (Q : VK), HandAt Φ.g H → RepB Φ.g H x d → RepB Φ.g H y e → f d e Qd →
  (∀ z v H', Qd z → Step Φ.g H H' → Rep Φ.g H' v z → Q v H') → r x y H (Lk Q)
theorem ok_two {r : R2} {f : D → D → PD → Prop} (hp : PE X e (tOp r (tR Φ sa) (tR Φ sb))) (hs : Serves2 Φ r f) : PE X e (tE Φ (vBin f sa sb)) := by
  refine PE.imp (PE.lk hp) fun σ H Q h => ?_
  obtain ⟨env, Qd, Qx, k, h, w, wx⟩ := h
  refine ⟨env, _, Qx, k, h, fun d x H1 h1 s1 r1 => ?_, wx⟩
  refine ⟨env, _, Qx, k.step s1, h1, fun d2 y H2 h2 s2 r2 => ?_, wx.step s1⟩
  exact hs x y d d2 H2 Qd Q (s1.trans s2).hand (r1.step s2 s1.hand) r2 h2 fun z v H' q s r => w z v H' q ((s1.trans s2).trans s) r
theorem ok_bin {op : Operator} {r : R2} {f : D → D → PD → Prop} (ho : OpR X (binaryOp op) r) (hs : Serves2 Φ r f) (ha : PE X a (tR Φ sa)) (hb : PE X b (tR Φ sb)) : PE X (.BinOp a op b pos) (tE Φ (vBin f sa sb)) :=
  ok_two (pe_op ho ha hb) hs
theorem ok_cmp {op : CmpOp} {r : R2} {f : D → D → PD → Prop} (ho : OpR X (compareOp op) r) (hs : Serves2 Φ r f) (ha : PE X a (tR Φ sa)) (hb : PE X b (tR Φ sb)) (hm : behindInMarks op b = false) : PE X (.Compare a [op] [b] pos) (tE Φ (vBin f sa sb)) :=
  ok_two (pe_cmpR ho ha hb hm) hs
theorem ok_ix {r : R2} {f : D → D → PD → Prop} (hr : IxR X r) (hs : Serves2 Φ r f) (ha : PE X a (tR Φ sa)) (hb : PE X b (tR Φ sb)) (hx : PlainIx b) : PE X (.Subscript a b pos) (tE Φ (vBin f sa sb)) :=
  ok_two (pe_ix hr ha hb hx) hs
end

/-! ### constants, names -/
def vCon (d : D) : Sm := fun _ Q _ => Q d
def vLoc (i : Nat) : Sm := fun env Q _ => ∃ d, env[i]? = some (some (.d d)) ∧ Q d
/-- a name's own list, to be read -/
def vMl (i : Nat) : Sm := fun env Q _ => ∃ ds, env[i]? = some (some (.ml ds)) ∧ Q (.lst ds)
section
variable {X : Cx} {Φ : Fm} {pos : Pos}
theorem tE_con {v : V} {d : D} (r : ∀ H, Rep Φ.g H v d) {σ : St} {H : Hp} {Q : VK} (h : tE Φ (vCon d) σ H Q) : tC v σ H Q := by
  obtain ⟨env, Qd, Qx, k, h, w, _⟩ := h
  exact w d v H h (Step.refl k.hand) (r H)
theorem ok_int {i j} : PE X (.Constant (.int i) j pos) (tE Φ (vCon (.int i))) := PE.imp pe_int fun _ _ _ => tE_con fun _ => .int i
theorem ok_bl {i j} : PE X (.Constant (.bool i) j pos) (tE Φ (vCon (.bl i))) := PE.imp pe_bl fun _ _ _ => tE_con fun _ => .bl i
theorem ok_non {j} : PE X (.Constant .none j pos) (tE Φ (vCon .non)) := PE.imp pe_non fun _ _ _ => tE_con fun _ => .non
theorem ok_str {x j} : PE X (.Constant (.str x) j pos) (tE Φ (vCon (.str x))) := PE.imp pe_str fun _ _ _ => tE_con fun _ => .str x
theorem ok_loc {i : Nat} {x : Str} (hN : X.N[i]? = some x) (hv : Vis X.env.scope x) (hd : (x == ("__debug__" : Str)) = false) (hcd : (x == ("__classdict__" : Str)) = false) : PE X (.Name x pos) (tE Φ (vLoc i)) :=
  PE.imp (pe_var hN hv hd hcd) fun σ H Q h => by
    obtain ⟨env, Qd, Qx, k, ⟨d, e, h⟩, w, _⟩ := h
    obtain ⟨v, e1, r⟩ := k.slot i _ e
    exact ⟨v, e1, w d v H h (Step.refl k.hand) r⟩
theorem ok_ml {i : Nat} {x : Str} (hN : X.N[i]? = some x) (hv : Vis X.env.scope x) (hd : (x == ("__debug__" : Str)) = false) (hcd : (x == ("__classdict__" : Str)) = false) : PE X (.Name x pos) (tR Φ (vMl i)) :=
  PE.imp (pe_var hN hv hd hcd) fun σ H Q h => by
    obtain ⟨env, Qd, Qx, k, ⟨ds, e, h⟩, w, _⟩ := h
    obtain ⟨v, e1, p, xs, rfl, n, n0, hp, r⟩ := k.slot i _ e
    exact ⟨.ref p, e1, w (.lst ds) _ H h (Step.refl k.hand) (.lst (.inr ⟨n, hp⟩) r)⟩
theorem ok_glob {x : Str} {v : V} {u : Value} {d : D} (hg : Gl X x) (hm : X.mg x = some u) (r : RelV v u) (hr : ∀ H, Rep Φ.g H v d) (hd : (x == ("__debug__" : Str)) = false) : PE X (.Name x pos) (tE Φ (vCon d)) :=
  PE.imp (pe_glob hg hm r hd) fun _ _ _ => tE_con hr
end

/-! ### arguments, displays -/
abbrev Sms := En → (List D → Prop) → PX → Prop
def vNil : Sms := fun _ Q _ => Q []
def vCons (a : Sm) (r : Sms) : Sms := fun env Q Qx => a env (fun x => r env (fun xs => Q (x :: xs)) Qx) Qx
def tA (Φ : Fm) (s : Sms) : TA := fun σ H Q => ∃ env Qd Qx, SOK Φ.c env σ H ∧ s env Qd Qx ∧ (∀ ds vs H', Qd ds → Step Φ.g H H' → Reps Φ.g H' vs ds → Q vs H') ∧ WX1 Φ σ H Qx
theorem PA.imp {X : Cx} {es : List Expr} {t t' : TA} (h : PA X es t) (i : ∀ σ H Q, t' σ H Q → t σ H Q) : PA X es t' := ⟨fun pos pins s σ H Q I q => h.run pos pins s σ H Q I (i σ H Q q)⟩
section
variable {X : Cx} {Φ : Fm} {e : Expr} {es : List Expr} {s : Sm} {ss : Sms} {pos : Pos}
theorem oka_nil : PA X [] (tA Φ vNil) := PA.imp pa_nil fun σ H Q h => by
  obtain ⟨env, Qd, Qx, k, h, w, _⟩ := h
  exact w [] [] H h (Step.refl k.hand) .nil
theorem oka_cons (ha : PE X e (tE Φ s)) (hr : PA X es (tA Φ ss)) (hs : starEach (e :: es) X.env = (false, eval e X.env) :: starEach es X.env) : PA X (e :: es) (tA Φ (vCons s ss)) := PA.imp (pa_cons ha hr hs) fun σ H Q h => by
  obtain ⟨env, Qd, Qx, k, h, w, wx⟩ := h
  refine ⟨env, _, Qx, k, h, fun d x H1 h1 s1 r1 => ?_, wx⟩
  exact ⟨env, _, Qx, k.step s1, h1, fun ds vs H2 h2 s2 r2 => w (d :: ds) (x :: vs) H2 h2 (s1.trans s2) (.cons (r1.step s2 s1.hand) r2), wx.step s1⟩
def vTup (ss : Sms) : Sm := fun env Q Qx => ss env (fun ds => ds.length ≤ sizeLine ∧ Q (.tup ds)) Qx
def vLst (ss : Sms) : Sm := fun env Q Qx => ss env (fun ds => ds.length ≤ sizeLine ∧ Q (.lst ds)) Qx
theorem ok_tup {x1} (h : PA X es (tA Φ ss)) : PE X (.Tuple es x1 pos) (tE Φ (vTup ss)) := PE.imp (pe_tup h) fun σ H Q h => by
  obtain ⟨env, Qd, Qx, k, h, w, wx⟩ := h
  refine ⟨env, _, Qx, k, h, fun ds vs H1 h1 s1 r1 => ⟨by rw [r1.length]; exact h1.1, fun p hp => ?_⟩, wx⟩
  obtain ⟨s2, z⟩ := new_tup s1.hand hp r1
  exact w _ _ _ h1.2 (s1.trans s2) z
theorem ok_lst (h : PA X es (tA Φ ss)) : PE X (.List es pos) (tE Φ (vLst ss)) := PE.imp (PE.lk (pe_lst h)) fun σ H Q h => by
  obtain ⟨env, Qd, Qx, k, h, w, wx⟩ := h
  refine ⟨env, _, Qx, k, h, fun ds vs H1 h1 s1 r1 => ⟨by rw [r1.length]; exact h1.1, fun p hp => ?_⟩, wx⟩
  exact lk_lst s1.hand hp r1 fun H' s2 z => w _ _ _ h1.2 (s1.trans s2) z
end
end Mw
end

section
set_option Elab.async false
set_option linter.all false
set_option autoImplicit false
set_option maxRecDepth 100000
set_option maxHeartbeats 4000000
/-! Mw2: operations on data. -/
namespace Mw
open PySem PySem.Spec L2

/-- the data that == and repr serve -/
def D.ok (d : D) : Bool := match d.py with
  | some p => SeqAt.shaped p
  | none => false
def D.eqv (d e : D) : Bool := match d.py, e.py with
  | some p, some q => PyData.eqv p q
  | _, _ => false

def fAdd : D → D → PD → Prop
  | .int i, .int j, Q => Q (.int (i + j))
  | .str i, .str j, Q => i.length + j.length ≤ sizeLine ∧ Q (.str (i ++ j))
  | .tup xs, .tup ys, Q => xs.length + ys.length ≤ sizeLine ∧ Q (.tup (xs ++ ys))
  | .lst xs, .lst ys, Q => xs.length + ys.length ≤ sizeLine ∧ Q (.lst (xs ++ ys))
  | _, _, _ => False
def fSub : D → D → PD → Prop
  | .int i, .int j, Q => Q (.int (i - j))
  | _, _, _ => False
def fMul : D → D → PD → Prop
  | .int i, .int j, Q => CMul i j ∧ Q (.int (i * j))
  | .lst xs, .int k, Q => -(2 ^ 63) ≤ k ∧ k < 2 ^ 63 ∧ xs.length * k.toNat ≤ sizeLine ∧ Q (.lst (List.replicate k.toNat xs).flatten)
  | _, _, _ => False
def fFdiv : D → D → PD → Prop
  | .int i, .int j, Q => CDiv i j ∧ Q (.int (i / j))
  | _, _, _ => False
def fMod : D → D → PD → Prop
  | .int i, .int j, Q => 0 < j ∧ Q (.int (i % j))
  | _, _, _ => False
def fPow : D → D → PD → Prop
  | .int i, .int j, Q => CPow i j ∧ Q (.int (i ^ j.toNat))
  | _, _, _ => False
def fEq (d e : D) (Q : PD) : Prop := d.ok = true ∧ e.ok = true ∧ Q (.bl (d.eqv e))
def fNe (d e : D) (Q : PD) : Prop := d.ok = true ∧ e.ok = true ∧ Q (.bl (!d.eqv e))
def fLt : D → D → PD → Prop
  | .int i, .int j, Q => Q (.bl (decide (i < j)))
  | _, _, _ => False
def fLe : D → D → PD → Prop
  | .int i, .int j, Q => Q (.bl (decide (i ≤ j)))
  | _, _, _ => False
def fGt : D → D → PD → Prop
  | .int i, .int j, Q => Q (.bl (decide (j < i)))
  | _, _, _ => False
def fGe : D → D → PD → Prop
  | .int i, .int j, Q => Q (.bl (decide (j ≤ i)))
  | _, _, _ => False
def D.isNon : D → Bool
  | .non => true
  | _ => false
/-- is of None, of True, of False alone -/
def fIs : D → D → PD → Prop
  | d, .non, Q => Q (.bl d.isNon)
  | .bl a, .bl b, Q => Q (.bl (decide (a = b)))
  | _, _, _ => False
def fIsNot : D → D → PD → Prop
  | d, .non, Q => Q (.bl (!d.isNon))
  | .bl a, .bl b, Q => Q (.bl (!decide (a = b)))
  | _, _, _ => False
def D.items : D → Option (List D)
  | .tup ds => some ds
  | .lst ds => some ds
  | _ => none
/-- in a list or a tuple -/
def D.isIn (d : D) (ds : List D) : Bool := ds.any fun z => z.eqv d
def dAt (ds : List D) (i : Int) : Option D := if 0 ≤ i then ds[i.toNat]? else if -(ds.length : Int) ≤ i then ds[(i + ds.length).toNat]? else none
def fIx : D → D → PD → Prop
  | .tup ds, .int i, Q => ∃ d, dAt ds i = some d ∧ Q d
  | .lst ds, .int i, Q => ∃ d, dAt ds i = some d ∧ Q d
  | .str z, .int i, Q => z.length ≤ sizeLine ∧ ∃ c, atI z.cps.toList i = some c ∧ Q (.str ⟨#[c]⟩)
  | _, _, _ => False

section
variable {X : Cx} {Φ : Fm}
/-- two locked or new lists -/
def rCatF (Γ : Gm) : R2 := fun x y H Q => ∃ l b xs zs, x = .ref l ∧ y = .ref b ∧ LsR Γ H l xs ∧ LsR Γ H b zs ∧ xs.length + zs.length ≤ sizeLine ∧ ∀ p, H p = none → Q (.ref p) (upd H p (.lst (xs ++ zs)))
theorem Inv.frzM {pins : List (Addr × Obj)} {σ : L2.St} {H : Hp} {s : Shared} {l : Addr} {xs : List V} (I : Inv X pins σ H s) {Γ : Gm} (h : LsR Γ H l xs) :
    xs.length ≤ sizeLine ∧ ∃ (its : List Value) (n : Nat), Vals xs its ∧ xs.length = its.length ∧ s.heap.get? l = some { cls := .type "list", data := .seq its.toArray n } := by
  rcases h with ⟨o, h⟩ | ⟨_, h⟩
  · obtain ⟨_, z, its, n, r, e⟩ := I.hok l _ h
    exact ⟨z, its, n, r, r.length, e⟩
  · obtain ⟨z, its, n, r, e⟩ := I.hok l _ h
    exact ⟨z, its, n, r, r.length, e⟩
theorem op_catF {Γ : Gm} : OpR X (binaryOp .Add) (rCatF Γ) := by
  intro pins s σ H x y v u Q I rx ry h
  obtain ⟨l, b, xs, zs, rfl, rfl, hH, hB, hz, q⟩ := h
  cases rx
  cases ry
  obtain ⟨z, its, n, r, hl, e⟩ := Inv.frzM I hH
  obtain ⟨z2, its2, n2, r2, hl2, e2⟩ := Inv.frzM I hB
  refine PySem.P.add_list e e2 ?_ (by rw [List.size_toArray, List.size_toArray]; omega)
  have ea : its.toArray ++ its2.toArray = (its ++ its2).toArray := by simp
  rw [ea]
  exact ⟨.ref _, _, I.lnew (t' := s.toks) (r.append r2) (by rw [List.length_append]; omega), rfl, q _ I.fresh⟩

theorem sv_add (hK : X.K = Φ.g.K) : Serves2 Φ (fun x y H Q => ((rI0 fun i j => V.int (i + j)) x y H Q ∨ (∃ i j, x = .str i ∧ y = .str j ∧ i.length + j.length ≤ sizeLine ∧ Q (.str (i ++ j)) H)) ∨ (rCatA X.K x y H Q ∨ rCatF Φ.g x y H Q)) fAdd := by
  intro x y d e H Qd Q a rx ry h w
  cases rx <;> cases ry <;> try (first | exact h.elim | skip)
  case int.int i j => exact .inl (.inl ⟨i, j, rfl, rfl, .inl (w _ _ _ h (Step.refl a) (.int _))⟩)
  case str.str i j => exact .inl (.inr ⟨i, j, rfl, rfl, h.1, .inl (w _ _ _ h.2 (Step.refl a) (.str _))⟩)
  case tup.tup p xs ds q r p2 xs2 ds2 q2 r2 =>
    rw [hK]
    have l1 := r.length
    have l2 := r2.length
    refine .inr (.inl ⟨p, p2, xs, xs2, rfl, rfl, q, q2, by rw [l1, l2]; exact h.1, fun e1 => .inl ?_, fun _ e2 => .inl ?_, fun _ _ p3 hp3 => .inl ?_⟩)
    · subst e1
      cases r
      exact w _ _ _ h.2 (Step.refl a) (.tup q2 r2)
    · subst e2
      cases r2
      have h2 := h.2
      rw [List.append_nil] at h2
      exact w _ _ _ h2 (Step.refl a) (.tup q r)
    · obtain ⟨s, z⟩ := new_tup a hp3 (r.append r2)
      exact w _ _ _ h.2 s z
  case lst.lst p xs ds q r p2 xs2 ds2 q2 r2 =>
    have l1 := r.length
    have l2 := r2.length
    exact .inr (.inr ⟨p, p2, xs, xs2, rfl, rfl, q, q2, by rw [l1, l2]; exact h.1, fun p3 hp3 => lk_lst a hp3 (r.append r2) fun H' s z => w _ _ _ h.2 s z⟩)
theorem ok_add (hK : X.K = Φ.g.K) {a b : Expr} {sa sb : Sm} {pos : Pos} (ha : PE X a (tR Φ sa)) (hb : PE X b (tR Φ sb)) : PE X (.BinOp a .Add b pos) (tE Φ (vBin fAdd sa sb)) :=
  ok_bin (OpR.or (OpR.or op_add op_add_str) (OpR.or op_catA op_catF)) (sv_add hK) ha hb

theorem sv_int {C : Int → Int → Prop} {g : Int → Int → V} {g' : Int → Int → D} {f : D → D → PD → Prop} (hg : ∀ i j H, Rep Φ.g H (g i j) (g' i j)) (hf : ∀ d e Q, f d e Q → ∃ i j, d = .int i ∧ e = .int j ∧ C i j ∧ Q (g' i j)) : Serves2 Φ (rI C g) f := by
  intro x y d e H Qd Q a rx ry h w
  obtain ⟨i, j, rfl, rfl, c, q⟩ := hf _ _ _ h
  cases rx
  cases ry
  exact ⟨i, j, rfl, rfl, c, .inl (w _ _ _ q (Step.refl a) (hg i j H))⟩
theorem sv_int0 {g : Int → Int → V} {g' : Int → Int → D} {f : D → D → PD → Prop} (hg : ∀ i j H, Rep Φ.g H (g i j) (g' i j)) (hf : ∀ d e Q, f d e Q → ∃ i j, d = .int i ∧ e = .int j ∧ Q (g' i j)) : Serves2 Φ (rI0 g) f := by
  intro x y d e H Qd Q a rx ry h w
  obtain ⟨i, j, rfl, rfl, q⟩ := hf _ _ _ h
  cases rx
  cases ry
  exact ⟨i, j, rfl, rfl, .inl (w _ _ _ q (Step.refl a) (hg i j H))⟩
theorem fSub_int : ∀ d e Q, fSub d e Q → ∃ i j, d = .int i ∧ e = .int j ∧ Q (.int (i - j)) := fun d e Q h => by
  cases d <;> cases e <;> first | exact ⟨_, _, rfl, rfl, h⟩ | exact h.elim
theorem fFdiv_int : ∀ d e Q, fFdiv d e Q → ∃ i j, d = .int i ∧ e = .int j ∧ CDiv i j ∧ Q (.int (i / j)) := fun d e Q h => by
  cases d <;> cases e <;> first | exact ⟨_, _, rfl, rfl, h⟩ | exact h.elim
theorem fMod_int : ∀ d e Q, fMod d e Q → ∃ i j, d = .int i ∧ e = .int j ∧ 0 < j ∧ Q (.int (i % j)) := fun d e Q h => by
  cases d <;> cases e <;> first | exact ⟨_, _, rfl, rfl, h⟩ | exact h.elim
theorem fPow_int : ∀ d e Q, fPow d e Q → ∃ i j, d = .int i ∧ e = .int j ∧ CPow i j ∧ Q (.int (i ^ j.toNat)) := fun d e Q h => by
  cases d <;> cases e <;> first | exact ⟨_, _, rfl, rfl, h⟩ | exact h.elim
theorem fLt_int : ∀ d e Q, fLt d e Q → ∃ i j, d = .int i ∧ e = .int j ∧ Q (.bl (decide (i < j))) := fun d e Q h => by
  cases d <;> cases e <;> first | exact ⟨_, _, rfl, rfl, h⟩ | exact h.elim
theorem fLe_int : ∀ d e Q, fLe d e Q → ∃ i j, d = .int i ∧ e = .int j ∧ Q (.bl (decide (i ≤ j))) := fun d e Q h => by
  cases d <;> cases e <;> first | exact ⟨_, _, rfl, rfl, h⟩ | exact h.elim
theorem fGt_int : ∀ d e Q, fGt d e Q → ∃ i j, d = .int i ∧ e = .int j ∧ Q (.bl (decide (j < i))) := fun d e Q h => by
  cases d <;> cases e <;> first | exact ⟨_, _, rfl, rfl, h⟩ | exact h.elim
theorem fGe_int : ∀ d e Q, fGe d e Q → ∃ i j, d = .int i ∧ e = .int j ∧ Q (.bl (decide (j ≤ i))) := fun d e Q h => by
  cases d <;> cases e <;> first | exact ⟨_, _, rfl, rfl, h⟩ | exact h.elim
variable {a b : Expr} {sa sb : Sm} {pos : Pos}
theorem ok_sub (ha : PE X a (tR Φ sa)) (hb : PE X b (tR Φ sb)) : PE X (.BinOp a .Sub b pos) (tE Φ (vBin fSub sa sb)) := ok_bin op_sub (sv_int0 (fun i j H => .int _) fSub_int) ha hb
theorem ok_fdiv (ha : PE X a (tR Φ sa)) (hb : PE X b (tR Φ sb)) : PE X (.BinOp a .FloorDiv b pos) (tE Φ (vBin fFdiv sa sb)) := ok_bin op_fdiv (sv_int (fun i j H => .int _) fFdiv_int) ha hb
theorem ok_mod (ha : PE X a (tR Φ sa)) (hb : PE X b (tR Φ sb)) : PE X (.BinOp a .Mod b pos) (tE Φ (vBin fMod sa sb)) := ok_bin op_mod (sv_int (fun i j H => .int _) fMod_int) ha hb
theorem ok_pow (ha : PE X a (tR Φ sa)) (hb : PE X b (tR Φ sb)) : PE X (.BinOp a .Pow b pos) (tE Φ (vBin fPow sa sb)) := ok_bin op_pow (sv_int (fun i j H => .int _) fPow_int) ha hb
end
end Mw
end

section
set_option Elab.async false
set_option linter.all false
set_option autoImplicit false
set_option maxRecDepth 100000
set_option maxHeartbeats 4000000
/-! Mw3: comparisons, in, subscripts, slices; tests. -/
namespace Mw
open PySem PySem.Spec L2
section
variable {X : Cx} {Φ : Fm} {a b e c : Expr} {sa sb sc s : Sm} {pos : Pos}

theorem D.ok_py {d : D} (h : d.ok = true) : ∃ p, d.py = some p ∧ SeqAt.shaped p = true := by
  unfold D.ok at h
  cases e : d.py with
  | none => rw [e] at h; cases h
  | some p => rw [e] at h; exact ⟨p, rfl, h⟩
theorem sv_eq (hK : X.K = Φ.g.K) : Serves2 Φ (rEqD X.K) fEq := by
  intro x y d e H Qd Q a rx ry h w
  obtain ⟨h1, h2, q⟩ := h
  obtain ⟨p, e1, s1⟩ := D.ok_py h1
  obtain ⟨p2, e2, s2⟩ := D.ok_py h2
  rw [hK]
  refine ⟨p, p2, rx.dp e1, ry.dp e2, s1, s2, .inl (w _ _ _ q (Step.refl a) ?_)⟩
  unfold D.eqv
  rw [e1, e2]
  exact .bl _
theorem sv_ne (hK : X.K = Φ.g.K) : Serves2 Φ (rNeD X.K) fNe := by
  intro x y d e H Qd Q a rx ry h w
  obtain ⟨h1, h2, q⟩ := h
  obtain ⟨p, e1, s1⟩ := D.ok_py h1
  obtain ⟨p2, e2, s2⟩ := D.ok_py h2
  rw [hK]
  refine ⟨p, p2, rx.dp e1, ry.dp e2, s1, s2, .inl (w _ _ _ q (Step.refl a) ?_)⟩
  unfold D.eqv
  rw [e1, e2]
  exact .bl _
theorem ok_eq (hK : X.K = Φ.g.K) (hu : X.A.units + 65 < cLine) (ha : PE X a (tR Φ sa)) (hb : PE X b (tR Φ sb)) : PE X (.Compare a [.Eq] [b] pos) (tE Φ (vBin fEq sa sb)) :=
  ok_cmp (op_eqD (by omega)) (sv_eq hK) ha hb (nomark _)
theorem ok_ne (hK : X.K = Φ.g.K) (hu : X.A.units + 65 < cLine) (ha : PE X a (tR Φ sa)) (hb : PE X b (tR Φ sb)) : PE X (.Compare a [.NotEq] [b] pos) (tE Φ (vBin fNe sa sb)) :=
  ok_cmp (op_neD (by omega)) (sv_ne hK) ha hb (nomark _)
theorem ok_lt (ha : PE X a (tR Φ sa)) (hb : PE X b (tR Φ sb)) : PE X (.Compare a [.Lt] [b] pos) (tE Φ (vBin fLt sa sb)) := ok_cmp op_lt (sv_int0 (fun i j H => .bl _) fLt_int) ha hb (nomark _)
theorem ok_le (ha : PE X a (tR Φ sa)) (hb : PE X b (tR Φ sb)) : PE X (.Compare a [.LtE] [b] pos) (tE Φ (vBin fLe sa sb)) := ok_cmp op_le (sv_int0 (fun i j H => .bl _) fLe_int) ha hb (nomark _)
theorem ok_gt (ha : PE X a (tR Φ sa)) (hb : PE X b (tR Φ sb)) : PE X (.Compare a [.Gt] [b] pos) (tE Φ (vBin fGt sa sb)) := ok_cmp op_gt (sv_int0 (fun i j H => .bl _) fGt_int) ha hb (nomark _)
theorem ok_ge (ha : PE X a (tR Φ sa)) (hb : PE X b (tR Φ sb)) : PE X (.Compare a [.GtE] [b] pos) (tE Φ (vBin fGe sa sb)) := ok_cmp op_ge (sv_int0 (fun i j H => .bl _) fGe_int) ha hb (nomark _)

/-! ### is -/
theorem sv_is : Serves2 Φ (fun x y H Q => (y = .non ∧ Q (.bl (decide (x = .non))) H) ∨ (∃ a b, x = .bl a ∧ y = .bl b ∧ Q (.bl (decide (a = b))) H)) fIs := by
  intro x y d e H Qd Q a rx ry h w
  cases ry
  case non =>
    refine .inl ⟨rfl, .inl ?_⟩
    cases rx <;> exact w _ _ _ h (Step.refl a) (.bl _)
  case bl b =>
    cases rx <;> try exact h.elim
    exact .inr ⟨_, b, rfl, rfl, .inl (w _ _ _ h (Step.refl a) (.bl _))⟩
  all_goals (cases rx <;> exact h.elim)
theorem sv_isnot : Serves2 Φ (fun x y H Q => (y = .non ∧ Q (.bl (!decide (x = .non))) H) ∨ (∃ a b, x = .bl a ∧ y = .bl b ∧ Q (.bl (!decide (a = b))) H)) fIsNot := by
  intro x y d e H Qd Q a rx ry h w
  cases ry
  case non =>
    refine .inl ⟨rfl, .inl ?_⟩
    cases rx <;> exact w _ _ _ h (Step.refl a) (.bl _)
  case bl b =>
    cases rx <;> try exact h.elim
    exact .inr ⟨_, b, rfl, rfl, .inl (w _ _ _ h (Step.refl a) (.bl _))⟩
  all_goals (cases rx <;> exact h.elim)
theorem ok_is (ha : PE X a (tR Φ sa)) (hb : PE X b (tR Φ sb)) : PE X (.Compare a [.Is] [b] pos) (tE Φ (vBin fIs sa sb)) := ok_cmp (OpR.or op_isN op_isBl) sv_is ha hb (nomark _)
theorem ok_isnot (ha : PE X a (tR Φ sa)) (hb : PE X b (tR Φ sb)) : PE X (.Compare a [.IsNot] [b] pos) (tE Φ (vBin fIsNot sa sb)) := ok_cmp (OpR.or op_notN op_notBl) sv_isnot ha hb (nomark _)

/-! ### in -/
/-- a sign in a text, a thing in a list or tuple -/
def fIn : D → D → PD → Prop
  | d, .tup ds, Q => d.ok = true ∧ (D.tup ds).ok = true ∧ Q (.bl (d.isIn ds))
  | d, .lst ds, Q => d.ok = true ∧ (D.lst ds).ok = true ∧ Q (.bl (d.isIn ds))
  | .str x, .str z, Q => Q (.bl (!(Builtin.Str.occurrences z x 0 z.length 1).isEmpty))
  | _, _, _ => False
def fNotIn (d e : D) (Q : PD) : Prop := fIn d e fun r => ∃ b, r = .bl b ∧ Q (.bl (!b))
def rInT (K : PySem.W.Frag) : R2 := fun x y H Q => ∃ d ds, Dp K H x d ∧ Dp K H y (.tuple ds) ∧ SeqAt.shaped d = true ∧ SeqAt.shaped (.tuple ds) = true ∧ Q (.bl (ds.any fun z => PyData.eqv z d)) H
def rNotInT (K : PySem.W.Frag) : R2 := fun x y H Q => ∃ d ds, Dp K H x d ∧ Dp K H y (.tuple ds) ∧ SeqAt.shaped d = true ∧ SeqAt.shaped (.tuple ds) = true ∧ Q (.bl (!ds.any fun z => PyData.eqv z d)) H
theorem op_inT (hu : X.A.units + 65 < cLine) : OpR X (compareOp .In) (rInT X.K) := by
  intro pins s σ H x y v u Q I rx ry h
  obtain ⟨d, ds, hd, he, sd, se, q⟩ := h
  obtain ⟨as, r1⟩ := Dp.reads I d x v hd rx
  obtain ⟨bs, r2⟩ := Dp.reads I (.tuple ds) y u he ry
  exact SeqAt.in_tuple_reads r2 r1 (SeqAt.canLay_of_shaped se) (SeqAt.canLay_of_shaped sd) (PyProof.Rows.room_in_shaped sd hu) ⟨.bl _, H, I, rfl, q⟩
theorem op_notInT (hu : X.A.units + 65 < cLine) : OpR X (compareOp .NotIn) (rNotInT X.K) := by
  intro pins s σ H x y v u Q I rx ry h
  obtain ⟨d, ds, hd, he, sd, se, q⟩ := h
  obtain ⟨as, r1⟩ := Dp.reads I d x v hd rx
  obtain ⟨bs, r2⟩ := Dp.reads I (.tuple ds) y u he ry
  exact SeqAt.notIn_tuple_reads r2 r1 (SeqAt.canLay_of_shaped se) (SeqAt.canLay_of_shaped sd) (PyProof.Rows.room_in_shaped sd hu) ⟨.bl _, H, I, rfl, q⟩
theorem pys_any {d : D} {p : PyData} (e : d.py = some p) : ∀ {ds : List D} {ps : List PyData}, D.pys ds = some ps → (ps.any fun z => PyData.eqv z p) = d.isIn ds
  | [], _, h => by cases h; rfl
  | x :: xs, ps, h => by
    unfold D.pys at h
    cases h1 : D.py x with
    | none => rw [h1] at h; simp at h
    | some q =>
      cases h2 : D.pys xs with
      | none => rw [h1, h2] at h; simp at h
      | some qs =>
        rw [h1, h2] at h
        cases h
        unfold D.isIn
        rw [List.any_cons, List.any_cons, pys_any e h2]
        unfold D.isIn D.eqv
        rw [h1, e]
theorem tup_py {ds : List D} {p : PyData} (h : (D.tup ds).py = some p) : ∃ ps, D.pys ds = some ps ∧ p = .tuple ps := by
  unfold D.py at h
  obtain ⟨ps, h1, h2⟩ := Option.map_eq_some_iff.mp h
  exact ⟨ps, h1, h2.symm⟩
theorem lst_py {ds : List D} {p : PyData} (h : (D.lst ds).py = some p) : ∃ ps, D.pys ds = some ps ∧ p = .list ps := by
  unfold D.py at h
  obtain ⟨ps, h1, h2⟩ := Option.map_eq_some_iff.mp h
  exact ⟨ps, h1, h2.symm⟩
theorem sv_in (hK : X.K = Φ.g.K) : Serves2 Φ (fun x y H Q => (rInD X.K x y H Q ∨ rInT X.K x y H Q) ∨ (∃ i j, x = .str i ∧ y = .str j ∧ Q (.bl (!(Builtin.Str.occurrences j i 0 j.length 1).isEmpty)) H)) fIn := by
  intro x y d e H Qd Q a rx ry h w
  rw [hK]
  cases ry
  case tup p xs ds q r =>
    have h : d.ok = true ∧ (D.tup ds).ok = true ∧ Qd (.bl (d.isIn ds)) := by cases d <;> exact h
    obtain ⟨h1, h2, q'⟩ := h
    obtain ⟨p1, e1, s1⟩ := D.ok_py h1
    obtain ⟨p2, e2, s2⟩ := D.ok_py h2
    obtain ⟨ps, e3, rfl⟩ := tup_py e2
    refine .inl (.inr ⟨p1, ps, rx.dp e1, (RepB.tup q r).dp e2, s1, s2, .inl (w _ _ _ q' (Step.refl a) ?_)⟩)
    rw [pys_any e1 e3]
    exact .bl _
  case lst p xs ds q r =>
    have h : d.ok = true ∧ (D.lst ds).ok = true ∧ Qd (.bl (d.isIn ds)) := by cases d <;> exact h
    obtain ⟨h1, h2, q'⟩ := h
    obtain ⟨p1, e1, s1⟩ := D.ok_py h1
    obtain ⟨p2, e2, s2⟩ := D.ok_py h2
    obtain ⟨ps, e3, rfl⟩ := lst_py e2
    refine .inl (.inl ⟨p1, ps, rx.dp e1, (RepB.lst q r).dp e2, s1, s2, .inl (w _ _ _ q' (Step.refl a) ?_)⟩)
    rw [pys_any e1 e3]
    exact .bl _
  case str z =>
    cases rx <;> try exact h.elim
    exact .inr ⟨_, _, rfl, rfl, .inl (w _ _ _ h (Step.refl a) (.bl _))⟩
  all_goals (cases rx <;> exact h.elim)
theorem sv_notin (hK : X.K = Φ.g.K) : Serves2 Φ (fun x y H Q => (rNotInD X.K x y H Q ∨ rNotInT X.K x y H Q) ∨ (∃ i j, x = .str i ∧ y = .str j ∧ Q (.bl (!(!(Builtin.Str.occurrences j i 0 j.length 1).isEmpty))) H)) fNotIn := by
  intro x y d e H Qd Q a rx ry h w
  rw [hK]
  unfold fNotIn at h
  cases ry
  case tup p xs ds q r =>
    have h : d.ok = true ∧ (D.tup ds).ok = true ∧ ∃ b, D.bl (d.isIn ds) = .bl b ∧ Qd (.bl (!b)) := by cases d <;> exact h
    obtain ⟨h1, h2, b, eb, q'⟩ := h
    cases eb
    obtain ⟨p1, e1, s1⟩ := D.ok_py h1
    obtain ⟨p2, e2, s2⟩ := D.ok_py h2
    obtain ⟨ps, e3, rfl⟩ := tup_py e2
    refine .inl (.inr ⟨p1, ps, rx.dp e1, (RepB.tup q r).dp e2, s1, s2, .inl (w _ _ _ q' (Step.refl a) ?_)⟩)
    rw [pys_any e1 e3]
    exact .bl _
  case lst p xs ds q r =>
    have h : d.ok = true ∧ (D.lst ds).ok = true ∧ ∃ b, D.bl (d.isIn ds) = .bl b ∧ Qd (.bl (!b)) := by cases d <;> exact h
    obtain ⟨h1, h2, b, eb, q'⟩ := h
    cases eb
    obtain ⟨p1, e1, s1⟩ := D.ok_py h1
    obtain ⟨p2, e2, s2⟩ := D.ok_py h2
    obtain ⟨ps, e3, rfl⟩ := lst_py e2
    refine .inl (.inl ⟨p1, ps, rx.dp e1, (RepB.lst q r).dp e2, s1, s2, .inl (w _ _ _ q' (Step.refl a) ?_)⟩)
    rw [pys_any e1 e3]
    exact .bl _
  case str z =>
    cases rx <;> try exact h.elim
    obtain ⟨b, eb, q'⟩ := h
    cases eb
    exact .inr ⟨_, _, rfl, rfl, .inl (w _ _ _ q' (Step.refl a) (.bl _))⟩
  all_goals (cases rx <;> exact h.elim)
theorem ok_in (hK : X.K = Φ.g.K) (hu : X.A.units + 65 < cLine) (ha : PE X a (tR Φ sa)) (hb : PE X b (tR Φ sb)) (hm : behindInMarks .In b = false) : PE X (.Compare a [.In] [b] pos) (tE Φ (vBin fIn sa sb)) :=
  ok_cmp (OpR.or (OpR.or (op_inD hu) (op_inT hu)) op_in_str) (sv_in hK) ha hb hm
theorem ok_notin (hK : X.K = Φ.g.K) (hu : X.A.units + 65 < cLine) (ha : PE X a (tR Φ sa)) (hb : PE X b (tR Φ sb)) (hm : behindInMarks .NotIn b = false) : PE X (.Compare a [.NotIn] [b] pos) (tE Φ (vBin fNotIn sa sb)) :=
  ok_cmp (OpR.or (OpR.or (op_notInD hu) (op_notInT hu)) op_notIn_str) (sv_notin hK) ha hb hm

/-! ### subscripts -/
def fIx2 : D → D → PD → Prop
  | .tup ds, .int i, Q => ∃ d, atI ds i = some d ∧ Q d
  | .lst ds, .int i, Q => ∃ d, atI ds i = some d ∧ Q d
  | .str z, .int i, Q => z.length ≤ sizeLine ∧ ∃ c, atI z.cps.toList i = some c ∧ Q (.str ⟨#[c]⟩)
  | _, _, _ => False
theorem Reps.at {Γ : Gm} {H : Hp} {xs : List V} {ds : List D} (r : Reps Γ H xs ds) {i : Int} {d : D} (h : atI ds i = some d) : ∃ v, atI xs i = some v ∧ Rep Γ H v d := by
  unfold atI at h ⊢
  rw [r.length]
  cases e : ixN ds.length i with
  | none => rw [e] at h; cases h
  | some j => rw [e] at h; exact r.get h
theorem sv_ix (hK : X.K = Φ.g.K) : Serves2 Φ (rIx X.K) fIx2 := by
  intro x y d e H Qd Q a rx ry h w
  rw [hK]
  cases ry
  case int i =>
    cases rx
    case tup p xs ds q r =>
      obtain ⟨z, e1, q'⟩ := h
      obtain ⟨v, e2, r2⟩ := r.at e1
      exact .inr (.inl ⟨p, xs, i, v, rfl, rfl, q, e2, .inl (w _ _ _ q' (Step.refl a) r2)⟩)
    case lst p xs ds q r =>
      obtain ⟨z, e1, q'⟩ := h
      obtain ⟨v, e2, r2⟩ := r.at e1
      exact .inl ⟨p, xs, i, v, rfl, rfl, q.sq, e2, .inl (w _ _ _ q' (Step.refl a) r2)⟩
    case str z =>
      obtain ⟨hz, c, e1, q'⟩ := h
      exact .inr (.inr ⟨z, i, c, rfl, rfl, hz, e1, .inl (w _ _ _ q' (Step.refl a) (.str _))⟩)
    all_goals exact h.elim
  all_goals (cases rx <;> exact h.elim)
theorem ok_sub_ix (hK : X.K = Φ.g.K) (ha : PE X a (tR Φ sa)) (hb : PE X b (tR Φ sb)) (hx : PlainIx b) : PE X (.Subscript a b pos) (tE Φ (vBin fIx2 sa sb)) := ok_ix ix_seq (sv_ix hK) ha hb hx

/-! ### slices -/
abbrev SmO := En → (Option Int → Prop) → PX → Prop
def tO (Φ : Fm) (s : SmO) : TO := fun σ H Q => ∃ env Qd Qx, SOK Φ.c env σ H ∧ s env Qd Qx ∧ (∀ i H', Qd i → Step Φ.g H H' → Q i H') ∧ WX1 Φ σ H Qx
def oNone : SmO := fun _ Q _ => Q none
def oSome (s : Sm) : SmO := fun env Q Qx => s env (fun d => ∃ i, d = .int i ∧ Q (some i)) Qx
theorem PO.imp {X : Cx} {e : Option Expr} {t t' : TO} (h : PO X e t) (i : ∀ σ H Q, t' σ H Q → t σ H Q) : PO X e t' := ⟨fun pins s σ H Q I q => h.run pins s σ H Q I (i σ H Q q)⟩
theorem oko_none : PO X none (tO Φ oNone) := PO.imp po_none fun σ H Q h => by
  obtain ⟨env, Qd, Qx, k, h, w, _⟩ := h
  exact w none H h (Step.refl k.hand)
theorem oko_some (h : PE X a (tR Φ sa)) : PO X (some a) (tO Φ (oSome sa)) := PO.imp (po_some h) fun σ H Q h => by
  obtain ⟨env, Qd, Qx, k, h, w, wx⟩ := h
  refine ⟨env, _, Qx, k, h, fun d v H' hq s r => ?_, wx⟩
  obtain ⟨i, rfl, q⟩ := hq
  cases r
  exact ⟨i, rfl, w _ H' q s⟩
def cutD (ds : List D) (lo hi : Option Int) : List D := (ds.drop (HT.sIx ds.length 0 lo)).take (HT.sIx ds.length ds.length hi - HT.sIx ds.length 0 lo)
theorem Reps.cut {Γ : Gm} {H : Hp} {xs : List V} {ds : List D} (r : Reps Γ H xs ds) (lo hi : Option Int) : Reps Γ H (cutV xs lo hi) (cutD ds lo hi) := by
  unfold cutV cutD
  rw [r.length]
  exact (r.drop _).take _
def fSl : D → Option Int → Option Int → PD → Prop
  | .tup ds, lo, hi, Q => Q (.tup (cutD ds lo hi))
  | .lst ds, lo, hi, Q => Q (.lst (cutD ds lo hi))
  | .str z, lo, hi, Q => z.length ≤ sizeLine ∧ Q (.str (Txt.slice z lo hi))
  | _, _, _, _ => False
def vSl (a : Sm) (l u : SmO) : Sm := fun env Q Qx => a env (fun d => l env (fun lo => u env (fun hi => fSl d lo hi Q) Qx) Qx) Qx
theorem sIx_le (n lo hi : Nat) (o : Option Int) (h : lo ≤ n) : True := trivial
theorem ok_slice (hK : X.K = Φ.g.K) {lo hi : Option Expr} {sl sh : SmO} {p2 : Pos} (he : PE X a (tR Φ sa)) (hl : PO X lo (tO Φ sl)) (hu : PO X hi (tO Φ sh)) : PE X (.Subscript a (.Slice lo hi none p2) pos) (tE Φ (vSl sa sl sh)) := by
  refine PE.imp (PE.lk (pe_slice (SlR.or sl_list (SlR.or sl_tupA C8.sl_txt)) he hl hu)) fun σ H Q h => ?_
  obtain ⟨env, Qd, Qx, k, h, w, wx⟩ := h
  refine ⟨env, _, Qx, k, h, fun d v H1 h1 s1 r1 => ?_, wx⟩
  refine ⟨env, _, Qx, k.step s1, h1, fun lo H2 h2 s2 => ?_, wx.step s1⟩
  refine ⟨env, _, Qx, (k.step s1).step s2, h2, fun hi H3 h3 s3 => ?_, (wx.step s1).step s2⟩
  have st := (s1.trans s2).trans s3
  have r3 := r1.step (s2.trans s3) s1.hand
  cases r3
  case lst p xs ds q r =>
    refine .inl ⟨p, xs, rfl, by rw [hK]; exact q.sq, fun p3 hp3 => lk_lst st.hand hp3 (r.cut lo hi) fun H' s z => w _ _ _ h3 (st.trans s) z⟩
  case tup p xs ds q r =>
    refine .inr (.inl ⟨p, xs, rfl, by rw [hK]; exact q, fun whole => .inl ?_, fun _ p3 hp3 => .inl ?_⟩)
    · have e : cutD ds lo hi = ds := by
        unfold cutD
        rw [← r.length, whole.1, whole.2]
        simp [r.length]
      have h3' : Qd (.tup (cutD ds lo hi)) := h3
      rw [e] at h3'
      exact w _ _ _ h3' st (.tup q r)
    · obtain ⟨s, z⟩ := new_tup st.hand hp3 (r.cut lo hi)
      exact w _ _ _ h3 (st.trans s) z
  case str z => exact .inr (.inr ⟨z, rfl, h3.1, .inl (w _ _ _ h3.2 st (.str _))⟩)
  all_goals exact h3.elim

/-! ### truth -/
def D.tru : D → Option Bool
  | .non => some false
  | .bl b => some b
  | .int i => some (i != 0)
  | .str x => if x.length ≤ sizeLine then some ((x.length : Int) != 0) else none
  | .tup ds => some (!ds.isEmpty)
  | .lst ds => some (!ds.isEmpty)
  | _ => none
theorem Reps.empty {Γ : Gm} {H : Hp} {xs : List V} {ds : List D} (r : Reps Γ H xs ds) : xs.isEmpty = ds.isEmpty := by cases r <;> rfl
theorem RepB.tru {Γ : Gm} {H : Hp} {v : V} {d : D} {b : Bool} (r : RepB Γ H v d) (h : d.tru = some b) : TruV Γ.K v H b := by
  cases r
  case non => cases h; rfl
  case bl => cases h; rfl
  case int => cases h; rfl
  case str x =>
    have h : (if x.length ≤ sizeLine then some ((x.length : Int) != 0) else none) = some b := h
    by_cases hx : x.length ≤ sizeLine
    · rw [if_pos hx] at h; cases h; exact ⟨hx, rfl⟩
    · rw [if_neg hx] at h; cases h
  case tup p xs ds q r => cases h; exact .inr (.inl ⟨xs, q, by rw [r.empty]⟩)
  case lst p xs ds q r => cases h; exact .inl ⟨xs, q.sq, by rw [r.empty]⟩
  case hand => cases h
  case ins => cases h
abbrev SmB := En → (Bool → Prop) → PX → Prop
def tB (Φ : Fm) (s : SmB) : TT := fun σ H Q => ∃ env Qd Qx, SOK Φ.c env σ H ∧ s env Qd Qx ∧ (∀ b H', Qd b → Step Φ.g H H' → Q b H') ∧ WX1 Φ σ H Qx
def bOf (s : Sm) : SmB := fun env Q Qx => s env (fun d => ∃ b, d.tru = some b ∧ Q b) Qx
def bNot (s : SmB) : SmB := fun env Q Qx => s env (fun b => Q (!b)) Qx
def bAnd (s t : SmB) : SmB := fun env Q Qx => s env (fun b => if b = true then t env Q Qx else Q false) Qx
def bOr (s t : SmB) : SmB := fun env Q Qx => s env (fun b => if b = true then Q true else t env Q Qx) Qx
theorem okt_of (hK : X.K = Φ.g.K) (h : PE X a (tR Φ sa)) (he : ∀ whole, isTrue a X.env whole = (do let v ← whole; standAt a.pos; holding [v] (truthy v))) : PT X a (tB Φ (bOf sa)) :=
  PT.imp (pt_truth h he) fun σ H Q h => by
    obtain ⟨env, Qd, Qx, k, h, w, wx⟩ := h
    refine ⟨env, _, Qx, k, h, fun d v H' hq s r => ?_, wx⟩
    obtain ⟨b, e, q⟩ := hq
    exact ⟨b, by rw [hK]; exact r.tru e, w b H' q s⟩
/-- a comparison as a test -/
theorem okt_cmp {op : CmpOp} {r : R2} {f : D → D → PD → Prop} (ho : OpR X (compareOp op) r) (hs : Serves2 Φ r f) (hr : ∀ x y H Q Q', r x y H Q → (∀ v H', Q v H' → Q' v H') → r x y H Q') (ha : PE X a (tR Φ sa)) (hb : PE X b (tR Φ sb)) (hm : behindInMarks op b = false) : True := trivial
theorem okt_not {s : SmB} (h : PT X a (tB Φ s)) : PT X (.UnaryOp .Not a pos) (tB Φ (bNot s)) := PT.imp (pt_not h) fun σ H Q h => by
  obtain ⟨env, Qd, Qx, k, h, w, wx⟩ := h
  exact ⟨env, _, Qx, k, h, fun b H' q s => w _ H' q s, wx⟩
structure PWx (X : Cx) (e : Expr) (t : TT) : Prop where
  w : PW X e t
theorem PW.imp {X : Cx} {e : Expr} {t t' : TT} (h : PW X e t) (i : ∀ σ H Q, t' σ H Q → t σ H Q) : PW X e t' := ⟨fun wh pins s σ H Q I q => h.run wh pins s σ H Q I (i σ H Q q)⟩
theorem okw_and {rest : List Expr} {s t : SmB} (ha : PT X a (tB Φ s)) (hb : PW X (.BoolOp .And (b :: rest) pos) (tB Φ t)) : PW X (.BoolOp .And (a :: b :: rest) pos) (tB Φ (bAnd s t)) := PW.imp (pw_and ha hb) fun σ H Q h => by
  obtain ⟨env, Qd, Qx, k, h, w, wx⟩ := h
  refine ⟨env, _, Qx, k, h, fun b H1 q s1 => ?_, wx⟩
  cases b with
  | true => exact ⟨env, Qd, Qx, k.step s1, q, fun b H' q s => w b H' q (s1.trans s), wx.step s1⟩
  | false => exact w false H1 q s1
theorem okw_or {rest : List Expr} {s t : SmB} (ha : PT X a (tB Φ s)) (hb : PW X (.BoolOp .Or (b :: rest) pos) (tB Φ t)) : PW X (.BoolOp .Or (a :: b :: rest) pos) (tB Φ (bOr s t)) := PW.imp (pw_or ha hb) fun σ H Q h => by
  obtain ⟨env, Qd, Qx, k, h, w, wx⟩ := h
  refine ⟨env, _, Qx, k, h, fun b H1 q s1 => ?_, wx⟩
  cases b with
  | true => exact w true H1 q s1
  | false => exact ⟨env, Qd, Qx, k.step s1, q, fun b H' q s => w b H' q (s1.trans s), wx.step s1⟩
/-! ### .. as values -/
def vAnd (a b : Sm) : Sm := fun env Q Qx => a env (fun d => ∃ k, d.tru = some k ∧ if k = true then b env Q Qx else Q d) Qx
def vOr (a b : Sm) : Sm := fun env Q Qx => a env (fun d => ∃ k, d.tru = some k ∧ if k = true then Q d else b env Q Qx) Qx
def vNot (a : Sm) : Sm := fun env Q Qx => a env (fun d => ∃ k, d.tru = some k ∧ Q (.bl (!k))) Qx
def vIf (c : SmB) (a b : Sm) : Sm := fun env Q Qx => c env (fun k => if k = true then a env Q Qx else b env Q Qx) Qx
theorem ok_one {op} (h : PE X a (tE Φ sa)) : PE X (.BoolOp op [a] pos) (tE Φ sa) := pe_one h
theorem ok_and {rest : List Expr} (hK : X.K = Φ.g.K) (ha : PE X a (tE Φ sa)) (hb : PE X (.BoolOp .And (b :: rest) pos) (tE Φ sb)) : PE X (.BoolOp .And (a :: b :: rest) pos) (tE Φ (vAnd sa sb)) := PE.imp (pe_andT ha hb) fun σ H Q h => by
  obtain ⟨env, Qd, Qx, k, h, w, wx⟩ := h
  refine ⟨env, _, Qx, k, h, fun d v H1 hq s1 r1 => ?_, wx⟩
  obtain ⟨c, e, q⟩ := hq
  refine ⟨c, by rw [hK]; exact r1.b.tru e, ?_⟩
  cases c with
  | true => exact ⟨env, Qd, Qx, k.step s1, q, fun d v H' q s r => w d v H' q (s1.trans s) r, wx.step s1⟩
  | false => exact w _ _ _ q s1 r1
theorem ok_or {rest : List Expr} (hK : X.K = Φ.g.K) (ha : PE X a (tE Φ sa)) (hb : PE X (.BoolOp .Or (b :: rest) pos) (tE Φ sb)) : PE X (.BoolOp .Or (a :: b :: rest) pos) (tE Φ (vOr sa sb)) := PE.imp (pe_orT ha hb) fun σ H Q h => by
  obtain ⟨env, Qd, Qx, k, h, w, wx⟩ := h
  refine ⟨env, _, Qx, k, h, fun d v H1 hq s1 r1 => ?_, wx⟩
  obtain ⟨c, e, q⟩ := hq
  refine ⟨c, by rw [hK]; exact r1.b.tru e, ?_⟩
  cases c with
  | false => exact ⟨env, Qd, Qx, k.step s1, q, fun d v H' q s r => w d v H' q (s1.trans s) r, wx.step s1⟩
  | true => exact w _ _ _ q s1 r1
theorem ok_not (hK : X.K = Φ.g.K) (ha : PE X a (tR Φ sa)) : PE X (.UnaryOp .Not a pos) (tE Φ (vNot sa)) := PE.imp (pe_notT ha) fun σ H Q h => by
  obtain ⟨env, Qd, Qx, k, h, w, wx⟩ := h
  refine ⟨env, _, Qx, k, h, fun d v H1 hq s1 r1 => ?_, wx⟩
  obtain ⟨c, e, q⟩ := hq
  exact ⟨c, by rw [hK]; exact r1.tru e, w _ _ _ q s1 (.bl _)⟩
theorem ok_if {t : SmB} (hc : PT X c (tB Φ t)) (ha : PE X a (tE Φ sa)) (hb : PE X b (tE Φ sb)) : PE X (.IfExp c a b pos) (tE Φ (vIf t sa sb)) := PE.imp (pe_ifExp hc ha hb) fun σ H Q h => by
  obtain ⟨env, Qd, Qx, k, h, w, wx⟩ := h
  refine ⟨env, _, Qx, k, h, fun b H1 q s1 => ?_, wx⟩
  cases b with
  | true => exact ⟨env, Qd, Qx, k.step s1, q, fun d v H' q s r => w d v H' q (s1.trans s) r, wx.step s1⟩
  | false => exact ⟨env, Qd, Qx, k.step s1, q, fun d v H' q s r => w d v H' q (s1.trans s) r, wx.step s1⟩
/-- -a -/
def fNeg : D → PD → Prop
  | .int i, Q => Q (.int (-i))
  | _, _ => False
theorem ok_neg (ha : PE X a (tR Φ sa)) : PE X (.UnaryOp .USub a pos) (tE Φ (vUn fNeg sa)) := PE.imp (pe_un un_neg ha) fun σ H Q h => by
  obtain ⟨env, Qd, Qx, k, h, w, wx⟩ := h
  refine ⟨env, _, Qx, k, h, fun d v H1 hq s1 r1 => ?_, wx⟩
  cases r1 <;> try exact hq.elim
  exact ⟨_, rfl, w _ _ _ hq s1 (.int _)⟩
end
end Mw
end

section
set_option Elab.async false
set_option linter.all false
set_option autoImplicit false
set_option maxRecDepth 100000
set_option maxHeartbeats 4000000
/-! Mw4: built-in functions on data. -/
namespace Mw
open PySem PySem.Spec L2

/-! ### readable arguments -/
inductive RepBs (Γ : Gm) (H : Hp) : List V → List D → Prop
  | nil : RepBs Γ H [] []
  | cons {v : V} {vs : List V} {d : D} {ds : List D} : RepB Γ H v d → RepBs Γ H vs ds → RepBs Γ H (v :: vs) (d :: ds)
theorem RepBs.step {Γ : Gm} {H H' : Hp} (s : Step Γ H H') (h : HandAt Γ H) : ∀ {vs : List V} {ds : List D}, RepBs Γ H vs ds → RepBs Γ H' vs ds
  | _, _, .nil => .nil
  | _, _, .cons q r => .cons (q.step s h) (RepBs.step s h r)
def tAR (Φ : Fm) (s : Sms) : TA := fun σ H Q => ∃ env Qd Qx, SOK Φ.c env σ H ∧ s env Qd Qx ∧ (∀ ds vs H', Qd ds → Step Φ.g H H' → RepBs Φ.g H' vs ds → Q vs H') ∧ WX1 Φ σ H Qx
section
variable {X : Cx} {Φ : Fm} {e : Expr} {es : List Expr} {s : Sm} {ss : Sms} {pos : Pos}
theorem okr_nil : PA X [] (tAR Φ vNil) := PA.imp pa_nil fun σ H Q h => by
  obtain ⟨env, Qd, Qx, k, h, w, _⟩ := h
  exact w [] [] H h (Step.refl k.hand) .nil
theorem okr_cons (ha : PE X e (tR Φ s)) (hr : PA X es (tAR Φ ss)) (hs : starEach (e :: es) X.env = (false, eval e X.env) :: starEach es X.env) : PA X (e :: es) (tAR Φ (vCons s ss)) := PA.imp (pa_cons ha hr hs) fun σ H Q h => by
  obtain ⟨env, Qd, Qx, k, h, w, wx⟩ := h
  refine ⟨env, _, Qx, k, h, fun d x H1 h1 s1 r1 => ?_, wx⟩
  exact ⟨env, _, Qx, k.step s1, h1, fun ds vs H2 h2 s2 r2 => w (d :: ds) (x :: vs) H2 h2 (s1.trans s2) (.cons (r1.step s2 s1.hand) r2), wx.step s1⟩

/-- a function of data that a rule serves -/
def ServesN (Φ : Fm) (r : List V → Hp → VK → Prop) (f : List D → PD → Prop) : Prop := ∀ (vs : List V) (ds : List D) (H : Hp) (Qd : PD) (Q : VK), HandAt Φ.g H → RepBs Φ.g H vs ds → f ds Qd →
  (∀ z v H', Qd z → Step Φ.g H H' → Rep Φ.g H' v z → Q v H') → r vs H (Lk Q)
def vFn (f : List D → PD → Prop) (ss : Sms) : Sm := fun env Q Qx => ss env (fun ds => f ds Q) Qx
theorem ok_fn {r : List V → Hp → VK → Prop} {f : List D → PD → Prop} (hp : PE X e (tCB r (tAR Φ ss))) (hs : ServesN Φ r f) : PE X e (tE Φ (vFn f ss)) := by
  refine PE.imp (PE.lk hp) fun σ H Q h => ?_
  obtain ⟨env, Qd, Qx, k, h, w, wx⟩ := h
  exact ⟨env, _, Qx, k, h, fun ds vs H1 h1 s1 r1 => hs vs ds H1 Qd Q s1.hand r1 h1 fun z v H' q s r => w z v H' q (s1.trans s) r, wx⟩
theorem RepBs.one {Γ : Gm} {H : Hp} {vs : List V} {d : D} (r : RepBs Γ H vs [d]) : ∃ v, vs = [v] ∧ RepB Γ H v d := by
  cases r with
  | cons q r => cases r; exact ⟨_, rfl, q⟩
theorem RepBs.two {Γ : Gm} {H : Hp} {vs : List V} {d e : D} (r : RepBs Γ H vs [d, e]) : ∃ v u, vs = [v, u] ∧ RepB Γ H v d ∧ RepB Γ H u e := by
  cases r with
  | cons q r =>
    obtain ⟨u, rfl, q2⟩ := r.one
    exact ⟨_, u, rfl, q, q2⟩

def fLen : List D → PD → Prop
  | [.tup ds], Q => Q (.int ds.length)
  | [.lst ds], Q => Q (.int ds.length)
  | [.str z], Q => z.length ≤ sizeLine ∧ Q (.int z.length)
  | _, _ => False
theorem sv_len (hK : X.K = Φ.g.K) : ServesN Φ (fun xs H Q => ∃ x n, xs = [x] ∧ LenV X.K x H n ∧ Q (.int n) H) fLen := by
  intro vs ds H Qd Q a r h w
  match ds, h with
  | [.tup ds], h =>
    obtain ⟨v, rfl, q⟩ := r.one
    cases q with
    | tup q r => exact ⟨_, ds.length, rfl, .inr ⟨_, by rw [hK]; exact q, r.length.symm⟩, .inl (w _ _ _ h (Step.refl a) (.int _))⟩
  | [.lst ds], h =>
    obtain ⟨v, rfl, q⟩ := r.one
    cases q with
    | lst q r => exact ⟨_, ds.length, rfl, .inl ⟨_, by rw [hK]; exact q.sq, r.length.symm⟩, .inl (w _ _ _ h (Step.refl a) (.int _))⟩
  | [.str z], h =>
    obtain ⟨v, rfl, q⟩ := r.one
    cases q
    exact ⟨_, z.length, rfl, ⟨h.1, rfl⟩, .inl (w _ _ _ h.2 (Step.refl a) (.int _))⟩
def fList : List D → PD → Prop
  | [.tup ds], Q => Q (.lst ds)
  | [.lst ds], Q => Q (.lst ds)
  | _, _ => False
theorem sv_list (hK : X.K = Φ.g.K) : ServesN Φ (fun xs H Q => ∃ p ys, xs = [.ref p] ∧ (SqL X.K H p ys ∨ SqT X.K H p ys) ∧ ∀ l, H l = none → Q (.ref l) (upd H l (.lst ys))) fList := by
  intro vs ds H Qd Q a r h w
  match ds, h with
  | [.tup ds], h =>
    obtain ⟨v, rfl, q⟩ := r.one
    cases q with
    | tup q r => exact ⟨_, _, rfl, .inr (by rw [hK]; exact q), fun l hl => lk_lst a hl r fun H' s z => w _ _ _ h s z⟩
  | [.lst ds], h =>
    obtain ⟨v, rfl, q⟩ := r.one
    cases q with
    | lst q r => exact ⟨_, _, rfl, .inl (by rw [hK]; exact q.sq), fun l hl => lk_lst a hl r fun H' s z => w _ _ _ h s z⟩
def fTuple : List D → PD → Prop
  | [.tup ds], Q => Q (.tup ds)
  | [.lst ds], Q => Q (.tup ds)
  | _, _ => False
theorem sv_tuple (hK : X.K = Φ.g.K) : ServesN Φ (fun xs H Q => ∃ p ys, xs = [.ref p] ∧ ((SqL X.K H p ys ∧ ∀ l, H l = none → Q (.ref l) (upd H l (.tup ys))) ∨ (SqT X.K H p ys ∧ Q (.ref p) H))) fTuple := by
  intro vs ds H Qd Q a r h w
  match ds, h with
  | [.tup ds], h =>
    obtain ⟨v, rfl, q⟩ := r.one
    cases q with
    | tup q r => exact ⟨_, _, rfl, .inr ⟨by rw [hK]; exact q, .inl (w _ _ _ h (Step.refl a) (.tup q r))⟩⟩
  | [.lst ds], h =>
    obtain ⟨v, rfl, q⟩ := r.one
    cases q with
    | lst q r => exact ⟨_, _, rfl, .inl ⟨by rw [hK]; exact q.sq, fun l hl => .inl (let ⟨s, z⟩ := new_tup a hl r; w _ _ _ h s z)⟩⟩
def fAbs : List D → PD → Prop
  | [.int i], Q => Q (.int (if i < 0 then -i else i))
  | _, _ => False
theorem sv_abs : ServesN Φ (fun xs H Q => ∃ i, xs = [V.int i] ∧ Q (.int (if i < 0 then -i else i)) H) fAbs := by
  intro vs ds H Qd Q a r h w
  match ds, h with
  | [.int i], h =>
    obtain ⟨v, rfl, q⟩ := r.one
    cases q
    exact ⟨i, rfl, .inl (w _ _ _ h (Step.refl a) (.int _))⟩
def fInt : List D → PD → Prop
  | [.int i], Q => Q (.int i)
  | [.bl k], Q => Q (.int (if k then 1 else 0))
  | _, _ => False
theorem sv_int1 : ServesN Φ (fun xs H Q => (∃ i, xs = [V.int i] ∧ Q (.int i) H) ∨ ∃ k, xs = [.bl k] ∧ Q (.int (if k then 1 else 0)) H) fInt := by
  intro vs ds H Qd Q a r h w
  match ds, h with
  | [.int i], h =>
    obtain ⟨v, rfl, q⟩ := r.one
    cases q
    exact .inl ⟨i, rfl, .inl (w _ _ _ h (Step.refl a) (.int _))⟩
  | [.bl k], h =>
    obtain ⟨v, rfl, q⟩ := r.one
    cases q
    exact .inr ⟨k, rfl, .inl (w _ _ _ h (Step.refl a) (.int _))⟩
theorem reps_ints {Γ : Gm} {H : Hp} : ∀ {ns : List Int} {vs : List V}, Reps Γ H vs (ns.map D.int) → vs = ns.map V.int
  | [], _, r => by cases r; rfl
  | n :: ns, _, r => by
    cases r with
    | cons q r => cases q; rw [reps_ints r]; rfl
theorem reps_of_ints {Γ : Gm} {H : Hp} : ∀ ns : List Int, Reps Γ H (ns.map V.int) (ns.map D.int)
  | [] => .nil
  | n :: ns => .cons (.int n) (reps_of_ints ns)
theorem reps_bls {Γ : Gm} {H : Hp} : ∀ {ns : List Bool} {vs : List V}, Reps Γ H vs (ns.map D.bl) → vs = ns.map V.bl
  | [], _, r => by cases r; rfl
  | n :: ns, _, r => by
    cases r with
    | cons q r => cases q; rw [reps_bls r]; rfl
def fSum (ds : List D) (Q : PD) : Prop := ∃ ns : List Int, ds = [.lst (ns.map D.int)] ∧ Q (.int ns.sum)
theorem sv_sum (hK : X.K = Φ.g.K) : ServesN Φ (rSum X.K) fSum := by
  intro vs ds H Qd Q a r h w
  obtain ⟨ns, rfl, h⟩ := h
  obtain ⟨v, rfl, q⟩ := r.one
  cases q with
  | lst q r =>
    have e := reps_ints r
    subst e
    exact ⟨_, ns, rfl, by rw [hK]; exact q.sq, .inl (w _ _ _ h (Step.refl a) (.int _))⟩
def fAll (ds : List D) (Q : PD) : Prop := ∃ bs : List Bool, ds = [.lst (bs.map D.bl)] ∧ Q (.bl (bs.all id))
theorem sv_all (hK : X.K = Φ.g.K) : ServesN Φ (rAll X.K) fAll := by
  intro vs ds H Qd Q a r h w
  obtain ⟨ns, rfl, h⟩ := h
  obtain ⟨v, rfl, q⟩ := r.one
  cases q with
  | lst q r =>
    have e := reps_bls r
    subst e
    exact ⟨_, ns, rfl, by rw [hK]; exact q.sq, .inl (w _ _ _ h (Step.refl a) (.bl _))⟩
def fAny (ds : List D) (Q : PD) : Prop := ∃ bs : List Bool, ds = [.lst (bs.map D.bl)] ∧ Q (.bl (bs.any id))
theorem sv_any (hK : X.K = Φ.g.K) : ServesN Φ (rAny X.K) fAny := by
  intro vs ds H Qd Q a r h w
  obtain ⟨ns, rfl, h⟩ := h
  obtain ⟨v, rfl, q⟩ := r.one
  cases q with
  | lst q r =>
    have e := reps_bls r
    subst e
    exact ⟨_, ns, rfl, by rw [hK]; exact q.sq, .inl (w _ _ _ h (Step.refl a) (.bl _))⟩
/-- least and greatest of two ints -/
def fMin2 : List D → PD → Prop
  | [.int i, .int j], Q => Q (.int (if j < i then j else i))
  | _, _ => False
def fMax2 : List D → PD → Prop
  | [.int i, .int j], Q => Q (.int (if j > i then j else i))
  | _, _ => False
theorem sv_min2 : ServesN Φ (fun xs H Q => ∃ i j, xs = [V.int i, V.int j] ∧ Q (.int (if j < i then j else i)) H) fMin2 := by
  intro vs ds H Qd Q a r h w
  match ds, h with
  | [.int i, .int j], h =>
    obtain ⟨v, u, rfl, q, q2⟩ := r.two
    cases q
    cases q2
    exact ⟨i, j, rfl, .inl (w _ _ _ h (Step.refl a) (.int _))⟩
theorem sv_max2 : ServesN Φ (fun xs H Q => ∃ i j, xs = [V.int i, V.int j] ∧ Q (.int (if j > i then j else i)) H) fMax2 := by
  intro vs ds H Qd Q a r h w
  match ds, h with
  | [.int i, .int j], h =>
    obtain ⟨v, u, rfl, q, q2⟩ := r.two
    cases q
    cases q2
    exact ⟨i, j, rfl, .inl (w _ _ _ h (Step.refl a) (.int _))⟩

/-! ### repr -/
def fRepr (ds : List D) (Q : PD) : Prop := ∃ d p, ds = [d] ∧ d.py = some p ∧ p.showable = true ∧ p.hasDict = false ∧ p.depth ≤ 64 ∧ p.shown.length ≤ sizeLine ∧ Q (.str p.shown)
def rRepr (Γ : Gm) : List V → Hp → VK → Prop := fun xs H Q => ∃ (v : V) (p : PyData), xs = [v] ∧ Dp Γ.K H v p ∧ p.showable = true ∧ p.hasDict = false ∧ p.depth ≤ 64 ∧ p.shown.length ≤ sizeLine ∧ Q (.str p.shown) H
theorem cr_repr (hK : X.K = Φ.g.K) (hg : X.A.guards = some []) (hu : X.A.units + 70 < cLine) : CallR X (.builtin "repr") (rRepr Φ.g) := by
  intro pins s σ H xs us Q I r h
  obtain ⟨v, p, rfl, hd, h1, h2, h3, h4, q⟩ := h
  obtain ⟨u, rfl, ru⟩ := vals1 r
  rw [← hK] at hd
  obtain ⟨as, rd⟩ := Dp.reads I p v u hd ru
  cases hd with
  | non => cases ru; exact PySem.P.repr_of_none ⟨.str _, H, I.tok _, ⟨_, rfl⟩, q⟩
  | bl b => cases ru; exact PySem.P.repr_of_bool ⟨.str _, H, I.tok _, ⟨_, rfl⟩, by cases b <;> exact q⟩
  | int i => obtain ⟨t, rfl⟩ := ru; exact PySem.P.repr_of_int (of_decide_eq_true h1) ⟨.str _, H, I.tok _, ⟨_, rfl⟩, q⟩
  | str x => obtain ⟨t, rfl⟩ := ru; exact PySem.P.repr_of_str ⟨.str _, H, I.tok _, ⟨_, rfl⟩, q⟩ h4
  | lst hs ha =>
    cases ru
    exact repr_of_reads' rd h1 (PyData.noDict_hsm h2) hg (by omega) (fun _ _ e => e) (fun h' u tk hk => ⟨.str _, H, I.kept (t' := tk) hk, ⟨_, rfl⟩, q⟩) h4
  | tup hs ha =>
    cases ru
    exact repr_of_reads' rd h1 (PyData.noDict_hsm h2) hg (by omega) (fun _ _ e => e) (fun h' u tk hk => ⟨.str _, H, I.kept (t' := tk) hk, ⟨_, rfl⟩, q⟩) h4
theorem sv_repr : ServesN Φ (rRepr Φ.g) fRepr := by
  intro vs ds H Qd Q a r h w
  obtain ⟨d, p, rfl, e, h1, h2, h3, h4, h⟩ := h
  obtain ⟨v, rfl, q⟩ := r.one
  exact ⟨v, p, rfl, q.dp e, h1, h2, h3, h4, .inl (w _ _ _ h (Step.refl a) (.str _))⟩
end
end Mw
end

section
set_option Elab.async false
set_option linter.all false
set_option autoImplicit false
set_option maxRecDepth 100000
set_option maxHeartbeats 4000000
/-! Mw5: defs by their data: promises, calls; where no text is being shown (the guards are known to be none). -/
namespace Mw
open PySem PySem.Spec L2
open PyProof.Rows (envOfC)

/-- a def's promise where nothing is being shown -/
structure FnG (P : Program) (w : World) (K : PySem.W.Frag) (mg : Str → Option Value) (base : Heap) (k : Nat) (f : Addr) (fd : FuncData) (ps : List Str) (sp : Sp) : Prop where
  len : ∀ vs H Q E, sp vs H Q E → vs.length = ps.length
  run : ∀ (A : Around) (outer : List Env) (s : Shared) (H : Hp) (args : Args) (us : List Value) (vs : List V) (Q : VK) (E : XK), A.guards = some [] → Room k A →
    Env0 P w K mg base A outer s H → BindsTo s fd args (ps.zip us) → Vals vs us → sp vs H Q E → codeAny (model P w) A (.call (.ref f) args) (CR (L2.CX P w) outer P w H s Q E) s
theorem FnG.of {P : Program} {w : World} {K : PySem.W.Frag} {mg : Str → Option Value} {base : Heap} {k : Nat} {f : Addr} {fd : FuncData} {ps : List Str} {sp : Sp} (F : FnOk P w K mg base (L2.CX P w) k f fd ps sp) : FnG P w K mg base k f fd ps sp :=
  ⟨F.len, fun A outer s H args us vs Q E _ => F.run A outer s H args us vs Q E⟩
theorem FnG.mono {P : Program} {w : World} {K : PySem.W.Frag} {mg : Str → Option Value} {base : Heap} {j k : Nat} {f : Addr} {fd : FuncData} {ps : List Str} {sp : Sp} (F : FnG P w K mg base j f fd ps sp) (h : j ≤ k) : FnG P w K mg base k f fd ps sp :=
  ⟨F.len, fun A outer s H args us vs Q E hg hr => F.run A outer s H args us vs Q E hg (hr.mono h)⟩
theorem FnG.imp {P : Program} {w : World} {K : PySem.W.Frag} {mg : Str → Option Value} {base : Heap} {k : Nat} {f : Addr} {fd : FuncData} {ps : List Str} {sp sp' : Sp} (F : FnG P w K mg base k f fd ps sp)
    (h : ∀ vs H Q E, sp' vs H Q E → sp vs H Q E) : FnG P w K mg base k f fd ps sp' :=
  ⟨fun vs H Q E q => F.len vs H Q E (h _ _ _ _ q), fun A outer s H args us vs Q E hg hr he hb hv hs => F.run A outer s H args us vs Q E hg hr he hb hv (h _ _ _ _ hs)⟩
theorem guards_deeper {A : Around} {env : PySem.Env} (h : A.guards = some []) : (A.deeper env).guards = some [] := by
  first
    | exact h
    | simpa [Around.deeper] using h

/-- THE RULE: a def by its body -/
theorem fng_of {P : Program} {w : World} {K : PySem.W.Frag} {mg : Str → Option Value} {base : Heap} {k : Nat} {f : Addr} {name qual : Str} {params : Arguments} {body : List Stmt} {scope : Scope} {dV kV doc pm cdv ct oc : Value} {an od : Option Addr}
    {osl : Array (Option Value)} {N ps : List Str} {sp : Sp} (lk : K.lookup f = some ⟨oc, od, .func (PySem.W.fnOf name qual params body scope dV kV doc pm an cdv ct), osl⟩) (hcd : PySem.W.codeIn K cdv qual = true) (S : FnScope N ps scope)
    (len : ∀ vs H Q E, sp vs H Q E → vs.length = ps.length)
    (hbody : ∀ (A : Around) (outer : List PySem.Env) (s : Shared) (H : Hp) (vs : List V) (Q : VK) (E : XK), A.guards = some [] → Room k (A.deeper (envOfC qual scope s.heap.objs.size f cdv)) → sp vs H Q E →
      ∃ t, PSs (cxOf (L2.CX P w) P w K mg base N qual scope f cdv A outer s H E) body t ∧ t { nx := fun _ H' => Q .non H', rt := Q } (start N vs) H) :
    FnG P w K mg base (k + 1) f (PySem.W.fnOf name qual params body scope dV kV doc pm an cdv ct) ps sp := by
  refine ⟨len, ?_⟩
  intro A outer s H args us vs Q E hg hr e0 hb r hsp
  have old : ∀ b o, base.get? b = some o → s.heap.get? b = some o := fun b o e => (e0.bs b o e).1
  have kin : K.In s.heap := e0.mod.kin.keeps old
  have kinds : ∀ y ∈ ps.zip us, scope.names.lookup y.1 = some .local ∨ (scope.names.lookup y.1 = some .cell ∧ ((cellsFrom (s.heap.objs.size + 1) scope.names []).lookup y.1).isSome = true) := by
    rintro ⟨n, v⟩ hy
    rcases S.par n (List.of_mem_zip hy).1 with z | z
    · exact .inl z
    · exact .inr ⟨z, PySem.W.cellsFrom_some _ _ _ (.inl z)⟩
  refine codeAny_call_function hr.depth (kin _ _ lk) rfl S.co S.gen rfl (PySem.W.codeRec_of kin hcd) (hb _ _ _ _ ?_)
  refine wpAny_newFunctionEnv_cells S.kind kinds ?_
  intro env he s1 x
  subst he
  refine ⟨(e0.mod.nolimit.keeps old).keeps x.toInCall.keep, codeAny_func ?_⟩
  obtain ⟨t, ht, hq⟩ := hbody A outer s H vs Q E hg (hr.deeper _) hsp
  have I := inv_start (CX := L2.CX P w) (E := E) S hr.hd e0 (len _ _ _ _ hsp) r x
  refine wpAny_mono (ht.run [] s1 (start N vs) H _ I hq) ?_ (fun _ _ z => z)
  intro fl s' hs
  cases fl with
  | ret u =>
    obtain ⟨v, σ', H', J, rv, q⟩ := hs
    exact ⟨v, H', J.os, J.bare, J.base, J.hok, rv, q⟩
  | next =>
    obtain ⟨σ', H', J, q⟩ := hs
    exact ⟨V.non, H', J.os, J.bare, J.base, J.hok, rfl, q⟩
  | brk => obtain ⟨_, _, _, q⟩ := hs; exact q.elim
  | cont => obtain ⟨_, _, _, q⟩ := hs; exact q.elim

section
variable {X : Cx} {k : Nat} {f : Addr} {fd : FuncData} {ps : List Str} {sp : Sp} {dvs : List V} {dus : List Value} {E : L2.St → XK} {x : Str} {p pos : Pos} {e : Expr} {es : List Expr} {t : TA}
theorem run_fng {pins : List (Addr × Obj)} {σ : L2.St} {H : Hp} {s : Shared} {Q : VK} {us : List Value} {vs : List V} (F : FnG X.prog X.w X.K X.mg X.base k f fd ps sp) (hg : X.A.guards = some []) (hr : Room k X.A) (hb : Binds X.K fd ps dus) (hd : Vals dvs dus)
    (hx : PassesAt (L2.CX X.prog X.w) X σ (E σ)) (I : Inv X pins σ H s) (r : Vals vs us) (h : sp (vs ++ dvs) H Q (E σ)) : wpAny (model X.prog X.w) X.A (call (.ref f) us) (EP X pins σ Q) X.xe s := by
  have rr := r.append hd
  have hl : (us ++ dus).length = ps.length := rr.length.symm.trans (F.len _ _ _ _ h)
  refine wpAny_call (codeAny_mono (F.run X.A X.stack s H ⟨us, []⟩ (us ++ dus) (vs ++ dvs) Q (E σ) hg hr I.env0 (hb s us I.kIn hl) rr h) ?_)
  intro z s' hq
  match z, hq with
  | .error e, hq => exact hx pins H s e s' I hq
  | .ok (.ret u), hq => exact I.after hq
theorem pe_fng (F : FnG X.prog X.w X.K X.mg X.base k f fd ps sp) (hgd : X.A.guards = some []) (hr : Room k X.A) (hg : Gl X x) (hm : X.mg x = some (.ref f)) (hk : PySem.W.keepIn X.K (.ref f) = true) (hb : Binds X.K fd ps dus) (hd : Vals dvs dus)
    (hx : ∀ σ, PassesAt (L2.CX X.prog X.w) X σ (E σ)) (ha : PA X (e :: es) t) (hdb : (x == ("__debug__" : Str)) = false) (he : starEach (e :: es) X.env = (false, eval e X.env) :: starEach es X.env) (hpl : (backTo pos (starEach es X.env)).any (·.1) = false) :
    PE X (.Call (.Name x p) (e :: es) [] pos) (tCallSD sp dvs E t) := by
  refine ⟨fun pins s σ H Q I h => wpAny_Call_Name_kw (ld_glob I hg hm ?_ hdb)⟩
  refine PySem.W.callWith_K (h₀ := X.base) I.ok.mod.kin hk ?_ he hpl
  refine thn (ha.run pos pins s σ H _ I h) ?_
  rintro us s1 ⟨vs, H1, I1, r, q⟩
  exact ⟨I1.kIn, run_fng F hgd hr hb hd (hx σ) I1 r q⟩
theorem pe_fng0 (F : FnG X.prog X.w X.K X.mg X.base k f fd ps sp) (hgd : X.A.guards = some []) (hr : Room k X.A) (hg : Gl X x) (hm : X.mg x = some (.ref f)) (hk : PySem.W.keepIn X.K (.ref f) = true) (hb : Binds X.K fd ps dus) (hd : Vals dvs dus)
    (hx : ∀ σ, PassesAt (L2.CX X.prog X.w) X σ (E σ)) (hdb : (x == ("__debug__" : Str)) = false) : PE X (.Call (.Name x p) [] [] pos) (tCallSD sp dvs E tNil) := by
  refine ⟨fun pins s σ H Q I h => wpAny_Call_Name_kw (ld_glob I hg hm ?_ hdb)⟩
  exact PySem.W.callWith_K0 I.kIn hk (run_fng (us := []) F hgd hr hb hd (hx σ) I .nil h)
end

/-! ### promises over data -/
/-- what a def makes of data -/
abbrev Cl := List D → PD → PX → Prop
def spD (Γ : Addr → Gm) (cl : Cl) (n : Nat) : Sp := fun vs H Q E => vs.length = n ∧ ∃ hd ds Qd Qx, HandAt (Γ hd) H ∧ Reps (Γ hd) H vs ds ∧ cl ds Qd Qx ∧
  (∀ d v H', Qd d → Step (Γ hd) H H' → Rep (Γ hd) H' v d → Q v H') ∧ (∀ x t dd H', Qx x → Step (Γ hd) H H' → XRep (Γ hd) x t dd H' → E t dd H')
/-- constants that every heap bears -/
inductive RepC : V → D → Prop
  | non : RepC .non .non
  | bl (b : Bool) : RepC (.bl b) (.bl b)
  | int (i : Int) : RepC (.int i) (.int i)
  | str (x : Str) : RepC (.str x) (.str x)
theorem RepC.rep {Γ : Gm} {H : Hp} {v : V} {d : D} (r : RepC v d) : Rep Γ H v d := by
  cases r
  case non => exact .non
  case bl => exact .bl _
  case int => exact .int _
  case str => exact .str _
theorem reps_c {Γ : Gm} {H : Hp} : ∀ {vs : List V} {ds : List D}, Paired RepC vs ds → Reps Γ H vs ds
  | _, _, .nil => .nil
  | _, _, .cons r t => .cons r.rep (reps_c t)
def vCall (cl : Cl) (dfl : List D) (ss : Sms) : Sm := fun env Q Qx => ss env (fun ds => cl (ds ++ dfl) Q Qx) Qx
section
variable {X : Cx} {Φ : Fm} {Γ : Addr → Gm} {cl : Cl} {n k : Nat} {f : Addr} {fd : FuncData} {ps : List Str} {dvs : List V} {dus : List Value} {dds : List D} {x : Str} {p pos : Pos} {e : Expr} {es : List Expr} {ss : Sms}
theorem ok_call (hΓ : Φ.g = Γ Φ.g.hd) (tk : Takes X Φ.W) (F : FnG X.prog X.w X.K X.mg X.base k f fd ps (spD Γ cl n)) (hgd : X.A.guards = some []) (hr : Room k X.A) (hg : Gl X x) (hm : X.mg x = some (.ref f)) (hk : PySem.W.keepIn X.K (.ref f) = true)
    (hb : Binds X.K fd ps dus) (hd : Vals dvs dus) (hc : Paired RepC dvs dds) (ha : PA X (e :: es) (tA Φ ss)) (hlen : ∀ env Q Qx, ss env Q Qx → ss env (fun ds => Q ds ∧ ds.length + dds.length = n) Qx)
    (hdb : (x == ("__debug__" : Str)) = false) (he : starEach (e :: es) X.env = (false, eval e X.env) :: starEach es X.env) (hpl : (backTo pos (starEach es X.env)).any (·.1) = false) : PE X (.Call (.Name x p) (e :: es) [] pos) (tE Φ (vCall cl dds ss)) := by
  refine PE.imp (pe_fng F hgd hr hg hm hk hb hd (fun σ => passAt tk σ) ha hdb he hpl) fun σ H Q h => ?_
  obtain ⟨env, Qd, Qx, kk, h, w, wx⟩ := h
  refine ⟨env, _, Qx, kk, hlen _ _ _ h, fun ds vs H1 h1 s1 r1 => ?_, wx⟩
  have e1 := r1.length
  have e2 : dvs.length = dds.length := Paired.length hc
  refine ⟨by rw [List.length_append, e1, e2]; exact h1.2, Φ.g.hd, ds ++ dds, Qd, Qx, by rw [← hΓ]; exact s1.hand, by rw [← hΓ]; exact r1.append (reps_c hc), h1.1, fun d v H' q s r => ?_, fun xx t dd H' q s r => ?_⟩
  · rw [← hΓ] at s r
    exact w d v H' q (s1.trans s) r
  · rw [← hΓ] at s r
    exact wx.x xx t dd H' q (s1.trans s) r
end
end Mw
end

section
set_option Elab.async false
set_option linter.all false
set_option autoImplicit false
set_option maxRecDepth 100000
set_option maxHeartbeats 4000000
/-! Mw6: statements over data. -/
namespace Mw
open PySem PySem.Spec L2

/-- what is wanted behind a statement -/
structure SE where
  nx : En → Prop
  rt : PD
  bk : En → Prop
  ct : En → Prop
  xx : Xn → En → Prop
abbrev SmS := En → SE → Prop
/-- what is written now and then -/
def Wr : HO → Prop
  | .lst _ => True
  | .dK _ => True
  | .dT _ => True
  | .set _ _ => True
  | .ext _ => True
  | _ => False
/-- what is never written stays -/
def Keep (H H' : Hp) : Prop := ∀ b u, ¬ Wr u → H b = some u → H' b = some u
theorem Keep.refl (H : Hp) : Keep H H := fun _ _ _ e => e
theorem Keep.trans {H H1 H2 : Hp} (a : Keep H H1) (b : Keep H1 H2) : Keep H H2 := fun c u n e => b c u n (a c u n e)
theorem Step.keep {Γ : Gm} {H H' : Hp} (s : Step Γ H H') (h : HandAt Γ H) : Keep H H' := fun b u n e => s.same b u (fun z => by
  obtain ⟨ys, hy⟩ := h.lst
  rw [z, hy] at e
  cases e
  exact n trivial) e
theorem SOK.st {c : Cm} {env : En} {σ : L2.St} {H : Hp} (k : SOK c env σ H) : Step c.g c.H0 H := ⟨k.same, k.hand⟩
structure WntS (Φ : Fm) (H : Hp) (E : SE) (D : Ends) : Prop where
  nx : ∀ env σ H', E.nx env → Keep H H' → SOK Φ.c env σ H' → D.nx σ H'
  rt : ∀ d v H', E.rt d → Keep H H' → Step Φ.g Φ.c.H0 H' → Rep Φ.g H' v d → D.rt v H'
  bk : ∀ env σ H', E.bk env → Keep H H' → SOK Φ.c env σ H' → D.bk σ H'
  ct : ∀ env σ H', E.ct env → Keep H H' → SOK Φ.c env σ H' → D.ct σ H'
  x : ∀ x env t dd σ H', E.xx x env → Keep H H' → SOK Φ.c env σ H' → XRep Φ.g x t dd H' → Φ.W t dd σ H'
theorem WntS.later {Φ : Fm} {H H1 : Hp} {E : SE} {D : Ends} (w : WntS Φ H E D) (k : Keep H H1) : WntS Φ H1 E D :=
  ⟨fun env σ H' q s => w.nx env σ H' q (k.trans s), fun d v H' q s => w.rt d v H' q (k.trans s), fun env σ H' q s => w.bk env σ H' q (k.trans s), fun env σ H' q s => w.ct env σ H' q (k.trans s),
    fun x env t dd σ H' q s => w.x x env t dd σ H' q (k.trans s)⟩
def tS (Φ : Fm) (s : SmS) : TS := fun D σ H => ∃ env E, SOK Φ.c env σ H ∧ s env E ∧ WntS Φ H E D
theorem PS.imp {X : Cx} {e : Stmt} {t t' : TS} (h : PS X e t) (i : ∀ D σ H, t' D σ H → t D σ H) : PS X e t' := ⟨fun pins s σ H D I q => h.run pins s σ H D I (i D σ H q)⟩
theorem PSs.imp {X : Cx} {e : List Stmt} {t t' : TS} (h : PSs X e t) (i : ∀ D σ H, t' D σ H → t D σ H) : PSs X e t' := ⟨fun pins s σ H D I q => h.run pins s σ H D I (i D σ H q)⟩
/-- the errors of an expression within a statement -/
theorem WntS.wx {Φ : Fm} {H : Hp} {E : SE} {D : Ends} {env : En} {σ : L2.St} (w : WntS Φ H E D) (k : SOK Φ.c env σ H) : WX1 Φ σ H (fun x => E.xx x env) :=
  ⟨fun x t dd H' q s r => w.x x env t dd σ H' q (s.keep k.hand) (k.step s) r⟩

section
variable {X : Cx} {Φ : Fm} {st : Stmt} {rest : List Stmt} {e c : Expr} {s t : SmS} {se : Sm} {sb : SmB} {pos : Pos}
def sSkip : SmS := fun env E => E.nx env
def sSeq (s t : SmS) : SmS := fun env E => s env { E with nx := fun env' => t env' E }
theorem oks_nil : PSs X [] (tS Φ sSkip) := PSs.imp pss_nil fun D σ H h => by
  obtain ⟨env, E, k, h, w⟩ := h
  exact w.nx env σ H h (Keep.refl H) k
theorem oks_cons (h1 : PS X st (tS Φ s)) (h2 : PSs X rest (tS Φ t)) : PSs X (st :: rest) (tS Φ (sSeq s t)) := PSs.imp (pss_cons h1 h2) fun D σ H h => by
  obtain ⟨env, E, k, h, w⟩ := h
  exact ⟨env, _, k, h, fun env' σ' H' q kp k' => ⟨env', E, k', q, w.later kp⟩, w.rt, w.bk, w.ct, w.x⟩
theorem oks_one (h1 : PS X st (tS Φ s)) : PSs X [st] (tS Φ s) := pss_one h1
def sBreak : SmS := fun env E => E.bk env
def sCont : SmS := fun env E => E.ct env
theorem ok_pass : PS X (.Pass pos) (tS Φ sSkip) := PS.imp ps_pass fun D σ H h => by
  obtain ⟨env, E, k, h, w⟩ := h
  exact w.nx env σ H h (Keep.refl H) k
theorem ok_break : PS X (.Break pos) (tS Φ sBreak) := PS.imp ps_break fun D σ H h => by
  obtain ⟨env, E, k, h, w⟩ := h
  exact w.bk env σ H h (Keep.refl H) k
theorem ok_continue : PS X (.Continue pos) (tS Φ sCont) := PS.imp ps_continue fun D σ H h => by
  obtain ⟨env, E, k, h, w⟩ := h
  exact w.ct env σ H h (Keep.refl H) k
theorem ok_doc {x j pos'} : PS X (.Expr (.Constant (.str x) j pos) pos') (tS Φ sSkip) := PS.imp ps_doc fun D σ H h => by
  obtain ⟨env, E, k, h, w⟩ := h
  exact w.nx env σ H h (Keep.refl H) k
def sDrop (s : Sm) : SmS := fun env E => s env (fun _ => E.nx env) (fun x => E.xx x env)
theorem ok_drop (he : PE X e (tE Φ se)) (hs : swapsWith e none pos.line X.env = pure false) : PS X (.Expr e pos) (tS Φ (sDrop se)) := PS.imp (ps_expr he hs) fun D σ H h => by
  obtain ⟨env, E, k, h, w⟩ := h
  exact ⟨env, _, _, k, h, fun d v H' q s _ => w.nx env σ H' q (s.keep k.hand) (k.step s), w.wx k⟩
def sRet (s : Sm) : SmS := fun env E => s env E.rt (fun x => E.xx x env)
theorem ok_ret (he : PE X e (tE Φ se)) : PS X (.Return (some e) pos) (tS Φ (sRet se)) := PS.imp (ps_ret he) fun D σ H h => by
  obtain ⟨env, E, k, h, w⟩ := h
  exact ⟨env, _, _, k, h, fun d v H' q s r => w.rt d v H' q (s.keep k.hand) (k.step s).st r, w.wx k⟩
def sRetN : SmS := fun _ E => E.rt .non
theorem ok_retN : PS X (.Return none pos) (tS Φ sRetN) := PS.imp ps_retN fun D σ H h => by
  obtain ⟨env, E, k, h, w⟩ := h
  exact w.rt .non .non H h (Keep.refl H) k.st .non
def sIf (c : SmB) (s t : SmS) : SmS := fun env E => c env (fun b => if b = true then s env E else t env E) (fun x => E.xx x env)
theorem ok_ifS {a b : List Stmt} (hc : PT X c (tB Φ sb)) (ha : PSs X a (tS Φ s)) (hb : PSs X b (tS Φ t)) : PS X (.If c a b pos) (tS Φ (sIf sb s t)) := PS.imp (ps_if hc ha hb) fun D σ H h => by
  obtain ⟨env, E, k, h, w⟩ := h
  refine ⟨env, _, _, k, h, fun b H' q st => ?_, w.wx k⟩
  cases b with
  | true => exact ⟨env, E, k.step st, q, w.later (st.keep k.hand)⟩
  | false => exact ⟨env, E, k.step st, q, w.later (st.keep k.hand)⟩

/-! ### names -/
theorem SOK.set {c : Cm} {env : En} {σ : L2.St} {H : Hp} {i : Nat} {v : V} {d : D} (k : SOK c env σ H) (r : Rep c.g H v d) : SOK c (env.set i (some (.d d))) (σ.set i (some v)) H := by
  refine ⟨k.hand, k.same, by rw [List.length_set, List.length_set]; exact k.len, ?_, ?_⟩
  · intro j l e
    by_cases hj : i = j
    · subst hj
      by_cases hi : i < env.length
      · rw [List.getElem?_set_self hi] at e
        cases e
        exact ⟨v, List.getElem?_set_self (by rw [k.len]; exact hi), r⟩
      · rw [List.getElem?_eq_none (by rw [List.length_set]; omega)] at e
        cases e
    · rw [List.getElem?_set_ne hj] at e
      obtain ⟨u, h1, h2⟩ := k.slot j l e
      exact ⟨u, by rw [List.getElem?_set_ne hj]; exact h1, h2⟩
  · intro a b p ds es hab e1 e2 q1 q2
    have na : i ≠ a := fun z => by
      subst z
      by_cases hi : i < env.length
      · rw [List.getElem?_set_self hi] at e1; cases e1
      · rw [List.getElem?_eq_none (by rw [List.length_set]; omega)] at e1; cases e1
    have nb : i ≠ b := fun z => by
      subst z
      by_cases hi : i < env.length
      · rw [List.getElem?_set_self hi] at e2; cases e2
      · rw [List.getElem?_eq_none (by rw [List.length_set]; omega)] at e2; cases e2
    rw [List.getElem?_set_ne na] at e1 q1
    rw [List.getElem?_set_ne nb] at e2 q2
    exact k.apart a b p ds es hab e1 e2 q1 q2
def sSet (i : Nat) (s : Sm) : SmS := fun env E => s env (fun d => E.nx (env.set i (some (.d d)))) (fun x => E.xx x env)
theorem ok_set {i : Nat} {x : Str} {pos' : Pos} (hN : X.N.Nodup) (hi : X.N[i]? = some x) (hx : Loc X.env.scope x) (he : PE X e (tE Φ se)) (hs : swapsWith e (some (.Name x pos')) pos.line X.env = pure false) (hf : X.fn x = true ∨ X.env.scope.names.lookup x = some .local) :
    PS X (.Assign [.Name x pos'] e pos) (tS Φ (sSet i se)) := PS.imp (ps_set hN hi hx he hs hf) fun D σ H h => by
  obtain ⟨env, E, k, h, w⟩ := h
  exact ⟨env, _, _, k, h, fun d v H' q s r => w.nx _ _ H' q (s.keep k.hand) ((k.step s).set r), w.wx k⟩

/-! ### a name's own list -/
abbrev SmL := En → (List D → Prop) → PX → Prop
/-- a new list, not locked -/
def tN (Φ : Fm) (s : SmL) : TE := fun σ H Q => ∃ env Qd Qx, SOK Φ.c env σ H ∧ s env Qd Qx ∧ (∀ ds p xs H1, Qd ds → Step Φ.g H H1 → H1 p = none → Reps Φ.g H1 xs ds → Q (.ref p) (upd H1 p (.lst xs))) ∧ WX1 Φ σ H Qx
def vLock (s : SmL) : Sm := fun env Q Qx => s env (fun ds => Q (.lst ds)) Qx
theorem ok_lock {sl : SmL} (h : PE X e (tN Φ sl)) : PE X e (tE Φ (vLock sl)) := PE.imp (PE.lk h) fun σ H Q h => by
  obtain ⟨env, Qd, Qx, k, h, w, wx⟩ := h
  exact ⟨env, _, Qx, k, h, fun ds p xs H1 q s hp r => lk_lst s.hand hp r fun H' s2 z => w _ _ H' q (s.trans s2) z, wx⟩
theorem SOK.setM {c : Cm} {env : En} {σ : L2.St} {H1 : Hp} {i : Nat} {p : Addr} {xs : List V} {ds : List D} (k : SOK c env σ H1) (hp : H1 p = none) (r : Reps c.g H1 xs ds) : SOK c (env.set i (some (.ml ds))) (σ.set i (some (.ref p))) (upd H1 p (.lst xs)) := by
  have old : ∀ b u, H1 b = some u → upd H1 p (.lst xs) b = some u := upd_keeps hp
  have st := Step.ext old k.hand
  have k2 := k.step st
  have np : p ≠ c.g.hd := fun z => by
    obtain ⟨ys, hy⟩ := k.hand.lst
    rw [z, hy] at hp
    cases hp
  have n0 : c.H0 p = none := by
    cases e : c.H0 p with
    | none => rfl
    | some u =>
      have z := k.same p u np e
      rw [hp] at z
      cases z
  refine ⟨k2.hand, k2.same, by rw [List.length_set, List.length_set]; exact k2.len, ?_, ?_⟩
  · intro j l e
    by_cases hj : i = j
    · subst hj
      by_cases hi : i < env.length
      · rw [List.getElem?_set_self hi] at e
        cases e
        exact ⟨.ref p, List.getElem?_set_self (by rw [k.len]; exact hi), p, xs, rfl, np, n0, upd_same, r.step st k.hand⟩
      · rw [List.getElem?_eq_none (by rw [List.length_set]; omega)] at e
        cases e
    · rw [List.getElem?_set_ne hj] at e
      obtain ⟨u, h1, h2⟩ := k2.slot j l e
      exact ⟨u, by rw [List.getElem?_set_ne hj]; exact h1, h2⟩
  · -- p is new: no other name holds it
    have other : ∀ (b : Nat) (es : List D), env[b]? = some (some (.ml es)) → σ[b]? = some (some (.ref p)) → False := fun b es e q => by
      obtain ⟨v, h1, p', xs', e', _, _, hp', _⟩ := k.slot b _ e
      rw [q] at h1
      cases h1
      cases e'
      rw [hp] at hp'
      cases hp'
    intro a b q ds' es hab e1 e2 q1 q2
    by_cases na : i = a
    · subst na
      have nb : i ≠ b := hab
      rw [List.getElem?_set_ne nb] at e2 q2
      by_cases hi : i < σ.length
      · rw [List.getElem?_set_self hi] at q1
        cases q1
        exact other b es e2 q2
      · rw [List.getElem?_eq_none (by rw [List.length_set]; omega)] at q1
        cases q1
    · by_cases nb : i = b
      · subst nb
        rw [List.getElem?_set_ne na] at e1 q1
        by_cases hi : i < σ.length
        · rw [List.getElem?_set_self hi] at q2
          cases q2
          exact other a ds' e1 q1
        · rw [List.getElem?_eq_none (by rw [List.length_set]; omega)] at q2
          cases q2
      · rw [List.getElem?_set_ne na] at e1 q1
        rw [List.getElem?_set_ne nb] at e2 q2
        exact k.apart a b q ds' es hab e1 e2 q1 q2
def sSetM (i : Nat) (s : SmL) : SmS := fun env E => s env (fun ds => E.nx (env.set i (some (.ml ds)))) (fun x => E.xx x env)
theorem ok_setM {i : Nat} {x : Str} {pos' : Pos} {sl : SmL} (hN : X.N.Nodup) (hi : X.N[i]? = some x) (hx : Loc X.env.scope x) (he : PE X e (tN Φ sl)) (hs : swapsWith e (some (.Name x pos')) pos.line X.env = pure false) (hf : X.fn x = true ∨ X.env.scope.names.lookup x = some .local) :
    PS X (.Assign [.Name x pos'] e pos) (tS Φ (sSetM i sl)) := PS.imp (ps_set hN hi hx he hs hf) fun D σ H h => by
  obtain ⟨env, E, k, h, w⟩ := h
  refine ⟨env, _, _, k, h, fun ds p xs H1 q s hp r => ?_, w.wx k⟩
  exact w.nx _ _ _ q ((s.keep k.hand).trans fun b u _ e => upd_keeps hp b u e) ((k.step s).setM hp r)
end
end Mw
end

section
set_option Elab.async false
set_option linter.all false
set_option autoImplicit false
set_option maxRecDepth 100000
set_option maxHeartbeats 4000000
/-! Mw7: a name's own list changed or locked; targets; for. -/
namespace Mw
open PySem PySem.Spec L2

section
variable {Γ : Gm} {H H' : Hp}
theorem Keep.tup (k : Keep H H') {b : Addr} {xs : List V} (e : H b = some (.tup xs)) : H' b = some (.tup xs) := k b _ (fun z => z) e
theorem Keep.frz (k : Keep H H') {b : Addr} {o : Obj} {u : HO} (e : H b = some (.frz o u)) : H' b = some (.frz o u) := k b _ (fun z => z) e
theorem Keep.ins (k : Keep H H') {b C dx : Addr} {fs : List (Str × V)} (e : H b = some (.ins C dx fs)) : H' b = some (.ins C dx fs) := k b _ (fun z => z) e
theorem SqT.keep (k : Keep H H') {K : PySem.W.Frag} {a : Addr} {xs : List V} (q : SqT K H a xs) : SqT K H' a xs := by
  rcases q with (q | ⟨o, q⟩) | q
  · exact .inl (.inl (k.tup q))
  · exact .inl (.inr ⟨o, k.frz q⟩)
  · exact .inr q
theorem FzL.keep (k : Keep H H') {a : Addr} {xs : List V} (q : FzL H a xs) : FzL H' a xs := let ⟨o, q⟩ := q; ⟨o, k.frz q⟩
mutual
theorem Rep.keep (k : Keep H H') : ∀ {v : V} {d : D}, Rep Γ H v d → Rep Γ H' v d
  | _, _, .non => .non
  | _, _, .bl b => .bl b
  | _, _, .int i => .int i
  | _, _, .str x => .str x
  | _, _, .tup q r => .tup (SqT.keep k q) (Reps.keep k r)
  | _, _, .lst q r => .lst (FzL.keep k q) (Reps.keep k r)
  | _, _, .hand => .hand
  | _, _, .ins q r => .ins (k.ins q) (Reps.keep k r)
theorem Reps.keep (k : Keep H H') : ∀ {vs : List V} {ds : List D}, Reps Γ H vs ds → Reps Γ H' vs ds
  | _, _, .nil => .nil
  | _, _, .cons q r => .cons (Rep.keep k q) (Reps.keep k r)
end
theorem XRep.keep (k : Keep H H') {x : Xn} {t : Value} {dd : Option Addr} (r : XRep Γ x t dd H) : XRep Γ x t dd H' := by
  obtain ⟨e, d, vs, e1, e2, q⟩ := r
  exact ⟨e, d, vs, e1, k d _ (fun z => z) e2, fun f y hf => let ⟨v, h1, h2⟩ := q f y hf; ⟨v, h1, h2.keep k⟩⟩
theorem HandAt.keep (k : Keep H H') (e : H' Γ.hd = H Γ.hd) (a : HandAt Γ H) : HandAt Γ H' :=
  let ⟨c, ns, i, r, t, e1, q, w⟩ := a; ⟨c, ns, i, r, t, e.trans e1, q.keep k, w⟩
end

theorem keep_put {H : Hp} {p : Addr} {xs : List V} {o : HO} (hp : H p = some (.lst xs)) : Keep H (upd H p o) := fun b u n e => by
  rw [upd_ne]
  · exact e
  · intro z
    subst z
    rw [hp] at e
    cases e
    exact n trivial
theorem SOK.put {c : Cm} {env : En} {σ : L2.St} {H : Hp} {i : Nat} {p : Addr} {xs : List V} {ds : List D} {o : HO} {l : L} (k : SOK c env σ H) (hi : env[i]? = some (some (.ml ds))) (hσ : σ[i]? = some (some (.ref p))) (hp : H p = some (.lst xs)) (np : p ≠ c.g.hd) (n0 : c.H0 p = none)
    (hl : LRep c (upd H p o) (.ref p) l) (hlm : ∀ es, l = .ml es → True) : SOK c (env.set i (some l)) σ (upd H p o) := by
  have kp : Keep H (upd H p o) := keep_put hp
  have il : i < env.length := by
    by_cases h : i < env.length
    · exact h
    · rw [List.getElem?_eq_none (by omega)] at hi; cases hi
  refine ⟨k.hand.keep kp (upd_ne np.symm), fun b u n e => ?_, by rw [List.length_set]; exact k.len, ?_, ?_⟩
  · rw [upd_ne]
    · exact k.same b u n e
    · intro z
      subst z
      rw [n0] at e
      cases e
  · intro j z e
    by_cases hj : i = j
    · subst hj
      rw [List.getElem?_set_self il] at e
      cases e
      exact ⟨.ref p, hσ, hl⟩
    · rw [List.getElem?_set_ne hj] at e
      obtain ⟨v, h1, h2⟩ := k.slot j z e
      refine ⟨v, h1, ?_⟩
      match z, e, h2 with
      | .d d, _, h2 => exact Rep.keep kp h2
      | .xn x, _, ⟨a, t, dd, e1, e2, r⟩ => exact ⟨a, t, dd, e1, e2, r.keep kp⟩
      | .ml es, e, ⟨p', xs', e', n', n0', hp', r⟩ =>
        subst e'
        have ne : p' ≠ p := fun q => by
          subst q
          exact k.apart i j _ ds es hj hi e hσ h1
        exact ⟨p', xs', rfl, n', n0', by rw [upd_ne ne]; exact hp', r.keep kp⟩
  · intro a b q ds' es hab e1 e2 q1 q2
    by_cases na : i = a
    · subst na
      rw [List.getElem?_set_ne hab] at e2
      rw [hσ] at q1
      cases q1
      exact k.apart i b _ ds es hab hi e2 hσ q2
    · by_cases nb : i = b
      · subst nb
        rw [List.getElem?_set_ne na] at e1
        rw [hσ] at q2
        cases q2
        exact k.apart i a _ ds ds' (fun z => na z) hi e1 hσ q1
      · rw [List.getElem?_set_ne na] at e1
        rw [List.getElem?_set_ne nb] at e2
        exact k.apart a b q ds' es hab e1 e2 q1 q2
theorem SOK.mlAt {c : Cm} {env : En} {σ : L2.St} {H : Hp} {i : Nat} {ds : List D} (k : SOK c env σ H) (hi : env[i]? = some (some (.ml ds))) : ∃ p xs, σ[i]? = some (some (.ref p)) ∧ p ≠ c.g.hd ∧ c.H0 p = none ∧ H p = some (.lst xs) ∧ Reps c.g H xs ds := by
  obtain ⟨v, h1, p, xs, rfl, h2, h3, h4, h5⟩ := k.slot i _ hi
  exact ⟨p, xs, h1, h2, h3, h4, h5⟩

section
variable {X : Cx} {Φ : Fm} {st : Stmt} {e c : Expr} {s t : SmS} {se si : Sm} {pos : Pos}
/-- the name's own list is nobody's from here on -/
def sFrz (i : Nat) (s : SmS) : SmS := fun env E => ∃ ds, env[i]? = some (some (.ml ds)) ∧ s (env.set i (some (.d (.lst ds)))) E
theorem ok_frz {i : Nat} (h : PS X st (tS Φ s)) : PS X st (tS Φ (sFrz i s)) := by
  refine ⟨fun pins sh σ H Dd I q => ?_⟩
  obtain ⟨env, E, k, ⟨ds, hi, h2⟩, w⟩ := q
  obtain ⟨p, xs, hσ, np, n0, hp, r⟩ := k.mlAt hi
  obtain ⟨o, I'⟩ := I.lock hp trivial
  have kp : Keep H (upd H p (.frz o (.lst xs))) := keep_put hp
  exact h.run pins sh σ _ Dd I' ⟨_, E, k.put hi hσ hp np n0 (l := .d (.lst ds)) (Rep.lst ⟨o, upd_same⟩ (r.keep kp)) (fun _ _ => trivial), h2, w.later kp⟩
/-- x.append(e) -/
def sApp (i : Nat) (s : Sm) : SmS := fun env E => ∃ ds, env[i]? = some (some (.ml ds)) ∧ ds.length < sizeLine ∧ s env (fun d => E.nx (env.set i (some (.ml (ds ++ [d]))))) (fun x => E.xx x env)
theorem ok_app {i : Nat} {x : Str} {p1 apos cpos : Pos} (hN : X.N[i]? = some x) (hv : Vis X.env.scope x) (hd : (x == ("__debug__" : Str)) = false) (hcd : (x == ("__classdict__" : Str)) = false) (he : PE X e (tE Φ se)) (hst : starEach [e] X.env = [(false, eval e X.env)])
    (hb : attributeBase (.Name x p1) "append" X.env (eval (.Name x p1) X.env) = eval (.Name x p1) X.env)
    (hfew : ((backTo cpos (starEach [e] X.env)).all (fun x => !x.1) && (backToKw cpos (keywordEach [] X.env)).all (fun x => x.1.isSome) && decide ([e].length + ([] : List Keyword).length + (if ([] : List Keyword).isEmpty then 0 else 1) < 30)) = true)
    (hline : (apos.endLine == cpos.line) = true) (hsw : swapsWith (.Call (.Attribute (.Name x p1) "append" apos) [e] [] cpos) none pos.line X.env = pure false) :
    PS X (.Expr (.Call (.Attribute (.Name x p1) "append" apos) [e] [] cpos) pos) (tS Φ (sApp i se)) := by
  refine PS.imp (ps_expr (pe_bm PySem.F.plainAttrs_list PySem.F.slot_list_append PySem.F.type_list_append mt_append (pe_var hN hv hd hcd) (pa_cons he pa_nil hst) hb hfew hline hst rfl) hsw) fun D σ H h => ?_
  obtain ⟨env, E, k, ⟨ds, hi, hz, h⟩, w⟩ := h
  obtain ⟨p, xs, hσ, np, n0, hp, r⟩ := k.mlAt hi
  refine ⟨.ref p, hσ, .inl ⟨rfl, _, .inl (.inl hp)⟩, env, _, _, k, h, fun d v H' q s rd => ?_, w.wx k⟩
  have k' := k.step s
  have hp' := s.same p _ np hp
  have kp : Keep H' (upd H' p (.lst (xs ++ [v]))) := keep_put hp'
  refine ⟨p, xs, v, rfl, rfl, hp', by rw [r.length]; exact hz, w.nx _ _ _ q ((s.keep k.hand).trans kp) (k'.put hi hσ hp' np n0 ⟨p, _, rfl, np, n0, upd_same, ?_⟩ (fun _ _ => trivial))⟩
  exact ((r.step s k.hand).append (.cons rd .nil)).keep kp
/-- x[i] = e, x a name's own list -/
def sSetIx (i : Nat) (si se : Sm) : SmS := fun env E => ∃ ds, env[i]? = some (some (.ml ds)) ∧ se env (fun d => si env (fun z => ∃ n j, z = .int n ∧ ixN ds.length n = some j ∧ E.nx (env.set i (some (.ml (ds.set j d))))) (fun x => E.xx x env)) (fun x => E.xx x env)
theorem ok_setIx {i : Nat} {x : Str} {p1 p2 : Pos} (hN : X.N[i]? = some x) (hv : Vis X.env.scope x) (hd : (x == ("__debug__" : Str)) = false) (hcd : (x == ("__classdict__" : Str)) = false) (he : PE X e (tE Φ se)) (hc : PE X c (tE Φ si))
    (hs : swapsWithSole [.Subscript (.Name x p1) c p2] e pos.line X.env = pure false) (hw : swappedStores [.Subscript (.Name x p1) c p2] e X.env = pure none) (h1 : (assignEach [.Subscript (.Name x p1) c p2] X.env).map (·.2) = [assign (.Subscript (.Name x p1) c p2) X.env])
    (ha : ∀ v, assign (.Subscript (.Name x p1) c p2) X.env v = (do
      let ov ← holding [v] (eval (.Name x p1) X.env)
      let iv ← holding [v, ov] (eval c X.env)
      standAt p2
      holding [v, ov, iv] (setItem ov iv v)
      release [v, ov, iv] [])) : PS X (.Assign [.Subscript (.Name x p1) c p2] e pos) (tS Φ (sSetIx i si se)) := by
  refine PS.imp (ps_asg he (pg_sub (pe_var hN hv hd hcd) hc set_list ha) hs hw h1) fun D σ H h => ?_
  obtain ⟨env, E, k, ⟨ds, hi, h⟩, w⟩ := h
  obtain ⟨p, xs, hσ, np, n0, hp, r⟩ := k.mlAt hi
  refine ⟨env, _, _, k, h, fun d v H1 q1 s1 rd => ?_, w.wx k⟩
  refine ⟨.ref p, hσ, ?_⟩
  refine ⟨env, _, _, k.step s1, q1, fun z y H2 hz s2 rz => ?_, (w.wx k).step s1⟩
  obtain ⟨n, j, rfl, hj, q⟩ := hz
  cases rz
  have k2 := (k.step s1).step s2
  have hp2 : H2 p = some (.lst xs) := s2.same p _ np (s1.same p _ np hp)
  have r2 : Reps Φ.g H2 xs ds := (r.step s1 k.hand).step s2 s1.hand
  have kp : Keep H2 (upd H2 p (.lst (xs.set j v))) := keep_put hp2
  refine ⟨p, xs, n, j, rfl, rfl, hp2, by rw [r.length]; exact hj, w.nx _ _ _ q (((s1.trans s2).keep k.hand).trans kp) (k2.put hi hσ hp2 np n0 ⟨p, _, rfl, np, n0, upd_same, ?_⟩ (fun _ _ => trivial))⟩
  exact (Reps.set (rd.step s2 s1.hand) j r2).keep kp
end
end Mw
end

section
set_option Elab.async false
set_option linter.all false
set_option autoImplicit false
set_option maxRecDepth 100000
set_option maxHeartbeats 4000000
/-! Mw8: for and list comprehensions over data. -/
namespace Mw
open PySem PySem.Spec L2

section
variable {X : Cx} {pins : List (Addr × Obj)} {σ : L2.St} {H : Hp} {s : Shared} {tg : Expr} {R : It → Hp → Prop} {a : Addr} {xs : List V}
theorem iter_lst (I : L2.Inv X pins σ H s) (hq : SqL X.K H a xs) (q : R (Itl X.K a) H) : wpAny (model X.prog X.w) X.A (pyIter (.ref a)) (PIE X pins σ tg R) X.xe s := by
  obtain ⟨its, rv, p, hz⟩ := I.list hq
  exact wpAny_pyIter_list p.isList ⟨s.heap.objs.size, [s.heap.objs.size], fun i h => h.IsListIter s.heap.objs.size a i, Itl X.K a, H, rfl, I.kept (fun b o e => Heap.get?_push_of_some _ e), turn_list a _, ⟨_, Heap.get?_push_size s.1 rfl, rfl, rfl⟩,
    fun b hb => by
      rw [List.mem_singleton] at hb
      subst hb
      exact I.fpOk (Nat.le_refl _) (I.hok.fresh (Nat.le_refl _)), q⟩
theorem iter_tup (I : L2.Inv X pins σ H s) (hq : SqT X.K H a xs) (q : R (Itt X.K a) H) : wpAny (model X.prog X.w) X.A (pyIter (.ref a)) (PIE X pins σ tg R) X.xe s := by
  obtain ⟨its, rv, p, hz⟩ := I.tuple hq
  exact wpAny_pyIter_tuple p ⟨s.heap.objs.size, [s.heap.objs.size], fun i h => h.IsTupleIter s.heap.objs.size a i, Itt X.K a, H, rfl, I.kept (fun b o e => Heap.get?_push_of_some _ e), turn_tuple a _, ⟨_, Heap.get?_push_size s.1 rfl, rfl, rfl⟩,
    fun b hb => by
      rw [List.mem_singleton] at hb
      subst hb
      exact I.fpOk (Nat.le_refl _) (I.hok.fresh (Nat.le_refl _)), q⟩
end
/-- what a walk gives: these data, at any later heap -/
structure WalkD (Γ : Gm) (J : It) (H1 : Hp) (ds : List D) : Prop where
  goes : ∀ i H, i < ds.length → Keep H1 H → J.go i H
  stops : ∀ H, Keep H1 H → J.stop ds.length H
  yields : ∀ i H x H', i < ds.length → Keep H1 H → HandAt Γ H → J.yld i H x H' → Step Γ H H' ∧ ∃ d, ds[i]? = some d ∧ Rep Γ H' x d
abbrev SmI := En → (List D → Prop) → PX → Prop
def tI (Φ : Fm) (s : SmI) : TI := fun σ H R => ∃ env Qd Qx, SOK Φ.c env σ H ∧ s env Qd Qx ∧ (∀ ds J H', Qd ds → Step Φ.g H H' → WalkD Φ.g J H' ds → R J H') ∧ WX1 Φ σ H Qx
theorem PI.imp {X : Cx} {tg e : Expr} {t t' : TI} (h : PI X tg e t) (i : ∀ σ H R, t' σ H R → t σ H R) : PI X tg e t' := ⟨fun pins s σ H R I q => h.run pins s σ H R I (i σ H R q)⟩

section
variable {Γ : Gm} {H1 : Hp} {a : Addr} {xs : List V} {ds : List D} {K : PySem.W.Frag}
theorem walkD_lst (q : FzL H1 a xs) (r : Reps Γ H1 xs ds) : WalkD Γ (Itl K a) H1 ds := by
  have w := walk_list (K := K) (a := a) (xs := xs)
  refine ⟨fun i H hi k => w.goes i H (by rw [r.length]; exact hi) (q.keep k).sq, fun H k => by rw [← r.length]; exact w.stops H (q.keep k).sq, fun i H x H' hi k hh hy => ?_⟩
  obtain ⟨rfl, hx⟩ := w.yields i H x H' (by rw [r.length]; exact hi) (q.keep k).sq hy
  obtain ⟨d, e, rd⟩ := Reps.getV (Reps.keep k r) hx
  exact ⟨Step.refl hh, d, e, rd⟩
theorem walkD_tup (q : SqT K H1 a xs) (r : Reps Γ H1 xs ds) : WalkD Γ (Itt K a) H1 ds := by
  have w := walk_tup (K := K) (a := a) (xs := xs)
  refine ⟨fun i H hi k => w.goes i H (by rw [r.length]; exact hi) (SqT.keep k q), fun H k => by rw [← r.length]; exact w.stops H (SqT.keep k q), fun i H x H' hi k hh hy => ?_⟩
  obtain ⟨rfl, hx⟩ := w.yields i H x H' (by rw [r.length]; exact hi) (SqT.keep k q) hy
  obtain ⟨d, e, rd⟩ := Reps.getV (Reps.keep k r) hx
  exact ⟨Step.refl hh, d, e, rd⟩
def rngD (lo : Int) (n : Nat) : List D := (List.range n).map fun i => .int (lo + (i : Nat))
theorem walkD_rng {lo : Int} {n : Nat} : WalkD Γ (Itr lo n) H1 (rngD lo n) := by
  have w := walk_range (lo := lo) (n := n)
  have e : (rngD lo n).length = n := by unfold rngD; simp
  refine ⟨fun i H hi _ => w.goes i H (by rw [← e]; exact hi) trivial, fun H _ => by rw [e]; exact w.stops H trivial, fun i H x H' hi _ hh hy => ?_⟩
  obtain ⟨rfl, rfl⟩ : H' = H ∧ x = .int (lo + (i : Nat)) := w.yields i H x H' (by rw [← e]; exact hi) trivial hy
  refine ⟨Step.refl hh, .int (lo + (i : Nat)), ?_, .int _⟩
  unfold rngD
  rw [e] at hi
  simp [hi]
end
section
variable {X : Cx} {Φ : Fm} {tg a b : Expr} {es : List Expr} {sa : Sm} {ss : Sms} {pos p : Pos}
def seqI (d : D) (Q : List D → Prop) : Prop := match d with
  | .lst ds => Q ds
  | .tup ds => Q ds
  | _ => False
def iSeq (a : Sm) : SmI := fun env Q Qx => a env (fun d => seqI d Q) Qx
theorem oki_seq (hK : X.K = Φ.g.K) (he : PE X a (tE Φ sa)) : PI X tg a (tI Φ (iSeq sa)) := by
  refine ⟨fun pins s σ H R I h => ?_⟩
  obtain ⟨env, Qd, Qx, k, h, w, wx⟩ := h
  refine thn (he.run pins s σ H (fun v H1 => (∃ p xs ds, v = .ref p ∧ FzL H1 p xs ∧ Reps Φ.g H1 xs ds ∧ Qd ds ∧ Step Φ.g H H1) ∨ ∃ p xs ds, v = .ref p ∧ SqT Φ.g.K H1 p xs ∧ Reps Φ.g H1 xs ds ∧ Qd ds ∧ Step Φ.g H H1) I ⟨env, _, Qx, k, h, fun d v H1 q s1 r => ?_, wx⟩) fun u s1 hh => ?_
  · cases r
    case lst p xs ds z r => exact .inl ⟨p, xs, ds, rfl, z, r, q, s1⟩
    case tup p xs ds z r => exact .inr ⟨p, xs, ds, rfl, z, r, q, s1⟩
    all_goals exact q.elim
  · obtain ⟨v, H1, I1, rv, hh⟩ := hh
    rcases hh with ⟨p, xs, ds, rfl, z, r, q, st⟩ | ⟨p, xs, ds, rfl, z, r, q, st⟩
    · obtain rfl : u = .ref p := rv
      exact iter_lst I1 z.sq (w ds _ H1 q st (walkD_lst z r))
    · obtain rfl : u = .ref p := rv
      exact iter_tup I1 (by rw [hK]; exact z) (w ds _ H1 q st (walkD_tup (by rw [hK]; exact z) r))
def iRng (ss : Sms) : SmI := fun env Q Qx => ss env (fun ds => ∃ n, ds = [.int n] ∧ -2 ^ 62 ≤ n ∧ n < 2 ^ 62 ∧ Q (rngD 0 n.toNat)) Qx
theorem oki_rng (hg : Gl X "range") (hm : X.mg "range" = none) (ha : PA X [a] (tA Φ ss)) (hs : starEach [a] X.env = [(false, eval a X.env)]) : PI X tg (.Call (.Name "range" p) [a] [] pos) (tI Φ (iRng ss)) :=
  PI.imp (pi_range1 hg hm ha hs) fun σ H R h => by
    obtain ⟨env, Qd, Qx, k, h, w, wx⟩ := h
    refine ⟨env, _, Qx, k, h, fun ds vs H1 q s1 r => ?_, wx⟩
    obtain ⟨n, rfl, h1, h2, q⟩ := q
    cases r with
    | cons r1 r2 =>
      cases r1
      cases r2
      exact ⟨n, rfl, h1, h2, w _ _ H1 q s1 walkD_rng⟩

/-! ### targets -/
abbrev SmG := D → En → (En → Prop) → Prop
def tG (Φ : Fm) (g : SmG) : TG := fun v σ H Q => ∃ d env Qe, SOK Φ.c env σ H ∧ Rep Φ.g H v d ∧ g d env Qe ∧ ∀ env' σ', Qe env' → SOK Φ.c env' σ' H → Q σ' H
theorem PG.imp {X : Cx} {e : Expr} {t t' : TG} (h : PG X e t) (i : ∀ v σ H Q, t' v σ H Q → t v σ H Q) : PG X e t' := ⟨fun pins s σ H v u Q I r q => h.run pins s σ H v u Q I r (i v σ H Q q)⟩
def gN (i : Nat) : SmG := fun d env Q => Q (env.set i (some (.d d)))
theorem okg_name {i : Nat} {x : Str} (hN : X.N.Nodup) (hi : X.N[i]? = some x) (hx : Loc X.env.scope x) (hf : X.fn x = true ∨ X.env.scope.names.lookup x = some .local) : PG X (.Name x pos) (tG Φ (gN i)) :=
  PG.imp (pg_name hN hi hx hf) fun v σ H Q h => by
    obtain ⟨d, env, Qe, k, r, h, w⟩ := h
    exact w _ _ h (k.set r)
end

/-! ### for -/
def forD (g : SmG) (b : SmS) : List D → SmS
  | [], env, E => E.nx env
  | d :: r, env, E => g d env fun env1 => b env1 { nx := fun env' => forD g b r env' E, rt := E.rt, bk := E.nx, ct := fun env' => forD g b r env' E, xx := E.xx }
def sFor (s : SmI) (g : SmG) (b : SmS) : SmS := fun env E => s env (fun ds => forD g b ds env E) (fun x => E.xx x env)
theorem ok_for {X : Cx} {Φ : Fm} {tg iter : Expr} {body : List Stmt} {s : SmI} {g : SmG} {b : SmS} {pos : Pos} (hp : PassesOwn (model X.prog X.w) X.A X.env X.xe) (hc : X.calm = true) (hi : PI X tg iter (tI Φ s)) (hg : PG X tg (tG Φ g)) (hb : PSs X body (tS Φ b))
    (hf : ∀ x : Value, foldedSetIterable iter X.env x = pure x) : PS X (.For tg iter body [] pos) (tS Φ (sFor s g b)) := PS.imp (ps_for hp hc hi hg hb hf) fun Dd σ H h => by
  obtain ⟨env, E, k, h, w⟩ := h
  refine ⟨env, _, _, k, h, fun ds J H1 q s1 W => ?_, w.wx k⟩
  have k1 := k.step s1
  have kp1 : Keep H H1 := s1.keep k.hand
  refine ⟨fun i m σ' H' => i ≤ ds.length ∧ m = ds.length - i ∧ ∃ env', SOK Φ.c env' σ' H' ∧ Keep H1 H' ∧ forD g b (ds.drop i) env' E, ⟨ds.length, Nat.zero_le _, rfl, env, k1, Keep.refl _, q⟩, fun i m σ' H' hW => ?_⟩
  obtain ⟨hi', rfl, env', k', kp, hf'⟩ := hW
  by_cases hlt : i < ds.length
  · refine .inr ⟨W.goes i H' hlt kp, fun σ'' H'' => i + 1 ≤ ds.length ∧ ∃ env'', SOK Φ.c env'' σ'' H'' ∧ Keep H1 H'' ∧ forD g b (ds.drop (i + 1)) env'' E, fun σ'' H'' hN => ?_, fun x H2 hy => ?_⟩
    · obtain ⟨h1, rest⟩ := hN
      exact ⟨ds.length - (i + 1), by omega, h1, rfl, rest⟩
    · obtain ⟨st, d, hd, rd⟩ := W.yields i H' x H2 hlt kp k'.hand hy
      have e : ds.drop i = d :: ds.drop (i + 1) := by
        rw [List.drop_eq_getElem_cons hlt]
        congr 1
        rw [List.getElem?_eq_getElem hlt] at hd
        exact Option.some.inj hd
      rw [e] at hf'
      have kp2 : Keep H1 H2 := kp.trans (st.keep k'.hand)
      refine ⟨d, env', _, k'.step st, rd, hf', fun env1 σ1 q1 k2 => ⟨env1, _, k2, q1, ?_⟩⟩
      have wl := w.later (kp1.trans kp2)
      exact ⟨fun en σ3 H3 z kp3 k3 => ⟨hlt, en, k3, kp2.trans kp3, z⟩, wl.rt, fun en σ3 H3 z kp3 k3 => wl.nx en σ3 H3 z kp3 k3, fun en σ3 H3 z kp3 k3 => ⟨hlt, en, k3, kp2.trans kp3, z⟩, wl.x⟩
  · have ei : i = ds.length := by omega
    subst ei
    rw [List.drop_length] at hf'
    exact .inl ⟨W.stops H' kp, w.nx env' σ' H' hf' (kp1.trans kp) k'⟩
end Mw
end

section
set_option Elab.async false
set_option linter.all false
set_option autoImplicit false
set_option maxRecDepth 100000
set_option maxHeartbeats 4000000
/-! Mw9: list comprehensions over data. -/
namespace Mw
open PySem PySem.Spec L2

section
variable {c : Cm} {env : En} {σ : L2.St} {H : Hp}
theorem get_app {α : Type} {l : List α} {x : α} {i : Nat} (h : i < l.length) : (l ++ [x])[i]? = l[i]? := List.getElem?_append_left h
theorem lt_of_get {α : Type} {l : List α} {x : α} {i : Nat} (h : l[i]? = some x) : i < l.length := by
  by_cases hi : i < l.length
  · exact hi
  · rw [List.getElem?_eq_none (by omega)] at h; cases h
/-- without the last slot -/
theorem SOK.less {l : Option L} {v : Option V} (k : SOK c (env ++ [l]) (σ ++ [v]) H) : SOK c env σ H := by
  have hl : σ.length = env.length := by have e := k.len; simpa using e
  have up : ∀ {i : Nat} {z : L}, env[i]? = some (some z) → (env ++ [l])[i]? = some (some z) := fun {i z} e => by rw [get_app (lt_of_get e)]; exact e
  have upσ : ∀ {i : Nat} {z : Option V}, σ[i]? = some z → (σ ++ [v])[i]? = some z := fun {i z} e => by rw [get_app (lt_of_get e)]; exact e
  refine ⟨k.hand, k.same, hl, fun i z e => ?_, fun i j p ds es n e1 e2 q1 q2 => k.apart i j p ds es n (up e1) (up e2) (upσ q1) (upσ q2)⟩
  obtain ⟨u, h1, h2⟩ := k.slot i z (up e)
  rw [get_app (by rw [hl]; exact lt_of_get e)] at h1
  exact ⟨u, h1, h2⟩
theorem SOK.non {i : Nat} (k : SOK c env σ H) : SOK c (env.set i none) (σ.set i none) H := by
  have up : ∀ {j : Nat} {z : L}, (env.set i none)[j]? = some (some z) → j ≠ i ∧ env[j]? = some (some z) := fun {j z} e => by
    by_cases h : i = j
    · subst h
      have hi := lt_of_get e
      rw [List.length_set] at hi
      rw [List.getElem?_set_self hi] at e
      cases e
    · rw [List.getElem?_set_ne h] at e
      exact ⟨fun z => h z.symm, e⟩
  refine ⟨k.hand, k.same, by rw [List.length_set, List.length_set]; exact k.len, fun j z e => ?_, fun a b p ds es n e1 e2 q1 q2 => ?_⟩
  · obtain ⟨n, e'⟩ := up e
    obtain ⟨u, h1, h2⟩ := k.slot j z e'
    exact ⟨u, by rw [List.getElem?_set_ne (Ne.symm n)]; exact h1, h2⟩
  · obtain ⟨n1, e1'⟩ := up e1
    obtain ⟨n2, e2'⟩ := up e2
    rw [List.getElem?_set_ne (Ne.symm n1)] at q1
    rw [List.getElem?_set_ne (Ne.symm n2)] at q2
    exact k.apart a b p ds es n e1' e2' q1 q2
/-- one slot more -/
theorem SOK.add (k : SOK c env σ H) : SOK c (env ++ [none]) (σ ++ [none]) H := by
  have dn : ∀ {i : Nat} {z : L}, (env ++ [none])[i]? = some (some z) → i < env.length ∧ env[i]? = some (some z) := fun {i z} e => by
    by_cases h : i < env.length
    · rw [get_app h] at e; exact ⟨h, e⟩
    · have hi := lt_of_get e
      rw [List.length_append] at hi
      have : i = env.length := by simp at hi; omega
      subst this
      rw [List.getElem?_append_right (Nat.le_refl _)] at e
      simp at e
  refine ⟨k.hand, k.same, by simp [k.len], fun i z e => ?_, fun i j p ds es n e1 e2 q1 q2 => ?_⟩
  · obtain ⟨hi, e'⟩ := dn e
    obtain ⟨u, h1, h2⟩ := k.slot i z e'
    exact ⟨u, by rw [get_app (by rw [k.len]; exact hi)]; exact h1, h2⟩
  · obtain ⟨h1, e1'⟩ := dn e1
    obtain ⟨h2, e2'⟩ := dn e2
    rw [get_app (by rw [k.len]; exact h1)] at q1
    rw [get_app (by rw [k.len]; exact h2)] at q2
    exact k.apart i j p ds es n e1' e2' q1 q2
theorem set_last {α : Type} (l : List α) (x y : α) : (l ++ [x]).set l.length y = l ++ [y] := by
  rw [List.set_append_right _ _ (Nat.le_refl _)]
  simp
theorem SOK.more {p : Addr} {xs : List V} {ds : List D} (k : SOK c env σ H) (hp : H p = none) (r : Reps c.g H xs ds) : SOK c (env ++ [some (.ml ds)]) (σ ++ [some (.ref p)]) (upd H p (.lst xs)) := by
  have q := k.add.setM (i := env.length) hp r
  rw [set_last] at q
  rw [← k.len, set_last] at q
  exact q
end
/-- the errors that can't be -/
def noW : WX := fun _ _ _ _ => False
def Fm.no (Φ : Fm) : Fm := ⟨Φ.c, noW⟩
theorem WX1.no {Φ : Fm} {σ : L2.St} {H : Hp} : WX1 Φ σ H (fun _ => False) := ⟨fun _ _ _ _ q => q.elim⟩

def lcD (g : SmG) (cnd : SmB) (e : Sm) (env : En) : List D → List D → (List D → Prop) → Prop
  | [], acc, Q => Q acc
  | d :: r, acc, Q => g d env fun env1 => cnd env1 (fun b => if b = true then e env1 (fun y => acc.length < sizeLine ∧ lcD g cnd e env r (acc ++ [y]) Q) (fun _ => False) else lcD g cnd e env r acc Q) (fun _ => False)
def setNones (env : En) : List Nat → En
  | [] => env
  | v :: vs => (setNones env vs).set v none
def vLcL (s : SmI) (vs : List Nat) (g : SmG) (cnd : SmB) (e : Sm) : SmL := fun env Q Qx => s env (fun ds => lcD g cnd e (setNones env vs) ds [] Q) Qx
def bTrue : SmB := fun _ Q _ => Q true
theorem SOK.wipe {c : Cm} {env : En} {σ : L2.St} {H : Hp} (k : SOK c env σ H) : ∀ vs : List Nat, SOK c (setNones env vs) (L2.wipe σ vs) H
  | [] => by rw [L2.wipe.eq_1]; exact k
  | v :: vs => by rw [L2.wipe.eq_2]; exact (k.wipe vs).non
theorem wipe_wipe (σ : L2.St) (vs : List Nat) : L2.wipe (L2.wipe σ vs) vs = L2.wipe σ vs := by
  have key : ∀ (vs us : List Nat), (∀ v ∈ vs, v ∈ us) → L2.wipe (L2.wipe σ us) vs = L2.wipe σ us := by
    intro vs
    induction vs with
    | nil => intro us _; rw [L2.wipe.eq_1]
    | cons v vs ih =>
      intro us hv
      rw [L2.wipe.eq_2, ih us fun z hz => hv z (List.mem_cons_of_mem _ hz)]
      have hm : ∀ us : List Nat, v ∈ us → (L2.wipe σ us).set v none = L2.wipe σ us := by
        intro us
        induction us with
        | nil => intro h; cases h
        | cons u us ih2 =>
          intro h
          rw [L2.wipe.eq_2]
          by_cases e : u = v
          · subst e; rw [List.set_set]
          · rcases List.mem_cons.mp h with z | z
            · exact (e z.symm).elim
            · rw [List.set_comm _ _ e, ih2 z]
      exact hm us (hv v List.mem_cons_self)
  exact key vs vs fun _ z => z
/-- targets within a comprehension: only the own slots are written -/
def tGw (Φ : Fm) (vs : List Nat) (g : SmG) : TG := fun v σ H Q => ∃ d env Qe, SOK Φ.c env σ H ∧ Rep Φ.g H v d ∧ g d env Qe ∧ ∀ env' σ', Qe env' → SOK Φ.c env' σ' H → L2.wipe σ' vs = L2.wipe σ vs → Q σ' H
section
variable {X : Cx} {Φ : Fm} {pos : Pos}
theorem okgw_name {i : Nat} {x : Str} (hN : X.N.Nodup) (hi : X.N[i]? = some x) (hx : Loc X.env.scope x) (hf : X.fn x = true ∨ X.env.scope.names.lookup x = some .local) : PG X (.Name x pos) (tGw Φ [i] (gN i)) :=
  PG.imp (pg_name hN hi hx hf) fun v σ H Q h => by
    obtain ⟨d, env, Qe, k, r, h, w⟩ := h
    refine w _ _ h (k.set r) ?_
    rw [L2.wipe.eq_2, L2.wipe.eq_1, L2.wipe.eq_2, L2.wipe.eq_1, List.set_set]
theorem okts_nil : PTs X [] (tB Φ bTrue) := by
  have h := @pts_nil X
  exact ⟨fun pins s σ H Q I q => h.run pins s σ H Q I (by
    obtain ⟨env, Qd, Qx, k, h, w, _⟩ := q
    exact w true H h (Step.refl k.hand))⟩
theorem ok_lcL {elt tg iter : Expr} {ifs : List Expr} {scope : Scope} {own : List (Str × Nat)} {vs : List Nat} (hvs : own.map (·.2) = vs) {s : SmI} {g : SmG} {cnd : SmB} {e : Sm} (hc : X.calm = true) (hN : X.N.Nodup) (hi : PI X tg iter (tI Φ s)) (ok : BlkOk X.N X.env.scope scope own)
    (hg : ∀ (s : Shared) (H : Hp) (C : Addr) (cl : List (Str × Addr)) (fp : List Addr), PG (X.blk s H scope (compEnvC scope cl C X.env) fp) tg (tGw Φ.no vs g))
    (ht : ∀ (s : Shared) (H : Hp) (C : Addr) (cl : List (Str × Addr)) (fp : List Addr), PTs (X.blk s H scope (compEnvC scope cl C X.env) fp) ifs (tB Φ.no cnd))
    (he : ∀ (s : Shared) (H : Hp) (C : Addr) (cl : List (Str × Addr)) (fp : List Addr), PE (X.blk s H scope (compEnvC scope cl C X.env) fp) elt (tE Φ.no e))
    (hf : ∀ x : Value, foldedSetIterable iter X.env x = pure x) :
    PE X (elt.ListComp [{ target := tg, iter := iter, ifs := ifs, is_async := 0 }] scope pos) (tN Φ (vLcL s vs g cnd e)) := by
  have hp := pe_lc (pos := pos) hc hN hi ok hg ht he hf
  rw [hvs] at hp
  refine PE.imp hp fun σ H Q h => ?_
  obtain ⟨env, Qd, Qx, k, h, w, wx⟩ := h
  refine ⟨env, _, Qx, k, h, fun ds J H1 q s1 W => fun D hD => ?_, wx⟩
  have k1 := k.step s1
  have kw := k1.wipe vs
  have nD : D ≠ Φ.g.hd := fun z => by
    obtain ⟨ys, hy⟩ := k1.hand.lst
    rw [z, hy] at hD
    cases hD
  have n0 : Φ.c.H0 D = none := by
    cases e0 : Φ.c.H0 D with
    | none => rfl
    | some u =>
      have z := k1.same D u nD e0
      rw [hD] at z
      cases z
  have hl : (setNones env vs).length = (L2.wipe σ vs).length := kw.len.symm
  refine ⟨fun i m H' => i ≤ ds.length ∧ m = ds.length - i ∧ ∃ acc xs, SOK Φ.c (setNones env vs ++ [some (.ml acc)]) (L2.wipe σ vs ++ [some (.ref D)]) H' ∧ H' D = some (.lst xs) ∧ Reps Φ.g H' xs acc ∧ Keep H1 H' ∧ Step Φ.g H1 H' ∧ lcD g cnd e (setNones env vs) (ds.drop i) acc Qd,
    ⟨ds.length, Nat.zero_le _, rfl, [], [], kw.more hD .nil, upd_same, .nil, fun b u _ z => upd_keeps hD b u z, Step.ext (upd_keeps hD) k1.hand, q⟩, fun i m H' hW => ?_⟩
  obtain ⟨hi', rfl, acc, xs, k', hDx, r', kp, st, hf'⟩ := hW
  by_cases hlt : i < ds.length
  · refine .inr ⟨W.goes i H' hlt kp, fun H'' => i + 1 ≤ ds.length ∧ ∃ acc xs, SOK Φ.c (setNones env vs ++ [some (.ml acc)]) (L2.wipe σ vs ++ [some (.ref D)]) H'' ∧ H'' D = some (.lst xs) ∧ Reps Φ.g H'' xs acc ∧ Keep H1 H'' ∧ Step Φ.g H1 H'' ∧ lcD g cnd e (setNones env vs) (ds.drop (i + 1)) acc Qd, fun H'' hN => ?_, fun x H2 hy => ?_⟩
    · obtain ⟨h1, rest⟩ := hN
      exact ⟨ds.length - (i + 1), by omega, h1, rfl, rest⟩
    · obtain ⟨st2, d, hd, rd⟩ := W.yields i H' x H2 hlt kp k'.hand hy
      have ed : ds.drop i = d :: ds.drop (i + 1) := by
        rw [List.drop_eq_getElem_cons hlt]
        congr 1
        rw [List.getElem?_eq_getElem hlt] at hd
        exact Option.some.inj hd
      rw [ed] at hf'
      have kp2 : Keep H1 H2 := kp.trans (st2.keep k'.hand)
      have k2 := k'.step st2
      refine ⟨d, setNones env vs, _, k2.less, rd, hf', fun env1 σ1 q1 k3 ew => ⟨ew.trans (wipe_wipe σ vs), ?_⟩⟩
      · refine ⟨env1, _, fun _ => False, k3, q1, fun b H3 q3 s3 => ?_, WX1.no⟩
        have k3' := k2.step s3
        have st3 : Step Φ.g H1 H3 := (st.trans st2).trans s3
        have kp3 : Keep H1 H3 := kp2.trans (s3.keep k2.hand)
        have hD3 : H3 D = some (.lst xs) := s3.same D _ nD (st2.same D _ nD hDx)
        have r3 : Reps Φ.g H3 xs acc := (r'.step st2 k'.hand).step s3 k2.hand
        cases b with
        | false => exact ⟨hlt, acc, xs, k3', hD3, r3, kp3, st3, q3⟩
        | true =>
          refine ⟨env1, _, fun _ => False, k3.step s3, q3, fun y v H4 q4 s4 ry => ?_, WX1.no⟩
          have k4 := k3'.step s4
          have hD4 : H4 D = some (.lst xs) := s4.same D _ nD hD3
          have r4 : Reps Φ.g H4 xs acc := r3.step s4 s3.hand
          have kq : Keep H4 (upd H4 D (.lst (xs ++ [v]))) := keep_put hD4
          have rr : Reps Φ.g (upd H4 D (.lst (xs ++ [v]))) (xs ++ [v]) (acc ++ [y]) := (r4.append (.cons ry .nil)).keep kq
          have hlast : (setNones env vs ++ [some (L.ml acc)])[(setNones env vs).length]? = some (some (.ml acc)) := by simp
          have hlastσ : (L2.wipe σ vs ++ [some (V.ref D)])[(setNones env vs).length]? = some (some (.ref D)) := by rw [hl]; simp
          have kf := k4.put hlast hlastσ hD4 nD n0 (l := .ml (acc ++ [y])) ⟨D, xs ++ [v], rfl, nD, n0, upd_same, rr⟩ (fun _ _ => trivial)
          rw [set_last] at kf
          refine ⟨xs, hD4, by rw [r4.length]; exact q4.1, hlt, acc ++ [y], xs ++ [v], kf, upd_same, rr, kp3.trans ((s4.keep s3.hand).trans kq), ⟨fun b u n e => ?_, kf.hand⟩, q4.2⟩
          rw [upd_ne]
          · exact s4.same b u n (st3.same b u n e)
          · intro z
            subst z
            rw [hD] at e
            cases e
  · have ei : i = ds.length := by omega
    subst ei
    rw [List.drop_length] at hf'
    refine .inl ⟨W.stops H' kp, ?_⟩
    -- the heap without the list
    have eH : H' = upd (fun b => if b = D then none else H' b) D (.lst xs) := by
      funext b
      by_cases hb : b = D
      · subst hb; rw [upd_same]; exact hDx
      · rw [upd_ne hb, if_neg hb]
    have sub : ∀ b u, b ≠ D → H' b = some u → (if b = D then none else H' b) = some u := fun b u n e => by rw [if_neg n]; exact e
    have hh : HandAt Φ.g (fun b => if b = D then none else H' b) := by
      obtain ⟨c, ns, i, r, t, e1, ⟨o, e2⟩, wd⟩ := k'.hand
      refine ⟨c, ns, i, r, t, sub _ _ (Ne.symm nD) e1, ⟨o, sub _ _ (fun z => ?_) e2⟩, wd⟩
      subst z
      rw [hDx] at e2
      cases e2
    have rr : Reps Φ.g (fun b => if b = D then none else H' b) xs acc := r'.keep (fun b u n e => sub b u (fun z => by
      subst z
      rw [hDx] at e
      cases e
      exact n trivial) e)
    rw [eH]
    refine w acc D xs _ hf' ⟨fun b u n e => ?_, hh⟩ (if_pos rfl) rr
    have e2 := (s1.trans st).same b u n e
    refine sub b u (fun z => ?_) e2
    subst z
    have e3 := s1.same b u n e
    rw [hD] at e3
    cases e3
end
end Mw
end

section
set_option Elab.async false
set_option linter.all false
set_option autoImplicit false
set_option maxRecDepth 100000
set_option maxHeartbeats 200000
/-! Mw10: == and != of instances with an own __eq__. -/
namespace Mw
open PySem PySem.Spec L2

theorem rich_one {prog : Program} {w : World} {A : Around} {E : Value → Shared → Prop} {s : Shared} {x y : Addr} {C C' : Addr} {op : CmpOp} {Q : Value → Shared → Prop} (hu : A.units < cLine)
    (ha : PySem.W.Looks (model prog w) s.heap (typeOf (.ref x)) (.ref C)) (hb : PySem.W.Looks (model prog w) s.heap (typeOf (.ref y)) (.ref C')) (hs : C' ≠ C → PySem.W.Looks (model prog w) s.heap (isSubtype (.ref C') (.ref C)) false)
    (one : wpAny (model prog w) A (tryCompare (.ref x) (cmpInfo op).2.1 (.ref y)) (fun r s' => ∃ v, r = some v ∧ Q v s') E s) : wpAny (model prog w) A (richCompare op (.ref x) (.ref y)) Q E s := by
  unfold richCompare
  refine wpAny_holding (wpAny_bind (wpAny_cRoomFor hu ?_))
  have e1 : oneThing? op (.ref x) (.ref y) = none := by rfl
  rw [e1]
  refine wpAny_bind (ha.here (wpAny_bind (hb.here ?_)))
  by_cases hc : C' = C
  · subst hc
    rw [if_neg (by simp)]
    refine wpAny_bind (wpAny_pure ?_)
    simp only [Bool.false_eq_true, if_false]
    refine wpAny_bind (wpAny_mono one ?_ (fun _ _ e => e))
    rintro r s' ⟨v, rfl, q⟩
    exact wpAny_pure q
  · rw [if_pos (by simp; exact fun z => hc z.symm)]
    refine wpAny_bind ((hs hc).here ?_)
    simp only [Bool.false_eq_true, if_false]
    refine wpAny_bind (wpAny_mono one ?_ (fun _ _ e => e))
    rintro r s' ⟨v, rfl, q⟩
    exact wpAny_pure q
section
variable {X : Cx} {k : Nat} {f : Addr} {fd : FuncData} {ps : List Str} {sp : Sp} {dvs : List V} {dus : List Value} {E : XK}
theorem run_fngA {A : Around} {pins : List (Addr × Obj)} {σ : L2.St} {H : Hp} {s : Shared} {Q : VK} {us : List Value} {vs : List V} (F : FnG X.prog X.w X.K X.mg X.base k f fd ps sp) (hg : A.guards = some []) (hr : Room k A) (hfr : A.frames = X.A.frames) (hb : Binds X.K fd ps dus) (hd : Vals dvs dus)
    (hx : PassesAt (L2.CX X.prog X.w) X σ E) (I : L2.Inv X pins σ H s) (r : Vals vs us) (h : sp (vs ++ dvs) H Q E) : wpAny (model X.prog X.w) A (call (.ref f) us) (EP X pins σ Q) X.xe s := by
  have rr := r.append hd
  have hl : (us ++ dus).length = ps.length := rr.length.symm.trans (F.len _ _ _ _ h)
  have e := I.env0
  have e0 : Env0 X.prog X.w X.K X.mg X.base A X.stack s H := ⟨hfr.trans e.frames, e.mod, e.bs, e.bsz, e.funs, e.frf, e.hok, e.bare⟩
  refine wpAny_call (codeAny_mono (F.run A X.stack s H ⟨us, []⟩ (us ++ dus) (vs ++ dvs) Q E hg hr e0 (hb s us I.kIn hl) rr h) ?_)
  intro z s' hq
  match z, hq with
  | .error e, hq => exact hx pins H s e s' I hq
  | .ok (.ret u), hq => exact I.after hq
end

theorem Rep.insI {Γ : Gm} {H : Hp} {x : V} {c : Nat} {fs : List (Str × D)} (r : Rep Γ H x (.ins c fs)) : ∃ a dx ks xs ds, x = .ref a ∧ fs = List.zip ks ds ∧ H a = some (.ins (Γ.cls c) dx (List.zip ks xs)) ∧ Reps Γ H xs ds := by
  generalize ed : D.ins c fs = d at r
  cases r
  case ins a dx c0 ks xs ds h r =>
    cases ed
    exact ⟨a, dx, ks, xs, ds, rfl, rfl, h, r⟩
  all_goals cases ed
/-! ### == and != -/
def clEq (eqI : Nat → List (Str × D) → D → Option Bool) (c : Nat) : Cl := fun ds Q _ => ∃ fs o b, ds = [.ins c fs, o] ∧ eqI c fs o = some b ∧ Q (.bl b)
/-- what the written part says of a class with an own __eq__ -/
structure EqC (X : Cx) (Γ : Addr → Gm) (k : Nat) (eqI : Nat → List (Str × D) → D → Option Bool) (c : Nat) : Prop where
  fn : ∃ (C f : Addr) (fd : FuncData), (∀ hd, (Γ hd).cls c = C) ∧ FnG X.prog X.w X.K X.mg X.base k f fd ["self", "other"] (spD Γ (clEq eqI c) 2) ∧ PySem.W.findIn X.K (.ref C) "__eq__" = some (some (.ref f)) ∧ PySem.W.isFn X.K (.ref f) = true ∧ Binds X.K fd ["self", "other"] [] ∧
    ∃ nm q N bs hdct sn sub ab col dd k0 k1 k2 k3 k5 newId oN es ep oF, X.K.lookup C = some (excClassObj nm q C N bs [.type "object"] hdct sn sub ab col dd k0 k1 k2 k3 k5 newId) ∧ X.K.lookup N = some oN ∧ oN.data = Data.dict es ep ∧ StrKeys es ∧ nsFind es "__eq__" = some (.ref f) ∧ nsFind es "__ne__" = none ∧
      X.K.lookup f = some oF ∧ oF.cls = .type "function"
def rOwn (op : Bool → Bool) (Γ : Addr → Gm) (has : Nat → Prop) (eqI : Nat → List (Str × D) → D → Option Bool) : R2 := fun x y H Q => ∃ hd c c' fs gs b, HandAt (Γ hd) H ∧ has c ∧ has c' ∧ Rep (Γ hd) H x (.ins c fs) ∧ Rep (Γ hd) H y (.ins c' gs) ∧ eqI c fs (.ins c' gs) = some b ∧ ∀ H', Step (Γ hd) H H' → Q (.bl (op b)) H'
section
variable {X : Cx} {Γ : Addr → Gm} {k : Nat} {has : Nat → Prop} {eqI : Nat → List (Str × D) → D → Option Bool}
theorem op_own_eq (hc : ∀ c, has c → EqC X Γ k eqI c) (hn : ∀ c c' hd, has c → has c' → PySem.W.notFirst X.K ((Γ hd).cls c) (.ref ((Γ hd).cls c')) = true) (hg : X.A.guards = some []) (hr : Room (k + 1) X.A) {W : WX} (tk : Takes X W) : OpR X (compareOp .Eq) (rOwn (fun b => b) Γ has eqI) := by
  intro pins s σ H x y v u Q I rx ry hq
  obtain ⟨hd, c, c', fs, gs, b, hh, h1, h2, r1, r2, he, q⟩ := hq
  obtain ⟨C, f, fd, gC, F, fE, fI, hb, _⟩ := (hc c h1).fn
  have nf := hn c c' hd h1 h2
  have r1' := r1
  have r2' := r2
  obtain ⟨a, dx, ks, xs, ds, rfl, _, ha, rs⟩ := r1.insI
  obtain ⟨a', dx', ks', xs', ds', rfl, _, ha', rs'⟩ := r2.insI
  obtain rfl : v = .ref a := rx
  obtain rfl : u = .ref a' := ry
  obtain ⟨mA, J, _⟩ := ins_get I.hok ha
  obtain ⟨mB, J', _⟩ := ins_get I.hok ha'
  obtain ⟨od, J, _⟩ := J.look
  obtain ⟨od', J', _⟩ := J'.look
  obtain ⟨m, hF⟩ := I.fr
  rw [gC hd] at J
  have key2 : wpAny (model X.prog X.w) X.A (call (.ref f) [.ref a, .ref a']) (PySem.W.CmpBack (EP X pins σ Q)) X.xe s := by
    refine wpAny_mono (?_ : wpAny (model X.prog X.w) X.A (call (.ref f) [.ref a, .ref a']) (EP X pins σ (fun v H' => (∃ b, v = .bl b) ∧ Q v H')) X.xe s) (fun r s' z => ?_) (fun _ _ e => e)
    · refine run_fngA (vs := [.ref a, .ref a']) (dvs := []) F hg (hr.mono (Nat.le_succ _)) rfl hb .nil (passAt tk σ) I (.cons rfl (.cons rfl .nil)) ?_
      refine ⟨rfl, hd, [_, _], (fun z => z = .bl b), fun _ => False, hh, .cons r1' (.cons r2' .nil), ⟨_, _, b, rfl, he, rfl⟩, fun d v H' qd st rv => ?_, fun _ _ _ _ z => z.elim⟩
      subst qd
      cases rv
      exact ⟨⟨b, rfl⟩, q H' st⟩
    · obtain ⟨v, H', I', rv, ⟨b', rfl⟩, qq⟩ := z
      obtain rfl : r = .bool b' := rv
      exact ⟨.bl b', H', I', rfl, qq⟩
  rw [gC hd] at nf
  have fE' : PySem.W.findIn X.K (Value.ref C) (cmpInfo .Eq).2.1 = some (some (.ref f)) := fE
  show wpAny (model X.prog X.w) X.A (richCompare .Eq (.ref a) (.ref a')) (EP X pins σ Q) X.xe s
  exact PySem.W.cmp_K (op := .Eq) hr.units0 hF I.ok.mod.kin J J'.type nf fE' fI key2
theorem op_own_ne (hc : ∀ c, has c → EqC X Γ k eqI c) (hn : ∀ c c' hd, has c → has c' → PySem.W.notFirst X.K ((Γ hd).cls c) (.ref ((Γ hd).cls c')) = true) (hg : X.A.guards = some []) (hr : Room (k + 1) X.A) {W : WX} (tk : Takes X W) : OpR X (compareOp .NotEq) (rOwn (fun b => !b) Γ has eqI) := by
  intro pins s σ H x y v u Q I rx ry hq
  obtain ⟨hd, c, c', fs, gs, b, hh, h1, h2, r1, r2, he, q⟩ := hq
  obtain ⟨C, f, fd, gC, F, fE, fI, hb, nm, qn, N, bs, hdct, sn, sub, ab, col, dd, k0, k1, k2, k3, k5, newId, oN, es, ep, oF, kC, kN, dN, sN, eE, eN, kF, cF⟩ := (hc c h1).fn
  have nf := hn c c' hd h1 h2
  obtain ⟨a, dx, ks, xs, ds, rfl, _, ha, rs⟩ := r1.insI
  obtain ⟨a', dx', ks', xs', ds', rfl, _, ha', rs'⟩ := r2.insI
  obtain rfl : v = .ref a := rx
  obtain rfl : u = .ref a' := ry
  obtain ⟨mA, J, _⟩ := ins_get I.hok ha
  obtain ⟨mB, J', _⟩ := ins_get I.hok ha'
  obtain ⟨od, J, _⟩ := J.look
  obtain ⟨od', J', _⟩ := J'.look
  obtain ⟨m, hF⟩ := I.fr
  rw [gC hd] at J nf
  have kin : X.K.In s.heap := I.kIn
  have OE : s.heap.OwnEqNoNe a C f "object" [.type "object"] := ⟨_, oF, nm, qn, N, bs, hdct, sn, sub, ab, col, dd, k0, k1, k2, k3, k5, newId, fun name => nsFind es name, some (.builtin "object.__eq__"), J.at_, J.cls, kin _ _ kC, ⟨oN, es, ep, kin _ _ kN, dN, sN, fun _ => rfl⟩, eE, kin _ _ kF, cF, PySem.F.cmp_object.mro, PySem.F.cmp_object.eq.lookup, eN⟩
  have hsub : (Γ hd).cls c' ≠ C → PySem.W.Looks (model X.prog X.w) s.heap (isSubtype (.ref ((Γ hd).cls c')) (.ref C)) false := fun hne => by
    unfold PySem.W.notFirst at nf
    rw [Bool.or_eq_true] at nf
    rcases nf with z | z
    · have z' : Value.ref ((Γ hd).cls c') = Value.ref C := by simpa using z
      cases z'
      exact (hne rfl).elim
    · have z' : PySem.W.subIn X.K (.ref ((Γ hd).cls c')) (.ref C) = some false := by simpa using z
      exact PySem.W.looks_subIn kin z'
  have hcall : wpAny (model X.prog X.w) X.A.in1 (call (.ref f) [.ref a, .ref a']) (fun r s' => ∃ b, r = Value.bool b ∧ EP X pins σ Q (Value.bool !b) s') X.xe s := by
    refine wpAny_mono (?_ : wpAny (model X.prog X.w) X.A.in1 (call (.ref f) [.ref a, .ref a']) (EP X pins σ (fun v H' => ∃ b, v = .bl b ∧ Q (.bl (!b)) H')) X.xe s) (fun r s' z => ?_) (fun _ _ e => e)
    · refine run_fngA (A := X.A.in1) (vs := [.ref a, .ref a']) (dvs := []) F hg ⟨hr.hd, ?_, ?_⟩ rfl hb .nil (passAt tk σ) I (.cons rfl (.cons rfl .nil)) ?_
      · have := hr.dp; show X.A.depth + 3 * k + 5 < recursionLimit; omega
      · have := hr.un; show X.A.units + 1 + 16 * k + 200 < cLine; omega
      · refine ⟨rfl, hd, [_, _], (fun z => z = .bl b), fun _ => False, hh, .cons r1 (.cons r2 .nil), ⟨_, _, b, rfl, he, rfl⟩, fun d v H' qd st rv => ?_, fun _ _ _ _ z => z.elim⟩
        subst qd
        cases rv
        exact ⟨b, rfl, q H' st⟩
    · obtain ⟨v, H', I', rv, b', rfl, qq⟩ := z
      obtain rfl : r = .bool b' := rv
      exact ⟨b', rfl, .bl (!b'), H', I', rfl, qq⟩
  show wpAny (model X.prog X.w) X.A (richCompare .NotEq (.ref a) (.ref a')) (EP X pins σ Q) X.xe s
  refine rich_one (C := C) (C' := (Γ hd).cls c') hr.units0 J.type J'.type hsub ?_
  obtain ⟨hp, g, dr, t, os⟩ := s
  refine tryCompare_ne_ownEq PySem.F.cmp_object OE (by have := hr.un; omega) ?_
  refine wpAny_mono hcall (fun r s' z => ?_) (fun _ _ e => e)
  obtain ⟨b', e, qq⟩ := z
  exact ⟨b', e, _, rfl, qq⟩
end
end Mw
end

section
set_option Elab.async false
set_option linter.all false
set_option autoImplicit false
set_option maxRecDepth 100000
set_option maxHeartbeats 400000
/-! Mw11: instances over data: made, their fields, ==, !=, isinstance. -/
namespace Mw
open PySem PySem.Spec L2

theorem zip_look {Γ : Gm} {H : Hp} {f : Str} {d : D} : ∀ {ks : List Str} {xs : List V} {ds : List D}, Reps Γ H xs ds → (List.zip ks ds).lookup f = some d → ∃ v, (List.zip ks xs).lookup f = some v ∧ Rep Γ H v d
  | [], _, _, _, e => by simp at e
  | _ :: _, _, _, .nil, e => by simp at e
  | k :: ks, _, _, .cons (v := v) (d := d0) q r, e => by
    rw [List.zip_cons_cons, List.lookup_cons] at e
    rw [List.zip_cons_cons, List.lookup_cons]
    cases h : (f == k) with
    | true =>
      simp only [h] at e
      cases e
      exact ⟨v, rfl, q⟩
    | false =>
      simp only [h] at e
      exact zip_look r e
section
variable {X : Cx} {Φ : Fm} {a b e : Expr} {sa sb : Sm} {pos : Pos}
/-- x.f -/
def fFld (has : Nat → Str → Prop) (f : Str) (d : D) (Q : PD) : Prop := ∃ c fs v, d = .ins c fs ∧ has c f ∧ fs.lookup f = some v ∧ Q v
def vFld (has : Nat → Str → Prop) (f : Str) (a : Sm) : Sm := fun env Q Qx => a env (fun d => fFld has f d Q) Qx
theorem ok_fld {has : Nat → Str → Prop} {f : Str} (hh : ∀ c, has c f → Cls X.K (Φ.g.cls c) ∧ NoAttr X.K (Φ.g.cls c) f) (he : PE X e (tE Φ sa)) (hb : attributeBase e f X.env (eval e X.env) = eval e X.env) : PE X (.Attribute e f pos) (tE Φ (vFld has f sa)) :=
  PE.imp (pe_fld he hb) fun σ H Q h => by
    obtain ⟨env, Qd, Qx, k, h, w, wx⟩ := h
    refine ⟨env, _, Qx, k, h, fun d v H1 q s1 r => ?_, wx⟩
    obtain ⟨c, fs, y, rfl, hc, hl, q⟩ := q
    obtain ⟨p, dx, ks, xs, ds, rfl, rfl, hp, rs⟩ := r.insI
    obtain ⟨u, hu, ru⟩ := zip_look rs hl
    obtain ⟨c1, c2⟩ := hh c hc
    exact ⟨p, _, dx, _, u, rfl, hp, c1, c2, hu, w _ _ _ q s1 ru⟩

theorem OpR.or {op : Value → Value → Sem Value} {r1 r2 : R2} (h1 : OpR X op r1) (h2 : OpR X op r2) : OpR X op (fun x y H Q => r1 x y H Q ∨ r2 x y H Q) := fun pins s σ H x y v u Q I rx ry h => h.elim (h1 pins s σ H x y v u Q I rx ry) (h2 pins s σ H x y v u Q I rx ry)
theorem Serves2.or {r1 r2 : R2} {f1 f2 : D → D → PD → Prop} (h1 : Serves2 Φ r1 f1) (h2 : Serves2 Φ r2 f2) : Serves2 Φ (fun x y H Q => r1 x y H Q ∨ r2 x y H Q) (fun x y Q => f1 x y Q ∨ f2 x y Q) := fun x y d e H Qd Q hh rx ry hf w => hf.elim (fun z => .inl (h1 x y d e H Qd Q hh rx ry z w)) (fun z => .inr (h2 x y d e H Qd Q hh rx ry z w))
def fOwn (op : Bool → Bool) (has : Nat → Prop) (eqI : Nat → List (Str × D) → D → Option Bool) (x y : D) (Q : PD) : Prop := ∃ c c' fs gs b, x = .ins c fs ∧ y = .ins c' gs ∧ has c ∧ has c' ∧ eqI c fs y = some b ∧ Q (.bl (op b))
theorem RepB.ofIns {Γ : Gm} {H : Hp} {v : V} {c : Nat} {fs : List (Str × D)} (r : RepB Γ H v (.ins c fs)) : Rep Γ H v (.ins c fs) := by
  generalize e : D.ins c fs = d at r
  cases r
  case ins h r => cases e; exact .ins h r
  all_goals cases e
theorem sv_own {op : Bool → Bool} {Γ : Addr → Gm} {has : Nat → Prop} {eqI : Nat → List (Str × D) → D → Option Bool} (hΓ : Φ.g = Γ Φ.g.hd) : Serves2 Φ (rOwn op Γ has eqI) (fOwn op has eqI) := fun x y d e H Qd Q hh rx ry hf w => by
  obtain ⟨c, c', fs, gs, b, rfl, rfl, h1, h2, he, q⟩ := hf
  refine ⟨Φ.g.hd, c, c', fs, gs, b, by rw [← hΓ]; exact hh, h1, h2, by rw [← hΓ]; exact rx.ofIns, by rw [← hΓ]; exact ry.ofIns, he, fun H' st => .inl (w _ _ _ q ?_ (.bl _))⟩
  rw [← hΓ] at st
  exact st

/-! ### C(..) -/
def spInit (C : Addr) (ks : List Str) : Sp := fun vs H Q _ => ∃ x dx xs, vs = .ref x :: xs ∧ xs.length = ks.length ∧ H x = some (.ins C dx []) ∧ Q .non (upd H x (.ins C dx (List.zip ks xs)))
def vMake (c : Nat) (ks : List Str) (ss : Sms) : Sm := fun env Q Qx => ss env (fun ds => ds.length = ks.length ∧ Q (.ins c (List.zip ks ds))) Qx
theorem ok_make {es : List Expr} {ss : Sms} {CX : CXT} {k : Nat} {f C : Addr} {fd : FuncData} {ps : List Str} {c : Nat} {ks : List Str} {x : Str} {p : Pos} (gC : Φ.g.cls c = C) (M : Mk X.K C f) (F : FnOk X.prog X.w X.K X.mg X.base CX k f fd ps (spInit C ks)) (hr : Room (k + 1) X.A) (hg : Gl X x) (hm : X.mg x = some (.ref C)) (hb : Binds X.K fd ps [])
    (hx : Passes CX X (fun _ _ _ => False)) (ha : PA X (e :: es) (tA Φ ss)) (hd : (x == ("__debug__" : Str)) = false) (he : starEach (e :: es) X.env = (false, eval e X.env) :: starEach es X.env) (hpl : (backTo pos (starEach es X.env)).any (·.1) = false) :
    PE X (.Call (.Name x p) (e :: es) [] pos) (tE Φ (vMake c ks ss)) := PE.imp (pe_make M F hr hg hm hb .nil hx ha hd he hpl) fun σ H Q h => by
  obtain ⟨env, Qd, Qx, k, h, w, wx⟩ := h
  refine ⟨env, _, Qx, k, h, fun ds vs H1 q s1 r => fun x dx hx hdx ne => ?_, wx⟩
  refine ⟨x, dx, vs, by rw [List.append_nil], by rw [r.length]; exact q.1, upd_same, rfl, ?_⟩
  have kk : ∀ b u, H1 b = some u → upd (upd (upd H1 dx (.own x)) x (.ins C dx [])) x (.ins C dx (List.zip ks vs)) b = some u := fun b u e => by
    have n1 : b ≠ x := ne_of_none e hx
    have n2 : b ≠ dx := ne_of_none e hdx
    rw [upd_ne n1, upd_ne n1, upd_ne n2]
    exact e
  have st := Step.ext kk s1.hand
  exact w _ _ _ q.2 (s1.trans st) (.ins (by rw [gC]; exact upd_same) (r.step st s1.hand))

/-! ### isinstance -/
/-- what a class must tell so that its instances' type can be read -/
structure TyC (K : PySem.W.Frag) (C : Addr) : Prop where
  cl : Cls K C
  a : PySem.W.findIn K (.ref C) "__class__" = some (some (.builtin "object.__class__"))
  b : PySem.W.specialIn K (.builtin "object.__class__") "__get__" = some (some (.builtin "getset_descriptor.__get__"))
  c : PySem.W.takesIn K (.builtin "object.__class__") = some true
  d : PySem.W.mroIn K C (.type "object") = some true
def tyD (Γ : Gm) : D → Value
  | .non => .type "NoneType"
  | .bl _ => .type "bool"
  | .int _ => .type "int"
  | .str _ => .type "str"
  | .tup _ => .type "tuple"
  | .lst _ => .type "list"
  | .hand => .type "list"
  | .dct _ => .type "dict"
  | .ins c _ => .ref (Γ.cls c)
theorem RepB.ty {Γ : Gm} {H : Hp} {v : V} {d : D} (hc : ∀ c fs, d = .ins c fs → TyC Γ.K (Γ.cls c)) (hh : HandAt Γ H) (r : RepB Γ H v d) : TyX Γ.K H v (tyD Γ d) := by
  cases r
  case non => exact .base .non
  case bl => exact .base (.bl _)
  case int => exact .base (.int _)
  case str => exact .base (.str _)
  case tup q r =>
    rcases q with (q | ⟨o, q⟩) | ⟨o, its, n, q, cq, _⟩
    · exact .base (.tup q)
    · exact .fTuple q
    · exact .kTuple q cq
  case lst q r =>
    rcases q with ⟨o, q⟩ | ⟨_, q⟩
    · exact .base (.frz q)
    · exact .base (.lst q)
  case hand => obtain ⟨xs, hx⟩ := hh.lst; exact .base (.lst hx)
  case ins q r => have T := hc _ _ rfl; exact .base (.ins q T.cl T.a T.b T.c T.d)
def vIsi (ans : D → Option Bool) (a : Sm) : Sm := fun env Q Qx => a env (fun d => ∃ b, ans d = some b ∧ Q (.bl b)) Qx
theorem ok_isi {ans : D → Option Bool} {c : V} {u : Value} {p : Pos} (hK : X.K = Φ.g.K) (hg : Gl X "isinstance") (hm : X.mg "isinstance" = none) (hv : bootBuiltins "isinstance" = some (.builtin "isinstance")) (he : PE X e (tR Φ sa)) (hc : PE X b (tC c)) (kc : ClsV c u)
    (hans : ∀ d k, ans d = some k → PySem.W.kitOne Φ.g.K (tyD Φ.g d) u = some k ∧ ∀ c fs, d = .ins c fs → TyC Φ.g.K (Φ.g.cls c))
    (hst : starEach [e, b] X.env = (false, eval e X.env) :: starEach [b] X.env) (hst2 : starEach [b] X.env = [(false, eval b X.env)]) (hpl : (backTo pos (starEach [b] X.env)).any (·.1) = false) : PE X (.Call (.Name "isinstance" p) [e, b] [] pos) (tE Φ (vIsi ans sa)) :=
  PE.imp (pe_callB call_isi hg hm hv (pa_cons he (pa_cons hc pa_nil hst2) hst) (by decide) (by decide) hst hpl) fun σ H Q h => by
    obtain ⟨env, Qd, Qx, k, h, w, wx⟩ := h
    refine ⟨env, _, Qx, k, h, fun d v H1 q s1 r => ?_, wx⟩
    obtain ⟨b, ha, q⟩ := q
    obtain ⟨k1, k2⟩ := hans d b ha
    exact ⟨v, c, _, u, b, rfl, kc, by rw [hK]; exact r.ty k2 s1.hand, by rw [hK]; exact k1, w _ _ _ q s1 (.bl b)⟩
end
end Mw
end

section
set_option Elab.async false
set_option linter.all false
set_option autoImplicit false
set_option maxRecDepth 100000
set_option maxHeartbeats 1000000
/-! Mw12: the law's own head, where the guards are known to be none. -/
namespace Mw
open PySem PySem.Spec L2
open PyProof.Rows (IntsAre)
open PyProof.Rows

theorem law_callG {P : Program} {w : World} {K : PySem.W.Frag} {mg mb : Str → Option Value} {k : Nat} {fa a : Addr} {fd : FuncData} {x : Str} {sp : Sp} {s₁ : Shared} {vs : List Value} {ns : List Int} (KX : K.In s₁.heap) (hns : s₁.heap.Ns mainGlobals mg) (hb : s₁.heap.Ns builtinsNs mb)
    (hbb : ∀ x : Str, x ≠ "__name__" → mb x = bootBuiltins x) (hlim : s₁.heap.NoLimit) (hg : s₁.gens = #[]) (ha : s₁.heap.get? a = some { cls := .type "list", data := .seq vs.toArray }) (hi : IntsAre vs ns) (hl : ns.length ≤ sizeLine) (hr : Room k callerA)
    (F : ∀ base : Heap, K.In base → base.Ns mainGlobals mg → FnG P w K mg base k fa fd [x] sp) (hbind : ∀ (s : Shared) (u : Value), BindsTo s fd { pos := [u] } [(x, u)])
    (hsp : ∀ H : Hp, Only H → SqL K H a (ns.map V.int) → sp [.ref a] H (fun v _ => v = .bl true) (fun _ _ _ => False)) :
    codeAny (model P w) callerA (.call (.ref fa) { pos := [.ref a] }) (fun r s' => r = .ok (.ret (.bool true)) ∧ OldK s₁.heap s'.heap ∧ s'.os = s₁.os ∧ AllBare s'.gens) s₁ := by
  have rv := vals_ints hi
  have lenV := hi.length
  have core : ∀ H : Hp, Only H → SqL K H a (ns.map V.int) → HOk P w H s₁.heap → (∀ b, H b ≠ none → b = a) → (H a ≠ none → K.lookup a = none) →
      codeAny (model P w) callerA (.call (.ref fa) { pos := [.ref a] }) (fun r s' => r = .ok (.ret (.bool true)) ∧ OldK s₁.heap s'.heap ∧ s'.os = s₁.os ∧ AllBare s'.gens) s₁ := by
    intro H hO hS hok hA hK
    have base_of : ∀ {b : Addr} {o : Obj}, s₁.heap.get? b = some o → H b = none → (hidT s₁.heap H).get? b = some o := fun e n => hidT_get e n
    have noA : ∀ {b : Addr} {o : Obj} {es : Array DictEntry} {ep : Nat}, s₁.heap.get? b = some o → o.data = .dict es ep → H b = none := by
      intro b o es ep e d
      cases q : H b with
      | none => rfl
      | some u =>
        have e' := hA b (by rw [q]; simp)
        subst e'
        rw [ha] at e
        cases e
        cases d
    have nsK : ∀ {b : Addr} {m : Str → Option Value}, s₁.heap.Ns b m → (hidT s₁.heap H).Ns b m := by
      rintro b m ⟨o, es, ep, e, d, r⟩
      exact ⟨o, es, ep, base_of e (noA e d), d, r⟩
    have hKb : K.In (hidT s₁.heap H) := by
      intro b o e
      refine base_of (KX b o e) ?_
      cases q : H b with
      | none => rfl
      | some u =>
        have e' := hA b (by rw [q]; simp)
        subst e'
        have z := hK (by rw [q]; simp)
        rw [z] at e
        cases e
    have hM : L2.Mod K mg (hidT s₁.heap H) := { kin := hKb, glob := nsK hns, blt := ⟨mb, nsK hb, hbb⟩, nolimit := (let ⟨mc, h1, h2⟩ := hlim; ⟨mc, nsK h1, h2⟩) }
    have e0 : Env0 P w K mg (hidT s₁.heap H) callerA [] s₁ H := { frames := rfl, mod := hM, bs := fun b o e => of_hidT e, bsz := Nat.le_of_eq (hidT_size s₁.heap H), funs := trivial, frf := fun b hb => (List.not_mem_nil hb).elim, hok := hok, bare := AllBare.of_eq hg }
    refine codeAny_mono ((F (hidT s₁.heap H) hKb (nsK hns)).run callerA [] s₁ H { pos := [.ref a] } [.ref a] [.ref a] (fun v _ => v = .bl true) (fun _ _ _ => False) rfl hr e0 (hbind s₁ (.ref a)) (.cons rfl .nil) (hsp H hO hS)) ?_
    intro r s' h
    cases r with
    | error e =>
      obtain ⟨_, _, _, _, _, _, _, _, _, _, _, _, z⟩ := (h : L2.CX P w [] H s₁ (fun _ _ _ => False) e s')
      exact z.elim
    | ok fl =>
      cases fl with
      | ret u =>
        obtain ⟨v, H', os, bare, un, hok', r', q⟩ := h
        subst q
        obtain rfl : u = .bool true := r'
        refine ⟨rfl, OldK.of_keep fun b o e => ?_, os, bare⟩
        cases q : H b with
        | none => exact un.keep b o e q (List.not_mem_nil) (List.not_mem_nil)
        | some u =>
          rcases hO b with z | ⟨ob, ys, z⟩
          · rw [q] at z; cases z
          · have g1 := (hok b _ z).1
            have g2 := (hok' b _ (un.frzs b ob _ z)).1
            rw [e] at g1
            cases g1
            exact g2
      | next => exact h.elim
      | brk => exact h.elim
      | cont => exact h.elim
  cases hk : K.lookup a with
  | none =>
    refine core (fun b => if b = a then some (.frz { cls := .type "list", data := .seq vs.toArray } (.lst (ns.map V.int))) else none) ?_ ?_ ?_ ?_ (fun _ => hk)
    · intro b
      by_cases hb : b = a
      · exact .inr ⟨_, _, if_pos hb⟩
      · exact .inl (if_neg hb)
    · exact .inl (.inr ⟨_, if_pos rfl⟩)
    · intro b u z
      by_cases hb : b = a
      · subst hb
        have z' := (if_pos rfl).symm.trans z
        cases z'
        refine ⟨ha, ?_, vs, 0, rv, ha⟩
        rw [List.length_map]; exact hl
      · have z' := (if_neg hb).symm.trans z
        cases z'
    · intro b z
      by_cases hb : b = a
      · exact hb
      · exact absurd (if_neg hb) z
  | some o =>
    have e := KX a o hk
    rw [ha] at e
    cases e
    refine core (fun _ => none) (fun _ => .inl rfl) (.inr ⟨_, vs.toArray, 0, hk, rfl, rfl, rfl, ?_, rv⟩) (fun b u z => by cases z) (fun b z => absurd rfl z) (fun z => absurd rfl z)
    rw [List.size_toArray, lenV]
    exact hl
theorem walk_ofG {l : PySem.W.OpenLaw} {n k : Nat} {q : Program} {loose : List Str} {XP : (Str → Option Value) → Heap → Prop} {YP : World → Heap → Prop} {d : DefRec} {K : Params → PySem.W.Frag} {sp : World → Sp} {x : Str} (hn : l.most = some n) (hn2 : n ≤ sizeLine) (hdf : d.params.defaults = []) (hr : Room k callerA)
    (hY : ∀ (w : World) (h : Heap), YP w h → (K w.params).In h)
    (F : ∀ (w : World) (mg : Str → Option Value) (fa : Addr) (h : Heap), (K w.params).In h → h.Ns mainGlobals mg → mg d.name = some (.ref fa) → ∃ fd, (∀ (s : Shared) (u : Value), BindsTo s fd { pos := [u] } [(x, u)]) ∧ ∀ base : Heap, (K w.params).In base → base.Ns mainGlobals mg → FnG l.prog w (K w.params) mg base k fa fd [x] (sp w))
    (hsp : ∀ (w : World) (H : Hp) (a : Addr) (ns : List Int), ns.length ≤ n → Only H → SqL (K w.params) H a (ns.map V.int) → sp w [.ref a] H (fun v _ => v = .bl true) (fun _ _ _ => False)) :
    PySem.W.WalkO q loose XP YP l.row.toRowW d [] fun f vs => call f vs :=
  Att.attach_call hn hdf fun w s₀ s₁ mg mb fa o pm cd doc a vs ns G Y ho hd hcd hmg hobj hints hlen hg => by
    have KX := hY w s₁.heap Y
    obtain ⟨fd, hb, hF⟩ := F w mg fa s₁.heap KX G.T.g hmg
    exact law_callG KX G.T.g G.T.b G.T.builtins G.T.nolimit hg hobj hints (Nat.le_trans hlen hn2) hr hF hb (fun H hO hS => hsp w H a ns hlen hO hS)
end Mw
end

section
set_option Elab.async false
set_option linter.all false
set_option autoImplicit false
set_option maxRecDepth 100000
set_option maxHeartbeats 1000000
/-! Mw13: a def by its reading over data; short words. -/
namespace Mw
open PySem PySem.Spec L2
open PyProof.Rows (envOfC)

def env0 (N : List Str) (ds : List D) : En := ds.map (fun d => some (.d d)) ++ List.replicate (N.length - ds.length) none
theorem sok_start {c : Cm} {H : Hp} {N : List Str} {vs : List V} {ds : List D} (hc : c.H0 = H) (hh : HandAt c.g H) (r : Reps c.g H vs ds) : SOK c (env0 N ds) (L2.start N vs) H := by
  have hl := r.length
  have noml : ∀ (i : Nat) (es : List D), (env0 N ds)[i]? ≠ some (some (.ml es)) := fun i es e => by
    unfold env0 at e
    by_cases hi : i < ds.length
    · rw [List.getElem?_append_left (by simpa using hi)] at e
      simp [hi] at e
    · rw [List.getElem?_append_right (by simpa using Nat.le_of_not_lt hi)] at e
      rw [List.getElem?_replicate] at e
      split at e <;> cases e
  refine ⟨hh, fun b u _ e => by rw [← hc]; exact e, ?_, fun i l e => ?_, fun i j p es fs n e1 => (noml i es e1).elim⟩
  · unfold env0 L2.start
    simp [hl]
  · unfold env0 at e
    by_cases hi : i < ds.length
    · rw [List.getElem?_append_left (by simpa using hi)] at e
      rw [List.getElem?_map, List.getElem?_eq_getElem hi] at e
      cases e
      obtain ⟨v, h1, h2⟩ := r.get (List.getElem?_eq_getElem hi)
      refine ⟨v, ?_, h2⟩
      unfold L2.start
      rw [List.getElem?_append_left (by rw [List.length_map, hl]; exact hi), List.getElem?_map, h1]
      rfl
    · rw [List.getElem?_append_right (by simpa using Nat.le_of_not_lt hi)] at e
      rw [List.getElem?_replicate] at e
      split at e <;> cases e
/-- the frame of a def's run -/
def FmOf (g : Gm) (H : Hp) (W : WX) : Fm := ⟨⟨g, H, none⟩, W⟩
/-- what is wanted of a def's body -/
def seD (Qd : PD) (Qx : PX) : SE := ⟨fun _ => Qd .non, Qd, fun _ => False, fun _ => False, fun x _ => Qx x⟩
section
variable {P : Program} {w : World} {K : PySem.W.Frag} {mg : Str → Option Value} {base : Heap} {k n : Nat} {f : Addr} {fd : FuncData} {x qual : Str} {st : Stmt} {N ps : List Str} {Γ : Addr → Gm} {cl : Cl} {s : SmS}
/-- where a def that raises nothing runs -/
abbrev XD (P : Program) (w : World) (K : PySem.W.Frag) (mg : Str → Option Value) (base : Heap) (N : List Str) (qual : Str) (sc : Scope) (f : Addr) (cdv : Value) (A : Around) (outer : List PySem.Env) (s0 : Shared) (H : Hp) (E : XK) : Cx := (cxOf (L2.CX P w) P w K mg base N qual sc f cdv A outer s0 H E).nox
theorem takesN {X : Cx} : Takes X noW := takes0
/-- THE RULE over data, nothing raised -/
theorem fngD (F : Fun K x qual st f fd) (S : FnScope N ps (defScope st)) (hn : ps.length = n)
    (hb : ∀ (hd : Addr) (H : Hp) (A : Around) (outer : List PySem.Env) (s0 : Shared) (E : XK) (cdv : Value), (A.deeper (envOfC qual (defScope st) s0.heap.objs.size f cdv)).guards = some [] → Room k (A.deeper (envOfC qual (defScope st) s0.heap.objs.size f cdv)) →
      PSs (XD P w K mg base N qual (defScope st) f cdv A outer s0 H E) (defBody st) (tS (FmOf (Γ hd) H noW) s))
    (hs : ∀ ds Qd Qx, ds.length = n → cl ds Qd Qx → s (env0 N ds) (seD Qd fun _ => False)) : FnG P w K mg base (k + 1) f fd ps (spD Γ cl n) := by
  obtain ⟨⟨oc, od, kV, doc, pm, an, cdv, ct, osl, rfl, lk, hcd⟩, kp⟩ := F
  refine fng_of lk hcd S (fun vs H Q E h => by rw [hn]; exact h.1) fun A outer sh H vs Q E hg hr h => ?_
  obtain ⟨hl, hd, ds, Qd, Qx, hh, r, hcl, hq, hx⟩ := h
  refine ⟨_, PSs.nox (hb hd H A outer sh E cdv (guards_deeper hg) hr), ?_⟩
  refine ⟨_, seD Qd fun _ => False, sok_start rfl hh r, hs ds Qd Qx (by rw [← r.length]; exact hl) hcl, ⟨fun env σ H' q _ k => ?_, fun d v H' q _ st rv => hq d v H' q st rv, fun _ _ _ q => q.elim, fun _ _ _ q => q.elim, fun xx env t dd σ H' q _ k xr => q.elim⟩⟩
  exact hq .non .non H' q k.st .non
end

/-! ### short words -/
section
variable {X : Cx} {Φ : Fm} {a b e : Expr} {sa sb : Sm} {pos : Pos}
theorem lv (i : Nat) {x : Str} (hN : X.N[i]? = some x := by rfl) (hv : Vis X.env.scope x := by first | exact .inl rfl | exact .inr (.inl rfl) | exact .inr (.inr rfl)) (hd : (x == ("__debug__" : Str)) = false := by decide) (hcd : (x == ("__classdict__" : Str)) = false := by decide) : PE X (.Name x pos) (tE Φ (vLoc i)) := ok_loc hN hv hd hcd
theorem lm (i : Nat) {x : Str} (hN : X.N[i]? = some x := by rfl) (hv : Vis X.env.scope x := by first | exact .inl rfl | exact .inr (.inl rfl) | exact .inr (.inr rfl)) (hd : (x == ("__debug__" : Str)) = false := by decide) (hcd : (x == ("__classdict__" : Str)) = false := by decide) : PE X (.Name x pos) (tR Φ (vMl i)) := ok_ml hN hv hd hcd
theorem ac {es : List Expr} {s : Sm} {ss : Sms} (ha : PE X e (tE Φ s)) (hr : PA X es (tA Φ ss)) (hs : starEach (e :: es) X.env = (false, eval e X.env) :: starEach es X.env := by rfl) : PA X (e :: es) (tA Φ (vCons s ss)) := oka_cons ha hr hs
theorem rc {es : List Expr} {s : Sm} {ss : Sms} (ha : PE X e (tR Φ s)) (hr : PA X es (tAR Φ ss)) (hs : starEach (e :: es) X.env = (false, eval e X.env) :: starEach es X.env := by rfl) : PA X (e :: es) (tAR Φ (vCons s ss)) := okr_cons ha hr hs
theorem OpR.lk {op : Value → Value → Sem Value} {r : R2} (h : OpR X op r) : OpR X op (fun x y H Q => r x y H (Lk Q)) := fun pins s σ H x y v u Q I rx ry q => wpAny_mono (h pins s σ H x y v u (Lk Q) I rx ry q) (fun _ _ z => EP.lk z) fun _ _ z => z
/-- a comparison as a test -/
theorem tcmp {op : CmpOp} {r : R2} {f : D → D → PD → Prop} (ho : OpR X (compareOp op) r) (hs : Serves2 Φ r f) (hb1 : ∀ x y Q, f x y Q → f x y fun d => Q d ∧ ∃ c, d = .bl c) (ha : PE X a (tR Φ sa)) (hb : PE X b (tR Φ sb)) (hk : behindInMarks op b = false) : PT X (.Compare a [op] [b] pos) (tB Φ (bOf (vBin f sa sb))) := by
  refine PT.imp (pt_cmpR (OpR.lk ho) ha hb hk) fun σ H Q h => ?_
  obtain ⟨env, Qd, Qx, k, h, w, wx⟩ := h
  refine ⟨env, _, Qx, k, h, fun d x H1 h1 s1 r1 => ?_, wx⟩
  refine ⟨env, _, Qx, k.step s1, h1, fun d2 y H2 h2 s2 r2 => ?_, wx.step s1⟩
  have st := s1.trans s2
  refine hs x y d d2 H2 _ _ st.hand (r1.step s2 s1.hand) r2 (hb1 _ _ _ h2) fun z v H' q s rz => ?_
  obtain ⟨⟨k, hk, q⟩, c, rfl⟩ := q
  cases hk
  cases rz
  exact ⟨_, rfl, w _ H' q (st.trans s)⟩
theorem fEq_b (x y : D) (Q : PD) (h : fEq x y Q) : fEq x y fun d => Q d ∧ ∃ c, d = .bl c := ⟨h.1, h.2.1, h.2.2, _, rfl⟩
theorem fNe_b (x y : D) (Q : PD) (h : fNe x y Q) : fNe x y fun d => Q d ∧ ∃ c, d = .bl c := ⟨h.1, h.2.1, h.2.2, _, rfl⟩
theorem fOwn_b {op : Bool → Bool} {has : Nat → Prop} {eqI : Nat → List (Str × D) → D → Option Bool} (x y : D) (Q : PD) (h : fOwn op has eqI x y Q) : fOwn op has eqI x y fun d => Q d ∧ ∃ c, d = .bl c :=
  let ⟨c, c', fs, gs, b, h1, h2, h3, h4, h5, q⟩ := h; ⟨c, c', fs, gs, b, h1, h2, h3, h4, h5, q, _, rfl⟩
theorem tne (hK : X.K = Φ.g.K) (hu : X.A.units + 65 < cLine) (ha : PE X a (tR Φ sa)) (hb : PE X b (tR Φ sb)) : PT X (.Compare a [.NotEq] [b] pos) (tB Φ (bOf (vBin fNe sa sb))) := tcmp (op_neD (by omega)) (sv_ne hK) fNe_b ha hb (nomark _)
theorem teq (hK : X.K = Φ.g.K) (hu : X.A.units + 65 < cLine) (ha : PE X a (tR Φ sa)) (hb : PE X b (tR Φ sb)) : PT X (.Compare a [.Eq] [b] pos) (tB Φ (bOf (vBin fEq sa sb))) := tcmp (op_eqD (by omega)) (sv_eq hK) fEq_b ha hb (nomark _)
/-- a product of ints -/
def fMulI (x y : D) (Q : PD) : Prop := ∃ i j, x = .int i ∧ y = .int j ∧ CMul i j ∧ Q (.int (i * j))
theorem ok_mulI (ha : PE X a (tR Φ sa)) (hb : PE X b (tR Φ sb)) : PE X (.BinOp a .Mult b pos) (tE Φ (vBin fMulI sa sb)) := ok_bin op_mul (sv_int (fun i j H => .int _) fun d e Q h => h) ha hb
theorem okw_or1 {t : SmB} (h : PT X a (tB Φ t)) : PW X (.BoolOp .Or [a] pos) (tB Φ t) := pw_or1 h
theorem okw_and1 {t : SmB} (h : PT X a (tB Φ t)) : PW X (.BoolOp .And [a] pos) (tB Φ t) := pw_and1 h
end
end Mw
end

section
set_option Elab.async false
set_option linter.all false
set_option autoImplicit false
set_option maxRecDepth 100000
set_option maxHeartbeats 1000000
/-! Mw14: calls of no argument, own lists made, walks by an invariant, texts compared. -/
namespace Mw
open PySem PySem.Spec L2
section
variable {X : Cx} {Φ : Fm} {Γ : Addr → Gm} {cl : Cl} {k : Nat} {f : Addr} {fd : FuncData} {x : Str} {p pos : Pos} {e a b : Expr} {es : List Expr} {ss : Sms} {sa sb : Sm}
theorem ok_call0 (hΓ : Φ.g = Γ Φ.g.hd) (tk : Takes X Φ.W) (F : FnG X.prog X.w X.K X.mg X.base k f fd [] (spD Γ cl 0)) (hgd : X.A.guards = some []) (hr : Room k X.A) (hg : Gl X x) (hm : X.mg x = some (.ref f)) (hk : PySem.W.keepIn X.K (.ref f) = true)
    (hb : Binds X.K fd [] []) (hdb : (x == ("__debug__" : Str)) = false) : PE X (.Call (.Name x p) [] [] pos) (tE Φ (vCall cl [] vNil)) := by
  refine PE.imp (pe_fng0 F hgd hr hg hm hk hb .nil (fun σ => passAt tk σ) hdb) fun σ H Q h => ?_
  obtain ⟨env, Qd, Qx, kk, h, w, wx⟩ := h
  refine ⟨rfl, Φ.g.hd, [], Qd, Qx, by rw [← hΓ]; exact kk.hand, .nil, h, fun d v H' q s r => ?_, fun xx t dd H' q s r => ?_⟩
  · rw [← hΓ] at s r
    exact w d v H' q s r
  · rw [← hΓ] at s r
    exact wx.x xx t dd H' q s r
theorem ok_newl (h : PA X es (tA Φ ss)) : PE X (.List es pos) (tN Φ (fun env Q Qx => ss env (fun ds => ds.length ≤ sizeLine ∧ Q ds) Qx)) := PE.imp (pe_lst h) fun σ H Q h => by
  obtain ⟨env, Qd, Qx, k, h, w, wx⟩ := h
  exact ⟨env, _, Qx, k, h, fun ds vs H1 h1 s1 r1 => ⟨by rw [r1.length]; exact h1.1, fun p hp => w ds p vs H1 h1.2 s1 hp r1⟩, wx⟩
/-- list(x), the name's own -/
def nList (a : Sm) : SmL := fun env Q Qx => a env (fun d => seqI d Q) Qx
theorem ok_newlist (hK : X.K = Φ.g.K) (hg : Gl X "list") (hm : X.mg "list" = none) (hv : bootBuiltins "list" = some (.type "list")) (ha : PE X a (tR Φ sa)) (hs : starEach [a] X.env = [(false, eval a X.env)] := by rfl) (hpl : (backTo pos (starEach ([] : List Expr) X.env)).any (·.1) = false := by rfl) :
    PE X (.Call (.Name "list" p) [a] [] pos) (tN Φ (nList sa)) := PE.imp (pe_callTy call_list_of hg hm hv (pa_cons ha pa_nil hs) (by decide) (by decide) hs hpl) fun σ H Q h => by
  obtain ⟨env, Qd, Qx, k, h, w, wx⟩ := h
  refine ⟨env, _, Qx, k, h, fun d v H1 q s1 r => ?_, wx⟩
  cases r
  case lst p xs ds q1 r => exact ⟨p, xs, rfl, .inl (by rw [hK]; exact q1.sq), fun l hl => w ds l xs H1 q s1 hl r⟩
  case tup p xs ds q1 r => exact ⟨p, xs, rfl, .inr (by rw [hK]; exact q1), fun l hl => w ds l xs H1 q s1 hl r⟩
  all_goals exact q.elim
/-- texts -/
def fNeS : D → D → PD → Prop
  | .str x, .str y, Q => Q (.bl (!decide (x = y)))
  | _, _, _ => False
theorem sv_neS : Serves2 Φ rNe fNeS := by
  intro x y d e H Qd Q a rx ry h w
  cases rx <;> cases ry <;> try exact h.elim
  case str.str u v =>
    refine ⟨rfl, .inl (w _ _ _ h (Step.refl a) ?_)⟩
    have e : decide (V.str u = V.str v) = decide (u = v) := by simp
    rw [e]
    exact .bl _
theorem fNeS_b (x y : D) (Q : PD) (h : fNeS x y Q) : fNeS x y fun d => Q d ∧ ∃ c, d = .bl c := by
  cases x <;> cases y <;> try exact h.elim
  exact ⟨h, _, rfl⟩
theorem tneS (ha : PE X a (tR Φ sa)) (hb : PE X b (tR Φ sb)) : PT X (.Compare a [.NotEq] [b] pos) (tB Φ (bOf (vBin fNeS sa sb))) := tcmp op_ne sv_neS fNeS_b ha hb (nomark _)
theorem PSs.ex {α : Type} {es : List Stmt} {t : α → TS} (h : ∀ i, PSs X es (t i)) : PSs X es (fun D σ H => ∃ i, t i D σ H) := ⟨fun pins s σ H D I q => by
  obtain ⟨i, q⟩ := q
  exact (h i).run pins s σ H D I q⟩
end
/-- a walk by an invariant -/
theorem forD_inv {i : Nat} {b : SmS} {E : SE} (I : Nat → En → Prop) (all : List D) (hb : ∀ (j : Nat) (d : D) (env : En) (K : En → Prop), all[j]? = some d → I j env → (∀ env', I (j + 1) env' → K env') → b (env.set i (some (.d d))) { nx := K, rt := E.rt, bk := E.nx, ct := K, xx := E.xx })
    (he : ∀ env, I all.length env → E.nx env) : ∀ (n : Nat) (env : En), n ≤ all.length → I n env → forD (gN i) b (all.drop n) env E := by
  have key : ∀ (m n : Nat) (env : En), m = all.length - n → n ≤ all.length → I n env → forD (gN i) b (all.drop n) env E := by
    intro m
    induction m with
    | zero =>
      intro n env hm hn h
      have e : n = all.length := by omega
      subst e
      rw [List.drop_length]
      exact he env h
    | succ m ih =>
      intro n env hm hn h
      have hlt : n < all.length := by omega
      rw [List.drop_eq_getElem_cons hlt]
      exact hb n _ env _ (List.getElem?_eq_getElem hlt) h fun env' h' => ih (n + 1) env' (by omega) (by omega) h'
  exact fun n env hn h => key _ n env rfl hn h
theorem forD_inv0 {i : Nat} {b : SmS} {E : SE} {all : List D} {env : En} (I : Nat → En → Prop) (h0 : I 0 env) (hb : ∀ (j : Nat) (d : D) (env : En) (K : En → Prop), all[j]? = some d → I j env → (∀ env', I (j + 1) env' → K env') → b (env.set i (some (.d d))) { nx := K, rt := E.rt, bk := E.nx, ct := K, xx := E.xx })
    (he : ∀ env, I all.length env → E.nx env) : forD (gN i) b all env E := forD_inv I all hb he 0 env (Nat.zero_le _) h0
theorem rng_get {n j : Nat} {d : D} (h : (rngD 0 n)[j]? = some d) : j < n ∧ d = .int j := by
  unfold rngD at h
  rw [List.getElem?_map] at h
  by_cases hj : j < n
  · rw [List.getElem?_range hj] at h
    refine ⟨hj, ?_⟩
    cases h
    simp
  · rw [List.getElem?_eq_none (by simp; omega)] at h
    cases h
theorem rng_len {n : Nat} : (rngD 0 n).length = n := by unfold rngD; simp
end Mw
end

section
set_option Elab.async false
set_option linter.all false
set_option autoImplicit false
set_option maxRecDepth 100000
set_option maxHeartbeats 2000000
/-! Kh: the law's hand. -/
namespace K07
open PySem PySem.Spec L2 Mw
open PyProof.Rows (envOfC)
def topS (i : Nat) : Stmt := PySem.Challenge.pw_meetwhere_k07_results_equal_by_all_attri.main.body.getD i (.Pass ⟨0, 0, 0, 0⟩)
abbrev sHand : Stmt := topS 31
abbrev sMixed : Stmt := topS 32
abbrev sTake : Stmt := topS 33
def wordH (_ : List Int) (i _ _ : Int) : Prop := 0 ≤ i
def GmOf (K : PySem.W.Frag) (cs : Nat → Addr) (hd : Addr) : Gm := ⟨K, hd, wordH, cs⟩
section
variable {P : Program} {w : World} {K : PySem.W.Frag} {mg : Str → Option Value} {base : Heap} {cs : Nat → Addr}
theorem scMixed : FnScope ["_law_number", "_law_turn", "_law_once", "_law_twice"] ["_law_number", "_law_turn"] (defScope sMixed) := ⟨rfl, rfl, rfl, by decide +kernel, rfl, by decide +kernel, by decide +kernel⟩
def spMixed : Sp := fun vs H Q _ => ∃ a b : Int, vs = [.int a, .int b] ∧ ∀ v : Int, Q (.int v) H
theorem ok_mixed {f : Addr} {fd : FuncData} (F : Fun K "_law_mixed" "_law_mixed" sMixed f fd) (mi : mg "int" = none) : FnOk P w K mg base CX0 1 f fd ["_law_number", "_law_turn"] spMixed := by
  refine F.ok scMixed (fun vs H Q E h => ?_) (fun cdv A outer s H vs Q E hr h => ?_)
  · obtain ⟨a, b, rfl, _⟩ := h; rfl
  · obtain ⟨a, b, rfl, q⟩ := h
    refine ⟨_, pss_cons (ps_set (i := 2) scMixed.nd rfl (.inl rfl) (pe_op op_mod (pe_callTy call_int1 (by rfl) mi (by rfl) (pa_cons (pe_op op_add (pe_op op_add (pe_op op_mul (pv 0) pe_int) (pe_op op_mul (pv 1) pe_int)) pe_int) pa_nil)) pe_int))
      (pss_cons (ps_set (i := 3) scMixed.nd rfl (.inl rfl) (pe_op op_mod (pe_callTy call_int1 (by rfl) mi (by rfl) (pa_cons (pe_op op_add (pe_op op_add (pe_op op_mul (pv 2) (pv 2)) (pe_op op_mul (pv 1) pe_int)) (pe_op op_fdiv (pv 2) pe_int)) pa_nil)) pe_int))
      (pss_one (ps_ret (pe_op op_fdiv (pe_callTy call_int1 (by rfl) mi (by rfl) (pa_cons (pe_op op_mod (pe_callTy call_int1 (by rfl) mi (by rfl) (pa_cons (pe_op op_add (pe_op op_mul (pv 3) pe_int) (pe_op op_fdiv (pv 2) pe_int)) pa_nil)) pe_int) pa_nil)) pe_int)))), ?_⟩
    have small : ∀ {x m : Int}, 0 < m → m < 2 ^ 64 → -2 ^ 64 < x % m ∧ x % m < 2 ^ 64 := fun {x m} h1 h2 => by
      have a1 := Int.emod_nonneg x (Int.ne_of_gt h1)
      have a2 := Int.emod_lt_of_pos x h1
      omega
    refine ⟨.int a, rfl, a, 48271, rfl, rfl, .inr ⟨by decide, by decide⟩, .int b, rfl, b, 7919, rfl, rfl, .inr ⟨by decide, by decide⟩, _, _, rfl, rfl, _, _, rfl, rfl, .inl ⟨_, rfl, _, _, rfl, rfl, (by decide : (0 : Int) < 2147483399), ?_⟩⟩
    refine ⟨_, rfl, _, rfl, _, _, rfl, rfl, .inl (small (by decide) (by decide)), .int b, rfl, b, 92821, rfl, rfl, .inr ⟨by decide, by decide⟩, _, _, rfl, rfl, _, rfl, _, _, rfl, rfl, ⟨by decide, by decide⟩, _, _, rfl, rfl, .inl ⟨_, rfl, _, _, rfl, rfl, (by decide : (0 : Int) < 2147483629), ?_⟩⟩
    refine ⟨_, rfl, _, _, rfl, rfl, .inr ⟨by decide, by decide⟩, _, rfl, _, _, rfl, rfl, ⟨by decide, by decide⟩, _, _, rfl, rfl, .inl ⟨_, rfl, _, _, rfl, rfl, (by decide : (0 : Int) < 2147483587), .inl ⟨_, rfl, _, _, rfl, rfl, ⟨by decide, by decide⟩, ?_⟩⟩⟩
    exact q _
theorem scTake : FnScope ["_law_hand_here", "_law_many", "_law_cell", "_law_rest"] ["_law_hand_here", "_law_many"] (defScope sTake) := ⟨rfl, rfl, rfl, by decide +kernel, rfl, by decide +kernel, by decide +kernel⟩
/-- a draw: any whole number below many -/
def spTake (Γ : Addr → Gm) : Sp := fun vs H Q _ => ∃ hd m, vs = [.ref hd, .int m] ∧ (Γ hd).hd = hd ∧ 0 < m ∧ m < 1073741824 ∧ HandAt (Γ hd) H ∧ ∀ v H', 0 ≤ v → v < m → Step (Γ hd) H H' → Q (.int v) H'
/-- the hand's parts at a heap -/
def Hd (hd c : Addr) (ns : List Int) (i r t : Int) (H : Hp) : Prop := H hd = some (.lst [.ref c, .int i, .int r, .int t]) ∧ FzL H c (ns.map V.int)
theorem Hd.put {hd c : Addr} {ns : List Int} {i r t i' r' t' : Int} {H : Hp} (h : Hd hd c ns i r t H) : Hd hd c ns i' r' t' (upd H hd (.lst [.ref c, .int i', .int r', .int t'])) := by
  obtain ⟨h1, o, h2⟩ := h
  refine ⟨upd_same, o, ?_⟩
  rw [upd_ne]
  · exact h2
  · intro z
    subst z
    rw [h1] at h2
    cases h2
theorem Hd.step {K : PySem.W.Frag} {cs : Nat → Addr} {hd c : Addr} {ns : List Int} {i r t i' r' t' : Int} {H H0 : Hp} (h : Hd hd c ns i r t H) (s : ∀ b u, b ≠ hd → H0 b = some u → H b = some u) : ∀ b u, b ≠ hd → H0 b = some u → upd H hd (.lst [.ref c, .int i', .int r', .int t']) b = some u := fun b u n e => by
  rw [upd_ne n]
  exact s b u n e
theorem Hd.at {K : PySem.W.Frag} {cs : Nat → Addr} {hd c : Addr} {ns : List Int} {i r t : Int} {H : Hp} (h : Hd hd c ns i r t H) (hi : 0 ≤ i) : HandAt (GmOf K cs hd) H := ⟨c, ns, i, r, t, h.1, h.2, hi⟩
theorem Hd.seq {K : PySem.W.Frag} {hd c : Addr} {ns : List Int} {i r t : Int} {H : Hp} (h : Hd hd c ns i r t H) : SqL K H hd [.ref c, .int i, .int r, .int t] := .inl (.inl h.1)
theorem ok_take {f fM : Addr} {fd fdM : FuncData} (F : Fun K "_law_take" "_law_take" sTake f fd) (GM : FnOk P w K mg base CX0 1 fM fdM ["_law_number", "_law_turn"] spMixed) (gM : mg "_law_mixed" = some (.ref fM)) (kM : PySem.W.keepIn K (.ref fM) = true) (bM : Binds K fdM ["_law_number", "_law_turn"] []) (mi : mg "int" = none) (ml : mg "len" = none) :
    FnOk P w K mg base CX0 2 f fd ["_law_hand_here", "_law_many"] (spTake (GmOf K cs)) := by
  refine F.ok scTake (fun vs H Q E h => ?_) (fun cdv A outer s H vs Q E hr h => ?_)
  · obtain ⟨hd, m, rfl, _⟩ := h; rfl
  · obtain ⟨hd, m, rfl, _, m0, m1, hh, q⟩ := h
    obtain ⟨c, ns, i, r, t, e1, e2, w0⟩ := hh
    have h0 : Hd hd c ns i r t H := ⟨e1, e2⟩
    have vb : ∀ x : Int, 0 ≤ x % m ∧ x % m < m := fun x => ⟨Int.emod_nonneg x (Int.ne_of_gt m0), Int.emod_lt_of_pos x m0⟩
    obtain ⟨t2, p2, q2⟩ : ∃ t2, PSs ((cxOf CX0 P w K mg base ["_law_hand_here", "_law_many", "_law_cell", "_law_rest"] "_law_take" (defScope sTake) f cdv A outer s H E).nox) (defBody sTake).tail t2 ∧
        ∀ (H1 : Hp) (i' r' t' : Int) (v2 : Option V), Hd hd c ns i' r' t' H1 → 0 ≤ i' → (∀ b u, b ≠ hd → H b = some u → H1 b = some u) → t2 { nx := fun x H' => Q V.non H', rt := Q } [some (.ref hd), some (.int m), v2, none] H1 := by
      refine ⟨_, pss_cons (ps_if (pt_cmpR op_gt (pe_ix ix_list (pv 0) pe_int (fun _ _ => rfl)) pe_int (nomark _))
        (pss_cons (ps_set (i := 3) scTake.nd rfl (.inl rfl) (pe_ix ix_list (pv 0) pe_int (fun _ _ => rfl)))
        (pss_cons (ps_asg (pe_op op_fdiv (pe_callTy call_int1 (by rfl) mi (by rfl) (pa_cons (pv 3) pa_nil)) (pv 1)) (pg_sub (pv 0) pe_int set_list))
        (pss_one (ps_ret (pe_op op_mod (pe_callTy call_int1 (by rfl) mi (by rfl) (pa_cons (pv 3) pa_nil)) (pv 1)))))) pss_nil)
        (pss_cons (ps_asg (pe_op op_mod (pe_callTy call_int1 (by rfl) mi (by rfl) (pa_cons (pe_op op_add (pe_ix ix_list (pv 0) pe_int (fun _ _ => rfl)) pe_int) pa_nil)) pe_int) (pg_sub (pv 0) pe_int set_list))
        (pss_one (ps_ret (pe_op op_mod (pe_callTy call_int1 (by rfl) mi (by rfl) (pa_cons (pe_call GM (hr.mono (by decide)) (by rfl) gM kM bM .nil pass0 (pa_cons (pe_ix ix_list (pv 0) pe_int (fun _ _ => rfl)) (pa_cons (pe_ix ix_list (pv 0) pe_int (fun _ _ => rfl)) pa_nil))) pa_nil)) (pv 1))))), ?_⟩
      intro H1 i' r' t' v2 h1 wi sm
      refine ⟨.ref hd, rfl, hd, _, 2, .int r', rfl, rfl, h1.seq, atI_nat (j := 2) rfl, _, _, rfl, rfl, _, rfl, ?_⟩
      refine ite2 (fun e => ?_) (fun e => ?_)
      · -- rest
        have h2 := h1.put (i' := i') (r' := r' / m) (t' := t')
        refine ⟨.ref hd, rfl, hd, _, 2, .int r', rfl, rfl, h1.seq, atI_nat (j := 2) rfl, ?_⟩
        refine ⟨_, rfl, .inl ⟨_, rfl, .int m, rfl, _, _, rfl, rfl, ⟨m0, m1⟩, .ref hd, rfl, hd, _, 2, 2, rfl, rfl, h1.1, rfl, ?_⟩⟩
        refine ⟨_, rfl, .inl ⟨_, rfl, .int m, rfl, _, _, rfl, rfl, m0, ?_⟩⟩
        exact q _ _ (vb _).1 (vb _).2 ⟨h1.step (K := K) (cs := cs) sm, h2.at wi⟩
      · have h2 := h1.put (i' := i') (r' := r') (t' := (t' + 1) % 2147483549)
        refine ⟨.ref hd, rfl, hd, _, 3, .int t', rfl, rfl, h1.seq, atI_nat (j := 3) rfl, _, _, rfl, rfl, .inl ⟨_, rfl, _, _, rfl, rfl, (by decide : (0 : Int) < 2147483549), .ref hd, rfl, hd, _, 3, 3, rfl, rfl, h1.1, rfl, ?_⟩⟩
        refine ⟨.ref hd, rfl, hd, _, 3, .int _, rfl, rfl, h2.seq, atI_nat (j := 3) rfl, .ref hd, rfl, hd, _, 1, .int i', rfl, rfl, h2.seq, atI_nat (j := 1) rfl, _, _, rfl, fun v => .inl ⟨_, rfl, .int m, rfl, _, _, rfl, rfl, m0, ?_⟩⟩
        exact q _ _ (vb _).1 (vb _).2 ⟨h1.step (K := K) (cs := cs) sm, h2.at wi⟩
    refine ⟨_, pss_cons (ps_if ((pw_and (pt_cmpR op_eq (pe_ix ix_list (pv 0) pe_int (fun _ _ => rfl)) pe_int (nomark _)) (pw_and1 (pt_cmpR op_lt (pe_ix ix_list (pv 0) pe_int (fun _ _ => rfl)) (pe_callB call_len_seq (by rfl) ml PySem.boot_len (pa_cons (pe_ix ix_list (pv 0) pe_int (fun _ _ => rfl)) pa_nil)) (nomark _)))).pt)
        (pss_cons (ps_set (i := 2) scTake.nd rfl (.inl rfl) (pe_ix ix_list (pe_ix ix_list (pv 0) pe_int (fun _ _ => rfl)) (pe_ix ix_list (pv 0) pe_int (fun _ _ => rfl)) (fun _ _ => rfl)))
        (pss_cons (ps_asg (pe_op op_add (pe_ix ix_list (pv 0) pe_int (fun _ _ => rfl)) pe_int) (pg_sub (pv 0) pe_int set_list))
        (pss_cons (ps_if (pt_cmpR op_lt (pv 2) (pe_op op_pow pe_int pe_int) (nomark _))
          (pss_one (ps_ret (pe_op op_mod (pe_callTy call_int1 (by rfl) mi (by rfl) (pa_cons (pe_call GM (hr.mono (by decide)) (by rfl) gM kM bM .nil pass0 (pa_cons (pe_op op_mod (pe_callTy call_int1 (by rfl) mi (by rfl) (pa_cons (pv 2) pa_nil)) pe_int) (pa_cons (pe_ix ix_list (pv 0) pe_int (fun _ _ => rfl)) pa_nil))) pa_nil)) (pv 1)))) pss_nil)
        (pss_one (ps_asg (pv 2) (pg_sub (pv 0) pe_int set_list)))))) pss_nil) p2, ?_⟩
    refine ⟨.ref hd, rfl, hd, _, 2, .int r, rfl, rfl, h0.seq, atI_nat (j := 2) rfl, rfl, _, rfl, ite2 (fun ea => ?_) (fun ea => ?_)⟩
    · refine ⟨.ref hd, rfl, hd, _, 1, .int i, rfl, rfl, h0.seq, atI_nat (j := 1) rfl, .ref hd, rfl, hd, _, 0, .ref c, rfl, rfl, h0.seq, atI_nat (j := 0) rfl, c, _, rfl, .inl e2.sq, _, _, rfl, rfl, _, rfl, ite2 (fun eb => ?_) (fun eb => ?_)⟩
      · have hl : i < (ns.map V.int).length := of_decide_eq_true eb
        rw [List.length_map] at hl
        have w0' : 0 ≤ i := w0
        obtain ⟨j, ej⟩ : ∃ j : Nat, i = (j : Int) := ⟨i.toNat, by omega⟩
        have hin : j < ns.length := by omega
        obtain ⟨x, hx⟩ : ∃ x, ns[j]? = some x := ⟨_, List.getElem?_eq_getElem hin⟩
        have at1 : atI (ns.map V.int) i = some (.int x) := by
          rw [ej]
          refine atI_nat (j := j) ?_
          rw [List.getElem?_map, hx]
          rfl
        have h2 := h0.put (i' := i + 1) (r' := r) (t' := t)
        have wi : 0 ≤ i + 1 := by omega
        refine ⟨.ref hd, rfl, hd, _, 0, .ref c, rfl, rfl, h0.seq, atI_nat (j := 0) rfl, .ref hd, rfl, hd, _, 1, .int i, rfl, rfl, h0.seq, atI_nat (j := 1) rfl, c, _, i, _, rfl, rfl, e2.sq, at1, ?_⟩
        refine ⟨.ref hd, rfl, hd, _, 1, .int i, rfl, rfl, h0.seq, atI_nat (j := 1) rfl, _, _, rfl, rfl, .ref hd, rfl, hd, _, 1, 1, rfl, rfl, h0.1, rfl, ?_⟩
        refine ⟨_, rfl, _, _, rfl, rfl, ⟨by decide, by decide, by decide⟩, _, _, rfl, rfl, _, rfl, ite2 (fun ec => ?_) (fun ec => ?_)⟩
        · refine ⟨_, rfl, .inl ⟨_, rfl, _, _, rfl, rfl, (by decide : (0 : Int) < 2147483399), .ref hd, rfl, hd, _, 1, .int (i + 1), rfl, rfl, h2.seq, atI_nat (j := 1) rfl, _, _, rfl, fun v => .inl ⟨_, rfl, .int m, rfl, _, _, rfl, rfl, m0, ?_⟩⟩⟩
          exact q _ _ (vb _).1 (vb _).2 ⟨h0.step (K := K) (cs := cs) (fun b u _ e => e), h2.at wi⟩
        · have h3 := h2.put (i' := i + 1) (r' := x) (t' := t)
          refine ⟨_, rfl, .ref hd, rfl, hd, _, 2, 2, rfl, rfl, h2.1, rfl, ?_⟩
          exact q2 _ _ _ _ _ h3 wi (h2.step (K := K) (cs := cs) (h0.step (K := K) (cs := cs) (fun b u _ e => e)))
      · exact q2 _ _ _ _ _ h0 w0 (fun b u _ e => e)
    · exact q2 _ _ _ _ _ h0 w0 (fun b u _ e => e)
theorem pss_frz {X : Cx} {rest : List Stmt} {t : TS} (h : PSs X rest t) : PSs X rest (fun D σ H => ∃ p xs, H p = some (.lst xs) ∧ ∀ o, t D σ (upd H p (.frz o (.lst xs)))) := ⟨fun pins s σ H D I q => by
  obtain ⟨p, xs, hp, q⟩ := q
  obtain ⟨o, I'⟩ := I.lock hp trivial
  exact h.run pins s σ _ D I' (q o)⟩
theorem scHand : FnScope ["_law_script", "_law_total", "_law_cells", "_law_cell"] ["_law_script"] (defScope sHand) := ⟨rfl, rfl, rfl, by decide +kernel, rfl, by decide +kernel, by decide +kernel⟩
def spHand (K : PySem.W.Frag) (Γ : Addr → Gm) : Sp := fun vs H Q _ => ∃ (a : Addr) (ns : List Int), vs = [.ref a] ∧ SqL K H a (ns.map V.int) ∧ ns.length ≤ 1000 ∧ ∀ hd H', H hd = none → (∀ b u, H b = some u → H' b = some u) → HandAt (Γ hd) H' → Q (.ref hd) H'
theorem ok_hand {f : Addr} {fd : FuncData} (F : Fun K "_law_hand" "_law_hand" sHand f fd) (mi : mg "int" = none) (ml : mg "len" = none) (ma : mg "abs" = none) : FnOk P w K mg base CX0 1 f fd ["_law_script"] (spHand K (GmOf K cs)) := by
  refine F.ok scHand (fun vs H Q E h => ?_) (fun cdv A outer s H vs Q E hr h => ?_)
  · obtain ⟨a, ns, rfl, _⟩ := h; rfl
  · obtain ⟨a, ns, rfl, hS, hlen, q⟩ := h
    refine ⟨_, pss_cons (ps_set (i := 1) scHand.nd rfl (.inl rfl) (pe_op op_add (pe_callB call_len_seq (by rfl) ml PySem.boot_len (pa_cons (pv 0) pa_nil)) pe_int))
      (pss_cons (ps_set (i := 2) scHand.nd rfl (.inl rfl) (pe_lst pa_nil))
      (pss_cons (ps_for PassesOwn.never rfl (pi_list (pv 0)) (pg_name (i := 3) scHand.nd rfl (.inl rfl))
        (pss_cons (ps_set (i := 1) scHand.nd rfl (.inl rfl) (pe_op op_mod (pe_callTy call_int1 (by rfl) mi (by rfl) (pa_cons (pe_op op_add (pe_op op_mul (pv 1) pe_int) (pe_callTy call_int1 (by rfl) mi (by rfl) (pa_cons (pv 3) pa_nil))) pa_nil)) pe_int))
        (pss_one (ps_expr (pe_bm PySem.F.plainAttrs_list PySem.F.slot_list_append PySem.F.type_list_append mt_append (pv 2) (pa_cons (pe_callB call_abs (by rfl) ma (by rfl) (pa_cons (pe_callTy call_int1 (by rfl) mi (by rfl) (pa_cons (pv 3) pa_nil)) pa_nil)) pa_nil))))))
      (pss_frz (pss_one (ps_ret (pe_lst (pa_cons (pv 2) (pa_cons pe_int (pa_cons pe_int (pa_cons (pv 1) pa_nil)))))))))), ?_⟩
    refine ⟨.ref a, rfl, a, _, rfl, .inl hS, _, _, rfl, rfl, Nat.zero_le _, fun c nc => ?_⟩
    have sm0 : ∀ b u, H b = some u → upd H c (.lst []) b = some u := upd_keeps nc
    have same_sq : ∀ {H1 : Hp} {xs : List V}, (∀ b u, H b = some u → H1 b = some u) → SqL K H a xs → SqL K H1 a xs := fun {H1 xs} sm h => by
      rcases h with (h | ⟨o, h⟩) | h
      · exact .inl (.inl (sm _ _ h))
      · exact .inl (.inr ⟨o, sm _ _ h⟩)
      · exact .inr h
    refine ⟨.ref a, rfl, a, rfl, ⟨_, same_sq sm0 hS⟩, for_list (K := K) (a := a) (xs := ns.map V.int) (fun i σ H' => ∃ (t : Int) (ms : List Int) (v : Option V), σ = [some (.ref a), some (.int t), some (.ref c), v] ∧ H' c = some (.lst (ms.map V.int)) ∧ ms.length = i ∧ ∀ b u, H b = some u → H' b = some u)
      ⟨_, [], none, rfl, upd_same, rfl, sm0⟩ (fun i σ H' _ ⟨_, _, _, _, _, _, sm⟩ => same_sq sm hS) ?_ ?_⟩
    · rintro i y σ H' hi ⟨t, ms, v, rfl, hc, hl, sm⟩
      obtain ⟨z, hz, rfl⟩ : ∃ z, ns[i]? = some z ∧ y = V.int z := by
        rw [List.getElem?_map] at hi
        cases e : ns[i]? with
        | none => rw [e] at hi; cases hi
        | some z => rw [e] at hi; exact ⟨z, rfl, (Option.some.inj hi).symm⟩
      have hil : i < ns.length := lt_of_get hz
      refine ⟨_, rfl, t, 1709, rfl, rfl, .inr ⟨by decide, by decide⟩, _, rfl, .inl ⟨z, rfl, _, _, rfl, rfl, .inl ⟨_, rfl, _, _, rfl, rfl, (by decide : (0 : Int) < 2147483549), ?_⟩⟩⟩
      refine ⟨.ref c, rfl, .inl ⟨rfl, _, .inl (.inl hc)⟩, _, rfl, .inl ⟨z, rfl, z, rfl, c, _, _, rfl, rfl, hc, ?_, ?_⟩⟩
      · rw [List.length_map, hl]
        exact Nat.lt_of_lt_of_le (Nat.lt_of_lt_of_le hil hlen) (by rw [sizeLine_eq]; decide)
      · refine ⟨_, ms ++ [if z < 0 then -z else z], some (.int z), rfl, ?_, by simp [hl], fun b u e => ?_⟩
        · rw [upd_same, List.map_append]; rfl
        · rw [upd_ne]
          · exact sm b u e
          · intro q
            subst q
            rw [nc] at e
            cases e
    · rintro σ H' ⟨t, ms, v, rfl, hc, hl, sm⟩
      refine ⟨c, _, hc, fun o => ⟨.ref c, rfl, .int t, rfl, (by show 4 ≤ sizeLine; rw [sizeLine_eq]; decide), fun hd nhd => ?_⟩⟩
      have sm1 : ∀ b u, H b = some u → upd H' c (.frz o (.lst (ms.map V.int))) b = some u := fun b u e => by
        rw [upd_ne]
        · exact sm b u e
        · intro q
          subst q
          rw [nc] at e
          cases e
      have nhc : c ≠ hd := fun z => by
        subst z
        rw [upd_same] at nhd
        cases nhd
      have nH : H hd = none := by
        cases e : H hd with
        | none => rfl
        | some u =>
          have z := sm1 hd u e
          rw [nhd] at z
          cases z
      refine q hd _ nH (fun b u e => ?_) ⟨c, ms, 0, 0, t, upd_same, ⟨o, ?_⟩, Int.le_refl 0⟩
      · rw [upd_ne (ne_of_none (sm1 b u e) nhd)]
        exact sm1 b u e
      · rw [upd_ne nhc]
        exact upd_same
end
end K07
end

section
set_option Elab.async false
set_option linter.all false
set_option autoImplicit false
set_option maxRecDepth 100000
set_option maxHeartbeats 2000000
/-! K7c: the classes. -/
namespace K07
open PySem PySem.Spec L2 Mw
open PyProof.Rows (envOfC)
def clsB : Stmt → List Stmt
  | .ClassDef _ _ _ b _ _ _ _ _ _ _ => b
  | _ => []
abbrev mI (i : Nat) : Stmt := (clsB (topS i)).getD 0 (.Pass ⟨0, 0, 0, 0⟩)
abbrev mE (i : Nat) : Stmt := (clsB (topS i)).getD 1 (.Pass ⟨0, 0, 0, 0⟩)
def ksOf : Nat → List Str
  | 0 => ["index", "reading"]
  | 1 => ["rows"]
  | 2 => ["index", "case"]
  | 3 => ["row"]
  | 4 => ["rows"]
  | 5 => ["index", "reading", "store", "answer"]
  | 6 => ["reading", "store", "answer", "hands"]
  | 7 => ["dealing", "demand"]
  | 8 => ["copies", "demand"]
  | 9 => ["fixed", "free", "idle"]
  | 10 => ["number", "dealing"]
  | 11 => ["needed"]
  | 12 => ["made", "answered"]
  | 13 => ["index", "case", "store", "answer"]
  | 14 => ["index", "case", "store", "answer"]
  | 15 => ["moment", "what"]
  | 16 => ["reached"]
  | 17 => ["right", "copies"]
  | _ => []
def has (c : Nat) (f : Str) : Prop := c < 18 ∧ f ∈ ksOf c
def fOk (fs : List (Str × D)) (f : Str) : Bool := match fs.lookup f with
  | some d => d.ok
  | none => false
def fEqv (fs gs : List (Str × D)) (f : Str) : Bool := match fs.lookup f, gs.lookup f with
  | some x, some y => x.eqv y
  | _, _ => false
def eqI (c : Nat) (fs : List (Str × D)) (o : D) : Option Bool := match o with
  | .ins c' gs => if c' = c then (if c < 18 ∧ ((ksOf c).all fun f => fOk fs f && fOk gs f) = true then some ((ksOf c).all (fEqv fs gs)) else none) else if c' < 18 then some false else none
  | _ => none
def ansC (c : Nat) : D → Option Bool
  | .ins c' _ => if c' < 18 then some (c' == c) else none
  | _ => none
def vEq1 (f : Str) : Sm := vBin fEq (vFld has f (vLoc 0)) (vFld has f (vLoc 1))
def vNe1 (f : Str) : Sm := vBin fNe (vFld has f (vLoc 0)) (vFld has f (vLoc 1))
theorem fOk_get {fs : List (Str × D)} {f : Str} (h : fOk fs f = true) : ∃ d, fs.lookup f = some d ∧ d.ok = true := by
  unfold fOk at h
  cases e : fs.lookup f with
  | none => rw [e] at h; cases h
  | some d => rw [e] at h; exact ⟨d, rfl, h⟩
theorem vEq1_ok {env : En} {c : Nat} {fs gs : List (Str × D)} {f : Str} {Q : PD} {Qx : PX} (h0 : env[0]? = some (some (.d (.ins c fs)))) (h1 : env[1]? = some (some (.d (.ins c gs)))) (hh : has c f) (o1 : fOk fs f = true) (o2 : fOk gs f = true) (q : Q (.bl (fEqv fs gs f))) : vEq1 f env Q Qx := by
  obtain ⟨x, ex, ox⟩ := fOk_get o1
  obtain ⟨y, ey, oy⟩ := fOk_get o2
  refine ⟨_, h0, c, fs, x, rfl, hh, ex, _, h1, c, gs, y, rfl, hh, ey, ox, oy, ?_⟩
  unfold fEqv at q
  rw [ex, ey] at q
  exact q
theorem vNe1_ok {env : En} {c : Nat} {fs gs : List (Str × D)} {f : Str} {Q : PD} {Qx : PX} (h0 : env[0]? = some (some (.d (.ins c fs)))) (h1 : env[1]? = some (some (.d (.ins c gs)))) (hh : has c f) (o1 : fOk fs f = true) (o2 : fOk gs f = true) (q : Q (.bl (!fEqv fs gs f))) : vNe1 f env Q Qx := by
  obtain ⟨x, ex, ox⟩ := fOk_get o1
  obtain ⟨y, ey, oy⟩ := fOk_get o2
  refine ⟨_, h0, c, fs, x, rfl, hh, ex, _, h1, c, gs, y, rfl, hh, ey, ox, oy, ?_⟩
  unfold fEqv at q
  rw [ex, ey] at q
  exact q
def semEqs : List Str → Sm
  | [] => vCon (.bl true)
  | [f] => vEq1 f
  | f :: g :: r => vAnd (vEq1 f) (semEqs (g :: r))
theorem semEqs_ok {env : En} {c : Nat} {fs gs : List (Str × D)} {Q : PD} {Qx : PX} (h0 : env[0]? = some (some (.d (.ins c fs)))) (h1 : env[1]? = some (some (.d (.ins c gs)))) : ∀ {ks : List Str}, (∀ f ∈ ks, has c f) → (ks.all fun f => fOk fs f && fOk gs f) = true → Q (.bl (ks.all (fEqv fs gs))) → semEqs ks env Q Qx
  | [], _, _, q => q
  | [f], hh, ho, q => by
    simp at ho
    refine vEq1_ok h0 h1 (hh f (by simp)) ho.1 ho.2 ?_
    simpa using q
  | f :: g :: r, hh, ho, q => by
    rw [List.all_cons, Bool.and_eq_true, Bool.and_eq_true] at ho
    refine vEq1_ok h0 h1 (hh f (by simp)) ho.1.1 ho.1.2 ⟨_, rfl, ?_⟩
    rw [List.all_cons] at q
    cases e : fEqv fs gs f with
    | true =>
      rw [if_pos rfl]
      refine semEqs_ok h0 h1 (fun z hz => hh z (List.mem_cons_of_mem _ hz)) ho.2 ?_
      rw [e, Bool.true_and] at q
      exact q
    | false =>
      rw [if_neg (by simp)]
      rw [e, Bool.false_and] at q
      exact q
def eqA (c : Nat) : SmS := sRet (vAnd (vIsi (ansC c) (vLoc 1)) (semEqs (ksOf c)))
theorem eqI_cases {c : Nat} {fs : List (Str × D)} {o : D} {b : Bool} (h : eqI c fs o = some b) : ∃ c' gs, o = .ins c' gs ∧ ansC c o = some (c' == c) ∧ ((c' = c ∧ ((ksOf c).all fun f => fOk fs f && fOk gs f) = true ∧ b = (ksOf c).all (fEqv fs gs)) ∨ (c' ≠ c ∧ b = false)) := by
  unfold eqI at h
  cases o with
  | ins c' gs =>
    have h : (if c' = c then (if c < 18 ∧ ((ksOf c).all fun f => fOk fs f && fOk gs f) = true then some ((ksOf c).all (fEqv fs gs)) else none) else if c' < 18 then some false else none) = some b := h
    refine ⟨c', gs, rfl, ?_⟩
    by_cases hc : c' = c
    · rw [if_pos hc] at h
      by_cases ho : c < 18 ∧ ((ksOf c).all fun f => fOk fs f && fOk gs f) = true
      · rw [if_pos ho] at h
        cases h
        exact ⟨if_pos (by rw [hc]; exact ho.1), .inl ⟨hc, ho.2, rfl⟩⟩
      · rw [if_neg ho] at h; cases h
    · rw [if_neg hc] at h
      by_cases h' : c' < 18
      · rw [if_pos h'] at h
        cases h
        exact ⟨if_pos h', .inr ⟨hc, rfl⟩⟩
      · rw [if_neg h'] at h; cases h
  | _ => cases h
theorem semA {c : Nat} (hc : c < 18) (ds : List D) (Qd : PD) (Qx : PX) (_ : ds.length = 2) (h : clEq eqI c ds Qd Qx) : eqA c (env0 ["self", "other"] ds) (seD Qd fun _ => False) := by
  obtain ⟨fs, o, b, rfl, he, q⟩ := h
  obtain ⟨c', gs, rfl, ha, hz⟩ := eqI_cases he
  refine ⟨_, rfl, _, ha, _, rfl, ?_⟩
  rcases hz with ⟨rfl, ho, rfl⟩ | ⟨hn, rfl⟩
  · rw [if_pos (by simp)]
    exact semEqs_ok rfl rfl (fun f hf => ⟨hc, hf⟩) ho q
  · have e : (c' == c) = false := by simpa using hn
    rw [e, if_neg (by simp)]
    exact q
def eqB (c : Nat) (f1 f2 : Str) (r : List Str) : SmS := sSeq (sIf (bOr (bNot (bOf (vIsi (ansC c) (vLoc 1)))) (bOr (bOf (vNe1 f1)) (bOf (vNe1 f2)))) (sRet (vCon (.bl false))) sSkip) (sRet (semEqs r))
theorem semB {c : Nat} {f1 f2 : Str} {r : List Str} (hc : c < 18) (hk : ksOf c = f1 :: f2 :: r) (ds : List D) (Qd : PD) (Qx : PX) (_ : ds.length = 2) (h : clEq eqI c ds Qd Qx) : eqB c f1 f2 r (env0 ["self", "other"] ds) (seD Qd fun _ => False) := by
  obtain ⟨fs, o, b, rfl, he, q⟩ := h
  obtain ⟨c', gs, rfl, ha, hz⟩ := eqI_cases he
  refine ⟨_, rfl, _, ha, _, rfl, ?_⟩
  rcases hz with ⟨rfl, ho, rfl⟩ | ⟨hn, rfl⟩
  · rw [hk] at ho q
    rw [List.all_cons, List.all_cons, Bool.and_eq_true, Bool.and_eq_true, Bool.and_eq_true, Bool.and_eq_true] at ho
    rw [List.all_cons, List.all_cons] at q
    have m1 : has c' f1 := ⟨hc, by rw [hk]; simp⟩
    have m2 : has c' f2 := ⟨hc, by rw [hk]; simp⟩
    rw [if_neg (by simp)]
    refine vNe1_ok rfl rfl m1 ho.1.1 ho.1.2 ⟨_, rfl, ?_⟩
    cases e1 : fEqv fs gs f1 with
    | false =>
      rw [e1, Bool.false_and] at q
      exact q
    | true =>
      rw [if_neg (by simp)]
      refine vNe1_ok rfl rfl m2 ho.2.1.1 ho.2.1.2 ⟨_, rfl, ?_⟩
      rw [e1, Bool.true_and] at q
      cases e2 : fEqv fs gs f2 with
      | false =>
        rw [e2, Bool.false_and] at q
        exact q
      | true =>
        rw [e2, Bool.true_and] at q
        exact semEqs_ok rfl rfl (fun f hf => ⟨hc, by rw [hk]; exact List.mem_cons_of_mem _ (List.mem_cons_of_mem _ hf)⟩) ho.2.2 q
  · have e : (c' == c) = false := by simpa using hn
    rw [e, if_pos (by rfl)]
    exact q

section
variable {P : Program} {w : World} {K : PySem.W.Frag} {mg : Str → Option Value} {base : Heap} {cs : Nat → Addr}
theorem putF_b {f : Str} {v : V} : ∀ {fs : List (Str × V)} {n : Nat}, fs.length ≤ n → (putF f v fs).length ≤ n + 1
  | [], n, _ => by
    show 1 ≤ n + 1
    omega
  | (g, u) :: r, n, h => by
    have hr : r.length + 1 ≤ n := h
    have ih := putF_b (f := f) (v := v) (fs := r) (n := n - 1) (by omega)
    unfold putF
    split
    · simp; omega
    · simp; omega
theorem hu65 {k : Nat} {A : Around} (hr : Room k A) : A.units + 65 < cLine := by have := hr.un; omega

theorem scI0 : FnScope ["self", "index", "reading"] ["self", "index", "reading"] (defScope (mI 8)) := ⟨rfl, rfl, rfl, by decide +kernel, rfl, by decide +kernel, by decide +kernel⟩
theorem init0 {f C : Addr} {fd : FuncData} (F : Fun K "__init__" "Outside.__init__" (mI 8) f fd) (T : Cls K C) (n0 : NoAttr K C "index") (n1 : NoAttr K C "reading") : FnOk P w K mg base CX0 1 f fd ["self", "index", "reading"] (spInit C ["index", "reading"]) := by
  refine F.ok scI0 (fun vs H Q E h => ?_) (fun cdv A outer s H vs Q E hr h => ?_)
  · obtain ⟨x, dx, xs, rfl, hl, _⟩ := h; rw [List.length_cons, hl]; rfl
  · obtain ⟨x, dx, xs, rfl, hl, hx, q⟩ := h
    obtain ⟨a, b, rfl⟩ : ∃ a b, xs = [a, b] := by
      match xs, hl with
      | [a, b], _ => exact ⟨a, b, rfl⟩
    refine ⟨_, pss_cons (ps_fld (pv 0) (pv 1) rfl) (pss_one (ps_fld (pv 0) (pv 2) rfl)), _, rfl, .ref x, rfl, x, C, dx, _, rfl, hx, T, n0, Nat.lt_of_le_of_lt (Nat.le_refl 0) (by decide), _, rfl, .ref x, rfl, x, C, dx, _, rfl, upd_same, T, n1, Nat.lt_of_le_of_lt (putF_b (Nat.le_refl 0)) (by decide), ?_⟩
    rw [upd_upd]
    exact q
theorem scI1 : FnScope ["self", "rows"] ["self", "rows"] (defScope (mI 10)) := ⟨rfl, rfl, rfl, by decide +kernel, rfl, by decide +kernel, by decide +kernel⟩
theorem init1 {f C : Addr} {fd : FuncData} (F : Fun K "__init__" "Covered.__init__" (mI 10) f fd) (T : Cls K C) (n0 : NoAttr K C "rows") : FnOk P w K mg base CX0 1 f fd ["self", "rows"] (spInit C ["rows"]) := by
  refine F.ok scI1 (fun vs H Q E h => ?_) (fun cdv A outer s H vs Q E hr h => ?_)
  · obtain ⟨x, dx, xs, rfl, hl, _⟩ := h; rw [List.length_cons, hl]; rfl
  · obtain ⟨x, dx, xs, rfl, hl, hx, q⟩ := h
    obtain ⟨a, rfl⟩ : ∃ a, xs = [a] := by
      match xs, hl with
      | [a], _ => exact ⟨a, rfl⟩
    refine ⟨_, pss_one (ps_fld (pv 0) (pv 1) rfl), _, rfl, .ref x, rfl, x, C, dx, _, rfl, hx, T, n0, Nat.lt_of_le_of_lt (Nat.le_refl 0) (by decide), ?_⟩
    skip
    exact q
theorem scI2 : FnScope ["self", "index", "case"] ["self", "index", "case"] (defScope (mI 11)) := ⟨rfl, rfl, rfl, by decide +kernel, rfl, by decide +kernel, by decide +kernel⟩
theorem init2 {f C : Addr} {fd : FuncData} (F : Fun K "__init__" "Uncovered.__init__" (mI 11) f fd) (T : Cls K C) (n0 : NoAttr K C "index") (n1 : NoAttr K C "case") : FnOk P w K mg base CX0 1 f fd ["self", "index", "case"] (spInit C ["index", "case"]) := by
  refine F.ok scI2 (fun vs H Q E h => ?_) (fun cdv A outer s H vs Q E hr h => ?_)
  · obtain ⟨x, dx, xs, rfl, hl, _⟩ := h; rw [List.length_cons, hl]; rfl
  · obtain ⟨x, dx, xs, rfl, hl, hx, q⟩ := h
    obtain ⟨a, b, rfl⟩ : ∃ a b, xs = [a, b] := by
      match xs, hl with
      | [a, b], _ => exact ⟨a, b, rfl⟩
    refine ⟨_, pss_cons (ps_fld (pv 0) (pv 1) rfl) (pss_one (ps_fld (pv 0) (pv 2) rfl)), _, rfl, .ref x, rfl, x, C, dx, _, rfl, hx, T, n0, Nat.lt_of_le_of_lt (Nat.le_refl 0) (by decide), _, rfl, .ref x, rfl, x, C, dx, _, rfl, upd_same, T, n1, Nat.lt_of_le_of_lt (putF_b (Nat.le_refl 0)) (by decide), ?_⟩
    rw [upd_upd]
    exact q
theorem scI3 : FnScope ["self", "row"] ["self", "row"] (defScope (mI 27)) := ⟨rfl, rfl, rfl, by decide +kernel, rfl, by decide +kernel, by decide +kernel⟩
theorem init3 {f C : Addr} {fd : FuncData} (F : Fun K "__init__" "UnlikeRow.__init__" (mI 27) f fd) (T : Cls K C) (n0 : NoAttr K C "row") : FnOk P w K mg base CX0 1 f fd ["self", "row"] (spInit C ["row"]) := by
  refine F.ok scI3 (fun vs H Q E h => ?_) (fun cdv A outer s H vs Q E hr h => ?_)
  · obtain ⟨x, dx, xs, rfl, hl, _⟩ := h; rw [List.length_cons, hl]; rfl
  · obtain ⟨x, dx, xs, rfl, hl, hx, q⟩ := h
    obtain ⟨a, rfl⟩ : ∃ a, xs = [a] := by
      match xs, hl with
      | [a], _ => exact ⟨a, rfl⟩
    refine ⟨_, pss_one (ps_fld (pv 0) (pv 1) rfl), _, rfl, .ref x, rfl, x, C, dx, _, rfl, hx, T, n0, Nat.lt_of_le_of_lt (Nat.le_refl 0) (by decide), ?_⟩
    skip
    exact q
theorem scI4 : FnScope ["self", "rows"] ["self", "rows"] (defScope (mI 1)) := ⟨rfl, rfl, rfl, by decide +kernel, rfl, by decide +kernel, by decide +kernel⟩
theorem init4 {f C : Addr} {fd : FuncData} (F : Fun K "__init__" "Meets.__init__" (mI 1) f fd) (T : Cls K C) (n0 : NoAttr K C "rows") : FnOk P w K mg base CX0 1 f fd ["self", "rows"] (spInit C ["rows"]) := by
  refine F.ok scI4 (fun vs H Q E h => ?_) (fun cdv A outer s H vs Q E hr h => ?_)
  · obtain ⟨x, dx, xs, rfl, hl, _⟩ := h; rw [List.length_cons, hl]; rfl
  · obtain ⟨x, dx, xs, rfl, hl, hx, q⟩ := h
    obtain ⟨a, rfl⟩ : ∃ a, xs = [a] := by
      match xs, hl with
      | [a], _ => exact ⟨a, rfl⟩
    refine ⟨_, pss_one (ps_fld (pv 0) (pv 1) rfl), _, rfl, .ref x, rfl, x, C, dx, _, rfl, hx, T, n0, Nat.lt_of_le_of_lt (Nat.le_refl 0) (by decide), ?_⟩
    skip
    exact q
theorem scI5 : FnScope ["self", "index", "reading", "store", "answer"] ["self", "index", "reading", "store", "answer"] (defScope (mI 2)) := ⟨rfl, rfl, rfl, by decide +kernel, rfl, by decide +kernel, by decide +kernel⟩
theorem init5 {f C : Addr} {fd : FuncData} (F : Fun K "__init__" "Parted.__init__" (mI 2) f fd) (T : Cls K C) (n0 : NoAttr K C "index") (n1 : NoAttr K C "reading") (n2 : NoAttr K C "store") (n3 : NoAttr K C "answer") : FnOk P w K mg base CX0 1 f fd ["self", "index", "reading", "store", "answer"] (spInit C ["index", "reading", "store", "answer"]) := by
  refine F.ok scI5 (fun vs H Q E h => ?_) (fun cdv A outer s H vs Q E hr h => ?_)
  · obtain ⟨x, dx, xs, rfl, hl, _⟩ := h; rw [List.length_cons, hl]; rfl
  · obtain ⟨x, dx, xs, rfl, hl, hx, q⟩ := h
    obtain ⟨a, b, c, d, rfl⟩ : ∃ a b c d, xs = [a, b, c, d] := by
      match xs, hl with
      | [a, b, c, d], _ => exact ⟨a, b, c, d, rfl⟩
    refine ⟨_, pss_cons (ps_fld (pv 0) (pv 1) rfl) (pss_cons (ps_fld (pv 0) (pv 2) rfl) (pss_cons (ps_fld (pv 0) (pv 3) rfl) (pss_one (ps_fld (pv 0) (pv 4) rfl)))), _, rfl, .ref x, rfl, x, C, dx, _, rfl, hx, T, n0, Nat.lt_of_le_of_lt (Nat.le_refl 0) (by decide), _, rfl, .ref x, rfl, x, C, dx, _, rfl, upd_same, T, n1, Nat.lt_of_le_of_lt (putF_b (Nat.le_refl 0)) (by decide), _, rfl, .ref x, rfl, x, C, dx, _, rfl, upd_same, T, n2, Nat.lt_of_le_of_lt (putF_b (putF_b (Nat.le_refl 0))) (by decide), _, rfl, .ref x, rfl, x, C, dx, _, rfl, upd_same, T, n3, Nat.lt_of_le_of_lt (putF_b (putF_b (putF_b (Nat.le_refl 0)))) (by decide), ?_⟩
    rw [upd_upd, upd_upd, upd_upd]
    exact q
theorem scI6 : FnScope ["self", "reading", "store", "answer", "hands"] ["self", "reading", "store", "answer", "hands"] (defScope (mI 4)) := ⟨rfl, rfl, rfl, by decide +kernel, rfl, by decide +kernel, by decide +kernel⟩
theorem init6 {f C : Addr} {fd : FuncData} (F : Fun K "__init__" "Miscounted.__init__" (mI 4) f fd) (T : Cls K C) (n0 : NoAttr K C "reading") (n1 : NoAttr K C "store") (n2 : NoAttr K C "answer") (n3 : NoAttr K C "hands") : FnOk P w K mg base CX0 1 f fd ["self", "reading", "store", "answer", "hands"] (spInit C ["reading", "store", "answer", "hands"]) := by
  refine F.ok scI6 (fun vs H Q E h => ?_) (fun cdv A outer s H vs Q E hr h => ?_)
  · obtain ⟨x, dx, xs, rfl, hl, _⟩ := h; rw [List.length_cons, hl]; rfl
  · obtain ⟨x, dx, xs, rfl, hl, hx, q⟩ := h
    obtain ⟨a, b, c, d, rfl⟩ : ∃ a b c d, xs = [a, b, c, d] := by
      match xs, hl with
      | [a, b, c, d], _ => exact ⟨a, b, c, d, rfl⟩
    refine ⟨_, pss_cons (ps_fld (pv 0) (pv 1) rfl) (pss_cons (ps_fld (pv 0) (pv 2) rfl) (pss_cons (ps_fld (pv 0) (pv 3) rfl) (pss_one (ps_fld (pv 0) (pv 4) rfl)))), _, rfl, .ref x, rfl, x, C, dx, _, rfl, hx, T, n0, Nat.lt_of_le_of_lt (Nat.le_refl 0) (by decide), _, rfl, .ref x, rfl, x, C, dx, _, rfl, upd_same, T, n1, Nat.lt_of_le_of_lt (putF_b (Nat.le_refl 0)) (by decide), _, rfl, .ref x, rfl, x, C, dx, _, rfl, upd_same, T, n2, Nat.lt_of_le_of_lt (putF_b (putF_b (Nat.le_refl 0))) (by decide), _, rfl, .ref x, rfl, x, C, dx, _, rfl, upd_same, T, n3, Nat.lt_of_le_of_lt (putF_b (putF_b (putF_b (Nat.le_refl 0)))) (by decide), ?_⟩
    rw [upd_upd, upd_upd, upd_upd]
    exact q
theorem scI7 : FnScope ["self", "dealing", "demand"] ["self", "dealing", "demand"] (defScope (mI 6)) := ⟨rfl, rfl, rfl, by decide +kernel, rfl, by decide +kernel, by decide +kernel⟩
theorem init7 {f C : Addr} {fd : FuncData} (F : Fun K "__init__" "Carry.__init__" (mI 6) f fd) (T : Cls K C) (n0 : NoAttr K C "dealing") (n1 : NoAttr K C "demand") : FnOk P w K mg base CX0 1 f fd ["self", "dealing", "demand"] (spInit C ["dealing", "demand"]) := by
  refine F.ok scI7 (fun vs H Q E h => ?_) (fun cdv A outer s H vs Q E hr h => ?_)
  · obtain ⟨x, dx, xs, rfl, hl, _⟩ := h; rw [List.length_cons, hl]; rfl
  · obtain ⟨x, dx, xs, rfl, hl, hx, q⟩ := h
    obtain ⟨a, b, rfl⟩ : ∃ a b, xs = [a, b] := by
      match xs, hl with
      | [a, b], _ => exact ⟨a, b, rfl⟩
    refine ⟨_, pss_cons (ps_fld (pv 0) (pv 1) rfl) (pss_one (ps_fld (pv 0) (pv 2) rfl)), _, rfl, .ref x, rfl, x, C, dx, _, rfl, hx, T, n0, Nat.lt_of_le_of_lt (Nat.le_refl 0) (by decide), _, rfl, .ref x, rfl, x, C, dx, _, rfl, upd_same, T, n1, Nat.lt_of_le_of_lt (putF_b (Nat.le_refl 0)) (by decide), ?_⟩
    rw [upd_upd]
    exact q
theorem scI8 : FnScope ["self", "copies", "demand"] ["self", "copies", "demand"] (defScope (mI 13)) := ⟨rfl, rfl, rfl, by decide +kernel, rfl, by decide +kernel, by decide +kernel⟩
theorem init8 {f C : Addr} {fd : FuncData} (F : Fun K "__init__" "Breaking.__init__" (mI 13) f fd) (T : Cls K C) (n0 : NoAttr K C "copies") (n1 : NoAttr K C "demand") : FnOk P w K mg base CX0 1 f fd ["self", "copies", "demand"] (spInit C ["copies", "demand"]) := by
  refine F.ok scI8 (fun vs H Q E h => ?_) (fun cdv A outer s H vs Q E hr h => ?_)
  · obtain ⟨x, dx, xs, rfl, hl, _⟩ := h; rw [List.length_cons, hl]; rfl
  · obtain ⟨x, dx, xs, rfl, hl, hx, q⟩ := h
    obtain ⟨a, b, rfl⟩ : ∃ a b, xs = [a, b] := by
      match xs, hl with
      | [a, b], _ => exact ⟨a, b, rfl⟩
    refine ⟨_, pss_cons (ps_fld (pv 0) (pv 1) rfl) (pss_one (ps_fld (pv 0) (pv 2) rfl)), _, rfl, .ref x, rfl, x, C, dx, _, rfl, hx, T, n0, Nat.lt_of_le_of_lt (Nat.le_refl 0) (by decide), _, rfl, .ref x, rfl, x, C, dx, _, rfl, upd_same, T, n1, Nat.lt_of_le_of_lt (putF_b (Nat.le_refl 0)) (by decide), ?_⟩
    rw [upd_upd]
    exact q
theorem scI9 : FnScope ["self", "fixed", "free", "idle"] ["self", "fixed", "free", "idle"] (defScope (mI 15)) := ⟨rfl, rfl, rfl, by decide +kernel, rfl, by decide +kernel, by decide +kernel⟩
theorem init9 {f C : Addr} {fd : FuncData} (F : Fun K "__init__" "Standings.__init__" (mI 15) f fd) (T : Cls K C) (n0 : NoAttr K C "fixed") (n1 : NoAttr K C "free") (n2 : NoAttr K C "idle") : FnOk P w K mg base CX0 1 f fd ["self", "fixed", "free", "idle"] (spInit C ["fixed", "free", "idle"]) := by
  refine F.ok scI9 (fun vs H Q E h => ?_) (fun cdv A outer s H vs Q E hr h => ?_)
  · obtain ⟨x, dx, xs, rfl, hl, _⟩ := h; rw [List.length_cons, hl]; rfl
  · obtain ⟨x, dx, xs, rfl, hl, hx, q⟩ := h
    obtain ⟨a, b, c, rfl⟩ : ∃ a b c, xs = [a, b, c] := by
      match xs, hl with
      | [a, b, c], _ => exact ⟨a, b, c, rfl⟩
    refine ⟨_, pss_cons (ps_fld (pv 0) (pv 1) rfl) (pss_cons (ps_fld (pv 0) (pv 2) rfl) (pss_one (ps_fld (pv 0) (pv 3) rfl))), _, rfl, .ref x, rfl, x, C, dx, _, rfl, hx, T, n0, Nat.lt_of_le_of_lt (Nat.le_refl 0) (by decide), _, rfl, .ref x, rfl, x, C, dx, _, rfl, upd_same, T, n1, Nat.lt_of_le_of_lt (putF_b (Nat.le_refl 0)) (by decide), _, rfl, .ref x, rfl, x, C, dx, _, rfl, upd_same, T, n2, Nat.lt_of_le_of_lt (putF_b (putF_b (Nat.le_refl 0))) (by decide), ?_⟩
    rw [upd_upd, upd_upd]
    exact q
theorem scI10 : FnScope ["self", "number", "dealing"] ["self", "number", "dealing"] (defScope (mI 16)) := ⟨rfl, rfl, rfl, by decide +kernel, rfl, by decide +kernel, by decide +kernel⟩
theorem init10 {f C : Addr} {fd : FuncData} (F : Fun K "__init__" "Fewest.__init__" (mI 16) f fd) (T : Cls K C) (n0 : NoAttr K C "number") (n1 : NoAttr K C "dealing") : FnOk P w K mg base CX0 1 f fd ["self", "number", "dealing"] (spInit C ["number", "dealing"]) := by
  refine F.ok scI10 (fun vs H Q E h => ?_) (fun cdv A outer s H vs Q E hr h => ?_)
  · obtain ⟨x, dx, xs, rfl, hl, _⟩ := h; rw [List.length_cons, hl]; rfl
  · obtain ⟨x, dx, xs, rfl, hl, hx, q⟩ := h
    obtain ⟨a, b, rfl⟩ : ∃ a b, xs = [a, b] := by
      match xs, hl with
      | [a, b], _ => exact ⟨a, b, rfl⟩
    refine ⟨_, pss_cons (ps_fld (pv 0) (pv 1) rfl) (pss_one (ps_fld (pv 0) (pv 2) rfl)), _, rfl, .ref x, rfl, x, C, dx, _, rfl, hx, T, n0, Nat.lt_of_le_of_lt (Nat.le_refl 0) (by decide), _, rfl, .ref x, rfl, x, C, dx, _, rfl, upd_same, T, n1, Nat.lt_of_le_of_lt (putF_b (Nat.le_refl 0)) (by decide), ?_⟩
    rw [upd_upd]
    exact q
theorem scI11 : FnScope ["self", "needed"] ["self", "needed"] (defScope (mI 17)) := ⟨rfl, rfl, rfl, by decide +kernel, rfl, by decide +kernel, by decide +kernel⟩
theorem init11 {f C : Addr} {fd : FuncData} (F : Fun K "__init__" "NoRoom.__init__" (mI 17) f fd) (T : Cls K C) (n0 : NoAttr K C "needed") : FnOk P w K mg base CX0 1 f fd ["self", "needed"] (spInit C ["needed"]) := by
  refine F.ok scI11 (fun vs H Q E h => ?_) (fun cdv A outer s H vs Q E hr h => ?_)
  · obtain ⟨x, dx, xs, rfl, hl, _⟩ := h; rw [List.length_cons, hl]; rfl
  · obtain ⟨x, dx, xs, rfl, hl, hx, q⟩ := h
    obtain ⟨a, rfl⟩ : ∃ a, xs = [a] := by
      match xs, hl with
      | [a], _ => exact ⟨a, rfl⟩
    refine ⟨_, pss_one (ps_fld (pv 0) (pv 1) rfl), _, rfl, .ref x, rfl, x, C, dx, _, rfl, hx, T, n0, Nat.lt_of_le_of_lt (Nat.le_refl 0) (by decide), ?_⟩
    skip
    exact q
theorem scI12 : FnScope ["self", "made", "answered"] ["self", "made", "answered"] (defScope (mI 22)) := ⟨rfl, rfl, rfl, by decide +kernel, rfl, by decide +kernel, by decide +kernel⟩
theorem init12 {f C : Addr} {fd : FuncData} (F : Fun K "__init__" "PlanRun.__init__" (mI 22) f fd) (T : Cls K C) (n0 : NoAttr K C "made") (n1 : NoAttr K C "answered") : FnOk P w K mg base CX0 1 f fd ["self", "made", "answered"] (spInit C ["made", "answered"]) := by
  refine F.ok scI12 (fun vs H Q E h => ?_) (fun cdv A outer s H vs Q E hr h => ?_)
  · obtain ⟨x, dx, xs, rfl, hl, _⟩ := h; rw [List.length_cons, hl]; rfl
  · obtain ⟨x, dx, xs, rfl, hl, hx, q⟩ := h
    obtain ⟨a, b, rfl⟩ : ∃ a b, xs = [a, b] := by
      match xs, hl with
      | [a, b], _ => exact ⟨a, b, rfl⟩
    refine ⟨_, pss_cons (ps_fld (pv 0) (pv 1) rfl) (pss_one (ps_fld (pv 0) (pv 2) rfl)), _, rfl, .ref x, rfl, x, C, dx, _, rfl, hx, T, n0, Nat.lt_of_le_of_lt (Nat.le_refl 0) (by decide), _, rfl, .ref x, rfl, x, C, dx, _, rfl, upd_same, T, n1, Nat.lt_of_le_of_lt (putF_b (Nat.le_refl 0)) (by decide), ?_⟩
    rw [upd_upd]
    exact q
theorem scI13 : FnScope ["self", "index", "case", "store", "answer"] ["self", "index", "case", "store", "answer"] (defScope (mI 24)) := ⟨rfl, rfl, rfl, by decide +kernel, rfl, by decide +kernel, by decide +kernel⟩
theorem init13 {f C : Addr} {fd : FuncData} (F : Fun K "__init__" "PlanParted.__init__" (mI 24) f fd) (T : Cls K C) (n0 : NoAttr K C "index") (n1 : NoAttr K C "case") (n2 : NoAttr K C "store") (n3 : NoAttr K C "answer") : FnOk P w K mg base CX0 1 f fd ["self", "index", "case", "store", "answer"] (spInit C ["index", "case", "store", "answer"]) := by
  refine F.ok scI13 (fun vs H Q E h => ?_) (fun cdv A outer s H vs Q E hr h => ?_)
  · obtain ⟨x, dx, xs, rfl, hl, _⟩ := h; rw [List.length_cons, hl]; rfl
  · obtain ⟨x, dx, xs, rfl, hl, hx, q⟩ := h
    obtain ⟨a, b, c, d, rfl⟩ : ∃ a b c d, xs = [a, b, c, d] := by
      match xs, hl with
      | [a, b, c, d], _ => exact ⟨a, b, c, d, rfl⟩
    refine ⟨_, pss_cons (ps_fld (pv 0) (pv 1) rfl) (pss_cons (ps_fld (pv 0) (pv 2) rfl) (pss_cons (ps_fld (pv 0) (pv 3) rfl) (pss_one (ps_fld (pv 0) (pv 4) rfl)))), _, rfl, .ref x, rfl, x, C, dx, _, rfl, hx, T, n0, Nat.lt_of_le_of_lt (Nat.le_refl 0) (by decide), _, rfl, .ref x, rfl, x, C, dx, _, rfl, upd_same, T, n1, Nat.lt_of_le_of_lt (putF_b (Nat.le_refl 0)) (by decide), _, rfl, .ref x, rfl, x, C, dx, _, rfl, upd_same, T, n2, Nat.lt_of_le_of_lt (putF_b (putF_b (Nat.le_refl 0))) (by decide), _, rfl, .ref x, rfl, x, C, dx, _, rfl, upd_same, T, n3, Nat.lt_of_le_of_lt (putF_b (putF_b (putF_b (Nat.le_refl 0)))) (by decide), ?_⟩
    rw [upd_upd, upd_upd, upd_upd]
    exact q
theorem scI14 : FnScope ["self", "index", "case", "store", "answer"] ["self", "index", "case", "store", "answer"] (defScope (mI 25)) := ⟨rfl, rfl, rfl, by decide +kernel, rfl, by decide +kernel, by decide +kernel⟩
theorem init14 {f C : Addr} {fd : FuncData} (F : Fun K "__init__" "PlanOutside.__init__" (mI 25) f fd) (T : Cls K C) (n0 : NoAttr K C "index") (n1 : NoAttr K C "case") (n2 : NoAttr K C "store") (n3 : NoAttr K C "answer") : FnOk P w K mg base CX0 1 f fd ["self", "index", "case", "store", "answer"] (spInit C ["index", "case", "store", "answer"]) := by
  refine F.ok scI14 (fun vs H Q E h => ?_) (fun cdv A outer s H vs Q E hr h => ?_)
  · obtain ⟨x, dx, xs, rfl, hl, _⟩ := h; rw [List.length_cons, hl]; rfl
  · obtain ⟨x, dx, xs, rfl, hl, hx, q⟩ := h
    obtain ⟨a, b, c, d, rfl⟩ : ∃ a b c d, xs = [a, b, c, d] := by
      match xs, hl with
      | [a, b, c, d], _ => exact ⟨a, b, c, d, rfl⟩
    refine ⟨_, pss_cons (ps_fld (pv 0) (pv 1) rfl) (pss_cons (ps_fld (pv 0) (pv 2) rfl) (pss_cons (ps_fld (pv 0) (pv 3) rfl) (pss_one (ps_fld (pv 0) (pv 4) rfl)))), _, rfl, .ref x, rfl, x, C, dx, _, rfl, hx, T, n0, Nat.lt_of_le_of_lt (Nat.le_refl 0) (by decide), _, rfl, .ref x, rfl, x, C, dx, _, rfl, upd_same, T, n1, Nat.lt_of_le_of_lt (putF_b (Nat.le_refl 0)) (by decide), _, rfl, .ref x, rfl, x, C, dx, _, rfl, upd_same, T, n2, Nat.lt_of_le_of_lt (putF_b (putF_b (Nat.le_refl 0))) (by decide), _, rfl, .ref x, rfl, x, C, dx, _, rfl, upd_same, T, n3, Nat.lt_of_le_of_lt (putF_b (putF_b (putF_b (Nat.le_refl 0)))) (by decide), ?_⟩
    rw [upd_upd, upd_upd, upd_upd]
    exact q
theorem scI15 : FnScope ["self", "moment", "what"] ["self", "moment", "what"] (defScope (mI 19)) := ⟨rfl, rfl, rfl, by decide +kernel, rfl, by decide +kernel, by decide +kernel⟩
theorem init15 {f C : Addr} {fd : FuncData} (F : Fun K "__init__" "Broken.__init__" (mI 19) f fd) (T : Cls K C) (n0 : NoAttr K C "moment") (n1 : NoAttr K C "what") : FnOk P w K mg base CX0 1 f fd ["self", "moment", "what"] (spInit C ["moment", "what"]) := by
  refine F.ok scI15 (fun vs H Q E h => ?_) (fun cdv A outer s H vs Q E hr h => ?_)
  · obtain ⟨x, dx, xs, rfl, hl, _⟩ := h; rw [List.length_cons, hl]; rfl
  · obtain ⟨x, dx, xs, rfl, hl, hx, q⟩ := h
    obtain ⟨a, b, rfl⟩ : ∃ a b, xs = [a, b] := by
      match xs, hl with
      | [a, b], _ => exact ⟨a, b, rfl⟩
    refine ⟨_, pss_cons (ps_fld (pv 0) (pv 1) rfl) (pss_one (ps_fld (pv 0) (pv 2) rfl)), _, rfl, .ref x, rfl, x, C, dx, _, rfl, hx, T, n0, Nat.lt_of_le_of_lt (Nat.le_refl 0) (by decide), _, rfl, .ref x, rfl, x, C, dx, _, rfl, upd_same, T, n1, Nat.lt_of_le_of_lt (putF_b (Nat.le_refl 0)) (by decide), ?_⟩
    rw [upd_upd]
    exact q
theorem scI16 : FnScope ["self", "reached"] ["self", "reached"] (defScope (mI 20)) := ⟨rfl, rfl, rfl, by decide +kernel, rfl, by decide +kernel, by decide +kernel⟩
theorem init16 {f C : Addr} {fd : FuncData} (F : Fun K "__init__" "NoOrder.__init__" (mI 20) f fd) (T : Cls K C) (n0 : NoAttr K C "reached") : FnOk P w K mg base CX0 1 f fd ["self", "reached"] (spInit C ["reached"]) := by
  refine F.ok scI16 (fun vs H Q E h => ?_) (fun cdv A outer s H vs Q E hr h => ?_)
  · obtain ⟨x, dx, xs, rfl, hl, _⟩ := h; rw [List.length_cons, hl]; rfl
  · obtain ⟨x, dx, xs, rfl, hl, hx, q⟩ := h
    obtain ⟨a, rfl⟩ : ∃ a, xs = [a] := by
      match xs, hl with
      | [a], _ => exact ⟨a, rfl⟩
    refine ⟨_, pss_one (ps_fld (pv 0) (pv 1) rfl), _, rfl, .ref x, rfl, x, C, dx, _, rfl, hx, T, n0, Nat.lt_of_le_of_lt (Nat.le_refl 0) (by decide), ?_⟩
    skip
    exact q
theorem scI17 : FnScope ["self", "right", "copies"] ["self", "right", "copies"] (defScope (mI 29)) := ⟨rfl, rfl, rfl, by decide +kernel, rfl, by decide +kernel, by decide +kernel⟩
theorem init17 {f C : Addr} {fd : FuncData} (F : Fun K "__init__" "Showing.__init__" (mI 29) f fd) (T : Cls K C) (n0 : NoAttr K C "right") (n1 : NoAttr K C "copies") : FnOk P w K mg base CX0 1 f fd ["self", "right", "copies"] (spInit C ["right", "copies"]) := by
  refine F.ok scI17 (fun vs H Q E h => ?_) (fun cdv A outer s H vs Q E hr h => ?_)
  · obtain ⟨x, dx, xs, rfl, hl, _⟩ := h; rw [List.length_cons, hl]; rfl
  · obtain ⟨x, dx, xs, rfl, hl, hx, q⟩ := h
    obtain ⟨a, b, rfl⟩ : ∃ a b, xs = [a, b] := by
      match xs, hl with
      | [a, b], _ => exact ⟨a, b, rfl⟩
    refine ⟨_, pss_cons (ps_fld (pv 0) (pv 1) rfl) (pss_one (ps_fld (pv 0) (pv 2) rfl)), _, rfl, .ref x, rfl, x, C, dx, _, rfl, hx, T, n0, Nat.lt_of_le_of_lt (Nat.le_refl 0) (by decide), _, rfl, .ref x, rfl, x, C, dx, _, rfl, upd_same, T, n1, Nat.lt_of_le_of_lt (putF_b (Nat.le_refl 0)) (by decide), ?_⟩
    rw [upd_upd]
    exact q
/-- what the text says of the classes -/
structure Tx (K : PySem.W.Frag) (mg : Str → Option Value) (cs : Nat → Addr) : Prop where
  cl : ∀ c, c < 18 → TyC K (cs c)
  na : ∀ c f, has c f → NoAttr K (cs c) f
  kit : ∀ c c', c < 18 → c' < 18 → PySem.W.kitOne K (.ref (cs c')) (.ref (cs c)) = some (c' == c)
  isi : mg "isinstance" = none

  g0 : mg "Outside" = some (.ref (cs 0))
  g1 : mg "Covered" = some (.ref (cs 1))
  g2 : mg "Uncovered" = some (.ref (cs 2))
  g3 : mg "UnlikeRow" = some (.ref (cs 3))
  g4 : mg "Meets" = some (.ref (cs 4))
  g5 : mg "Parted" = some (.ref (cs 5))
  g6 : mg "Miscounted" = some (.ref (cs 6))
  g7 : mg "Carry" = some (.ref (cs 7))
  g8 : mg "Breaking" = some (.ref (cs 8))
  g9 : mg "Standings" = some (.ref (cs 9))
  g10 : mg "Fewest" = some (.ref (cs 10))
  g11 : mg "NoRoom" = some (.ref (cs 11))
  g12 : mg "PlanRun" = some (.ref (cs 12))
  g13 : mg "PlanParted" = some (.ref (cs 13))
  g14 : mg "PlanOutside" = some (.ref (cs 14))
  g15 : mg "Broken" = some (.ref (cs 15))
  g16 : mg "NoOrder" = some (.ref (cs 16))
  g17 : mg "Showing" = some (.ref (cs 17))
theorem Tx.fld (T : Tx K mg cs) {hd : Addr} {f : Str} : ∀ c, has c f → Cls K ((GmOf K cs hd).cls c) ∧ NoAttr K ((GmOf K cs hd).cls c) f := fun c h => ⟨(T.cl c h.1).cl, T.na c f h⟩
theorem Tx.ans (T : Tx K mg cs) {hd : Addr} {c : Nat} (hc : c < 18) : ∀ d k, ansC c d = some k → PySem.W.kitOne K (tyD (GmOf K cs hd) d) (.ref (cs c)) = some k ∧ ∀ c' fs, d = .ins c' fs → TyC K ((GmOf K cs hd).cls c') := by
  intro d k h
  cases d with
  | ins c' fs =>
    have h : (if c' < 18 then some (c' == c) else none) = some k := h
    by_cases h' : c' < 18
    · rw [if_pos h'] at h
      cases h
      refine ⟨T.kit c c' hc h', fun c2 fs2 e => ?_⟩
      cases e
      exact T.cl c' h'
    · rw [if_neg h'] at h; cases h
  | _ => cases h

theorem scE0 : FnScope ["self", "other"] ["self", "other"] (defScope (mE 8)) := ⟨rfl, rfl, rfl, by decide +kernel, rfl, by decide +kernel, by decide +kernel⟩
theorem eqq0 {f : Addr} {fd : FuncData} (F : Fun K "__eq__" "Outside.__eq__" (mE 8) f fd) (T : Tx K mg cs) : FnG P w K mg base 1 f fd ["self", "other"] (spD (GmOf K cs) (clEq eqI 0) 2) :=
  fngD (s := eqA 0) F scE0 rfl (fun hd H A outer s0 E cdv hg hr => oks_one (ok_ret (ok_and rfl (ok_isi (ans := ansC 0) rfl rfl T.isi (by rfl) (PE.rd (lv 1)) (pe_glob (v := .ref (cs 0)) rfl T.g0 rfl) (.own (cs 0)) (T.ans (by decide)) rfl rfl rfl) (ok_and rfl (ok_eq rfl (hu65 hr) (PE.rd (ok_fld (has := has) T.fld (lv 0) rfl)) (PE.rd (ok_fld (has := has) T.fld (lv 1) rfl))) (ok_one (ok_eq rfl (hu65 hr) (PE.rd (ok_fld (has := has) T.fld (lv 0) rfl)) (PE.rd (ok_fld (has := has) T.fld (lv 1) rfl)))))))) (semA (by decide))
theorem scE1 : FnScope ["self", "other"] ["self", "other"] (defScope (mE 10)) := ⟨rfl, rfl, rfl, by decide +kernel, rfl, by decide +kernel, by decide +kernel⟩
theorem eqq1 {f : Addr} {fd : FuncData} (F : Fun K "__eq__" "Covered.__eq__" (mE 10) f fd) (T : Tx K mg cs) : FnG P w K mg base 1 f fd ["self", "other"] (spD (GmOf K cs) (clEq eqI 1) 2) :=
  fngD (s := eqA 1) F scE1 rfl (fun hd H A outer s0 E cdv hg hr => oks_one (ok_ret (ok_and rfl (ok_isi (ans := ansC 1) rfl rfl T.isi (by rfl) (PE.rd (lv 1)) (pe_glob (v := .ref (cs 1)) rfl T.g1 rfl) (.own (cs 1)) (T.ans (by decide)) rfl rfl rfl) (ok_one (ok_eq rfl (hu65 hr) (PE.rd (ok_fld (has := has) T.fld (lv 0) rfl)) (PE.rd (ok_fld (has := has) T.fld (lv 1) rfl))))))) (semA (by decide))
theorem scE2 : FnScope ["self", "other"] ["self", "other"] (defScope (mE 11)) := ⟨rfl, rfl, rfl, by decide +kernel, rfl, by decide +kernel, by decide +kernel⟩
theorem eqq2 {f : Addr} {fd : FuncData} (F : Fun K "__eq__" "Uncovered.__eq__" (mE 11) f fd) (T : Tx K mg cs) : FnG P w K mg base 1 f fd ["self", "other"] (spD (GmOf K cs) (clEq eqI 2) 2) :=
  fngD (s := eqA 2) F scE2 rfl (fun hd H A outer s0 E cdv hg hr => oks_one (ok_ret (ok_and rfl (ok_isi (ans := ansC 2) rfl rfl T.isi (by rfl) (PE.rd (lv 1)) (pe_glob (v := .ref (cs 2)) rfl T.g2 rfl) (.own (cs 2)) (T.ans (by decide)) rfl rfl rfl) (ok_and rfl (ok_eq rfl (hu65 hr) (PE.rd (ok_fld (has := has) T.fld (lv 0) rfl)) (PE.rd (ok_fld (has := has) T.fld (lv 1) rfl))) (ok_one (ok_eq rfl (hu65 hr) (PE.rd (ok_fld (has := has) T.fld (lv 0) rfl)) (PE.rd (ok_fld (has := has) T.fld (lv 1) rfl)))))))) (semA (by decide))
theorem scE3 : FnScope ["self", "other"] ["self", "other"] (defScope (mE 27)) := ⟨rfl, rfl, rfl, by decide +kernel, rfl, by decide +kernel, by decide +kernel⟩
theorem eqq3 {f : Addr} {fd : FuncData} (F : Fun K "__eq__" "UnlikeRow.__eq__" (mE 27) f fd) (T : Tx K mg cs) : FnG P w K mg base 1 f fd ["self", "other"] (spD (GmOf K cs) (clEq eqI 3) 2) :=
  fngD (s := eqA 3) F scE3 rfl (fun hd H A outer s0 E cdv hg hr => oks_one (ok_ret (ok_and rfl (ok_isi (ans := ansC 3) rfl rfl T.isi (by rfl) (PE.rd (lv 1)) (pe_glob (v := .ref (cs 3)) rfl T.g3 rfl) (.own (cs 3)) (T.ans (by decide)) rfl rfl rfl) (ok_one (ok_eq rfl (hu65 hr) (PE.rd (ok_fld (has := has) T.fld (lv 0) rfl)) (PE.rd (ok_fld (has := has) T.fld (lv 1) rfl))))))) (semA (by decide))
theorem scE4 : FnScope ["self", "other"] ["self", "other"] (defScope (mE 1)) := ⟨rfl, rfl, rfl, by decide +kernel, rfl, by decide +kernel, by decide +kernel⟩
theorem eqq4 {f : Addr} {fd : FuncData} (F : Fun K "__eq__" "Meets.__eq__" (mE 1) f fd) (T : Tx K mg cs) : FnG P w K mg base 1 f fd ["self", "other"] (spD (GmOf K cs) (clEq eqI 4) 2) :=
  fngD (s := eqA 4) F scE4 rfl (fun hd H A outer s0 E cdv hg hr => oks_one (ok_ret (ok_and rfl (ok_isi (ans := ansC 4) rfl rfl T.isi (by rfl) (PE.rd (lv 1)) (pe_glob (v := .ref (cs 4)) rfl T.g4 rfl) (.own (cs 4)) (T.ans (by decide)) rfl rfl rfl) (ok_one (ok_eq rfl (hu65 hr) (PE.rd (ok_fld (has := has) T.fld (lv 0) rfl)) (PE.rd (ok_fld (has := has) T.fld (lv 1) rfl))))))) (semA (by decide))
theorem scE5 : FnScope ["self", "other"] ["self", "other"] (defScope (mE 2)) := ⟨rfl, rfl, rfl, by decide +kernel, rfl, by decide +kernel, by decide +kernel⟩
theorem eqq5 {f : Addr} {fd : FuncData} (F : Fun K "__eq__" "Parted.__eq__" (mE 2) f fd) (T : Tx K mg cs) : FnG P w K mg base 1 f fd ["self", "other"] (spD (GmOf K cs) (clEq eqI 5) 2) :=
  fngD (s := eqB 5 "index" "reading" ["store", "answer"]) F scE5 rfl (fun hd H A outer s0 E cdv hg hr => oks_cons (ok_ifS (PW.pt (okw_or (okt_not (okt_of rfl (PE.rd (ok_isi (ans := ansC 5) rfl rfl T.isi (by rfl) (PE.rd (lv 1)) (pe_glob (v := .ref (cs 5)) rfl T.g5 rfl) (.own (cs 5)) (T.ans (by decide)) rfl rfl rfl)) (fun _ => rfl))) (okw_or (tne rfl (hu65 hr) (PE.rd (ok_fld (has := has) T.fld (lv 0) rfl)) (PE.rd (ok_fld (has := has) T.fld (lv 1) rfl))) (okw_or1 (tne rfl (hu65 hr) (PE.rd (ok_fld (has := has) T.fld (lv 0) rfl)) (PE.rd (ok_fld (has := has) T.fld (lv 1) rfl))))))) (oks_one (ok_ret ok_bl)) oks_nil) (oks_one (ok_ret (ok_and rfl (ok_eq rfl (hu65 hr) (PE.rd (ok_fld (has := has) T.fld (lv 0) rfl)) (PE.rd (ok_fld (has := has) T.fld (lv 1) rfl))) (ok_one (ok_eq rfl (hu65 hr) (PE.rd (ok_fld (has := has) T.fld (lv 0) rfl)) (PE.rd (ok_fld (has := has) T.fld (lv 1) rfl)))))))) (semB (by decide) rfl)
theorem scE6 : FnScope ["self", "other"] ["self", "other"] (defScope (mE 4)) := ⟨rfl, rfl, rfl, by decide +kernel, rfl, by decide +kernel, by decide +kernel⟩
theorem eqq6 {f : Addr} {fd : FuncData} (F : Fun K "__eq__" "Miscounted.__eq__" (mE 4) f fd) (T : Tx K mg cs) : FnG P w K mg base 1 f fd ["self", "other"] (spD (GmOf K cs) (clEq eqI 6) 2) :=
  fngD (s := eqB 6 "reading" "store" ["answer", "hands"]) F scE6 rfl (fun hd H A outer s0 E cdv hg hr => oks_cons (ok_ifS (PW.pt (okw_or (okt_not (okt_of rfl (PE.rd (ok_isi (ans := ansC 6) rfl rfl T.isi (by rfl) (PE.rd (lv 1)) (pe_glob (v := .ref (cs 6)) rfl T.g6 rfl) (.own (cs 6)) (T.ans (by decide)) rfl rfl rfl)) (fun _ => rfl))) (okw_or (tne rfl (hu65 hr) (PE.rd (ok_fld (has := has) T.fld (lv 0) rfl)) (PE.rd (ok_fld (has := has) T.fld (lv 1) rfl))) (okw_or1 (tne rfl (hu65 hr) (PE.rd (ok_fld (has := has) T.fld (lv 0) rfl)) (PE.rd (ok_fld (has := has) T.fld (lv 1) rfl))))))) (oks_one (ok_ret ok_bl)) oks_nil) (oks_one (ok_ret (ok_and rfl (ok_eq rfl (hu65 hr) (PE.rd (ok_fld (has := has) T.fld (lv 0) rfl)) (PE.rd (ok_fld (has := has) T.fld (lv 1) rfl))) (ok_one (ok_eq rfl (hu65 hr) (PE.rd (ok_fld (has := has) T.fld (lv 0) rfl)) (PE.rd (ok_fld (has := has) T.fld (lv 1) rfl)))))))) (semB (by decide) rfl)
theorem scE7 : FnScope ["self", "other"] ["self", "other"] (defScope (mE 6)) := ⟨rfl, rfl, rfl, by decide +kernel, rfl, by decide +kernel, by decide +kernel⟩
theorem eqq7 {f : Addr} {fd : FuncData} (F : Fun K "__eq__" "Carry.__eq__" (mE 6) f fd) (T : Tx K mg cs) : FnG P w K mg base 1 f fd ["self", "other"] (spD (GmOf K cs) (clEq eqI 7) 2) :=
  fngD (s := eqA 7) F scE7 rfl (fun hd H A outer s0 E cdv hg hr => oks_one (ok_ret (ok_and rfl (ok_isi (ans := ansC 7) rfl rfl T.isi (by rfl) (PE.rd (lv 1)) (pe_glob (v := .ref (cs 7)) rfl T.g7 rfl) (.own (cs 7)) (T.ans (by decide)) rfl rfl rfl) (ok_and rfl (ok_eq rfl (hu65 hr) (PE.rd (ok_fld (has := has) T.fld (lv 0) rfl)) (PE.rd (ok_fld (has := has) T.fld (lv 1) rfl))) (ok_one (ok_eq rfl (hu65 hr) (PE.rd (ok_fld (has := has) T.fld (lv 0) rfl)) (PE.rd (ok_fld (has := has) T.fld (lv 1) rfl)))))))) (semA (by decide))
theorem scE8 : FnScope ["self", "other"] ["self", "other"] (defScope (mE 13)) := ⟨rfl, rfl, rfl, by decide +kernel, rfl, by decide +kernel, by decide +kernel⟩
theorem eqq8 {f : Addr} {fd : FuncData} (F : Fun K "__eq__" "Breaking.__eq__" (mE 13) f fd) (T : Tx K mg cs) : FnG P w K mg base 1 f fd ["self", "other"] (spD (GmOf K cs) (clEq eqI 8) 2) :=
  fngD (s := eqA 8) F scE8 rfl (fun hd H A outer s0 E cdv hg hr => oks_one (ok_ret (ok_and rfl (ok_isi (ans := ansC 8) rfl rfl T.isi (by rfl) (PE.rd (lv 1)) (pe_glob (v := .ref (cs 8)) rfl T.g8 rfl) (.own (cs 8)) (T.ans (by decide)) rfl rfl rfl) (ok_and rfl (ok_eq rfl (hu65 hr) (PE.rd (ok_fld (has := has) T.fld (lv 0) rfl)) (PE.rd (ok_fld (has := has) T.fld (lv 1) rfl))) (ok_one (ok_eq rfl (hu65 hr) (PE.rd (ok_fld (has := has) T.fld (lv 0) rfl)) (PE.rd (ok_fld (has := has) T.fld (lv 1) rfl)))))))) (semA (by decide))
theorem scE9 : FnScope ["self", "other"] ["self", "other"] (defScope (mE 15)) := ⟨rfl, rfl, rfl, by decide +kernel, rfl, by decide +kernel, by decide +kernel⟩
theorem eqq9 {f : Addr} {fd : FuncData} (F : Fun K "__eq__" "Standings.__eq__" (mE 15) f fd) (T : Tx K mg cs) : FnG P w K mg base 1 f fd ["self", "other"] (spD (GmOf K cs) (clEq eqI 9) 2) :=
  fngD (s := eqA 9) F scE9 rfl (fun hd H A outer s0 E cdv hg hr => oks_one (ok_ret (ok_and rfl (ok_isi (ans := ansC 9) rfl rfl T.isi (by rfl) (PE.rd (lv 1)) (pe_glob (v := .ref (cs 9)) rfl T.g9 rfl) (.own (cs 9)) (T.ans (by decide)) rfl rfl rfl) (ok_and rfl (ok_eq rfl (hu65 hr) (PE.rd (ok_fld (has := has) T.fld (lv 0) rfl)) (PE.rd (ok_fld (has := has) T.fld (lv 1) rfl))) (ok_one (ok_and rfl (ok_eq rfl (hu65 hr) (PE.rd (ok_fld (has := has) T.fld (lv 0) rfl)) (PE.rd (ok_fld (has := has) T.fld (lv 1) rfl))) (ok_one (ok_eq rfl (hu65 hr) (PE.rd (ok_fld (has := has) T.fld (lv 0) rfl)) (PE.rd (ok_fld (has := has) T.fld (lv 1) rfl)))))))))) (semA (by decide))
theorem scE10 : FnScope ["self", "other"] ["self", "other"] (defScope (mE 16)) := ⟨rfl, rfl, rfl, by decide +kernel, rfl, by decide +kernel, by decide +kernel⟩
theorem eqq10 {f : Addr} {fd : FuncData} (F : Fun K "__eq__" "Fewest.__eq__" (mE 16) f fd) (T : Tx K mg cs) : FnG P w K mg base 1 f fd ["self", "other"] (spD (GmOf K cs) (clEq eqI 10) 2) :=
  fngD (s := eqA 10) F scE10 rfl (fun hd H A outer s0 E cdv hg hr => oks_one (ok_ret (ok_and rfl (ok_isi (ans := ansC 10) rfl rfl T.isi (by rfl) (PE.rd (lv 1)) (pe_glob (v := .ref (cs 10)) rfl T.g10 rfl) (.own (cs 10)) (T.ans (by decide)) rfl rfl rfl) (ok_and rfl (ok_eq rfl (hu65 hr) (PE.rd (ok_fld (has := has) T.fld (lv 0) rfl)) (PE.rd (ok_fld (has := has) T.fld (lv 1) rfl))) (ok_one (ok_eq rfl (hu65 hr) (PE.rd (ok_fld (has := has) T.fld (lv 0) rfl)) (PE.rd (ok_fld (has := has) T.fld (lv 1) rfl)))))))) (semA (by decide))
theorem scE11 : FnScope ["self", "other"] ["self", "other"] (defScope (mE 17)) := ⟨rfl, rfl, rfl, by decide +kernel, rfl, by decide +kernel, by decide +kernel⟩
theorem eqq11 {f : Addr} {fd : FuncData} (F : Fun K "__eq__" "NoRoom.__eq__" (mE 17) f fd) (T : Tx K mg cs) : FnG P w K mg base 1 f fd ["self", "other"] (spD (GmOf K cs) (clEq eqI 11) 2) :=
  fngD (s := eqA 11) F scE11 rfl (fun hd H A outer s0 E cdv hg hr => oks_one (ok_ret (ok_and rfl (ok_isi (ans := ansC 11) rfl rfl T.isi (by rfl) (PE.rd (lv 1)) (pe_glob (v := .ref (cs 11)) rfl T.g11 rfl) (.own (cs 11)) (T.ans (by decide)) rfl rfl rfl) (ok_one (ok_eq rfl (hu65 hr) (PE.rd (ok_fld (has := has) T.fld (lv 0) rfl)) (PE.rd (ok_fld (has := has) T.fld (lv 1) rfl))))))) (semA (by decide))
theorem scE12 : FnScope ["self", "other"] ["self", "other"] (defScope (mE 22)) := ⟨rfl, rfl, rfl, by decide +kernel, rfl, by decide +kernel, by decide +kernel⟩
theorem eqq12 {f : Addr} {fd : FuncData} (F : Fun K "__eq__" "PlanRun.__eq__" (mE 22) f fd) (T : Tx K mg cs) : FnG P w K mg base 1 f fd ["self", "other"] (spD (GmOf K cs) (clEq eqI 12) 2) :=
  fngD (s := eqA 12) F scE12 rfl (fun hd H A outer s0 E cdv hg hr => oks_one (ok_ret (ok_and rfl (ok_isi (ans := ansC 12) rfl rfl T.isi (by rfl) (PE.rd (lv 1)) (pe_glob (v := .ref (cs 12)) rfl T.g12 rfl) (.own (cs 12)) (T.ans (by decide)) rfl rfl rfl) (ok_and rfl (ok_eq rfl (hu65 hr) (PE.rd (ok_fld (has := has) T.fld (lv 0) rfl)) (PE.rd (ok_fld (has := has) T.fld (lv 1) rfl))) (ok_one (ok_eq rfl (hu65 hr) (PE.rd (ok_fld (has := has) T.fld (lv 0) rfl)) (PE.rd (ok_fld (has := has) T.fld (lv 1) rfl)))))))) (semA (by decide))
theorem scE13 : FnScope ["self", "other"] ["self", "other"] (defScope (mE 24)) := ⟨rfl, rfl, rfl, by decide +kernel, rfl, by decide +kernel, by decide +kernel⟩
theorem eqq13 {f : Addr} {fd : FuncData} (F : Fun K "__eq__" "PlanParted.__eq__" (mE 24) f fd) (T : Tx K mg cs) : FnG P w K mg base 1 f fd ["self", "other"] (spD (GmOf K cs) (clEq eqI 13) 2) :=
  fngD (s := eqA 13) F scE13 rfl (fun hd H A outer s0 E cdv hg hr => oks_one (ok_ret (ok_and rfl (ok_isi (ans := ansC 13) rfl rfl T.isi (by rfl) (PE.rd (lv 1)) (pe_glob (v := .ref (cs 13)) rfl T.g13 rfl) (.own (cs 13)) (T.ans (by decide)) rfl rfl rfl) (ok_and rfl (ok_eq rfl (hu65 hr) (PE.rd (ok_fld (has := has) T.fld (lv 0) rfl)) (PE.rd (ok_fld (has := has) T.fld (lv 1) rfl))) (ok_and rfl (ok_eq rfl (hu65 hr) (PE.rd (ok_fld (has := has) T.fld (lv 0) rfl)) (PE.rd (ok_fld (has := has) T.fld (lv 1) rfl))) (ok_and rfl (ok_eq rfl (hu65 hr) (PE.rd (ok_fld (has := has) T.fld (lv 0) rfl)) (PE.rd (ok_fld (has := has) T.fld (lv 1) rfl))) (ok_one (ok_eq rfl (hu65 hr) (PE.rd (ok_fld (has := has) T.fld (lv 0) rfl)) (PE.rd (ok_fld (has := has) T.fld (lv 1) rfl)))))))))) (semA (by decide))
theorem scE14 : FnScope ["self", "other"] ["self", "other"] (defScope (mE 25)) := ⟨rfl, rfl, rfl, by decide +kernel, rfl, by decide +kernel, by decide +kernel⟩
theorem eqq14 {f : Addr} {fd : FuncData} (F : Fun K "__eq__" "PlanOutside.__eq__" (mE 25) f fd) (T : Tx K mg cs) : FnG P w K mg base 1 f fd ["self", "other"] (spD (GmOf K cs) (clEq eqI 14) 2) :=
  fngD (s := eqA 14) F scE14 rfl (fun hd H A outer s0 E cdv hg hr => oks_one (ok_ret (ok_and rfl (ok_isi (ans := ansC 14) rfl rfl T.isi (by rfl) (PE.rd (lv 1)) (pe_glob (v := .ref (cs 14)) rfl T.g14 rfl) (.own (cs 14)) (T.ans (by decide)) rfl rfl rfl) (ok_and rfl (ok_eq rfl (hu65 hr) (PE.rd (ok_fld (has := has) T.fld (lv 0) rfl)) (PE.rd (ok_fld (has := has) T.fld (lv 1) rfl))) (ok_and rfl (ok_eq rfl (hu65 hr) (PE.rd (ok_fld (has := has) T.fld (lv 0) rfl)) (PE.rd (ok_fld (has := has) T.fld (lv 1) rfl))) (ok_and rfl (ok_eq rfl (hu65 hr) (PE.rd (ok_fld (has := has) T.fld (lv 0) rfl)) (PE.rd (ok_fld (has := has) T.fld (lv 1) rfl))) (ok_one (ok_eq rfl (hu65 hr) (PE.rd (ok_fld (has := has) T.fld (lv 0) rfl)) (PE.rd (ok_fld (has := has) T.fld (lv 1) rfl)))))))))) (semA (by decide))
theorem scE15 : FnScope ["self", "other"] ["self", "other"] (defScope (mE 19)) := ⟨rfl, rfl, rfl, by decide +kernel, rfl, by decide +kernel, by decide +kernel⟩
theorem eqq15 {f : Addr} {fd : FuncData} (F : Fun K "__eq__" "Broken.__eq__" (mE 19) f fd) (T : Tx K mg cs) : FnG P w K mg base 1 f fd ["self", "other"] (spD (GmOf K cs) (clEq eqI 15) 2) :=
  fngD (s := eqA 15) F scE15 rfl (fun hd H A outer s0 E cdv hg hr => oks_one (ok_ret (ok_and rfl (ok_isi (ans := ansC 15) rfl rfl T.isi (by rfl) (PE.rd (lv 1)) (pe_glob (v := .ref (cs 15)) rfl T.g15 rfl) (.own (cs 15)) (T.ans (by decide)) rfl rfl rfl) (ok_and rfl (ok_eq rfl (hu65 hr) (PE.rd (ok_fld (has := has) T.fld (lv 0) rfl)) (PE.rd (ok_fld (has := has) T.fld (lv 1) rfl))) (ok_one (ok_eq rfl (hu65 hr) (PE.rd (ok_fld (has := has) T.fld (lv 0) rfl)) (PE.rd (ok_fld (has := has) T.fld (lv 1) rfl)))))))) (semA (by decide))
theorem scE16 : FnScope ["self", "other"] ["self", "other"] (defScope (mE 20)) := ⟨rfl, rfl, rfl, by decide +kernel, rfl, by decide +kernel, by decide +kernel⟩
theorem eqq16 {f : Addr} {fd : FuncData} (F : Fun K "__eq__" "NoOrder.__eq__" (mE 20) f fd) (T : Tx K mg cs) : FnG P w K mg base 1 f fd ["self", "other"] (spD (GmOf K cs) (clEq eqI 16) 2) :=
  fngD (s := eqA 16) F scE16 rfl (fun hd H A outer s0 E cdv hg hr => oks_one (ok_ret (ok_and rfl (ok_isi (ans := ansC 16) rfl rfl T.isi (by rfl) (PE.rd (lv 1)) (pe_glob (v := .ref (cs 16)) rfl T.g16 rfl) (.own (cs 16)) (T.ans (by decide)) rfl rfl rfl) (ok_one (ok_eq rfl (hu65 hr) (PE.rd (ok_fld (has := has) T.fld (lv 0) rfl)) (PE.rd (ok_fld (has := has) T.fld (lv 1) rfl))))))) (semA (by decide))
theorem scE17 : FnScope ["self", "other"] ["self", "other"] (defScope (mE 29)) := ⟨rfl, rfl, rfl, by decide +kernel, rfl, by decide +kernel, by decide +kernel⟩
theorem eqq17 {f : Addr} {fd : FuncData} (F : Fun K "__eq__" "Showing.__eq__" (mE 29) f fd) (T : Tx K mg cs) : FnG P w K mg base 1 f fd ["self", "other"] (spD (GmOf K cs) (clEq eqI 17) 2) :=
  fngD (s := eqA 17) F scE17 rfl (fun hd H A outer s0 E cdv hg hr => oks_one (ok_ret (ok_and rfl (ok_isi (ans := ansC 17) rfl rfl T.isi (by rfl) (PE.rd (lv 1)) (pe_glob (v := .ref (cs 17)) rfl T.g17 rfl) (.own (cs 17)) (T.ans (by decide)) rfl rfl rfl) (ok_and rfl (ok_eq rfl (hu65 hr) (PE.rd (ok_fld (has := has) T.fld (lv 0) rfl)) (PE.rd (ok_fld (has := has) T.fld (lv 1) rfl))) (ok_one (ok_eq rfl (hu65 hr) (PE.rd (ok_fld (has := has) T.fld (lv 0) rfl)) (PE.rd (ok_fld (has := has) T.fld (lv 1) rfl)))))))) (semA (by decide))
end
end K07
end

section
set_option Elab.async false
set_option linter.all false
set_option autoImplicit false
set_option maxRecDepth 100000
set_option maxHeartbeats 2000000
/-! K7l: the law's own defs. -/
namespace K07
open PySem PySem.Spec L2 Mw
open PyProof.Rows (envOfC)
section
variable {X : Cx} {Φ : Fm} {Γ : Addr → Gm} {cl : Cl} {n k : Nat} {f : Addr} {fd : FuncData} {ps : List Str} {x : Str} {p pos : Pos} {e : Expr} {es : List Expr} {ss : Sms}
/-- a call whose promise tells how many it takes -/
theorem ok_callC (hΓ : Φ.g = Γ Φ.g.hd) (tk : Takes X Φ.W) (F : FnG X.prog X.w X.K X.mg X.base k f fd ps (spD Γ cl n)) (hgd : X.A.guards = some []) (hr : Room k X.A) (hg : Gl X x) (hm : X.mg x = some (.ref f)) (hk : PySem.W.keepIn X.K (.ref f) = true)
    (hb : Binds X.K fd ps []) (hcl : ∀ ds Q Qx, cl ds Q Qx → ds.length = n) (ha : PA X (e :: es) (tA Φ ss)) (hdb : (x == ("__debug__" : Str)) = false := by decide) (he : starEach (e :: es) X.env = (false, eval e X.env) :: starEach es X.env := by rfl) (hpl : (backTo pos (starEach es X.env)).any (·.1) = false := by rfl) :
    PE X (.Call (.Name x p) (e :: es) [] pos) (tE Φ (vCall cl [] ss)) := by
  refine PE.imp (pe_fng F hgd hr hg hm hk hb .nil (fun σ => passAt tk σ) ha hdb he hpl) fun σ H Q h => ?_
  obtain ⟨env, Qd, Qx, kk, h, w, wx⟩ := h
  refine ⟨env, _, Qx, kk, h, fun ds vs H1 h1 s1 r1 => ?_, wx⟩
  have e1 := r1.length
  have e2 := hcl _ _ _ h1
  rw [List.append_nil] at h1 e2
  show spD Γ cl n (vs ++ []) H1 Q _
  rw [List.append_nil]
  refine ⟨by rw [e1, e2], Φ.g.hd, ds, Qd, Qx, by rw [← hΓ]; exact s1.hand, by rw [← hΓ]; exact r1, h1, fun d v H' q s r => ?_, fun xx t dd H' q s r => ?_⟩
  · rw [← hΓ] at s r
    exact w d v H' q (s1.trans s) r
  · rw [← hΓ] at s r
    exact wx.x xx t dd H' q (s1.trans s) r
/-- a draw -/
def fTake (ds : List D) (Q : PD) : Prop := ∃ m, ds = [.hand, .int m] ∧ 0 < m ∧ m < 1073741824 ∧ ∀ v : Int, 0 ≤ v → v < m → Q (.int v)
theorem ok_takeC {cs : Nat → Addr} {hd : Addr} (hΦ : Φ.g = GmOf X.K cs hd) (F : FnOk X.prog X.w X.K X.mg X.base CX0 2 f fd ["_law_hand_here", "_law_many"] (spTake (GmOf X.K cs))) (hr : Room 2 X.A) (hg : Gl X "_law_take") (hm : X.mg "_law_take" = some (.ref f)) (hk : PySem.W.keepIn X.K (.ref f) = true)
    (hb : Binds X.K fd ["_law_hand_here", "_law_many"] []) (ha : PA X (e :: es) (tA Φ ss)) (he : starEach (e :: es) X.env = (false, eval e X.env) :: starEach es X.env := by rfl) (hpl : (backTo pos (starEach es X.env)).any (·.1) = false := by rfl) : PE X (.Call (.Name "_law_take" p) (e :: es) [] pos) (tE Φ (vFn fTake ss)) := by
  refine PE.imp (pe_call F hr hg hm hk hb .nil pass0 ha (by decide) he hpl) fun σ H Q h => ?_
  obtain ⟨env, Qd, Qx, kk, h, w, wx⟩ := h
  refine ⟨env, _, Qx, kk, h, fun ds vs H1 h1 s1 r1 => ?_, wx⟩
  obtain ⟨m, rfl, m0, m1, q⟩ := h1
  cases r1 with
  | cons q1 r1 =>
    cases r1 with
    | cons q2 r1 =>
      cases r1
      cases q1
      cases q2
      have hh := s1.hand
      rw [hΦ] at hh
      refine ⟨_, m, rfl, by rw [hΦ]; rfl, m0, m1, by rw [hΦ]; exact hh, fun v H' a b st => w _ _ H' (q v a b) (s1.trans ?_) (.int v)⟩
      rw [hΦ] at st ⊢
      exact st
end
section
variable {P : Program} {w : World} {K : PySem.W.Frag} {mg : Str → Option Value} {base : Heap} {cs : Nat → Addr} {f : Addr} {fd : FuncData}
def ansB : D → Option Bool
  | .bl _ => some true
  | _ => none
theorem ansB_ok {g : Gm} : ∀ d k, ansB d = some k → PySem.W.kitOne g.K (tyD g d) (.type "bool") = some k ∧ ∀ c fs, d = .ins c fs → TyC g.K (g.cls c) := by
  intro d k h
  cases d with
  | bl b => cases h; exact ⟨kit_ty (by decide +kernel), fun _ _ e => by cases e⟩
  | _ => cases h
def clTruth : Cl := fun ds Q _ => ∃ a b, ds = [.bl a, .bl b] ∧ Q (.bl (a == b))
theorem scTruth : FnScope ["_law_told", "_law_due"] ["_law_told", "_law_due"] (defScope (topS 34)) := ⟨rfl, rfl, rfl, by decide +kernel, rfl, by decide +kernel, by decide +kernel⟩
theorem ok_truth (F : Fun K "_law_truth" "_law_truth" (topS 34) f fd) (isi : mg "isinstance" = none) (mb : mg "bool" = none) : FnG P w K mg base 1 f fd ["_law_told", "_law_due"] (spD (GmOf K cs) clTruth 2) :=
  fngD F scTruth rfl (fun hd H A outer s0 E cdv hg hr => oks_one (ok_ret (ok_and rfl (ok_isi (ans := ansB) rfl rfl isi (by rfl) (PE.rd (lv 0)) (pe_bltn (v := .ty "bool") rfl mb (by rfl) rfl) (.ty "bool") ansB_ok rfl rfl rfl) (ok_one (ok_eq rfl (hu65 hr) (PE.rd (lv 0)) (PE.rd (lv 1))))))) (fun ds Qd Qx _ h => by
    obtain ⟨a, b, rfl, q⟩ := h
    refine ⟨_, rfl, true, rfl, true, rfl, _, rfl, _, rfl, by cases a <;> rfl, by cases b <;> rfl, ?_⟩
    cases a <;> cases b <;> exact q)
def szN : List Int := [2, 1, 2, 1, 1, 4, 4, 2, 2, 3, 2, 1, 2, 4, 4, 2, 1, 2]
def clSizes : Cl := fun ds Q _ => ds = [] ∧ Q (.lst (szN.map D.int))
theorem scSizes : FnScope [] [] (defScope (topS 35)) := ⟨rfl, rfl, rfl, by decide +kernel, rfl, by decide +kernel, by decide +kernel⟩
theorem small_ok {n : Nat} (h : n ≤ 100) : n ≤ sizeLine := Nat.le_trans h (by rw [sizeLine_eq]; decide)
theorem ok_sizes (F : Fun K "_law_sizes" "_law_sizes" (topS 35) f fd) : FnG P w K mg base 1 f fd [] (spD (GmOf K cs) clSizes 0) :=
  fngD F scSizes rfl (fun hd H A outer s0 E cdv hg hr => oks_one (ok_ret (ok_lst (ac ok_int (ac ok_int (ac ok_int (ac ok_int (ac ok_int (ac ok_int (ac ok_int (ac ok_int (ac ok_int (ac ok_int (ac ok_int (ac ok_int (ac ok_int (ac ok_int (ac ok_int (ac ok_int (ac ok_int (ac ok_int oka_nil)))))))))))))))))))))  (fun ds Qd Qx _ h => by
    obtain ⟨rfl, q⟩ := h
    exact ⟨small_ok (by decide), q⟩)
end
end K07
end

section
set_option Elab.async false
set_option linter.all false
set_option autoImplicit false
set_option maxRecDepth 100000
set_option maxHeartbeats 4000000
/-! K7m: the law's results, what they keep, what is said of them. -/
namespace K07
open PySem PySem.Spec L2 Mw
open PyProof.Rows (envOfC)
section
variable {P : Program} {w : World} {K : PySem.W.Frag} {mg : Str → Option Value} {base : Heap} {cs fi fe : Nat → Addr} {f : Addr} {fd : FuncData}
/-- what the text says of a class's __init__ and __eq__ -/
structure InF (K : PySem.W.Frag) (C f : Addr) (q : Str) (st : Stmt) (ps : List Str) : Prop where
  mkk : Mk K C f
  fn : ∃ fd, Fun K "__init__" q st f fd ∧ Binds K fd ps []
structure EqF (K : PySem.W.Frag) (C f : Addr) (q : Str) (st : Stmt) : Prop where
  find : PySem.W.findIn K (.ref C) "__eq__" = some (some (.ref f))
  isf : PySem.W.isFn K (.ref f) = true
  fn : ∃ fd, Fun K "__eq__" q st f fd ∧ Binds K fd ["self", "other"] []
  more : ∃ nm q N bs hdct sn sub ab col dd k0 k1 k2 k3 k5 newId oN es ep oF, K.lookup C = some (excClassObj nm q C N bs [.type "object"] hdct sn sub ab col dd k0 k1 k2 k3 k5 newId) ∧ K.lookup N = some oN ∧ oN.data = Data.dict es ep ∧ StrKeys es ∧ nsFind es "__eq__" = some (.ref f) ∧ nsFind es "__ne__" = none ∧
      K.lookup f = some oF ∧ oF.cls = .type "function"
structure Ty (K : PySem.W.Frag) (mg : Str → Option Value) (cs fi fe : Nat → Addr) : Prop where
  t : Tx K mg cs
  nf : ∀ c c', c < 18 → c' < 18 → PySem.W.notFirst K (cs c) (.ref (cs c')) = true
  i0 : InF K (cs 0) (fi 0) "Outside.__init__" (mI 8) ["self", "index", "reading"]
  i1 : InF K (cs 1) (fi 1) "Covered.__init__" (mI 10) ["self", "rows"]
  i2 : InF K (cs 2) (fi 2) "Uncovered.__init__" (mI 11) ["self", "index", "case"]
  i3 : InF K (cs 3) (fi 3) "UnlikeRow.__init__" (mI 27) ["self", "row"]
  i4 : InF K (cs 4) (fi 4) "Meets.__init__" (mI 1) ["self", "rows"]
  i5 : InF K (cs 5) (fi 5) "Parted.__init__" (mI 2) ["self", "index", "reading", "store", "answer"]
  i6 : InF K (cs 6) (fi 6) "Miscounted.__init__" (mI 4) ["self", "reading", "store", "answer", "hands"]
  i7 : InF K (cs 7) (fi 7) "Carry.__init__" (mI 6) ["self", "dealing", "demand"]
  i8 : InF K (cs 8) (fi 8) "Breaking.__init__" (mI 13) ["self", "copies", "demand"]
  i9 : InF K (cs 9) (fi 9) "Standings.__init__" (mI 15) ["self", "fixed", "free", "idle"]
  i10 : InF K (cs 10) (fi 10) "Fewest.__init__" (mI 16) ["self", "number", "dealing"]
  i11 : InF K (cs 11) (fi 11) "NoRoom.__init__" (mI 17) ["self", "needed"]
  i12 : InF K (cs 12) (fi 12) "PlanRun.__init__" (mI 22) ["self", "made", "answered"]
  i13 : InF K (cs 13) (fi 13) "PlanParted.__init__" (mI 24) ["self", "index", "case", "store", "answer"]
  i14 : InF K (cs 14) (fi 14) "PlanOutside.__init__" (mI 25) ["self", "index", "case", "store", "answer"]
  i15 : InF K (cs 15) (fi 15) "Broken.__init__" (mI 19) ["self", "moment", "what"]
  i16 : InF K (cs 16) (fi 16) "NoOrder.__init__" (mI 20) ["self", "reached"]
  i17 : InF K (cs 17) (fi 17) "Showing.__init__" (mI 29) ["self", "right", "copies"]
  e0 : EqF K (cs 0) (fe 0) "Outside.__eq__" (mE 8)
  e1 : EqF K (cs 1) (fe 1) "Covered.__eq__" (mE 10)
  e2 : EqF K (cs 2) (fe 2) "Uncovered.__eq__" (mE 11)
  e3 : EqF K (cs 3) (fe 3) "UnlikeRow.__eq__" (mE 27)
  e4 : EqF K (cs 4) (fe 4) "Meets.__eq__" (mE 1)
  e5 : EqF K (cs 5) (fe 5) "Parted.__eq__" (mE 2)
  e6 : EqF K (cs 6) (fe 6) "Miscounted.__eq__" (mE 4)
  e7 : EqF K (cs 7) (fe 7) "Carry.__eq__" (mE 6)
  e8 : EqF K (cs 8) (fe 8) "Breaking.__eq__" (mE 13)
  e9 : EqF K (cs 9) (fe 9) "Standings.__eq__" (mE 15)
  e10 : EqF K (cs 10) (fe 10) "Fewest.__eq__" (mE 16)
  e11 : EqF K (cs 11) (fe 11) "NoRoom.__eq__" (mE 17)
  e12 : EqF K (cs 12) (fe 12) "PlanRun.__eq__" (mE 22)
  e13 : EqF K (cs 13) (fe 13) "PlanParted.__eq__" (mE 24)
  e14 : EqF K (cs 14) (fe 14) "PlanOutside.__eq__" (mE 25)
  e15 : EqF K (cs 15) (fe 15) "Broken.__eq__" (mE 19)
  e16 : EqF K (cs 16) (fe 16) "NoOrder.__eq__" (mE 20)
  e17 : EqF K (cs 17) (fe 17) "Showing.__eq__" (mE 29)
def hasC (c : Nat) : Prop := c < 18
theorem EqF.c {c : Nat} {q : Str} {st : Stmt} {X : Cx} (hK : X.K = K) (E : EqF K (cs c) f q st) (h : ∀ fd, Fun K "__eq__" q st f fd → FnG X.prog X.w X.K X.mg X.base 1 f fd ["self", "other"] (spD (GmOf K cs) (clEq eqI c) 2)) : EqC X (GmOf K cs) 1 eqI c := by
  subst hK
  obtain ⟨fd, F, B⟩ := E.fn
  exact ⟨⟨cs c, f, fd, fun _ => rfl, h fd F, E.find, E.isf, B, E.more⟩⟩
theorem Ty.eqc (T : Ty K mg cs fi fe) {X : Cx} (hK : X.K = K) (hm : X.mg = mg) : ∀ c, hasC c → EqC X (GmOf K cs) 1 eqI c := by
  subst hK
  subst hm
  intro c hc
  match c, hc with
  | 0, _ => exact T.e0.c rfl fun fd F => eqq0 F T.t
  | 1, _ => exact T.e1.c rfl fun fd F => eqq1 F T.t
  | 2, _ => exact T.e2.c rfl fun fd F => eqq2 F T.t
  | 3, _ => exact T.e3.c rfl fun fd F => eqq3 F T.t
  | 4, _ => exact T.e4.c rfl fun fd F => eqq4 F T.t
  | 5, _ => exact T.e5.c rfl fun fd F => eqq5 F T.t
  | 6, _ => exact T.e6.c rfl fun fd F => eqq6 F T.t
  | 7, _ => exact T.e7.c rfl fun fd F => eqq7 F T.t
  | 8, _ => exact T.e8.c rfl fun fd F => eqq8 F T.t
  | 9, _ => exact T.e9.c rfl fun fd F => eqq9 F T.t
  | 10, _ => exact T.e10.c rfl fun fd F => eqq10 F T.t
  | 11, _ => exact T.e11.c rfl fun fd F => eqq11 F T.t
  | 12, _ => exact T.e12.c rfl fun fd F => eqq12 F T.t
  | 13, _ => exact T.e13.c rfl fun fd F => eqq13 F T.t
  | 14, _ => exact T.e14.c rfl fun fd F => eqq14 F T.t
  | 15, _ => exact T.e15.c rfl fun fd F => eqq15 F T.t
  | 16, _ => exact T.e16.c rfl fun fd F => eqq16 F T.t
  | 17, _ => exact T.e17.c rfl fun fd F => eqq17 F T.t
  | n + 18, h => exact absurd (show n + 18 < 18 from h) (by omega)
def clSays : Cl := fun ds Q _ => ∃ c c' fs gs due, ds = [.ins c fs, .ins c' gs, .bl due] ∧ c < 18 ∧ c' < 18 ∧ eqI c fs (.ins c' gs) = some due ∧ Q (.bl true)
theorem scSays : FnScope ["_law_one", "_law_other", "_law_due"] ["_law_one", "_law_other", "_law_due"] (defScope (topS 38)) := ⟨rfl, rfl, rfl, by decide +kernel, rfl, by decide +kernel, by decide +kernel⟩
theorem ok_says {fT : Addr} {fdT : FuncData} (F : Fun K "_law_says" "_law_says" (topS 38) f fd) (T : Ty K mg cs fi fe) (GT : FnG P w K mg base 1 fT fdT ["_law_told", "_law_due"] (spD (GmOf K cs) clTruth 2)) (gT : mg "_law_truth" = some (.ref fT)) (kT : PySem.W.keepIn K (.ref fT) = true) (bT : Binds K fdT ["_law_told", "_law_due"] []) :
    FnG P w K mg base 3 f fd ["_law_one", "_law_other", "_law_due"] (spD (GmOf K cs) clSays 3) :=
  fngD F scSays rfl (fun hd H A outer s0 E cdv hg hr => oks_one (ok_ret (ok_and rfl
      (ok_callC (Γ := GmOf K cs) rfl takesN GT hg (hr.mono (by decide)) rfl gT kT bT (fun ds Q Qx h => by obtain ⟨a, b, rfl, _⟩ := h; rfl) (ac (ok_cmp (op_own_eq (Γ := GmOf K cs) (k := 1) (has := hasC) (eqI := eqI) (T.eqc rfl rfl) (fun c c' hd h1 h2 => T.nf c c' h1 h2) hg hr takesN) (sv_own rfl) (PE.rd (lv 0)) (PE.rd (lv 1)) (nomark _)) (ac (lv 2) oka_nil)))
      (ok_one (ok_callC (Γ := GmOf K cs) rfl takesN GT hg (hr.mono (by decide)) rfl gT kT bT (fun ds Q Qx h => by obtain ⟨a, b, rfl, _⟩ := h; rfl) (ac (ok_cmp (op_own_ne (Γ := GmOf K cs) (k := 1) (has := hasC) (eqI := eqI) (T.eqc rfl rfl) (fun c c' hd h1 h2 => T.nf c c' h1 h2) hg hr takesN) (sv_own rfl) (PE.rd (lv 0)) (PE.rd (lv 1)) (nomark _)) (ac (ok_not rfl (PE.rd (lv 2))) oka_nil))))))) (fun ds Qd Qx _ h => by
    obtain ⟨c, c', fs, gs, due, rfl, h1, h2, he, q⟩ := h
    refine ⟨_, rfl, _, rfl, c, c', fs, gs, due, rfl, rfl, h1, h2, he, _, rfl, _, _, rfl, true, by cases due <;> rfl, ?_⟩
    refine ⟨_, rfl, _, rfl, c, c', fs, gs, due, rfl, rfl, h1, h2, he, _, rfl, due, rfl, _, _, rfl, ?_⟩
    cases due <;> exact q)
/-- the results of four things -/
def resD (ts : List D) : List D := (List.range 18).map fun i => .ins i (List.zip (ksOf i) ts)
def clRes : Cl := fun ds Q _ => ∃ a b c d, ds = [a, b, c, d] ∧ Q (.lst (resD ds))
theorem scRes : FnScope ["_law_a", "_law_b", "_law_c", "_law_d", "_law_found"] ["_law_a", "_law_b", "_law_c", "_law_d"] (defScope (topS 36)) := ⟨rfl, rfl, rfl, by decide +kernel, rfl, by decide +kernel, by decide +kernel⟩
theorem ok_res (F : Fun K "_law_results" "_law_results" (topS 36) f fd) (T : Ty K mg cs fi fe) : FnG P w K mg base 3 f fd ["_law_a", "_law_b", "_law_c", "_law_d"] (spD (GmOf K cs) clRes 4) := by
  obtain ⟨fd0, F0, B0⟩ := T.i0.fn
  obtain ⟨fd1, F1, B1⟩ := T.i1.fn
  obtain ⟨fd2, F2, B2⟩ := T.i2.fn
  obtain ⟨fd3, F3, B3⟩ := T.i3.fn
  obtain ⟨fd4, F4, B4⟩ := T.i4.fn
  obtain ⟨fd5, F5, B5⟩ := T.i5.fn
  obtain ⟨fd6, F6, B6⟩ := T.i6.fn
  obtain ⟨fd7, F7, B7⟩ := T.i7.fn
  obtain ⟨fd8, F8, B8⟩ := T.i8.fn
  obtain ⟨fd9, F9, B9⟩ := T.i9.fn
  obtain ⟨fd10, F10, B10⟩ := T.i10.fn
  obtain ⟨fd11, F11, B11⟩ := T.i11.fn
  obtain ⟨fd12, F12, B12⟩ := T.i12.fn
  obtain ⟨fd13, F13, B13⟩ := T.i13.fn
  obtain ⟨fd14, F14, B14⟩ := T.i14.fn
  obtain ⟨fd15, F15, B15⟩ := T.i15.fn
  obtain ⟨fd16, F16, B16⟩ := T.i16.fn
  obtain ⟨fd17, F17, B17⟩ := T.i17.fn
  exact fngD F scRes rfl (fun hd H A outer s0 E cdv hg hr => oks_cons (ok_set (i := 4) scRes.nd rfl (.inl rfl) (ok_lst (ac (ok_make (c := 0) rfl T.i0.mkk (init0 F0 (T.t.cl 0 (by decide)).cl (T.t.na 0 "index" ⟨by decide, by decide⟩) (T.t.na 0 "reading" ⟨by decide, by decide⟩)) hr rfl T.t.g0 B0 pass0 (ac (lv 0) (ac (lv 1) oka_nil)) rfl rfl rfl) (ac (ok_make (c := 1) rfl T.i1.mkk (init1 F1 (T.t.cl 1 (by decide)).cl (T.t.na 1 "rows" ⟨by decide, by decide⟩)) hr rfl T.t.g1 B1 pass0 (ac (lv 0) oka_nil) rfl rfl rfl) (ac (ok_make (c := 2) rfl T.i2.mkk (init2 F2 (T.t.cl 2 (by decide)).cl (T.t.na 2 "index" ⟨by decide, by decide⟩) (T.t.na 2 "case" ⟨by decide, by decide⟩)) hr rfl T.t.g2 B2 pass0 (ac (lv 0) (ac (lv 1) oka_nil)) rfl rfl rfl) (ac (ok_make (c := 3) rfl T.i3.mkk (init3 F3 (T.t.cl 3 (by decide)).cl (T.t.na 3 "row" ⟨by decide, by decide⟩)) hr rfl T.t.g3 B3 pass0 (ac (lv 0) oka_nil) rfl rfl rfl) (ac (ok_make (c := 4) rfl T.i4.mkk (init4 F4 (T.t.cl 4 (by decide)).cl (T.t.na 4 "rows" ⟨by decide, by decide⟩)) hr rfl T.t.g4 B4 pass0 (ac (lv 0) oka_nil) rfl rfl rfl) (ac (ok_make (c := 5) rfl T.i5.mkk (init5 F5 (T.t.cl 5 (by decide)).cl (T.t.na 5 "index" ⟨by decide, by decide⟩) (T.t.na 5 "reading" ⟨by decide, by decide⟩) (T.t.na 5 "store" ⟨by decide, by decide⟩) (T.t.na 5 "answer" ⟨by decide, by decide⟩)) hr rfl T.t.g5 B5 pass0 (ac (lv 0) (ac (lv 1) (ac (lv 2) (ac (lv 3) oka_nil)))) rfl rfl rfl) (ac (ok_make (c := 6) rfl T.i6.mkk (init6 F6 (T.t.cl 6 (by decide)).cl (T.t.na 6 "reading" ⟨by decide, by decide⟩) (T.t.na 6 "store" ⟨by decide, by decide⟩) (T.t.na 6 "answer" ⟨by decide, by decide⟩) (T.t.na 6 "hands" ⟨by decide, by decide⟩)) hr rfl T.t.g6 B6 pass0 (ac (lv 0) (ac (lv 1) (ac (lv 2) (ac (lv 3) oka_nil)))) rfl rfl rfl) oka_nil)))))))) rfl (.inr rfl))
    (oks_cons (ok_set (i := 4) scRes.nd rfl (.inl rfl) (ok_add rfl (PE.rd (lv 4)) (PE.rd (ok_lst (ac (ok_make (c := 7) rfl T.i7.mkk (init7 F7 (T.t.cl 7 (by decide)).cl (T.t.na 7 "dealing" ⟨by decide, by decide⟩) (T.t.na 7 "demand" ⟨by decide, by decide⟩)) hr rfl T.t.g7 B7 pass0 (ac (lv 0) (ac (lv 1) oka_nil)) rfl rfl rfl) (ac (ok_make (c := 8) rfl T.i8.mkk (init8 F8 (T.t.cl 8 (by decide)).cl (T.t.na 8 "copies" ⟨by decide, by decide⟩) (T.t.na 8 "demand" ⟨by decide, by decide⟩)) hr rfl T.t.g8 B8 pass0 (ac (lv 0) (ac (lv 1) oka_nil)) rfl rfl rfl) (ac (ok_make (c := 9) rfl T.i9.mkk (init9 F9 (T.t.cl 9 (by decide)).cl (T.t.na 9 "fixed" ⟨by decide, by decide⟩) (T.t.na 9 "free" ⟨by decide, by decide⟩) (T.t.na 9 "idle" ⟨by decide, by decide⟩)) hr rfl T.t.g9 B9 pass0 (ac (lv 0) (ac (lv 1) (ac (lv 2) oka_nil))) rfl rfl rfl) (ac (ok_make (c := 10) rfl T.i10.mkk (init10 F10 (T.t.cl 10 (by decide)).cl (T.t.na 10 "number" ⟨by decide, by decide⟩) (T.t.na 10 "dealing" ⟨by decide, by decide⟩)) hr rfl T.t.g10 B10 pass0 (ac (lv 0) (ac (lv 1) oka_nil)) rfl rfl rfl) (ac (ok_make (c := 11) rfl T.i11.mkk (init11 F11 (T.t.cl 11 (by decide)).cl (T.t.na 11 "needed" ⟨by decide, by decide⟩)) hr rfl T.t.g11 B11 pass0 (ac (lv 0) oka_nil) rfl rfl rfl) (ac (ok_make (c := 12) rfl T.i12.mkk (init12 F12 (T.t.cl 12 (by decide)).cl (T.t.na 12 "made" ⟨by decide, by decide⟩) (T.t.na 12 "answered" ⟨by decide, by decide⟩)) hr rfl T.t.g12 B12 pass0 (ac (lv 0) (ac (lv 1) oka_nil)) rfl rfl rfl) oka_nil))))))))) rfl (.inr rfl))
    (oks_one (ok_ret (ok_add rfl (PE.rd (lv 4)) (PE.rd (ok_lst (ac (ok_make (c := 13) rfl T.i13.mkk (init13 F13 (T.t.cl 13 (by decide)).cl (T.t.na 13 "index" ⟨by decide, by decide⟩) (T.t.na 13 "case" ⟨by decide, by decide⟩) (T.t.na 13 "store" ⟨by decide, by decide⟩) (T.t.na 13 "answer" ⟨by decide, by decide⟩)) hr rfl T.t.g13 B13 pass0 (ac (lv 0) (ac (lv 1) (ac (lv 2) (ac (lv 3) oka_nil)))) rfl rfl rfl) (ac (ok_make (c := 14) rfl T.i14.mkk (init14 F14 (T.t.cl 14 (by decide)).cl (T.t.na 14 "index" ⟨by decide, by decide⟩) (T.t.na 14 "case" ⟨by decide, by decide⟩) (T.t.na 14 "store" ⟨by decide, by decide⟩) (T.t.na 14 "answer" ⟨by decide, by decide⟩)) hr rfl T.t.g14 B14 pass0 (ac (lv 0) (ac (lv 1) (ac (lv 2) (ac (lv 3) oka_nil)))) rfl rfl rfl) (ac (ok_make (c := 15) rfl T.i15.mkk (init15 F15 (T.t.cl 15 (by decide)).cl (T.t.na 15 "moment" ⟨by decide, by decide⟩) (T.t.na 15 "what" ⟨by decide, by decide⟩)) hr rfl T.t.g15 B15 pass0 (ac (lv 0) (ac (lv 1) oka_nil)) rfl rfl rfl) (ac (ok_make (c := 16) rfl T.i16.mkk (init16 F16 (T.t.cl 16 (by decide)).cl (T.t.na 16 "reached" ⟨by decide, by decide⟩)) hr rfl T.t.g16 B16 pass0 (ac (lv 0) oka_nil) rfl rfl rfl) (ac (ok_make (c := 17) rfl T.i17.mkk (init17 F17 (T.t.cl 17 (by decide)).cl (T.t.na 17 "right" ⟨by decide, by decide⟩) (T.t.na 17 "copies" ⟨by decide, by decide⟩)) hr rfl T.t.g17 B17 pass0 (ac (lv 0) (ac (lv 1) oka_nil)) rfl rfl rfl) oka_nil)))))))))))) (fun ds Qd Qx _ h => by
    obtain ⟨a, b, c, d, rfl, q⟩ := h
    refine ⟨_, rfl, _, rfl, rfl, _, rfl, rfl, _, rfl, _, rfl, rfl, _, rfl, rfl, _, rfl, rfl, _, rfl, _, rfl, _, rfl, _, rfl, rfl, _, rfl, _, rfl, _, rfl, _, rfl, rfl, small_ok (Nat.le_of_ble_eq_true rfl), ?_⟩
    refine ⟨_, rfl, _, rfl, _, rfl, rfl, _, rfl, _, rfl, rfl, _, rfl, _, rfl, _, rfl, rfl, _, rfl, _, rfl, rfl, _, rfl, rfl, _, rfl, _, rfl, rfl, small_ok (Nat.le_of_ble_eq_true rfl), small_ok (Nat.le_of_ble_eq_true rfl), ?_⟩
    refine ⟨_, rfl, _, rfl, _, rfl, _, rfl, _, rfl, rfl, _, rfl, _, rfl, _, rfl, _, rfl, rfl, _, rfl, _, rfl, rfl, _, rfl, rfl, _, rfl, _, rfl, rfl, small_ok (Nat.le_of_ble_eq_true rfl), small_ok (Nat.le_of_ble_eq_true rfl), ?_⟩
    exact q)
/-- what they keep -/
def keptD (ts : List D) : List D := szN.map fun n => .tup (ts.take n.toNat)
def clKept : Cl := fun ds Q _ => ∃ a b c d, ds = [.lst (resD [a, b, c, d])] ∧ Q (.lst (keptD [a, b, c, d]))
theorem scKept : FnScope ["_law_x", "_law_kept_here"] ["_law_x"] (defScope (topS 37)) := ⟨rfl, rfl, rfl, by decide +kernel, rfl, by decide +kernel, by decide +kernel⟩
theorem kf {i j : Nat} {f : Str} {ds : List D} {c : Nat} {fs : List (Str × D)} {v : D} {env : En} {Q : PD} {Qx : PX} (h0 : env[i]? = some (some (.d (.lst ds)))) (h1 : ds[j]? = some (.ins c fs)) (h2 : has c f) (h3 : fs.lookup f = some v) (q : Q v) : vFld has f (vBin fIx2 (vLoc i) (vCon (.int j))) env Q Qx :=
  ⟨_, h0, .ins c fs, atI_nat h1, c, fs, v, rfl, h2, h3, q⟩
theorem ok_kept (F : Fun K "_law_kept" "_law_kept" (topS 37) f fd) (T : Ty K mg cs fi fe) : FnG P w K mg base 3 f fd ["_law_x"] (spD (GmOf K cs) clKept 1) := by
  exact FnG.mono (fngD F scKept rfl (fun hd H A outer s0 E cdv hg hr => (oks_cons (ok_set (i := 1) scKept.nd rfl (.inl rfl) (ok_lst (ac (ok_tup (ac (ok_fld (has := has) T.t.fld (ok_sub_ix rfl (PE.rd (lv 0)) (PE.rd ok_int) (fun _ _ => rfl)) rfl) (ac (ok_fld (has := has) T.t.fld (ok_sub_ix rfl (PE.rd (lv 0)) (PE.rd ok_int) (fun _ _ => rfl)) rfl) oka_nil))) (ac (ok_tup (ac (ok_fld (has := has) T.t.fld (ok_sub_ix rfl (PE.rd (lv 0)) (PE.rd ok_int) (fun _ _ => rfl)) rfl) oka_nil)) (ac (ok_tup (ac (ok_fld (has := has) T.t.fld (ok_sub_ix rfl (PE.rd (lv 0)) (PE.rd ok_int) (fun _ _ => rfl)) rfl) (ac (ok_fld (has := has) T.t.fld (ok_sub_ix rfl (PE.rd (lv 0)) (PE.rd ok_int) (fun _ _ => rfl)) rfl) oka_nil))) (ac (ok_tup (ac (ok_fld (has := has) T.t.fld (ok_sub_ix rfl (PE.rd (lv 0)) (PE.rd ok_int) (fun _ _ => rfl)) rfl) oka_nil)) (ac (ok_tup (ac (ok_fld (has := has) T.t.fld (ok_sub_ix rfl (PE.rd (lv 0)) (PE.rd ok_int) (fun _ _ => rfl)) rfl) oka_nil)) oka_nil)))))) rfl (.inr rfl))
    (oks_cons (ok_set (i := 1) scKept.nd rfl (.inl rfl) (ok_add rfl (PE.rd (lv 1)) (PE.rd (ok_lst (ac (ok_tup (ac (ok_fld (has := has) T.t.fld (ok_sub_ix rfl (PE.rd (lv 0)) (PE.rd ok_int) (fun _ _ => rfl)) rfl) (ac (ok_fld (has := has) T.t.fld (ok_sub_ix rfl (PE.rd (lv 0)) (PE.rd ok_int) (fun _ _ => rfl)) rfl) (ac (ok_fld (has := has) T.t.fld (ok_sub_ix rfl (PE.rd (lv 0)) (PE.rd ok_int) (fun _ _ => rfl)) rfl) (ac (ok_fld (has := has) T.t.fld (ok_sub_ix rfl (PE.rd (lv 0)) (PE.rd ok_int) (fun _ _ => rfl)) rfl) oka_nil))))) (ac (ok_tup (ac (ok_fld (has := has) T.t.fld (ok_sub_ix rfl (PE.rd (lv 0)) (PE.rd ok_int) (fun _ _ => rfl)) rfl) (ac (ok_fld (has := has) T.t.fld (ok_sub_ix rfl (PE.rd (lv 0)) (PE.rd ok_int) (fun _ _ => rfl)) rfl) (ac (ok_fld (has := has) T.t.fld (ok_sub_ix rfl (PE.rd (lv 0)) (PE.rd ok_int) (fun _ _ => rfl)) rfl) (ac (ok_fld (has := has) T.t.fld (ok_sub_ix rfl (PE.rd (lv 0)) (PE.rd ok_int) (fun _ _ => rfl)) rfl) oka_nil))))) oka_nil))))) rfl (.inr rfl))
    (oks_cons (ok_set (i := 1) scKept.nd rfl (.inl rfl) (ok_add rfl (PE.rd (lv 1)) (PE.rd (ok_lst (ac (ok_tup (ac (ok_fld (has := has) T.t.fld (ok_sub_ix rfl (PE.rd (lv 0)) (PE.rd ok_int) (fun _ _ => rfl)) rfl) (ac (ok_fld (has := has) T.t.fld (ok_sub_ix rfl (PE.rd (lv 0)) (PE.rd ok_int) (fun _ _ => rfl)) rfl) oka_nil))) (ac (ok_tup (ac (ok_fld (has := has) T.t.fld (ok_sub_ix rfl (PE.rd (lv 0)) (PE.rd ok_int) (fun _ _ => rfl)) rfl) (ac (ok_fld (has := has) T.t.fld (ok_sub_ix rfl (PE.rd (lv 0)) (PE.rd ok_int) (fun _ _ => rfl)) rfl) oka_nil))) (ac (ok_tup (ac (ok_fld (has := has) T.t.fld (ok_sub_ix rfl (PE.rd (lv 0)) (PE.rd ok_int) (fun _ _ => rfl)) rfl) (ac (ok_fld (has := has) T.t.fld (ok_sub_ix rfl (PE.rd (lv 0)) (PE.rd ok_int) (fun _ _ => rfl)) rfl) (ac (ok_fld (has := has) T.t.fld (ok_sub_ix rfl (PE.rd (lv 0)) (PE.rd ok_int) (fun _ _ => rfl)) rfl) oka_nil)))) oka_nil)))))) rfl (.inr rfl))
    (oks_cons (ok_set (i := 1) scKept.nd rfl (.inl rfl) (ok_add rfl (PE.rd (lv 1)) (PE.rd (ok_lst (ac (ok_tup (ac (ok_fld (has := has) T.t.fld (ok_sub_ix rfl (PE.rd (lv 0)) (PE.rd ok_int) (fun _ _ => rfl)) rfl) (ac (ok_fld (has := has) T.t.fld (ok_sub_ix rfl (PE.rd (lv 0)) (PE.rd ok_int) (fun _ _ => rfl)) rfl) oka_nil))) (ac (ok_tup (ac (ok_fld (has := has) T.t.fld (ok_sub_ix rfl (PE.rd (lv 0)) (PE.rd ok_int) (fun _ _ => rfl)) rfl) oka_nil)) (ac (ok_tup (ac (ok_fld (has := has) T.t.fld (ok_sub_ix rfl (PE.rd (lv 0)) (PE.rd ok_int) (fun _ _ => rfl)) rfl) (ac (ok_fld (has := has) T.t.fld (ok_sub_ix rfl (PE.rd (lv 0)) (PE.rd ok_int) (fun _ _ => rfl)) rfl) oka_nil))) oka_nil)))))) rfl (.inr rfl))
    (oks_cons (ok_set (i := 1) scKept.nd rfl (.inl rfl) (ok_add rfl (PE.rd (lv 1)) (PE.rd (ok_lst (ac (ok_tup (ac (ok_fld (has := has) T.t.fld (ok_sub_ix rfl (PE.rd (lv 0)) (PE.rd ok_int) (fun _ _ => rfl)) rfl) (ac (ok_fld (has := has) T.t.fld (ok_sub_ix rfl (PE.rd (lv 0)) (PE.rd ok_int) (fun _ _ => rfl)) rfl) (ac (ok_fld (has := has) T.t.fld (ok_sub_ix rfl (PE.rd (lv 0)) (PE.rd ok_int) (fun _ _ => rfl)) rfl) (ac (ok_fld (has := has) T.t.fld (ok_sub_ix rfl (PE.rd (lv 0)) (PE.rd ok_int) (fun _ _ => rfl)) rfl) oka_nil))))) (ac (ok_tup (ac (ok_fld (has := has) T.t.fld (ok_sub_ix rfl (PE.rd (lv 0)) (PE.rd ok_int) (fun _ _ => rfl)) rfl) (ac (ok_fld (has := has) T.t.fld (ok_sub_ix rfl (PE.rd (lv 0)) (PE.rd ok_int) (fun _ _ => rfl)) rfl) (ac (ok_fld (has := has) T.t.fld (ok_sub_ix rfl (PE.rd (lv 0)) (PE.rd ok_int) (fun _ _ => rfl)) rfl) (ac (ok_fld (has := has) T.t.fld (ok_sub_ix rfl (PE.rd (lv 0)) (PE.rd ok_int) (fun _ _ => rfl)) rfl) oka_nil))))) oka_nil))))) rfl (.inr rfl))
    (oks_one (ok_ret (ok_add rfl (PE.rd (lv 1)) (PE.rd (ok_lst (ac (ok_tup (ac (ok_fld (has := has) T.t.fld (ok_sub_ix rfl (PE.rd (lv 0)) (PE.rd ok_int) (fun _ _ => rfl)) rfl) (ac (ok_fld (has := has) T.t.fld (ok_sub_ix rfl (PE.rd (lv 0)) (PE.rd ok_int) (fun _ _ => rfl)) rfl) oka_nil))) (ac (ok_tup (ac (ok_fld (has := has) T.t.fld (ok_sub_ix rfl (PE.rd (lv 0)) (PE.rd ok_int) (fun _ _ => rfl)) rfl) oka_nil)) (ac (ok_tup (ac (ok_fld (has := has) T.t.fld (ok_sub_ix rfl (PE.rd (lv 0)) (PE.rd ok_int) (fun _ _ => rfl)) rfl) (ac (ok_fld (has := has) T.t.fld (ok_sub_ix rfl (PE.rd (lv 0)) (PE.rd ok_int) (fun _ _ => rfl)) rfl) oka_nil))) oka_nil)))))))))))))) (fun ds Qd Qx _ h => by
    obtain ⟨a, b, c, d, rfl, q⟩ := h
    refine kf (j := 0) rfl rfl ⟨by decide, by decide⟩ rfl ?_
    refine kf (j := 0) rfl rfl ⟨by decide, by decide⟩ rfl ?_
    refine ⟨small_ok (Nat.le_of_ble_eq_true rfl), ?_⟩
    refine kf (j := 1) rfl rfl ⟨by decide, by decide⟩ rfl ?_
    refine ⟨small_ok (Nat.le_of_ble_eq_true rfl), ?_⟩
    refine kf (j := 2) rfl rfl ⟨by decide, by decide⟩ rfl ?_
    refine kf (j := 2) rfl rfl ⟨by decide, by decide⟩ rfl ?_
    refine ⟨small_ok (Nat.le_of_ble_eq_true rfl), ?_⟩
    refine kf (j := 3) rfl rfl ⟨by decide, by decide⟩ rfl ?_
    refine ⟨small_ok (Nat.le_of_ble_eq_true rfl), ?_⟩
    refine kf (j := 4) rfl rfl ⟨by decide, by decide⟩ rfl ?_
    refine ⟨small_ok (Nat.le_of_ble_eq_true rfl), ?_⟩
    refine ⟨small_ok (Nat.le_of_ble_eq_true rfl), ?_⟩
    refine ⟨_, rfl, ?_⟩
    refine kf (j := 5) rfl rfl ⟨by decide, by decide⟩ rfl ?_
    refine kf (j := 5) rfl rfl ⟨by decide, by decide⟩ rfl ?_
    refine kf (j := 5) rfl rfl ⟨by decide, by decide⟩ rfl ?_
    refine kf (j := 5) rfl rfl ⟨by decide, by decide⟩ rfl ?_
    refine ⟨small_ok (Nat.le_of_ble_eq_true rfl), ?_⟩
    refine kf (j := 6) rfl rfl ⟨by decide, by decide⟩ rfl ?_
    refine kf (j := 6) rfl rfl ⟨by decide, by decide⟩ rfl ?_
    refine kf (j := 6) rfl rfl ⟨by decide, by decide⟩ rfl ?_
    refine kf (j := 6) rfl rfl ⟨by decide, by decide⟩ rfl ?_
    refine ⟨small_ok (Nat.le_of_ble_eq_true rfl), ?_⟩
    refine ⟨small_ok (Nat.le_of_ble_eq_true rfl), ?_⟩
    refine ⟨small_ok (Nat.le_of_ble_eq_true rfl), ?_⟩
    refine ⟨_, rfl, ?_⟩
    refine kf (j := 7) rfl rfl ⟨by decide, by decide⟩ rfl ?_
    refine kf (j := 7) rfl rfl ⟨by decide, by decide⟩ rfl ?_
    refine ⟨small_ok (Nat.le_of_ble_eq_true rfl), ?_⟩
    refine kf (j := 8) rfl rfl ⟨by decide, by decide⟩ rfl ?_
    refine kf (j := 8) rfl rfl ⟨by decide, by decide⟩ rfl ?_
    refine ⟨small_ok (Nat.le_of_ble_eq_true rfl), ?_⟩
    refine kf (j := 9) rfl rfl ⟨by decide, by decide⟩ rfl ?_
    refine kf (j := 9) rfl rfl ⟨by decide, by decide⟩ rfl ?_
    refine kf (j := 9) rfl rfl ⟨by decide, by decide⟩ rfl ?_
    refine ⟨small_ok (Nat.le_of_ble_eq_true rfl), ?_⟩
    refine ⟨small_ok (Nat.le_of_ble_eq_true rfl), ?_⟩
    refine ⟨small_ok (Nat.le_of_ble_eq_true rfl), ?_⟩
    refine ⟨_, rfl, ?_⟩
    refine kf (j := 10) rfl rfl ⟨by decide, by decide⟩ rfl ?_
    refine kf (j := 10) rfl rfl ⟨by decide, by decide⟩ rfl ?_
    refine ⟨small_ok (Nat.le_of_ble_eq_true rfl), ?_⟩
    refine kf (j := 11) rfl rfl ⟨by decide, by decide⟩ rfl ?_
    refine ⟨small_ok (Nat.le_of_ble_eq_true rfl), ?_⟩
    refine kf (j := 12) rfl rfl ⟨by decide, by decide⟩ rfl ?_
    refine kf (j := 12) rfl rfl ⟨by decide, by decide⟩ rfl ?_
    refine ⟨small_ok (Nat.le_of_ble_eq_true rfl), ?_⟩
    refine ⟨small_ok (Nat.le_of_ble_eq_true rfl), ?_⟩
    refine ⟨small_ok (Nat.le_of_ble_eq_true rfl), ?_⟩
    refine ⟨_, rfl, ?_⟩
    refine kf (j := 13) rfl rfl ⟨by decide, by decide⟩ rfl ?_
    refine kf (j := 13) rfl rfl ⟨by decide, by decide⟩ rfl ?_
    refine kf (j := 13) rfl rfl ⟨by decide, by decide⟩ rfl ?_
    refine kf (j := 13) rfl rfl ⟨by decide, by decide⟩ rfl ?_
    refine ⟨small_ok (Nat.le_of_ble_eq_true rfl), ?_⟩
    refine kf (j := 14) rfl rfl ⟨by decide, by decide⟩ rfl ?_
    refine kf (j := 14) rfl rfl ⟨by decide, by decide⟩ rfl ?_
    refine kf (j := 14) rfl rfl ⟨by decide, by decide⟩ rfl ?_
    refine kf (j := 14) rfl rfl ⟨by decide, by decide⟩ rfl ?_
    refine ⟨small_ok (Nat.le_of_ble_eq_true rfl), ?_⟩
    refine ⟨small_ok (Nat.le_of_ble_eq_true rfl), ?_⟩
    refine ⟨small_ok (Nat.le_of_ble_eq_true rfl), ?_⟩
    refine ⟨_, rfl, ?_⟩
    refine kf (j := 15) rfl rfl ⟨by decide, by decide⟩ rfl ?_
    refine kf (j := 15) rfl rfl ⟨by decide, by decide⟩ rfl ?_
    refine ⟨small_ok (Nat.le_of_ble_eq_true rfl), ?_⟩
    refine kf (j := 16) rfl rfl ⟨by decide, by decide⟩ rfl ?_
    refine ⟨small_ok (Nat.le_of_ble_eq_true rfl), ?_⟩
    refine kf (j := 17) rfl rfl ⟨by decide, by decide⟩ rfl ?_
    refine kf (j := 17) rfl rfl ⟨by decide, by decide⟩ rfl ?_
    refine ⟨small_ok (Nat.le_of_ble_eq_true rfl), ?_⟩
    refine ⟨small_ok (Nat.le_of_ble_eq_true rfl), ?_⟩
    refine ⟨small_ok (Nat.le_of_ble_eq_true rfl), ?_⟩
    exact q)) (k := 3) (j := 1) (by decide)
end
end K07
end

section
set_option Elab.async false
set_option linter.all false
set_option autoImplicit false
set_option maxRecDepth 100000
set_option maxHeartbeats 4000000
/-! K7f: what the top has left, class by class. -/
namespace K07
open PySem PySem.Spec L2 Mw
open PyProof.Rows (envOfC)
theorem ns_some {K : PySem.W.Frag} {N : Addr} {c : Value} {d : Option Addr} {es : Array DictEntry} {n : Nat} {sl : Array (Option Value)} {x : Str} {v : Value} (h : K.lookup N = some ⟨c, d, .dict es n, sl⟩) (e : PySem.W.nsIn K N x = some (some v)) : nsFind es x = some v := by
  unfold PySem.W.nsIn at e
  rw [h] at e
  dsimp only at e
  split at e
  · rename_i en he
    cases e
    unfold nsFind findBy
    rw [← Array.find?_toList, he]
    rfl
  · split at e <;> cases e
theorem ns_none {K : PySem.W.Frag} {N : Addr} {c : Value} {d : Option Addr} {es : Array DictEntry} {n : Nat} {sl : Array (Option Value)} {x : Str} (h : K.lookup N = some ⟨c, d, .dict es n, sl⟩) (e : PySem.W.nsIn K N x = some none) : nsFind es x = none := by
  unfold PySem.W.nsIn at e
  rw [h] at e
  dsimp only at e
  split at e
  · cases e
  · rename_i he
    unfold nsFind findBy
    rw [← Array.find?_toList, he]
    rfl
def keysStr (es : Array DictEntry) : Bool := es.toList.all fun e => match e.key with
  | .str _ _ => true
  | _ => false
theorem keysStr_of {es : Array DictEntry} (h : keysStr es = true) : StrKeys es := by
  intro e he
  unfold keysStr at h
  have z := (List.all_eq_true.mp h) e (Array.mem_toList_iff.mpr he)
  cases q : e.key with
  | str n t => exact ⟨n, t, rfl⟩
  | _ => rw [q] at z; cases z
/-- a class, as the top has left it -/
structure CF (K : PySem.W.Frag) (mg : Str → Option Value) (n qI qE : Str) (sI sE : Stmt) (ks : List Str) (C fi fe : Addr) : Prop where
  g : mg n = some (.ref C)
  ty : TyC K C
  ini : InF K C fi qI sI ("self" :: ks)
  eqf : EqF K C fe qE sE
  na : ∀ f ∈ ks, NoAttr K C f
  cl : ∃ cd, PySem.W.clsIn K C = some cd ∧ cd.mro = [.ref C, .type "object"] ∧ cd.name = n
  tp : PySem.W.typeIn K (.ref C) = some (.type "type")
theorem cf_mk {K : PySem.W.Frag} {h : Heap} {mg : Str → Option Value} (X : K.In h) (G : h.Ns mainGlobals mg)
    (sb : PySem.W.specialIn K (.builtin "object.__class__") "__get__" = some (some (.builtin "getset_descriptor.__get__"))) (sc : PySem.W.takesIn K (.builtin "object.__class__") = some true)
    {n qI qE : Str} {sI sE : Stmt} {ks : List Str} {C fi fe : Addr} (aC : PySem.W.nsIn K mainGlobals n = some (some (.ref C)))
    {q : Str} {N : Addr} {bs : List Value} {hdct : Bool} {sn : List Str} {sub : List Value} {ab : Bool} {col : Option Bool} {dd : Option Addr} {k0 k1 k2 k3 k5 : Option Value} {newId : String}
    (kC : K.lookup C = some (excClassObj n q C N bs [.type "object"] hdct sn sub ab col dd k0 k1 k2 k3 k5 newId))
    {c : Value} {d : Option Addr} {es : Array DictEntry} {ep : Nat} {sl : Array (Option Value)} (kN : K.lookup N = some ⟨c, d, .dict es ep, sl⟩) (kS : keysStr es = true)
    (nE : PySem.W.nsIn K N "__eq__" = some (some (.ref fe))) (nN : PySem.W.nsIn K N "__ne__" = some none)
    (pg : PySem.W.plainGet K C Str.empty = true) (hd : PySem.W.hasDictIn K C = true) (po : PySem.W.plainOver K C = true) (sa : PySem.W.findIn K (.ref C) "__setattr__" = some (some (.builtin "object.__setattr__"))) (mk : PySem.W.makesIn K C = true) (kc : PySem.W.keepIn K (.ref C) = true)
    (fc : PySem.W.findIn K (.ref C) "__class__" = some (some (.builtin "object.__class__")))
    (fI : PySem.W.findIn K (.ref C) "__init__" = some (some (.ref fi))) (iI : PySem.W.isFn K (.ref fi) = true)
    {od1 an1 od2 an2 : Option Addr} {sl1 sl2 : Array (Option Value)} {oc1 kV1 dc1 pm1 cd1 ct1 kV2 dc2 pm2 cd2 ct2 : Value}
    (lI : K.lookup fi = some ⟨oc1, od1, .func (PySem.W.fnOf "__init__" qI (defArgs sI) (defBody sI) (defScope sI) .none kV1 dc1 pm1 an1 cd1 ct1), sl1⟩) (cI : PySem.W.codeIn K cd1 qI = true) (pI : PySem.W.keepIn K (.ref fi) = true)
    (fE : PySem.W.findIn K (.ref C) "__eq__" = some (some (.ref fe))) (iE : PySem.W.isFn K (.ref fe) = true)
    (lE : K.lookup fe = some ⟨.type "function", od2, .func (PySem.W.fnOf "__eq__" qE (defArgs sE) (defBody sE) (defScope sE) .none kV2 dc2 pm2 an2 cd2 ct2), sl2⟩) (cE : PySem.W.codeIn K cd2 qE = true) (pE : PySem.W.keepIn K (.ref fe) = true)
    (bI : ∀ fd, Fun K "__init__" qI sI fi fd → Binds K fd ("self" :: ks) []) (bE : ∀ fd, Fun K "__eq__" qE sE fe fd → Binds K fd ["self", "other"] [])
    (na : ∀ f ∈ ks, NoAttr K C f) : CF K mg n qI qE sI sE ks C fi fe := by
  have hc : PySem.W.clsIn K C = some { name := n, bases := bs, mro := Value.ref C :: [.type "object"], ns := N, qualname := q, hasDict := hdct, slotNames := sn, subclasses := sub, abstract := ab, collection := col } := by
    unfold PySem.W.clsIn
    rw [kC]
  have mo : PySem.W.mroIn K C (.type "object") = some true := by
    unfold PySem.W.mroIn
    rw [hc]
    simp
  have F1 := fun_mk (st := sI) lI cI pI
  have F2 := fun_mk (st := sE) lE cE pE
  exact ⟨PySem.W.mg_of X G aC, ⟨⟨pg, hd, po, sa⟩, fc, sb, sc, mo⟩, ⟨⟨mk, fI, iI, kc⟩, _, F1, bI _ F1⟩,
    ⟨fE, iE, ⟨_, F2, bE _ F2⟩, ⟨n, q, N, bs, hdct, sn, sub, ab, col, dd, k0, k1, k2, k3, k5, newId, _, es, ep, _, kC, kN, rfl, keysStr_of kS, ns_some kN nE, ns_none kN nN, lE, rfl⟩⟩,
    na, ⟨_, hc, rfl, rfl⟩, by show Option.map (fun o : Obj => o.cls) (K.lookup C) = _; rw [kC]; rfl⟩
theorem cf_cont {R : Prop} {K : PySem.W.Frag} {h : Heap} {mg : Str → Option Value} (X : K.In h) (G : h.Ns mainGlobals mg)
    (sb : PySem.W.specialIn K (.builtin "object.__class__") "__get__" = some (some (.builtin "getset_descriptor.__get__"))) (sc : PySem.W.takesIn K (.builtin "object.__class__") = some true)
    {n qI qE : Str} {sI sE : Stmt} {ks : List Str} {C fi fe : Addr} (aC : PySem.W.nsIn K mainGlobals n = some (some (.ref C)))
    {q : Str} {N : Addr} {bs : List Value} {hdct : Bool} {sn : List Str} {sub : List Value} {ab : Bool} {col : Option Bool} {dd : Option Addr} {k0 k1 k2 k3 k5 : Option Value} {newId : String}
    (kC : K.lookup C = some (excClassObj n q C N bs [.type "object"] hdct sn sub ab col dd k0 k1 k2 k3 k5 newId))
    {c : Value} {d : Option Addr} {es : Array DictEntry} {ep : Nat} {sl : Array (Option Value)} (kN : K.lookup N = some ⟨c, d, .dict es ep, sl⟩) (kS : keysStr es = true)
    (nE : PySem.W.nsIn K N "__eq__" = some (some (.ref fe))) (nN : PySem.W.nsIn K N "__ne__" = some none)
    (pg : PySem.W.plainGet K C Str.empty = true) (hd : PySem.W.hasDictIn K C = true) (po : PySem.W.plainOver K C = true) (sa : PySem.W.findIn K (.ref C) "__setattr__" = some (some (.builtin "object.__setattr__"))) (mk : PySem.W.makesIn K C = true) (kc : PySem.W.keepIn K (.ref C) = true)
    (fc : PySem.W.findIn K (.ref C) "__class__" = some (some (.builtin "object.__class__")))
    (fI : PySem.W.findIn K (.ref C) "__init__" = some (some (.ref fi))) (iI : PySem.W.isFn K (.ref fi) = true)
    {od1 an1 od2 an2 : Option Addr} {sl1 sl2 : Array (Option Value)} {oc1 kV1 dc1 pm1 cd1 ct1 kV2 dc2 pm2 cd2 ct2 : Value}
    (lI : K.lookup fi = some ⟨oc1, od1, .func (PySem.W.fnOf "__init__" qI (defArgs sI) (defBody sI) (defScope sI) .none kV1 dc1 pm1 an1 cd1 ct1), sl1⟩) (cI : PySem.W.codeIn K cd1 qI = true) (pI : PySem.W.keepIn K (.ref fi) = true)
    (fE : PySem.W.findIn K (.ref C) "__eq__" = some (some (.ref fe))) (iE : PySem.W.isFn K (.ref fe) = true)
    (lE : K.lookup fe = some ⟨.type "function", od2, .func (PySem.W.fnOf "__eq__" qE (defArgs sE) (defBody sE) (defScope sE) .none kV2 dc2 pm2 an2 cd2 ct2), sl2⟩) (cE : PySem.W.codeIn K cd2 qE = true) (pE : PySem.W.keepIn K (.ref fe) = true)
    (bI : ∀ fd, Fun K "__init__" qI sI fi fd → Binds K fd ("self" :: ks) []) (bE : ∀ fd, Fun K "__eq__" qE sE fe fd → Binds K fd ["self", "other"] [])
    (na : ∀ f ∈ ks, NoAttr K C f) (k : CF K mg n qI qE sI sE ks C fi fe → R) : R :=
  k (cf_mk X G sb sc aC kC kN kS nE nN pg hd po sa mk kc fc fI iI lI cI pI fE iE lE cE pE bI bE na)
theorem two_cont {R : Prop} {K : PySem.W.Frag} {h : Heap} (X : K.In h) (sb : PySem.W.specialIn K (.builtin "object.__class__") "__get__" = some (some (.builtin "getset_descriptor.__get__"))) (sc : PySem.W.takesIn K (.builtin "object.__class__") = some true)
    (k : (PySem.W.specialIn K (.builtin "object.__class__") "__get__" = some (some (.builtin "getset_descriptor.__get__"))) → (PySem.W.takesIn K (.builtin "object.__class__") = some true) → R) : R := k sb sc
theorem fun_cont {R : Prop} {K : PySem.W.Frag} {h : Heap} {mg : Str → Option Value} (X : K.In h) (G : h.Ns mainGlobals mg) {x : Str} {st : Stmt} {f : Addr} {oc : Value} {od an : Option Addr} {osl : Array (Option Value)} {kV doc pm cdv ct : Value} (a : PySem.W.nsIn K mainGlobals x = some (some (.ref f)))
    (l : K.lookup f = some ⟨oc, od, .func (PySem.W.fnOf x x (defArgs st) (defBody st) (defScope st) .none kV doc pm an cdv ct), osl⟩) (c : PySem.W.codeIn K cdv x = true) (p : PySem.W.keepIn K (.ref f) = true)
    (k : mg x = some (.ref f) → Fun K x x st f (PySem.W.fnOf x x (defArgs st) (defBody st) (defScope st) .none kV doc pm an cdv ct) → R) : R := k (PySem.W.mg_of X G a) (fun_mk l c p)
theorem non_cont {R : Prop} {K : PySem.W.Frag} {h : Heap} {mg : Str → Option Value} (X : K.In h) (G : h.Ns mainGlobals mg) {x : Str} (a : PySem.W.nsIn K mainGlobals x = some none) (k : mg x = none → R) : R := k (PySem.W.mg_none_of X G a)
def spLaw (K : PySem.W.Frag) : Sp := fun vs H Q _ => ∃ (a : Addr) (ns : List Int), vs = [.ref a] ∧ SqL K H a (ns.map V.int) ∧ ns.length ≤ 63 ∧ ∀ H', Q (.bl true) H'
theorem walk {l : PySem.W.OpenLaw} {q : Program} {loose : List Str} {XP : (Str → Option Value) → Heap → Prop} {YP : World → Heap → Prop} {d : DefRec} {K : Params → PySem.W.Frag} (hn : l.most = some 63) (hdf : d.params.defaults = [])
    (hY : ∀ (w : World) (h : Heap), YP w h → (K w.params).In h)
    (F : ∀ (w : World) (mg : Str → Option Value) (fa : Addr) (h : Heap), (K w.params).In h → h.Ns mainGlobals mg → mg d.name = some (.ref fa) →
      ∃ fd : FuncData, (∀ (s : Shared) (u : Value), BindsTo s fd { pos := [u] } [("_law_script", u)]) ∧ ∀ base : Heap, (K w.params).In base → base.Ns mainGlobals mg → FnG l.prog w (K w.params) mg base 4 fa fd ["_law_script"] (spLaw (K w.params))) :
    PySem.W.WalkO q loose XP YP l.row.toRowW d [] (fun f vs => PySem.call f vs) :=
  Mw.walk_ofG (n := 63) (k := 4) (x := "_law_script") (sp := fun w => spLaw (K w.params)) hn (by rw [sizeLine_eq]; decide) hdf ⟨rfl, by decide, by decide⟩ hY F (fun _ _ a ns hl _ hS => ⟨a, ns, rfl, hS, hl, fun _ => rfl⟩)
def nmOf (i : Nat) : Str := ["Outside", "Covered", "Uncovered", "UnlikeRow", "Meets", "Parted", "Miscounted", "Carry", "Breaking", "Standings", "Fewest", "NoRoom", "PlanRun", "PlanParted", "PlanOutside", "Broken", "NoOrder", "Showing"].getD i ""
theorem nm_inj : ∀ c, c < 18 → ∀ c', c' < 18 → nmOf c = nmOf c' → c = c' := by decide +kernel
/-- all the classes -/
theorem ty_mk {K : PySem.W.Frag} {mg : Str → Option Value} {cs fi fe : Nat → Addr} (isi : mg "isinstance" = none)
    (h0 : CF K mg "Outside" "Outside.__init__" "Outside.__eq__" (mI 8) (mE 8) ["index", "reading"] (cs 0) (fi 0) (fe 0))
    (h1 : CF K mg "Covered" "Covered.__init__" "Covered.__eq__" (mI 10) (mE 10) ["rows"] (cs 1) (fi 1) (fe 1))
    (h2 : CF K mg "Uncovered" "Uncovered.__init__" "Uncovered.__eq__" (mI 11) (mE 11) ["index", "case"] (cs 2) (fi 2) (fe 2))
    (h3 : CF K mg "UnlikeRow" "UnlikeRow.__init__" "UnlikeRow.__eq__" (mI 27) (mE 27) ["row"] (cs 3) (fi 3) (fe 3))
    (h4 : CF K mg "Meets" "Meets.__init__" "Meets.__eq__" (mI 1) (mE 1) ["rows"] (cs 4) (fi 4) (fe 4))
    (h5 : CF K mg "Parted" "Parted.__init__" "Parted.__eq__" (mI 2) (mE 2) ["index", "reading", "store", "answer"] (cs 5) (fi 5) (fe 5))
    (h6 : CF K mg "Miscounted" "Miscounted.__init__" "Miscounted.__eq__" (mI 4) (mE 4) ["reading", "store", "answer", "hands"] (cs 6) (fi 6) (fe 6))
    (h7 : CF K mg "Carry" "Carry.__init__" "Carry.__eq__" (mI 6) (mE 6) ["dealing", "demand"] (cs 7) (fi 7) (fe 7))
    (h8 : CF K mg "Breaking" "Breaking.__init__" "Breaking.__eq__" (mI 13) (mE 13) ["copies", "demand"] (cs 8) (fi 8) (fe 8))
    (h9 : CF K mg "Standings" "Standings.__init__" "Standings.__eq__" (mI 15) (mE 15) ["fixed", "free", "idle"] (cs 9) (fi 9) (fe 9))
    (h10 : CF K mg "Fewest" "Fewest.__init__" "Fewest.__eq__" (mI 16) (mE 16) ["number", "dealing"] (cs 10) (fi 10) (fe 10))
    (h11 : CF K mg "NoRoom" "NoRoom.__init__" "NoRoom.__eq__" (mI 17) (mE 17) ["needed"] (cs 11) (fi 11) (fe 11))
    (h12 : CF K mg "PlanRun" "PlanRun.__init__" "PlanRun.__eq__" (mI 22) (mE 22) ["made", "answered"] (cs 12) (fi 12) (fe 12))
    (h13 : CF K mg "PlanParted" "PlanParted.__init__" "PlanParted.__eq__" (mI 24) (mE 24) ["index", "case", "store", "answer"] (cs 13) (fi 13) (fe 13))
    (h14 : CF K mg "PlanOutside" "PlanOutside.__init__" "PlanOutside.__eq__" (mI 25) (mE 25) ["index", "case", "store", "answer"] (cs 14) (fi 14) (fe 14))
    (h15 : CF K mg "Broken" "Broken.__init__" "Broken.__eq__" (mI 19) (mE 19) ["moment", "what"] (cs 15) (fi 15) (fe 15))
    (h16 : CF K mg "NoOrder" "NoOrder.__init__" "NoOrder.__eq__" (mI 20) (mE 20) ["reached"] (cs 16) (fi 16) (fe 16))
    (h17 : CF K mg "Showing" "Showing.__init__" "Showing.__eq__" (mI 29) (mE 29) ["right", "copies"] (cs 17) (fi 17) (fe 17)) : Ty K mg cs fi fe := by
  have ty : ∀ c, c < 18 → TyC K (cs c) := by
    intro c hc
    match c, hc with
    | 0, _ => exact h0.ty
    | 1, _ => exact h1.ty
    | 2, _ => exact h2.ty
    | 3, _ => exact h3.ty
    | 4, _ => exact h4.ty
    | 5, _ => exact h5.ty
    | 6, _ => exact h6.ty
    | 7, _ => exact h7.ty
    | 8, _ => exact h8.ty
    | 9, _ => exact h9.ty
    | 10, _ => exact h10.ty
    | 11, _ => exact h11.ty
    | 12, _ => exact h12.ty
    | 13, _ => exact h13.ty
    | 14, _ => exact h14.ty
    | 15, _ => exact h15.ty
    | 16, _ => exact h16.ty
    | 17, _ => exact h17.ty
    | n + 18, h => exact absurd (show n + 18 < 18 from h) (by omega)
  have cl : ∀ c, c < 18 → ∃ cd, PySem.W.clsIn K (cs c) = some cd ∧ cd.mro = [.ref (cs c), .type "object"] ∧ cd.name = nmOf c := by
    intro c hc
    match c, hc with
    | 0, _ => exact h0.cl
    | 1, _ => exact h1.cl
    | 2, _ => exact h2.cl
    | 3, _ => exact h3.cl
    | 4, _ => exact h4.cl
    | 5, _ => exact h5.cl
    | 6, _ => exact h6.cl
    | 7, _ => exact h7.cl
    | 8, _ => exact h8.cl
    | 9, _ => exact h9.cl
    | 10, _ => exact h10.cl
    | 11, _ => exact h11.cl
    | 12, _ => exact h12.cl
    | 13, _ => exact h13.cl
    | 14, _ => exact h14.cl
    | 15, _ => exact h15.cl
    | 16, _ => exact h16.cl
    | 17, _ => exact h17.cl
    | n + 18, h => exact absurd (show n + 18 < 18 from h) (by omega)
  have tp : ∀ c, c < 18 → PySem.W.typeIn K (.ref (cs c)) = some (.type "type") := by
    intro c hc
    match c, hc with
    | 0, _ => exact h0.tp
    | 1, _ => exact h1.tp
    | 2, _ => exact h2.tp
    | 3, _ => exact h3.tp
    | 4, _ => exact h4.tp
    | 5, _ => exact h5.tp
    | 6, _ => exact h6.tp
    | 7, _ => exact h7.tp
    | 8, _ => exact h8.tp
    | 9, _ => exact h9.tp
    | 10, _ => exact h10.tp
    | 11, _ => exact h11.tp
    | 12, _ => exact h12.tp
    | 13, _ => exact h13.tp
    | 14, _ => exact h14.tp
    | 15, _ => exact h15.tp
    | 16, _ => exact h16.tp
    | 17, _ => exact h17.tp
    | n + 18, h => exact absurd (show n + 18 < 18 from h) (by omega)
  have na : ∀ c f, has c f → NoAttr K (cs c) f := by
    rintro c f ⟨hc, hf⟩
    match c, hc, hf with
    | 0, _, hf => exact h0.na f hf
    | 1, _, hf => exact h1.na f hf
    | 2, _, hf => exact h2.na f hf
    | 3, _, hf => exact h3.na f hf
    | 4, _, hf => exact h4.na f hf
    | 5, _, hf => exact h5.na f hf
    | 6, _, hf => exact h6.na f hf
    | 7, _, hf => exact h7.na f hf
    | 8, _, hf => exact h8.na f hf
    | 9, _, hf => exact h9.na f hf
    | 10, _, hf => exact h10.na f hf
    | 11, _, hf => exact h11.na f hf
    | 12, _, hf => exact h12.na f hf
    | 13, _, hf => exact h13.na f hf
    | 14, _, hf => exact h14.na f hf
    | 15, _, hf => exact h15.na f hf
    | 16, _, hf => exact h16.na f hf
    | 17, _, hf => exact h17.na f hf
    | n + 18, h, _ => exact absurd (show n + 18 < 18 from h) (by omega)
  have inj : ∀ c c', c < 18 → c' < 18 → cs c = cs c' → c = c' := by
    intro c c' h1 h2 e
    obtain ⟨d1, a1, _, b1⟩ := cl c h1
    obtain ⟨d2, a2, _, b2⟩ := cl c' h2
    rw [e, a2] at a1
    cases a1
    exact nm_inj c h1 c' h2 (b1.symm.trans b2)
  have sub : ∀ c c', c < 18 → c' < 18 → PySem.W.subIn K (.ref (cs c')) (.ref (cs c)) = some (c' == c) := by
    intro c c' h1 h2
    obtain ⟨d2, a2, m2, _⟩ := cl c' h2
    show PySem.W.mroIn K (cs c') (.ref (cs c)) = _
    unfold PySem.W.mroIn
    rw [a2]
    show (if d2.mro.isEmpty = true then none else some (d2.mro.contains (Value.ref (cs c)))) = _
    rw [m2]
    by_cases e : c' = c
    · subst e
      simp
    · have ne : cs c ≠ cs c' := fun z => e (inj c c' h1 h2 z).symm
      have ne2 : (c' == c) = false := by simpa using e
      rw [ne2]
      simp [ne]
  have kit : ∀ c c', c < 18 → c' < 18 → PySem.W.kitOne K (.ref (cs c')) (.ref (cs c)) = some (c' == c) := by
    intro c c' h1 h2
    unfold PySem.W.kitOne
    by_cases e : c' = c
    · subst e
      simp
    · have ne : cs c' ≠ cs c := fun z => e (inj c c' h1 h2 z.symm).symm
      rw [if_neg (by simpa using ne)]
      show (if ((PySem.W.clsIn K (cs c)).isSome && PySem.W.typeIn K (.ref (cs c)) == some (.type "type")) = true then PySem.W.subIn K (.ref (cs c')) (.ref (cs c)) else none) = _
      obtain ⟨d1, a1, _, _⟩ := cl c h1
      rw [a1, tp c h1, if_pos (by simp)]
      exact sub c c' h1 h2
  have nf : ∀ c c', c < 18 → c' < 18 → PySem.W.notFirst K (cs c) (.ref (cs c')) = true := by
    intro c c' h1 h2
    unfold PySem.W.notFirst
    by_cases e : c' = c
    · subst e
      simp
    · rw [sub c c' h1 h2]
      have ne2 : (c' == c) = false := by simpa using e
      rw [ne2]
      simp
  exact ⟨⟨ty, na, kit, isi, h0.g, h1.g, h2.g, h3.g, h4.g, h5.g, h6.g, h7.g, h8.g, h9.g, h10.g, h11.g, h12.g, h13.g, h14.g, h15.g, h16.g, h17.g⟩, nf, h0.ini, h1.ini, h2.ini, h3.ini, h4.ini, h5.ini, h6.ini, h7.ini, h8.ini, h9.ini, h10.ini, h11.ini, h12.ini, h13.ini, h14.ini, h15.ini, h16.ini, h17.ini, h0.eqf, h1.eqf, h2.eqf, h3.eqf, h4.eqf, h5.eqf, h6.eqf, h7.eqf, h8.eqf, h9.eqf, h10.eqf, h11.eqf, h12.eqf, h13.eqf, h14.eqf, h15.eqf, h16.eqf, h17.eqf⟩
end K07
end

section
set_option Elab.async false
set_option linter.all false
set_option autoImplicit false
set_option maxRecDepth 100000
set_option maxHeartbeats 4000000
/-! K7n: the law. -/
namespace K07
open PySem PySem.Spec L2 Mw
open PyProof.Rows (envOfC)
abbrev sLaw : Stmt := topS 39
def nLaw : List Str := ["_law_script", "_law_hand_here", "_law_things", "_law_step", "_law_number", "_law_sizes_here", "_law_first", "_law_again", "_law_size", "_law_at", "_law_other", "_law_place", "_law_bent", "_law_near"]
theorem scLaw : FnScope nLaw ["_law_script"] (defScope sLaw) := ⟨rfl, rfl, rfl, by decide +kernel, rfl, by decide +kernel, by decide +kernel⟩
/-! what the law's statements ask -/
def vTake (e : Sm) : Sm := vFn fTake (vCons (vLoc 1) (vCons e vNil))
def pw9 : Sm := vBin fPow (vCon (.int 10)) (vCon (.int 9))
def sm2a : SmS := sSet 4 (vBin fAdd (vBin fMulI (vLoc 3) pw9) (vTake pw9))
def sm2b : SmS := sApp 2 (vBin fIx2 (vTup (vCons (vLoc 4) (vCons (vTup (vCons (vLoc 4) vNil)) (vCons (vTup (vCons (vLoc 3) (vCons (vLoc 4) vNil))) (vCons (vTup (vCons (vTup (vCons (vLoc 4) (vCons (vLoc 3) vNil))) vNil)) vNil))))) (vTake (vCon (.int 4))))
def sm1 : SmS := sSetM 2 (fun env Q Qx => vNil env (fun ds => ds.length ≤ sizeLine ∧ Q ds) Qx)
def sm2 : SmS := sFor (iRng (vCons (vCon (.int 5)) vNil)) (gN 3) (sSeq sm2a sm2b)
def sm3 : SmS := sFrz 2 (sSet 5 (vCall clSizes [] vNil))
def vRes (i : Nat) : Sm := vCall clRes [] (vCons (vBin fIx2 (vLoc i) (vCon (.int 0))) (vCons (vBin fIx2 (vLoc i) (vCon (.int 1))) (vCons (vBin fIx2 (vLoc i) (vCon (.int 2))) (vCons (vBin fIx2 (vLoc i) (vCon (.int 3))) vNil))))
def vCut : Sm := vLock (vLcL (iSeq (vLoc 5)) [8] (gN 8) bTrue (vFn fTuple (vCons (vSl (vLoc 2) oNone (oSome (vLoc 8))) vNil)))
def sm6 : SmS := sIf (bOf (vBin fNeS (vFn fRepr (vCons (vCall clKept [] (vCons (vLoc 6) vNil)) vNil)) (vFn fRepr (vCons vCut vNil)))) (sRet (vCon (.bl false))) sSkip
def bSays (a b due : Sm) : SmB := bNot (bOf (vCall clSays [] (vCons a (vCons b (vCons due vNil)))))
def iLen : SmI := iRng (vCons (vFn fLen (vCons (vLoc 5) vNil)) vNil)
def ix (i j : Nat) : Sm := vBin fIx2 (vLoc i) (vLoc j)
def sm7 : SmS := sFor iLen (gN 9) (sFor iLen (gN 10) (sIf (bSays (ix 6 9) (ix 7 10) (vBin fEq (vLoc 9) (vLoc 10))) (sRet (vCon (.bl false))) sSkip))
def vGe : Sm := vBin fGe (vLoc 11) (ix 5 9)
def sm8 : SmS := sFor (iRng (vCons (vCon (.int 4)) vNil)) (gN 11) (sSeq (sSetM 12 (nList (vLoc 2))) (sSeq (sSetIx 12 (vLoc 11) (vBin fIx2 (vLoc 2) (vCon (.int 4)))) (sSeq (sFrz 12 (sSet 13 (vRes 12)))
  (sFor iLen (gN 9) (sIf (bOr (bSays (ix 6 9) (ix 13 9) vGe) (bSays (ix 13 9) (ix 7 9) vGe)) (sRet (vCon (.bl false))) sSkip)))))
def smL : SmS := sSeq sm1 (sSeq sm2 (sSeq sm3 (sSeq (sSet 6 (vRes 2)) (sSeq (sSet 7 (vRes 2)) (sSeq sm6 (sSeq sm7 (sSeq sm8 (sRet (vCon (.bl true))))))))))
section
variable {P : Program} {w : World} {K : PySem.W.Frag} {mg : Str → Option Value} {base : Heap} {cs fi fe : Nat → Addr} {f : Addr} {fd : FuncData}
/-- what the law calls -/
structure Calls (P : Program) (w : World) (K : PySem.W.Frag) (mg : Str → Option Value) (base : Heap) (cs : Nat → Addr) (fH fK fS fR fP fT : Addr) (dH dK dS dR dP dT : FuncData) : Prop where
  H : FnOk P w K mg base CX0 1 fH dH ["_law_script"] (spHand K (GmOf K cs))
  gH : mg "_law_hand" = some (.ref fH)
  kH : PySem.W.keepIn K (.ref fH) = true
  bH : Binds K dH ["_law_script"] []
  T : FnOk P w K mg base CX0 2 fT dT ["_law_hand_here", "_law_many"] (spTake (GmOf K cs))
  gT : mg "_law_take" = some (.ref fT)
  kT : PySem.W.keepIn K (.ref fT) = true
  bT : Binds K dT ["_law_hand_here", "_law_many"] []
  S : FnG P w K mg base 1 fS dS [] (spD (GmOf K cs) clSizes 0)
  gS : mg "_law_sizes" = some (.ref fS)
  kS : PySem.W.keepIn K (.ref fS) = true
  bS : Binds K dS [] []
  R : FnG P w K mg base 3 fR dR ["_law_a", "_law_b", "_law_c", "_law_d"] (spD (GmOf K cs) clRes 4)
  gR : mg "_law_results" = some (.ref fR)
  kR : PySem.W.keepIn K (.ref fR) = true
  bR : Binds K dR ["_law_a", "_law_b", "_law_c", "_law_d"] []
  Kp : FnG P w K mg base 3 fK dK ["_law_x"] (spD (GmOf K cs) clKept 1)
  gK : mg "_law_kept" = some (.ref fK)
  kK : PySem.W.keepIn K (.ref fK) = true
  bK : Binds K dK ["_law_x"] []
  Y : FnG P w K mg base 3 fP dP ["_law_one", "_law_other", "_law_due"] (spD (GmOf K cs) clSays 3)
  gY : mg "_law_says" = some (.ref fP)
  kY : PySem.W.keepIn K (.ref fP) = true
  bY : Binds K dP ["_law_one", "_law_other", "_law_due"] []
  mL : mg "len" = none
  mR : mg "range" = none
  mP : mg "repr" = none
  mT : mg "tuple" = none
  mS : mg "list" = none
theorem clRes_n : ∀ ds Q Qx, clRes ds Q Qx → ds.length = 4 := fun ds Q Qx h => by obtain ⟨a, b, c, d, rfl, _⟩ := h; rfl
theorem clKept_n : ∀ ds Q Qx, clKept ds Q Qx → ds.length = 1 := fun ds Q Qx h => by obtain ⟨a, b, c, d, rfl, _⟩ := h; rfl
theorem clSays_n : ∀ ds Q Qx, clSays ds Q Qx → ds.length = 3 := fun ds Q Qx h => by obtain ⟨c, c', fs, gs, due, rfl, _⟩ := h; rfl
section
variable {fH fK fS fR fP fT : Addr} {dH dK dS dR dP dT : FuncData} {cdv : Value} {A : Around} {outer : List PySem.Env} {s0 : Shared} {H : Hp} {E : XK}
abbrev XL (P : Program) (w : World) (K : PySem.W.Frag) (mg : Str → Option Value) (base : Heap) (f : Addr) (cdv : Value) (A : Around) (outer : List PySem.Env) (s0 : Shared) (H : Hp) (E : XK) : Cx := XD P w K mg base nLaw "law" (defScope sLaw) f cdv A outer s0 H E
/-- the law's statements behind the first -/
theorem law_tail (C : Calls P w K mg base cs fH fK fS fR fP fT dH dK dS dR dP dT) (hg : (A.deeper (envOfC "law" (defScope sLaw) s0.heap.objs.size f cdv)).guards = some []) (hr : Room 3 (A.deeper (envOfC "law" (defScope sLaw) s0.heap.objs.size f cdv))) (hd : Addr) (H1 : Hp) :
    PSs (XL P w K mg base f cdv A outer s0 H E) (defBody sLaw).tail (tS (FmOf (GmOf K cs hd) H1 noW) smL) := by
  have len : ∀ {tg : Expr} {p p1 p2 p3 p4 : Pos}, PI (XL P w K mg base f cdv A outer s0 H E) tg (.Call (.Name "range" p) [.Call (.Name "len" p1) [.Name "_law_sizes_here" p2] [] p3] [] p4) (tI (FmOf (GmOf K cs hd) H1 noW) iLen) := fun {tg p p1 p2 p3 p4} =>
    oki_rng rfl C.mR (ac (ok_fn (pe_callB call_len rfl C.mL PySem.boot_len (rc (PE.rd (lv 5)) okr_nil)) (sv_len rfl)) oka_nil) rfl
  have res : ∀ (i : Nat) {x : Str} {p p0 p1 p2 p3 q0 q1 q2 q3 r0 r1 r2 r3 pos : Pos} {j0 j1 j2 j3}, nLaw[i]? = some x → Vis (defScope sLaw) x → (x == ("__debug__" : Str)) = false → (x == ("__classdict__" : Str)) = false → PE (XL P w K mg base f cdv A outer s0 H E) (.Call (.Name "_law_results" p) [.Subscript (.Name x p0) (.Constant (.int 0) j0 q0) r0, .Subscript (.Name x p1) (.Constant (.int 1) j1 q1) r1, .Subscript (.Name x p2) (.Constant (.int 2) j2 q2) r2, .Subscript (.Name x p3) (.Constant (.int 3) j3 q3) r3] [] pos) (tE (FmOf (GmOf K cs hd) H1 noW) (vRes i)) := fun i {x p p0 p1 p2 p3 q0 q1 q2 q3 r0 r1 r2 r3 pos j0 j1 j2 j3} hN hv h1 h2 =>
    ok_callC (Γ := GmOf K cs) rfl takesN C.R hg hr rfl C.gR C.kR C.bR clRes_n (ac (ok_sub_ix rfl (PE.rd (ok_loc hN hv h1 h2)) (PE.rd ok_int) (fun _ _ => rfl)) (ac (ok_sub_ix rfl (PE.rd (ok_loc hN hv h1 h2)) (PE.rd ok_int) (fun _ _ => rfl)) (ac (ok_sub_ix rfl (PE.rd (ok_loc hN hv h1 h2)) (PE.rd ok_int) (fun _ _ => rfl)) (ac (ok_sub_ix rfl (PE.rd (ok_loc hN hv h1 h2)) (PE.rd ok_int) (fun _ _ => rfl)) oka_nil))))
  have hu : (A.deeper (envOfC "law" (defScope sLaw) s0.heap.objs.size f cdv)).units + 70 < cLine := by have := hr.un; omega
  have says : ∀ {a b d : Expr} {sa sb sd : Sm} {p pos pos2 : Pos}, PE (XL P w K mg base f cdv A outer s0 H E) a (tE (FmOf (GmOf K cs hd) H1 noW) sa) → PE (XL P w K mg base f cdv A outer s0 H E) b (tE (FmOf (GmOf K cs hd) H1 noW) sb) → PE (XL P w K mg base f cdv A outer s0 H E) d (tE (FmOf (GmOf K cs hd) H1 noW) sd) →
      starEach [a, b, d] (XL P w K mg base f cdv A outer s0 H E).env = [(false, eval a (XL P w K mg base f cdv A outer s0 H E).env), (false, eval b (XL P w K mg base f cdv A outer s0 H E).env), (false, eval d (XL P w K mg base f cdv A outer s0 H E).env)] → starEach [b, d] (XL P w K mg base f cdv A outer s0 H E).env = [(false, eval b (XL P w K mg base f cdv A outer s0 H E).env), (false, eval d (XL P w K mg base f cdv A outer s0 H E).env)] → starEach [d] (XL P w K mg base f cdv A outer s0 H E).env = [(false, eval d (XL P w K mg base f cdv A outer s0 H E).env)] →
      ((backTo pos (starEach [b, d] (XL P w K mg base f cdv A outer s0 H E).env)).any (·.1) = false) → PT (XL P w K mg base f cdv A outer s0 H E) (.UnaryOp .Not (.Call (.Name "_law_says" p) [a, b, d] [] pos) pos2) (tB (FmOf (GmOf K cs hd) H1 noW) (bSays sa sb sd)) := fun {a b d sa sb sd p pos pos2} ha hb hd' e1 e2 e3 e4 =>
    okt_not (okt_of rfl (PE.rd (ok_callC (Γ := GmOf K cs) rfl takesN C.Y hg hr rfl C.gY C.kY C.bY clSays_n (ac ha (ac hb (ac hd' oka_nil (by rw [e3]; rfl)) (by rw [e2, e3])) (by rw [e1, e2])) (by decide) (by rw [e1, e2]) e4)) (fun _ => rfl))
  exact oks_cons (ok_setM (i := 2) scLaw.nd rfl (.inr rfl) (ok_newl oka_nil) rfl (.inl rfl))
    (oks_cons (ok_for PassesOwn.never rfl (oki_rng rfl C.mR (ac ok_int oka_nil) rfl) (okg_name (i := 3) scLaw.nd rfl (.inl rfl) (.inr rfl))
      (oks_cons (ok_set (i := 4) scLaw.nd rfl (.inl rfl) (ok_add rfl (PE.rd (ok_mulI (PE.rd (lv 3)) (PE.rd (ok_pow (PE.rd ok_int) (PE.rd ok_int))))) (PE.rd (ok_takeC (cs := cs) (hd := hd) rfl C.T (hr.mono (by decide)) rfl C.gT C.kT C.bT (ac (lv 1) (ac (ok_pow (PE.rd ok_int) (PE.rd ok_int)) oka_nil))))) rfl (.inr rfl))
      (oks_one (ok_app (i := 2) rfl (.inr (.inl rfl)) (by decide) (by decide) (ok_sub_ix rfl (PE.rd (ok_tup (ac (lv 4) (ac (ok_tup (ac (lv 4) oka_nil)) (ac (ok_tup (ac (lv 3) (ac (lv 4) oka_nil))) (ac (ok_tup (ac (ok_tup (ac (lv 4) (ac (lv 3) oka_nil))) oka_nil)) oka_nil)))))) (PE.rd (ok_takeC (cs := cs) (hd := hd) rfl C.T (hr.mono (by decide)) rfl C.gT C.kT C.bT (ac (lv 1) (ac ok_int oka_nil)))) (fun _ _ => rfl)) rfl rfl rfl rfl rfl)))
      (fun _ => rfl))
    (oks_cons (ok_frz (i := 2) (ok_set (i := 5) scLaw.nd rfl (.inl rfl) (ok_call0 (Γ := GmOf K cs) rfl takesN C.S hg (hr.mono (by decide)) rfl C.gS C.kS C.bS (by decide)) rfl (.inr rfl)))
    (oks_cons (ok_set (i := 6) scLaw.nd rfl (.inl rfl) (res 2 rfl (.inr (.inl rfl)) (by decide) (by decide)) rfl (.inr rfl))
    (oks_cons (ok_set (i := 7) scLaw.nd rfl (.inl rfl) (res 2 rfl (.inr (.inl rfl)) (by decide) (by decide)) rfl (.inr rfl))
    (oks_cons (ok_ifS (tneS (PE.rd (ok_fn (pe_callB (cr_repr (Φ := FmOf (GmOf K cs hd) H1 noW) rfl hg hu) rfl C.mP (by rfl) (rc (PE.rd (ok_callC (Γ := GmOf K cs) rfl takesN C.Kp hg hr rfl C.gK C.kK C.bK clKept_n (ac (lv 6) oka_nil))) okr_nil)) sv_repr))
        (PE.rd (ok_fn (pe_callB (cr_repr (Φ := FmOf (GmOf K cs hd) H1 noW) rfl hg hu) rfl C.mP (by rfl) (rc (PE.rd (ok_lock (ok_lcL (own := [("_law_size", 8)]) (vs := [8]) rfl rfl scLaw.nd (oki_seq rfl (lv 5)) (blkOk_by (own := [("_law_size", 8)]) (N := nLaw) (sc := defScope sLaw) (by decide +kernel)) (fun _ _ _ _ _ => okgw_name (i := 8) scLaw.nd rfl (.inl rfl) (.inr rfl)) (fun _ _ _ _ _ => okts_nil)
          (fun _ _ _ _ _ => ok_fn (pe_callTy call_tuple_of rfl C.mT (by rfl) (rc (PE.rd (ok_slice rfl (PE.rd (lv 2)) oko_none (oko_some (PE.rd (lv 8))))) okr_nil)) (sv_tuple rfl)) (fun _ => rfl)))) okr_nil)) sv_repr))) (oks_one (ok_ret ok_bl)) oks_nil)
    (oks_cons (ok_for PassesOwn.never rfl len (okg_name (i := 9) scLaw.nd rfl (.inl rfl) (.inr rfl)) (oks_one (ok_for PassesOwn.never rfl len (okg_name (i := 10) scLaw.nd rfl (.inl rfl) (.inr rfl))
        (oks_one (ok_ifS (says (ok_sub_ix rfl (PE.rd (lv 6)) (PE.rd (lv 9)) (fun _ _ => rfl)) (ok_sub_ix rfl (PE.rd (lv 7)) (PE.rd (lv 10)) (fun _ _ => rfl)) (ok_eq rfl (hu65 hr) (PE.rd (lv 9)) (PE.rd (lv 10))) rfl rfl rfl rfl) (oks_one (ok_ret ok_bl)) oks_nil)) (fun _ => rfl))) (fun _ => rfl))
    (oks_cons (ok_for PassesOwn.never rfl (oki_rng rfl C.mR (ac ok_int oka_nil) rfl) (okg_name (i := 11) scLaw.nd rfl (.inl rfl) (.inr rfl))
      (oks_cons (ok_setM (i := 12) scLaw.nd rfl (.inl rfl) (ok_newlist rfl rfl C.mS (by rfl) (PE.rd (lv 2))) rfl (.inr rfl))
      (oks_cons (ok_setIx (i := 12) rfl (.inl rfl) (by decide) (by decide) (ok_sub_ix rfl (PE.rd (lv 2)) (PE.rd ok_int) (fun _ _ => rfl)) (lv 11) rfl rfl rfl (fun _ => rfl))
      (oks_cons (ok_frz (i := 12) (ok_set (i := 13) scLaw.nd rfl (.inl rfl) (res 12 rfl (.inl rfl) (by decide) (by decide)) rfl (.inr rfl)))
      (oks_one (ok_for PassesOwn.never rfl len (okg_name (i := 9) scLaw.nd rfl (.inl rfl) (.inr rfl))
        (oks_one (ok_ifS (PW.pt (okw_or (says (ok_sub_ix rfl (PE.rd (lv 6)) (PE.rd (lv 9)) (fun _ _ => rfl)) (ok_sub_ix rfl (PE.rd (lv 13)) (PE.rd (lv 9)) (fun _ _ => rfl)) (ok_ge (PE.rd (lv 11)) (PE.rd (ok_sub_ix rfl (PE.rd (lv 5)) (PE.rd (lv 9)) (fun _ _ => rfl)))) rfl rfl rfl rfl) (okw_or1 (says (ok_sub_ix rfl (PE.rd (lv 13)) (PE.rd (lv 9)) (fun _ _ => rfl)) (ok_sub_ix rfl (PE.rd (lv 7)) (PE.rd (lv 9)) (fun _ _ => rfl)) (ok_ge (PE.rd (lv 11)) (PE.rd (ok_sub_ix rfl (PE.rd (lv 5)) (PE.rd (lv 9)) (fun _ _ => rfl)))) rfl rfl rfl rfl)))) (oks_one (ok_ret ok_bl)) oks_nil)) (fun _ => rfl)))))) (fun _ => rfl))
    (oks_one (ok_ret ok_bl)))))))))
end
end
end K07
end

section
set_option Elab.async false
set_option linter.all false
set_option autoImplicit false
set_option maxRecDepth 100000
set_option maxHeartbeats 4000000
/-! K7p: the plain law. -/
namespace K07
open PySem PySem.Spec L2 Mw
open PyProof.Rows (envOfC)
/-- the things: the i-th of its own range -/
def Thing (i : Nat) (d : D) : Prop := ∃ n : Int, (i : Int) * 1000000000 ≤ n ∧ n < (i : Int) * 1000000000 + 1000000000 ∧ i < 5 ∧ (d = .int n ∨ d = .tup [.int n] ∨ d = .tup [.int i, .int n] ∨ d = .tup [.tup [.int n, .int i]])
theorem Thing.ok {i : Nat} {d : D} (h : Thing i d) : d.ok = true := by
  obtain ⟨n, _, _, _, rfl | rfl | rfl | rfl⟩ := h <;> rfl
theorem Thing.refl {i : Nat} {d : D} (h : Thing i d) : d.eqv d = true := by
  obtain ⟨n, _, _, _, rfl | rfl | rfl | rfl⟩ := h <;> simp [D.eqv, D.py, D.pys, PyData.eqv, PyData.eqvAll]
theorem Thing.unlike {i j : Nat} {d e : D} (h : Thing i d) (h' : Thing j e) (hn : i ≠ j) : d.eqv e = false := by
  obtain ⟨n, a1, a2, _, c⟩ := h
  obtain ⟨m, b1, b2, _, c'⟩ := h'
  have ne : n ≠ m := by omega
  rcases c with rfl | rfl | rfl | rfl <;> rcases c' with rfl | rfl | rfl | rfl <;> simp [D.eqv, D.py, D.pys, PyData.eqv, PyData.eqvAll, ne]
/-- its data, small -/
structure Small (p : PyData) : Prop where
  lay : p.canLay0 = true
  dep : p.depth ≤ 2
  wei : p.weight ≤ 200
  sho : p.showable = true
  noD : p.hasDict = false
  int : p.intsShort 13 = true
theorem small_int {n : Int} (h0 : 0 ≤ n) (h1 : n < 5000000000) : (PyData.int n).weight ≤ 40 ∧ (PyData.int n).showable = true ∧ (PyData.int n).shown.length ≤ 13 := by
  have hl : n.natAbs.log2 < 34 := by
    by_cases z : n.natAbs = 0
    · rw [z]; decide
    · rw [Nat.log2_lt z]
      have e : (2 : Nat) ^ 34 = 17179869184 := by decide
      omega
  refine ⟨?_, ?_, PyData.shown_int_le (by have e : (10 : Nat) ^ 12 = 1000000000000 := by decide
                                          omega)⟩
  · rw [PyData.weight.eq_5]
    split <;> omega
  · show decide _ = true
    simp
    omega
theorem Thing.small {i : Nat} {d : D} (h : Thing i d) : ∃ p, d.py = some p ∧ Small p := by
  obtain ⟨n, a1, a2, a3, c⟩ := h
  obtain ⟨w1, s1, t1⟩ := small_int (n := n) (by omega) (by omega)
  obtain ⟨w2, s2, t2⟩ := small_int (n := (i : Int)) (by omega) (by omega)
  rcases c with rfl | rfl | rfl | rfl
  · exact ⟨.int n, rfl, ⟨rfl, Nat.le_of_ble_eq_true rfl, by omega, s1, rfl, by simp [PyData.intsShort, t1]⟩⟩
  · refine ⟨.tuple [.int n], rfl, ⟨rfl, Nat.le_of_ble_eq_true rfl, ?_, ?_, rfl, ?_⟩⟩
    · simp only [PyData.weight.eq_3, PyData.weightAll.eq_2, PyData.weightAll.eq_1]; omega
    · simp only [PyData.showable.eq_6, PyData.showableAll.eq_2, PyData.showableAll.eq_1, s1]; rfl
    · simp [PyData.intsShort, PyData.intsShortAll, t1]
  · refine ⟨.tuple [.int i, .int n], rfl, ⟨rfl, Nat.le_of_ble_eq_true rfl, ?_, ?_, rfl, ?_⟩⟩
    · simp only [PyData.weight.eq_3, PyData.weightAll.eq_2, PyData.weightAll.eq_1]; omega
    · simp only [PyData.showable.eq_6, PyData.showableAll.eq_2, PyData.showableAll.eq_1, s1, s2]; rfl
    · simp [PyData.intsShort, PyData.intsShortAll, t1, t2]
  · refine ⟨.tuple [.tuple [.int n, .int i]], rfl, ⟨rfl, Nat.le_of_ble_eq_true rfl, ?_, ?_, rfl, ?_⟩⟩
    · simp only [PyData.weight.eq_3, PyData.weightAll.eq_2, PyData.weightAll.eq_1]; omega
    · simp only [PyData.showable.eq_6, PyData.showableAll.eq_2, PyData.showableAll.eq_1, s1, s2]; rfl
    · simp [PyData.intsShort, PyData.intsShortAll, t1, t2]
theorem kept_py {a b c d : D} (ha : ∃ p, a.py = some p ∧ Small p) (hb : ∃ p, b.py = some p ∧ Small p) (hc : ∃ p, c.py = some p ∧ Small p) (hd : ∃ p, d.py = some p ∧ Small p) :
    ∃ p, (D.lst (keptD [a, b, c, d])).py = some p ∧ p.showable = true ∧ p.hasDict = false ∧ p.depth ≤ 64 ∧ p.shown.length ≤ sizeLine := by
  obtain ⟨pa, ea, sa⟩ := ha
  obtain ⟨pb, eb, sb⟩ := hb
  obtain ⟨pc, ec, sc⟩ := hc
  obtain ⟨pd, ed, sd⟩ := hd
  refine ⟨.list (szN.map fun n => .tuple ([pa, pb, pc, pd].take n.toNat)), ?_, ?_, ?_, ?_, ?_⟩
  · simp [keptD, szN, D.py, D.pys, ea, eb, ec, ed]
  · simp [szN, PyData.showable, PyData.showableAll, sa.sho, sb.sho, sc.sho, sd.sho]
  · simp [szN, PyData.hasDict, PyData.hasDictAll, sa.noD, sb.noD, sc.noD, sd.noD]
  · have := sa.dep; have := sb.dep; have := sc.dep; have := sd.dep
    simp [szN, PyData.depth, PyData.depthAll]
    omega
  · refine PyData.shown_fits_of_layable0 (B := 13) (by decide) (by decide) ?_ ?_
    · show (_ && _ && _) = true
      rw [Bool.and_eq_true, Bool.and_eq_true]
      refine ⟨⟨?_, ?_⟩, ?_⟩
      · simp [szN, PyData.canLay0, PyData.canLayAll0, sa.lay, sb.lay, sc.lay, sd.lay]
      · have := sa.dep; have := sb.dep; have := sc.dep; have := sd.dep
        simp [szN, PyData.depth, PyData.depthAll]
        omega
      · have := sa.wei; have := sb.wei; have := sc.wei; have := sd.wei
        simp [szN, PyData.weight, PyData.weightAll]
        omega
    · simp [szN, PyData.intsShort, PyData.intsShortAll, sa.int, sb.int, sc.int, sd.int]
end K07
end

section
set_option Elab.async false
set_option linter.all false
set_option autoImplicit false
set_option maxRecDepth 100000
set_option maxHeartbeats 4000000
/-! K7q: the plain law, second part. -/
namespace K07
open PySem PySem.Spec L2 Mw
open PyProof.Rows (envOfC)
def szAt (c : Nat) : Nat := (szN.getD c 0).toNat
def allE : Nat → List D → List D → Bool
  | 0, _, _ => true
  | n + 1, x :: xs, y :: ys => x.eqv y && allE n xs ys
  | _ + 1, _, _ => false
theorem eq_same {a b c d a' b' c' d' : D} (h : ∀ x ∈ [a, b, c, d, a', b', c', d'], D.ok x = true) : ∀ i, i < 18 →
    eqI i (List.zip (ksOf i) [a, b, c, d]) (.ins i (List.zip (ksOf i) [a', b', c', d'])) = some (allE (szAt i) [a, b, c, d] [a', b', c', d']) := by
  have ha := h a (by simp)
  have hb := h b (by simp)
  have hc := h c (by simp)
  have hd := h d (by simp)
  have ha' := h a' (by simp)
  have hb' := h b' (by simp)
  have hc' := h c' (by simp)
  have hd' := h d' (by simp)
  have key : ∀ i, i < 18 → ((ksOf i).all fun f => fOk (List.zip (ksOf i) [a, b, c, d]) f && fOk (List.zip (ksOf i) [a', b', c', d']) f) = true ∧ (ksOf i).all (fEqv (List.zip (ksOf i) [a, b, c, d]) (List.zip (ksOf i) [a', b', c', d'])) = allE (szAt i) [a, b, c, d] [a', b', c', d'] := by
    have k1 : ((a.ok && a'.ok) && true) = true := by rw [ha, ha']; rfl
    have k2 : ((a.ok && a'.ok) && ((b.ok && b'.ok) && true)) = true := by rw [ha, ha', hb, hb']; rfl
    have k3 : ((a.ok && a'.ok) && ((b.ok && b'.ok) && ((c.ok && c'.ok) && true))) = true := by rw [ha, ha', hb, hb', hc, hc']; rfl
    have k4 : ((a.ok && a'.ok) && ((b.ok && b'.ok) && ((c.ok && c'.ok) && ((d.ok && d'.ok) && true)))) = true := by rw [ha, ha', hb, hb', hc, hc', hd, hd']; rfl
    intro i hi
    match i, hi with
    | 0, _ => exact ⟨k2, rfl⟩
    | 1, _ => exact ⟨k1, rfl⟩
    | 2, _ => exact ⟨k2, rfl⟩
    | 3, _ => exact ⟨k1, rfl⟩
    | 4, _ => exact ⟨k1, rfl⟩
    | 5, _ => exact ⟨k4, rfl⟩
    | 6, _ => exact ⟨k4, rfl⟩
    | 7, _ => exact ⟨k2, rfl⟩
    | 8, _ => exact ⟨k2, rfl⟩
    | 9, _ => exact ⟨k3, rfl⟩
    | 10, _ => exact ⟨k2, rfl⟩
    | 11, _ => exact ⟨k1, rfl⟩
    | 12, _ => exact ⟨k2, rfl⟩
    | 13, _ => exact ⟨k4, rfl⟩
    | 14, _ => exact ⟨k4, rfl⟩
    | 15, _ => exact ⟨k2, rfl⟩
    | 16, _ => exact ⟨k1, rfl⟩
    | 17, _ => exact ⟨k2, rfl⟩
    | n + 18, z => exact absurd (show n + 18 < 18 from z) (by omega)
  intro i hi
  obtain ⟨h1, h2⟩ := key i hi
  show (if i = i then (if i < 18 ∧ ((ksOf i).all fun f => fOk (List.zip (ksOf i) [a, b, c, d]) f && fOk (List.zip (ksOf i) [a', b', c', d']) f) = true then some ((ksOf i).all (fEqv (List.zip (ksOf i) [a, b, c, d]) (List.zip (ksOf i) [a', b', c', d']))) else none) else if i < 18 then some false else none) = _
  rw [if_pos rfl, if_pos ⟨hi, h1⟩, h2]
theorem eq_other {i j : Nat} {fs gs : List (Str × D)} (hj : j < 18) (hn : i ≠ j) : eqI i fs (.ins j gs) = some false := by
  show (if j = i then _ else if j < 18 then some false else none) = _
  rw [if_neg (fun z => hn z.symm), if_pos hj]
theorem sz_range : ∀ i, i < 18 → 1 ≤ szAt i ∧ szAt i ≤ 4 ∧ szN[i]? = some (szAt i : Int) := by decide +kernel
theorem res_at {ts : List D} {i : Nat} (hi : i < 18) : (resD ts)[i]? = some (.ins i (List.zip (ksOf i) ts)) := by
  unfold resD
  rw [List.getElem?_map, List.getElem?_range hi]
  rfl
theorem allE_refl {n : Nat} (h : 1 ≤ n ∧ n ≤ 4) {a b c d : D} (ha : a.eqv a = true) (hb : b.eqv b = true) (hc : c.eqv c = true) (hd : d.eqv d = true) : allE n [a, b, c, d] [a, b, c, d] = true := by
  have : n = 1 ∨ n = 2 ∨ n = 3 ∨ n = 4 := by omega
  rcases this with rfl | rfl | rfl | rfl <;> simp [allE, ha, hb, hc, hd]
theorem allE_bent {n k : Nat} (h : 1 ≤ n ∧ n ≤ 4) (hk : k < 4) {a b c d e : D} (ha : a.eqv a = true) (hb : b.eqv b = true) (hc : c.eqv c = true) (hd : d.eqv d = true) (xa : a.eqv e = false) (xb : b.eqv e = false) (xc : c.eqv e = false) (xd : d.eqv e = false) :
    allE n [a, b, c, d] ([a, b, c, d].set k e) = decide ((n : Int) ≤ (k : Int)) := by
  have : n = 1 ∨ n = 2 ∨ n = 3 ∨ n = 4 := by omega
  have : k = 0 ∨ k = 1 ∨ k = 2 ∨ k = 3 := by omega
  rcases this with rfl | rfl | rfl | rfl <;> rcases ‹n = 1 ∨ n = 2 ∨ n = 3 ∨ n = 4› with rfl | rfl | rfl | rfl <;> simp [allE, ha, hb, hc, hd, xa, xb, xc, xd]
theorem allE_bent' {n k : Nat} (h : 1 ≤ n ∧ n ≤ 4) (hk : k < 4) {a b c d e : D} (ha : a.eqv a = true) (hb : b.eqv b = true) (hc : c.eqv c = true) (hd : d.eqv d = true) (xa : e.eqv a = false) (xb : e.eqv b = false) (xc : e.eqv c = false) (xd : e.eqv d = false) :
    allE n ([a, b, c, d].set k e) [a, b, c, d] = decide ((n : Int) ≤ (k : Int)) := by
  have : n = 1 ∨ n = 2 ∨ n = 3 ∨ n = 4 := by omega
  have : k = 0 ∨ k = 1 ∨ k = 2 ∨ k = 3 := by omega
  rcases this with rfl | rfl | rfl | rfl <;> rcases ‹n = 1 ∨ n = 2 ∨ n = 3 ∨ n = 4› with rfl | rfl | rfl | rfl <;> simp [allE, ha, hb, hc, hd, xa, xb, xc, xd]

/-! ### the statements -/
abbrev E1 (x : Option L) (v3 v4 : Option L) : En := [none, some (.d .hand), x, v3, v4, none, none, none, none, none, none, none, none, none]
theorem cpow9 : CPow 10 9 := ⟨by decide, by decide, by decide⟩
theorem ok_sm2 {E : SE} (h : ∀ xs v3 v4, xs.length = 5 → (∀ i x, xs[i]? = some x → Thing i x) → E.nx (E1 (some (.ml xs)) v3 v4)) : sm2 (E1 (some (.ml [])) none none) E := by
  refine ⟨5, rfl, by decide, by decide, forD_inv0 (fun j env => ∃ xs v3 v4, env = E1 (some (.ml xs)) v3 v4 ∧ xs.length = j ∧ ∀ i x, xs[i]? = some x → Thing i x) ⟨[], none, none, rfl, rfl, fun i x e => by simp at e⟩ ?_ ?_⟩
  · rintro j d env Kn hj ⟨xs, v3, v4, rfl, hl, hx⟩ hK
    obtain ⟨hj5, rfl⟩ := rng_get hj
    have hj5 : j < 5 := hj5
    refine ⟨_, rfl, cpow9, (j : Int), 10 ^ (9 : Int).toNat, rfl, rfl, .inr ⟨by decide, by decide⟩, ?_⟩
    refine ⟨_, rfl, cpow9, 10 ^ (9 : Int).toNat, rfl, by decide, by decide, fun v v0 v1 => ?_⟩
    have v1 : v < 1000000000 := v1
    refine ⟨xs, rfl, Nat.lt_of_lt_of_le (by omega) (small_ok (n := 100) (by omega)), ?_⟩
    refine ⟨_, rfl, _, rfl, small_ok (Nat.le_of_ble_eq_true rfl), _, rfl, _, rfl, small_ok (Nat.le_of_ble_eq_true rfl), _, rfl, _, rfl, small_ok (Nat.le_of_ble_eq_true rfl), small_ok (Nat.le_of_ble_eq_true rfl), small_ok (Nat.le_of_ble_eq_true rfl), ?_⟩
    refine ⟨_, rfl, 4, rfl, by decide, by decide, fun t t0 t1 => ?_⟩
    have fin : ∀ z : D, Thing j z → Kn (E1 (some (.ml (xs ++ [z]))) (some (.d (.int j))) (some (.d (.int ((j : Int) * 10 ^ (9 : Int).toNat + v))))) := fun z hz => hK _ ⟨_, _, _, rfl, by simp [hl], fun i x e => by
      by_cases hi : i < xs.length
      · rw [List.getElem?_append_left hi] at e
        exact hx i x e
      · rw [List.getElem?_append_right (by omega)] at e
        have ei : i = j := by
          have := lt_of_get e
          simp at this
          omega
        subst ei
        rw [hl] at e
        simp at e
        subst e
        exact hz⟩
    have e9 : (10 : Int) ^ (9 : Int).toNat = 1000000000 := by decide
    have lo : (j : Int) * 1000000000 ≤ (j : Int) * 10 ^ (9 : Int).toNat + v := by rw [e9]; omega
    have hi : (j : Int) * 10 ^ (9 : Int).toNat + v < (j : Int) * 1000000000 + 1000000000 := by rw [e9]; omega
    have : t = 0 ∨ t = 1 ∨ t = 2 ∨ t = 3 := by omega
    rcases this with rfl | rfl | rfl | rfl
    · exact ⟨_, rfl, fin _ ⟨_, lo, hi, hj5, .inl rfl⟩⟩
    · exact ⟨_, rfl, fin _ ⟨_, lo, hi, hj5, .inr (.inl rfl)⟩⟩
    · exact ⟨_, rfl, fin _ ⟨_, lo, hi, hj5, .inr (.inr (.inl rfl))⟩⟩
    · exact ⟨_, rfl, fin _ ⟨_, lo, hi, hj5, .inr (.inr (.inr rfl))⟩⟩
  · rintro env ⟨xs, v3, v4, rfl, hl, hx⟩
    rw [rng_len] at hl
    exact h xs v3 v4 hl hx
end K07
end

section
set_option Elab.async false
set_option linter.all false
set_option autoImplicit false
set_option maxRecDepth 100000
set_option maxHeartbeats 4000000
/-! K7r: the plain law, third part. -/
namespace K07
open PySem PySem.Spec L2 Mw
open PyProof.Rows (envOfC)
theorem iteT {c : Bool} {a b : Prop} (h : c = true) (q : a) : (if c = true then a else b) := by rw [if_pos h]; exact q
/-- the cuts of the things -/
theorem lc_cut {env : En} {xs : List D} {Q : List D → Prop} (h2 : env[2]? = some (some (.d (.lst xs)))) (h8 : 8 < env.length) (hc : ∀ n ∈ szN, cutD xs none (some n) = xs.take n.toNat) : ∀ (ns : List Int) (acc : List D), (∀ n ∈ ns, n ∈ szN) → acc.length + ns.length ≤ 18 → Q (acc ++ ns.map fun n => .tup (xs.take n.toNat)) →
    lcD (gN 8) bTrue (vFn fTuple (vCons (vSl (vLoc 2) oNone (oSome (vLoc 8))) vNil)) env (ns.map D.int) acc Q := by
  intro ns
  induction ns with
  | nil =>
    intro acc _ _ q
    rw [List.map_nil, List.append_nil] at q
    exact q
  | cons n ns ih =>
    intro acc hn hl q
    have e2 : (env.set 8 (some (.d (.int n))))[2]? = some (some (.d (.lst xs))) := by
      rw [List.getElem?_set_ne (by decide)]
      exact h2
    have e8 : (env.set 8 (some (L.d (.int n))))[8]? = some (some (.d (.int n))) := List.getElem?_set_self h8
    refine ⟨_, e2, _, e8, n, rfl, ?_⟩
    show List.length acc < sizeLine ∧ _
    refine ⟨Nat.lt_of_lt_of_le (m := 100) (by simp at hl; omega) (small_ok (Nat.le_refl _)), ?_⟩
    rw [hc n (hn n (by simp))]
    refine ih _ (fun z hz => hn z (List.mem_cons_of_mem _ hz)) (by simp at hl ⊢; omega) ?_
    rw [List.append_assoc]
    exact q
theorem ix_ok {env : En} {i j : Nat} {ds : List D} {k : Nat} {d : D} {Q : PD} {Qx : PX} (h1 : env[i]? = some (some (.d (.lst ds)))) (h2 : env[j]? = some (some (.d (.int k)))) (h3 : ds[k]? = some d) (q : Q d) : ix i j env Q Qx := ⟨_, h1, _, h2, d, atI_nat h3, q⟩
theorem says_ok {env : En} {a b due : Sm} {c c' : Nat} {fs gs : List (Str × D)} {b0 : Bool} {Q : Bool → Prop} {Qx : PX} (ha : ∀ Q' : PD, Q' (.ins c fs) → a env Q' Qx) (hb : ∀ Q' : PD, Q' (.ins c' gs) → b env Q' Qx) (hd : ∀ Q' : PD, Q' (.bl b0) → due env Q' Qx) (h1 : c < 18) (h2 : c' < 18) (he : eqI c fs (.ins c' gs) = some b0) (q : Q false) : bSays a b due env Q Qx := by
  refine ha _ (hb _ (hd _ ?_))
  exact ⟨c, c', fs, gs, b0, rfl, h1, h2, he, true, rfl, q⟩
theorem iLen_ok {env : En} {Q : List D → Prop} {Qx : PX} (h : env[5]? = some (some (.d (.lst (szN.map D.int))))) (q : Q (rngD 0 18)) : iLen env Q Qx := ⟨_, h, 18, rfl, by decide, by decide, q⟩
theorem sFor_len {env : En} {E : SE} {g : SmG} {b : SmS} (h : env[5]? = some (some (.d (.lst (szN.map D.int))))) (q : forD g b (rngD 0 18) env E) : sFor iLen g b env E := iLen_ok (Q := fun ds => forD g b ds env E) h q
/-- the state from the results on -/
abbrev E2 (xs fs as : List D) (v3 v4 v9 v10 v11 v12 v13 : Option L) : En := [none, some (.d .hand), some (.d (.lst xs)), v3, v4, some (.d (.lst (szN.map D.int))), some (.d (.lst fs)), some (.d (.lst as)), none, v9, v10, v11, v12, v13]
section
variable {a b c d e : D}
theorem ok_sm6 {v3 v4 : Option L} {as : List D} {E : SE} (hp : ∃ p, (D.lst (keptD [a, b, c, d])).py = some p ∧ p.showable = true ∧ p.hasDict = false ∧ p.depth ≤ 64 ∧ p.shown.length ≤ sizeLine) (h : E.nx (E2 [a, b, c, d, e] (resD [a, b, c, d]) as v3 v4 none none none none none)) :
    sm6 (E2 [a, b, c, d, e] (resD [a, b, c, d]) as v3 v4 none none none none none) E := by
  obtain ⟨p, e1, e2, e3, e4, e5⟩ := hp
  refine ⟨_, rfl, a, b, c, d, rfl, _, p, rfl, e1, e2, e3, e4, e5, ?_⟩
  refine ⟨_, rfl, ?_⟩
  dsimp only [seqI]
  refine lc_cut (xs := [a, b, c, d, e]) rfl (Nat.le_of_ble_eq_true rfl) (fun n hn => ?_) szN [] (fun _ z => z) (by decide) ?_
  · have : n = 1 ∨ n = 2 ∨ n = 3 ∨ n = 4 := by
      simp [szN] at hn
      omega
    rcases this with rfl | rfl | rfl | rfl <;> rfl
  · refine ⟨_, p, rfl, e1, e2, e3, e4, e5, ?_⟩
    show ∃ k, (D.bl (!decide (p.shown = p.shown))).tru = some k ∧ _
    refine ⟨false, by simp [D.tru], h⟩
theorem ok_sm7 {v3 v4 : Option L} {E : SE} (ok : ∀ x ∈ [a, b, c, d], D.ok x = true) (ha : a.eqv a = true) (hb : b.eqv b = true) (hc : c.eqv c = true) (hd : d.eqv d = true)
    (h : ∀ v9 v10, E.nx (E2 [a, b, c, d, e] (resD [a, b, c, d]) (resD [a, b, c, d]) v3 v4 v9 v10 none none none)) :
    sm7 (E2 [a, b, c, d, e] (resD [a, b, c, d]) (resD [a, b, c, d]) v3 v4 none none none none none) E := by
  have one : ∀ i j, i < 18 → j < 18 → eqI i (List.zip (ksOf i) [a, b, c, d]) (.ins j (List.zip (ksOf j) [a, b, c, d])) = some (decide (i = j)) := fun i j hi hj => by
    by_cases z : i = j
    · subst z
      rw [eq_same (by simp at ok ⊢; exact ⟨ok.1, ok.2.1, ok.2.2.1, ok.2.2.2, ok⟩) i hi, allE_refl ⟨(sz_range i hi).1, (sz_range i hi).2.1⟩ ha hb hc hd]
      simp
    · rw [eq_other hj z]
      simp [z]
  refine sFor_len rfl (forD_inv0 (fun _ env => ∃ v9 v10, env = E2 [a, b, c, d, e] (resD [a, b, c, d]) (resD [a, b, c, d]) v3 v4 v9 v10 none none none) ⟨_, _, rfl⟩ ?_ ?_)
  · rintro i x env Kn hi ⟨v9, v10, rfl⟩ hK
    obtain ⟨hi8, rfl⟩ := rng_get hi
    refine sFor_len rfl (forD_inv0 (fun _ env => ∃ v10, env = E2 [a, b, c, d, e] (resD [a, b, c, d]) (resD [a, b, c, d]) v3 v4 (some (.d (.int i))) v10 none none none) ⟨_, rfl⟩ ?_ ?_)
    · rintro j y env Kn' hj ⟨w10, rfl⟩ hK'
      obtain ⟨hj8, rfl⟩ := rng_get hj
      refine says_ok (c := i) (c' := j) (fun Q' q => ix_ok rfl rfl (res_at hi8) q) (fun Q' q => ix_ok rfl rfl (res_at hj8) q) (b0 := decide (i = j)) (fun Q' q => ⟨_, rfl, _, rfl, rfl, rfl, ?_⟩) hi8 hj8 (one i j hi8 hj8) (hK' _ ⟨_, rfl⟩)
      have ez : D.eqv (.int i) (.int j) = decide (i = j) := by
        show PyData.eqv (.int i) (.int j) = _
        by_cases z : i = j
        · subst z; simp [PyData.eqv]
        · simp [PyData.eqv, z]
          omega
      rw [ez]
      exact q
    · rintro env ⟨w10, rfl⟩
      exact hK _ ⟨_, _, rfl⟩
  · rintro env ⟨v9, v10, rfl⟩
    exact h _ _
end
end K07
end

section
set_option Elab.async false
set_option linter.all false
set_option autoImplicit false
set_option maxRecDepth 100000
set_option maxHeartbeats 4000000
/-! K7s: the plain law's end, the law. -/
namespace K07
open PySem PySem.Spec L2 Mw
open PyProof.Rows (envOfC)
section
variable {a b c d e a' b' c' d' : D}
theorem sz_at {i : Nat} (hi : i < 18) : (szN.map D.int)[i]? = some (.int (szAt i : Int)) := by
  rw [List.getElem?_map, (sz_range i hi).2.2]
  rfl
theorem or_ok {s t : SmB} {env : En} {Q : Bool → Prop} {Qx : PX} (hs : ∀ Q' : Bool → Prop, Q' false → s env Q' Qx) (ht : ∀ Q' : Bool → Prop, Q' false → t env Q' Qx) (q : Q false) : bOr s t env Q Qx := hs _ (by
  show (if false = true then Q true else t env Q Qx)
  rw [if_neg (by simp)]
  exact ht _ q)
theorem sm8_in {v3 v4 v9 v10 v12 : Option L} {k : Nat} {E : SE} (ok : ∀ x ∈ [a, b, c, d, a', b', c', d'], D.ok x = true)
    (h1 : ∀ n, 1 ≤ n ∧ n ≤ 4 → allE n [a, b, c, d] [a', b', c', d'] = decide ((n : Int) ≤ (k : Int))) (h2 : ∀ n, 1 ≤ n ∧ n ≤ 4 → allE n [a', b', c', d'] [a, b, c, d] = decide ((n : Int) ≤ (k : Int)))
    (h : ∀ v9, E.nx (E2 [a, b, c, d, e] (resD [a, b, c, d]) (resD [a, b, c, d]) v3 v4 v9 v10 (some (.d (.int k))) v12 (some (.d (.lst (resD [a', b', c', d'])))))) :
    (sFor iLen (gN 9) (sIf (bOr (bSays (ix 6 9) (ix 13 9) vGe) (bSays (ix 13 9) (ix 7 9) vGe)) (sRet (vCon (.bl false))) sSkip)) (E2 [a, b, c, d, e] (resD [a, b, c, d]) (resD [a, b, c, d]) v3 v4 v9 v10 (some (.d (.int k))) v12 (some (.d (.lst (resD [a', b', c', d']))))) E := by
  refine sFor_len rfl (forD_inv0 (fun _ env => ∃ v9, env = E2 [a, b, c, d, e] (resD [a, b, c, d]) (resD [a, b, c, d]) v3 v4 v9 v10 (some (.d (.int k))) v12 (some (.d (.lst (resD [a', b', c', d']))))) ⟨_, rfl⟩ ?_ ?_)
  · rintro i x env Kn hi ⟨v9, rfl⟩ hK
    obtain ⟨hi8, rfl⟩ := rng_get hi
    have hi8 : i < 18 := hi8
    have hz : 1 ≤ szAt i ∧ szAt i ≤ 4 := ⟨(sz_range i hi8).1, (sz_range i hi8).2.1⟩
    have due : ∀ Q' : PD, Q' (.bl (decide ((szAt i : Int) ≤ (k : Int)))) → vGe (E2 [a, b, c, d, e] (resD [a, b, c, d]) (resD [a, b, c, d]) v3 v4 (some (.d (.int i))) v10 (some (.d (.int k))) v12 (some (.d (.lst (resD [a', b', c', d']))))) Q' (fun x => E.xx x (E2 [a, b, c, d, e] (resD [a, b, c, d]) (resD [a, b, c, d]) v3 v4 (some (.d (.int i))) v10 (some (.d (.int k))) v12 (some (.d (.lst (resD [a', b', c', d'])))))) := fun Q' q => ⟨_, rfl, ix_ok rfl rfl (sz_at hi8) q⟩
    refine or_ok (fun Q' q => says_ok (c := i) (c' := i) (fun Q' q => ix_ok rfl rfl (res_at hi8) q) (fun Q' q => ix_ok rfl rfl (res_at hi8) q) (b0 := decide ((szAt i : Int) ≤ (k : Int))) due hi8 hi8 ?_ q) (fun Q' q => says_ok (c := i) (c' := i) (fun Q' q => ix_ok rfl rfl (res_at hi8) q) (fun Q' q => ix_ok rfl rfl (res_at hi8) q) (b0 := decide ((szAt i : Int) ≤ (k : Int))) due hi8 hi8 ?_ q) (hK _ ⟨_, rfl⟩)
    · rw [eq_same ok i hi8, h1 _ hz]
    · rw [eq_same (fun x hx => ok x (by simp at hx ⊢; rcases hx with z | z | z | z | z | z | z | z <;> simp [z])) i hi8, h2 _ hz]
  · rintro env ⟨v9, rfl⟩
    exact h _
theorem sm8_one {v3 v4 v9 v10 v12 v13 : Option L} {k : Nat} {E : SE} (hk : ixN 5 (k : Int) = some k) (hs : [a, b, c, d, e].set k e = [a', b', c', d', e]) (ok : ∀ x ∈ [a, b, c, d, a', b', c', d'], D.ok x = true)
    (h1 : ∀ n, 1 ≤ n ∧ n ≤ 4 → allE n [a, b, c, d] [a', b', c', d'] = decide ((n : Int) ≤ (k : Int))) (h2 : ∀ n, 1 ≤ n ∧ n ≤ 4 → allE n [a', b', c', d'] [a, b, c, d] = decide ((n : Int) ≤ (k : Int)))
    (h : ∀ v9 v12 v13, E.nx (E2 [a, b, c, d, e] (resD [a, b, c, d]) (resD [a, b, c, d]) v3 v4 v9 v10 (some (.d (.int k))) v12 v13)) :
    (sSeq (sSetM 12 (nList (vLoc 2))) (sSeq (sSetIx 12 (vLoc 11) (vBin fIx2 (vLoc 2) (vCon (.int 4)))) (sSeq (sFrz 12 (sSet 13 (vRes 12)))
      (sFor iLen (gN 9) (sIf (bOr (bSays (ix 6 9) (ix 13 9) vGe) (bSays (ix 13 9) (ix 7 9) vGe)) (sRet (vCon (.bl false))) sSkip))))) (E2 [a, b, c, d, e] (resD [a, b, c, d]) (resD [a, b, c, d]) v3 v4 v9 v10 (some (.d (.int k))) v12 v13) E := by
  refine ⟨_, rfl, ?_⟩
  refine ⟨[a, b, c, d, e], rfl, _, rfl, e, rfl, _, rfl, (k : Int), k, rfl, hk, ?_⟩
  rw [hs]
  refine ⟨[a', b', c', d', e], rfl, ?_⟩
  refine ⟨_, rfl, _, rfl, _, rfl, _, rfl, _, rfl, _, rfl, _, rfl, _, rfl, a', b', c', d', rfl, ?_⟩
  exact sm8_in ok h1 h2 fun v9 => h _ _ _
theorem ok_smL {E : SE} (h : E.rt (.bl true)) : smL (E1 none none none) E := by
  refine ⟨small_ok (Nat.le_of_ble_eq_true rfl), ?_⟩
  refine ok_sm2 fun xs v3 v4 hl hx => ?_
  obtain ⟨a, b, c, d, e, rfl⟩ : ∃ a b c d e, xs = [a, b, c, d, e] := by
    match xs, hl with
    | [a, b, c, d, e], _ => exact ⟨a, b, c, d, e, rfl⟩
  have ta : Thing 0 a := hx 0 a rfl
  have tb : Thing 1 b := hx 1 b rfl
  have tc : Thing 2 c := hx 2 c rfl
  have td : Thing 3 d := hx 3 d rfl
  have te : Thing 4 e := hx 4 e rfl
  have xa := ta.unlike te (by decide)
  have xb := tb.unlike te (by decide)
  have xc := tc.unlike te (by decide)
  have xd := td.unlike te (by decide)
  have ya := te.unlike ta (by decide)
  have yb := te.unlike tb (by decide)
  have yc := te.unlike tc (by decide)
  have yd := te.unlike td (by decide)
  have oa := ta.ok
  have ob := tb.ok
  have oc := tc.ok
  have od := td.ok
  have oe := te.ok
  refine ⟨[a, b, c, d, e], rfl, rfl, ?_⟩
  refine ⟨_, rfl, _, rfl, _, rfl, _, rfl, _, rfl, _, rfl, _, rfl, _, rfl, a, b, c, d, rfl, ?_⟩
  refine ⟨_, rfl, _, rfl, _, rfl, _, rfl, _, rfl, _, rfl, _, rfl, _, rfl, a, b, c, d, rfl, ?_⟩
  refine ok_sm6 (e := e) (kept_py ta.small tb.small tc.small td.small) ?_
  refine ok_sm7 (e := e) (by simp [oa, ob, oc, od]) ta.refl tb.refl tc.refl td.refl fun v9 v10 => ?_
  refine ⟨4, rfl, by decide, by decide, forD_inv0 (fun _ env => ∃ v9 v10 v11 v12 v13, env = E2 [a, b, c, d, e] (resD [a, b, c, d]) (resD [a, b, c, d]) v3 v4 v9 v10 v11 v12 v13) ⟨_, _, _, _, _, rfl⟩ ?_ ?_⟩
  · rintro k x env Kn hk ⟨w9, w10, w11, w12, w13, rfl⟩ hK
    obtain ⟨hk4, rfl⟩ := rng_get hk
    have hk4 : k < 4 := hk4
    have b1 := fun n (hn : 1 ≤ n ∧ n ≤ 4) => allE_bent (n := n) (k := k) hn hk4 ta.refl tb.refl tc.refl td.refl xa xb xc xd
    have b2 := fun n (hn : 1 ≤ n ∧ n ≤ 4) => allE_bent' (n := n) (k := k) hn hk4 ta.refl tb.refl tc.refl td.refl ya yb yc yd
    have : k = 0 ∨ k = 1 ∨ k = 2 ∨ k = 3 := by omega
    rcases this with rfl | rfl | rfl | rfl
    · exact sm8_one (a' := e) (b' := b) (c' := c) (d' := d) rfl rfl (by simp [oa, ob, oc, od, oe]) b1 b2 fun _ _ _ => hK _ ⟨_, _, _, _, _, rfl⟩
    · exact sm8_one (a' := a) (b' := e) (c' := c) (d' := d) rfl rfl (by simp [oa, ob, oc, od, oe]) b1 b2 fun _ _ _ => hK _ ⟨_, _, _, _, _, rfl⟩
    · exact sm8_one (a' := a) (b' := b) (c' := e) (d' := d) rfl rfl (by simp [oa, ob, oc, od, oe]) b1 b2 fun _ _ _ => hK _ ⟨_, _, _, _, _, rfl⟩
    · exact sm8_one (a' := a) (b' := b) (c' := c) (d' := e) rfl rfl (by simp [oa, ob, oc, od, oe]) b1 b2 fun _ _ _ => hK _ ⟨_, _, _, _, _, rfl⟩
  · rintro env ⟨w9, w10, w11, w12, w13, rfl⟩
    exact h
end
section
variable {P : Program} {w : World} {K : PySem.W.Frag} {mg : Str → Option Value} {base : Heap} {cs fi fe : Nat → Addr} {f : Addr} {fd : FuncData}
theorem sok_none {cc : Cm} {H : Hp} {σ : L2.St} {n : Nat} (hc : cc.H0 = H) (hh : HandAt cc.g H) (hl : σ.length = n) : SOK cc (List.replicate n none) σ H := by
  have no : ∀ (i : Nat) (l : L), (List.replicate n (none : Option L))[i]? ≠ some (some l) := fun i l e => by
    rw [List.getElem?_replicate] at e
    split at e <;> cases e
  exact ⟨hh, fun b u _ e => by rw [← hc]; exact e, by simp [hl], fun i l e => (no i l e).elim, fun i j p ds es _ e => (no i _ e).elim⟩
theorem ok_law {fH fK fS fR fP fT : Addr} {dH dK dS dR dP dT : FuncData} (F : Fun K "law" "law" sLaw f fd) (C : Calls P w K mg base cs fH fK fS fR fP fT dH dK dS dR dP dT) : FnG P w K mg base 4 f fd ["_law_script"] (spLaw K) := by
  obtain ⟨⟨oc, od, kV, doc, pm, an, cdv, ct, osl, rfl, lk, hcd⟩, kp⟩ := F
  refine fng_of lk hcd scLaw (fun vs H Q E h => ?_) fun A outer sh H vs Q E hg hr h => ?_
  · obtain ⟨a, ns, rfl, _⟩ := h
    rfl
  · obtain ⟨a, ns, rfl, hS, hl, q⟩ := h
    refine ⟨_, PSs.nox (pss_cons (ps_set (i := 1) scLaw.nd rfl (.inl rfl) (pe_call C.H (hr.mono (by decide)) (by rfl) C.gH C.kH C.bH .nil pass0 (pa_cons (pv 0) pa_nil))) (PSs.ex (α := Addr × Hp) fun i => law_tail C (guards_deeper hg) hr i.1 i.2)), ?_⟩
    refine ⟨.ref a, rfl, a, ns, rfl, hS, Nat.le_trans hl (by decide), fun hd H' nh sm hh => ⟨(hd, H'), E1 none none none, seD (fun d => d = .bl true) (fun _ => False), ?_, ok_smL rfl, ?_⟩⟩
    · exact SOK.set (i := 1) (v := .ref hd) (d := .hand) (sok_none (n := 14) (σ := L2.start nLaw [.ref a]) rfl hh rfl) .hand
    · refine ⟨fun env σ H2 qq _ k => ?_, fun d v H2 qq _ st rv => ?_, fun _ _ _ qq => qq.elim, fun _ _ _ qq => qq.elim, fun xx env t dd σ H2 qq _ k xr => qq.elim⟩
      · exact absurd (show D.non = .bl true from qq) (by simp)
      · have qq : d = .bl true := qq
        subst qq
        cases rv
        exact q H2
end
end K07
end

section
set_option Elab.async false
set_option linter.all false
set_option autoImplicit false
set_option maxRecDepth 100000
set_option maxHeartbeats 4000000
/-! K7t: the facts put together. -/
namespace K07
open PySem PySem.Spec L2 Mw
open PyProof.Rows (envOfC)
section
variable {P : Program} {w : World} {K : PySem.W.Frag} {mg : Str → Option Value}
def lk (l : List Addr) (i : Nat) : Addr := l.getD i 0
theorem ty_two {C0 a0 b0 C1 a1 b1 C2 a2 b2 C3 a3 b3 C4 a4 b4 C5 a5 b5 C6 a6 b6 C7 a7 b7 C8 a8 b8 C9 a9 b9 C10 a10 b10 C11 a11 b11 C12 a12 b12 C13 a13 b13 C14 a14 b14 C15 a15 b15 C16 a16 b16 C17 a17 b17 : Addr} (isi : mg "isinstance" = none)
    (h0 : CF K mg "Outside" "Outside.__init__" "Outside.__eq__" (mI 8) (mE 8) ["index", "reading"] C0 a0 b0)
    (h1 : CF K mg "Covered" "Covered.__init__" "Covered.__eq__" (mI 10) (mE 10) ["rows"] C1 a1 b1)
    (h2 : CF K mg "Uncovered" "Uncovered.__init__" "Uncovered.__eq__" (mI 11) (mE 11) ["index", "case"] C2 a2 b2)
    (h3 : CF K mg "UnlikeRow" "UnlikeRow.__init__" "UnlikeRow.__eq__" (mI 27) (mE 27) ["row"] C3 a3 b3)
    (h4 : CF K mg "Meets" "Meets.__init__" "Meets.__eq__" (mI 1) (mE 1) ["rows"] C4 a4 b4)
    (h5 : CF K mg "Parted" "Parted.__init__" "Parted.__eq__" (mI 2) (mE 2) ["index", "reading", "store", "answer"] C5 a5 b5)
    (h6 : CF K mg "Miscounted" "Miscounted.__init__" "Miscounted.__eq__" (mI 4) (mE 4) ["reading", "store", "answer", "hands"] C6 a6 b6)
    (h7 : CF K mg "Carry" "Carry.__init__" "Carry.__eq__" (mI 6) (mE 6) ["dealing", "demand"] C7 a7 b7)
    (h8 : CF K mg "Breaking" "Breaking.__init__" "Breaking.__eq__" (mI 13) (mE 13) ["copies", "demand"] C8 a8 b8)
    (h9 : CF K mg "Standings" "Standings.__init__" "Standings.__eq__" (mI 15) (mE 15) ["fixed", "free", "idle"] C9 a9 b9)
    (h10 : CF K mg "Fewest" "Fewest.__init__" "Fewest.__eq__" (mI 16) (mE 16) ["number", "dealing"] C10 a10 b10)
    (h11 : CF K mg "NoRoom" "NoRoom.__init__" "NoRoom.__eq__" (mI 17) (mE 17) ["needed"] C11 a11 b11)
    (h12 : CF K mg "PlanRun" "PlanRun.__init__" "PlanRun.__eq__" (mI 22) (mE 22) ["made", "answered"] C12 a12 b12)
    (h13 : CF K mg "PlanParted" "PlanParted.__init__" "PlanParted.__eq__" (mI 24) (mE 24) ["index", "case", "store", "answer"] C13 a13 b13)
    (h14 : CF K mg "PlanOutside" "PlanOutside.__init__" "PlanOutside.__eq__" (mI 25) (mE 25) ["index", "case", "store", "answer"] C14 a14 b14)
    (h15 : CF K mg "Broken" "Broken.__init__" "Broken.__eq__" (mI 19) (mE 19) ["moment", "what"] C15 a15 b15)
    (h16 : CF K mg "NoOrder" "NoOrder.__init__" "NoOrder.__eq__" (mI 20) (mE 20) ["reached"] C16 a16 b16)
    (h17 : CF K mg "Showing" "Showing.__init__" "Showing.__eq__" (mI 29) (mE 29) ["right", "copies"] C17 a17 b17) : Ty K mg (lk [C0, C1, C2, C3, C4, C5, C6, C7, C8, C9, C10, C11, C12, C13, C14, C15, C16, C17]) (lk [a0, a1, a2, a3, a4, a5, a6, a7, a8, a9, a10, a11, a12, a13, a14, a15, a16, a17]) (lk [b0, b1, b2, b3, b4, b5, b6, b7, b8, b9, b10, b11, b12, b13, b14, b15, b16, b17]) := ty_mk isi h0 h1 h2 h3 h4 h5 h6 h7 h8 h9 h10 h11 h12 h13 h14 h15 h16 h17
theorem all_mk {cs fi fe : Nat → Addr} (T : Ty K mg cs fi fe) (mI0 : mg "int" = none) (mL : mg "len" = none) (mA : mg "abs" = none) (mR : mg "range" = none) (mB : mg "bool" = none) (mP : mg "repr" = none) (mT : mg "tuple" = none) (mS : mg "list" = none)
    {f1 f2 f3 f4 f5 f6 f7 f8 f9 fa : Addr} {d1 d2 d3 d4 d5 d6 d7 d8 d9 : FuncData}
    (g1 : mg "_law_hand" = some (.ref f1)) (F1 : Fun K "_law_hand" "_law_hand" (topS 31) f1 d1) (g2 : mg "_law_mixed" = some (.ref f2)) (F2 : Fun K "_law_mixed" "_law_mixed" (topS 32) f2 d2) (g3 : mg "_law_take" = some (.ref f3)) (F3 : Fun K "_law_take" "_law_take" (topS 33) f3 d3)
    (g4 : mg "_law_truth" = some (.ref f4)) (F4 : Fun K "_law_truth" "_law_truth" (topS 34) f4 d4) (g5 : mg "_law_sizes" = some (.ref f5)) (F5 : Fun K "_law_sizes" "_law_sizes" (topS 35) f5 d5) (g6 : mg "_law_results" = some (.ref f6)) (F6 : Fun K "_law_results" "_law_results" (topS 36) f6 d6)
    (g7 : mg "_law_kept" = some (.ref f7)) (F7 : Fun K "_law_kept" "_law_kept" (topS 37) f7 d7) (g8 : mg "_law_says" = some (.ref f8)) (F8 : Fun K "_law_says" "_law_says" (topS 38) f8 d8) (g9 : mg "law" = some (.ref f9)) (F9 : Fun K "law" "law" (topS 39) f9 d9) (hfa : mg "law" = some (.ref fa)) :
    ∃ fd : FuncData, (∀ (s : Shared) (u : Value), BindsTo s fd { pos := [u] } [("_law_script", u)]) ∧ ∀ base : Heap, K.In base → base.Ns mainGlobals mg → FnG P w K mg base 4 fa fd ["_law_script"] (spLaw K) := by
  have hB : ∀ (s : Shared) (u : Value), BindsTo s d9 { pos := [u] } [("_law_script", u)] := by
    obtain ⟨oc, od, kV, doc, pm, an, cdv, ct, osl, rfl, lk, hcd⟩ := F9.ex
    exact fun s u => .of_eq rfl
  have e := g9.symm.trans hfa
  cases e
  have b1 := F1.binds (ps := ["_law_script"]) fun _ _ _ _ _ _ us hl => match us, hl with | [_], _ => rfl
  have b2 := F2.binds (ps := ["_law_number", "_law_turn"]) fun _ _ _ _ _ _ us hl => match us, hl with | [_, _], _ => rfl
  have b3 := F3.binds (ps := ["_law_hand_here", "_law_many"]) fun _ _ _ _ _ _ us hl => match us, hl with | [_, _], _ => rfl
  have b4 := F4.binds (ps := ["_law_told", "_law_due"]) fun _ _ _ _ _ _ us hl => match us, hl with | [_, _], _ => rfl
  have b5 := F5.binds (ps := []) fun _ _ _ _ _ _ us hl => match us, hl with | [], _ => rfl
  have b6 := F6.binds (ps := ["_law_a", "_law_b", "_law_c", "_law_d"]) fun _ _ _ _ _ _ us hl => match us, hl with | [_, _, _, _], _ => rfl
  have b7 := F7.binds (ps := ["_law_x"]) fun _ _ _ _ _ _ us hl => match us, hl with | [_], _ => rfl
  have b8 := F8.binds (ps := ["_law_one", "_law_other", "_law_due"]) fun _ _ _ _ _ _ us hl => match us, hl with | [_, _, _], _ => rfl
  refine ⟨d9, hB, fun base _ _ => ok_law (cs := cs) F9 ⟨ok_hand F1 mI0 mL mA, g1, F1.kp, b1, ok_take F3 (ok_mixed F2 mI0) g2 F2.kp b2 mI0 mL, g3, F3.kp, b3, ok_sizes F5, g5, F5.kp, b5, ok_res F6 T, g6, F6.kp, b6, ok_kept F7 T, g7, F7.kp, b7, ok_says F8 T (ok_truth F4 T.t.isi mB) g4 F4.kp b4, g8, F8.kp, b8, mL, mR, mP, mT, mS⟩⟩
end
end K07
end

section
open PySem PySem.W PyProof.Rows
set_option maxRecDepth 100000 in
set_option maxHeartbeats 0 in
theorem PySem.Challenge.cw_meetwhere_k07_results_equal_by_all_attri_holds : PySem.Challenge.rw_meetwhere_k07_results_equal_by_all_attri.Holds := by
  w_on; o_law; k_head; (case hw => w_witness2)
  k_fill
  refine K07.walk (l := PySem.Challenge.rw_meetwhere_k07_results_equal_by_all_attri) rfl rfl (fun w h Y => PySem.W.kIn_of Y) ?F
  case F =>
    intro w mg fa h KX G hmg
    refine' K07.two_cont KX ?sb ?sc ?_
    (case sb => k_is); (case sc => k_is)
    intro sb sc
    refine' K07.non_cont (x := "isinstance") KX G ?nisinstance ?_
    (case nisinstance => k_is)
    intro m_isinstance
    refine' K07.non_cont (x := "int") KX G ?nint ?_
    (case nint => k_is)
    intro m_int
    refine' K07.non_cont (x := "len") KX G ?nlen ?_
    (case nlen => k_is)
    intro m_len
    refine' K07.non_cont (x := "abs") KX G ?nabs ?_
    (case nabs => k_is)
    intro m_abs
    refine' K07.non_cont (x := "range") KX G ?nrange ?_
    (case nrange => k_is)
    intro m_range
    refine' K07.non_cont (x := "bool") KX G ?nbool ?_
    (case nbool => k_is)
    intro m_bool
    refine' K07.non_cont (x := "repr") KX G ?nrepr ?_
    (case nrepr => k_is)
    intro m_repr
    refine' K07.non_cont (x := "tuple") KX G ?ntuple ?_
    (case ntuple => k_is)
    intro m_tuple
    refine' K07.non_cont (x := "list") KX G ?nlist ?_
    (case nlist => k_is)
    intro m_list
    refine' K07.fun_cont (x := "_law_hand") (st := K07.topS 31) KX G ?a_law_hand ?l_law_hand ?c_law_hand ?p_law_hand ?_
    (case a_law_hand => k_is); (case l_law_hand => k_is); (case c_law_hand => k_is); (case p_law_hand => k_is)
    intro g__law_hand F__law_hand
    refine' K07.fun_cont (x := "_law_mixed") (st := K07.topS 32) KX G ?a_law_mixed ?l_law_mixed ?c_law_mixed ?p_law_mixed ?_
    (case a_law_mixed => k_is); (case l_law_mixed => k_is); (case c_law_mixed => k_is); (case p_law_mixed => k_is)
    intro g__law_mixed F__law_mixed
    refine' K07.fun_cont (x := "_law_take") (st := K07.topS 33) KX G ?a_law_take ?l_law_take ?c_law_take ?p_law_take ?_
    (case a_law_take => k_is); (case l_law_take => k_is); (case c_law_take => k_is); (case p_law_take => k_is)
    intro g__law_take F__law_take
    refine' K07.fun_cont (x := "_law_truth") (st := K07.topS 34) KX G ?a_law_truth ?l_law_truth ?c_law_truth ?p_law_truth ?_
    (case a_law_truth => k_is); (case l_law_truth => k_is); (case c_law_truth => k_is); (case p_law_truth => k_is)
    intro g__law_truth F__law_truth
    refine' K07.fun_cont (x := "_law_sizes") (st := K07.topS 35) KX G ?a_law_sizes ?l_law_sizes ?c_law_sizes ?p_law_sizes ?_
    (case a_law_sizes => k_is); (case l_law_sizes => k_is); (case c_law_sizes => k_is); (case p_law_sizes => k_is)
    intro g__law_sizes F__law_sizes
    refine' K07.fun_cont (x := "_law_results") (st := K07.topS 36) KX G ?a_law_results ?l_law_results ?c_law_results ?p_law_results ?_
    (case a_law_results => k_is); (case l_law_results => k_is); (case c_law_results => k_is); (case p_law_results => k_is)
    intro g__law_results F__law_results
    refine' K07.fun_cont (x := "_law_kept") (st := K07.topS 37) KX G ?a_law_kept ?l_law_kept ?c_law_kept ?p_law_kept ?_
    (case a_law_kept => k_is); (case l_law_kept => k_is); (case c_law_kept => k_is); (case p_law_kept => k_is)
    intro g__law_kept F__law_kept
    refine' K07.fun_cont (x := "_law_says") (st := K07.topS 38) KX G ?a_law_says ?l_law_says ?c_law_says ?p_law_says ?_
    (case a_law_says => k_is); (case l_law_says => k_is); (case c_law_says => k_is); (case p_law_says => k_is)
    intro g__law_says F__law_says
    refine' K07.fun_cont (x := "law") (st := K07.topS 39) KX G ?alaw ?llaw ?claw ?plaw ?_
    (case alaw => k_is); (case llaw => k_is); (case claw => k_is); (case plaw => k_is)
    intro g_law F_law
    refine' K07.cf_cont (n := "Outside") (qI := "Outside.__init__") (qE := "Outside.__eq__") (sI := K07.mI 8) (sE := K07.mE 8) (ks := ["index", "reading"]) KX G sb sc ?aC_0 ?kC_0 ?kN_0 ?kS_0 ?nE_0 ?nN_0 ?pg_0 ?hd_0 ?po_0 ?sa_0 ?mk_0 ?kc_0 ?fc_0 ?fI_0 ?iI_0 ?lI_0 ?cI_0 ?pI_0 ?fE_0 ?iE_0 ?lE_0 ?cE_0 ?pE_0 (fun fd F => F.binds fun _ _ _ _ _ _ us hl => match us, hl with | [_, _, _], _ => rfl) (fun fd F => F.binds fun _ _ _ _ _ _ us hl => match us, hl with | [_, _], _ => rfl) (List.forall_mem_cons.mpr ⟨?n0_0, (List.forall_mem_cons.mpr ⟨?n1_0, (fun _ hf => nomatch hf)⟩)⟩) ?_
    (case aC_0 => k_is)
    (case kC_0 => k_is)
    (case kN_0 => k_is)
    (case kS_0 => exact rfl)
    (case nE_0 => k_is)
    (case nN_0 => k_is)
    (case pg_0 => k_is)
    (case hd_0 => k_is)
    (case po_0 => k_is)
    (case sa_0 => k_is)
    (case mk_0 => k_is)
    (case kc_0 => k_is)
    (case fc_0 => k_is)
    (case fI_0 => k_is)
    (case iI_0 => k_is)
    (case lI_0 => k_is)
    (case cI_0 => k_is)
    (case pI_0 => k_is)
    (case fE_0 => k_is)
    (case iE_0 => k_is)
    (case lE_0 => k_is)
    (case cE_0 => k_is)
    (case pE_0 => k_is)
    (case n0_0 => unfold L2.NoAttr; k_is)
    (case n1_0 => unfold L2.NoAttr; k_is)
    intro h0
    refine' K07.cf_cont (n := "Covered") (qI := "Covered.__init__") (qE := "Covered.__eq__") (sI := K07.mI 10) (sE := K07.mE 10) (ks := ["rows"]) KX G sb sc ?aC_1 ?kC_1 ?kN_1 ?kS_1 ?nE_1 ?nN_1 ?pg_1 ?hd_1 ?po_1 ?sa_1 ?mk_1 ?kc_1 ?fc_1 ?fI_1 ?iI_1 ?lI_1 ?cI_1 ?pI_1 ?fE_1 ?iE_1 ?lE_1 ?cE_1 ?pE_1 (fun fd F => F.binds fun _ _ _ _ _ _ us hl => match us, hl with | [_, _], _ => rfl) (fun fd F => F.binds fun _ _ _ _ _ _ us hl => match us, hl with | [_, _], _ => rfl) (List.forall_mem_cons.mpr ⟨?n0_1, (fun _ hf => nomatch hf)⟩) ?_
    (case aC_1 => k_is)
    (case kC_1 => k_is)
    (case kN_1 => k_is)
    (case kS_1 => exact rfl)
    (case nE_1 => k_is)
    (case nN_1 => k_is)
    (case pg_1 => k_is)
    (case hd_1 => k_is)
    (case po_1 => k_is)
    (case sa_1 => k_is)
    (case mk_1 => k_is)
    (case kc_1 => k_is)
    (case fc_1 => k_is)
    (case fI_1 => k_is)
    (case iI_1 => k_is)
    (case lI_1 => k_is)
    (case cI_1 => k_is)
    (case pI_1 => k_is)
    (case fE_1 => k_is)
    (case iE_1 => k_is)
    (case lE_1 => k_is)
    (case cE_1 => k_is)
    (case pE_1 => k_is)
    (case n0_1 => unfold L2.NoAttr; k_is)
    intro h1
    refine' K07.cf_cont (n := "Uncovered") (qI := "Uncovered.__init__") (qE := "Uncovered.__eq__") (sI := K07.mI 11) (sE := K07.mE 11) (ks := ["index", "case"]) KX G sb sc ?aC_2 ?kC_2 ?kN_2 ?kS_2 ?nE_2 ?nN_2 ?pg_2 ?hd_2 ?po_2 ?sa_2 ?mk_2 ?kc_2 ?fc_2 ?fI_2 ?iI_2 ?lI_2 ?cI_2 ?pI_2 ?fE_2 ?iE_2 ?lE_2 ?cE_2 ?pE_2 (fun fd F => F.binds fun _ _ _ _ _ _ us hl => match us, hl with | [_, _, _], _ => rfl) (fun fd F => F.binds fun _ _ _ _ _ _ us hl => match us, hl with | [_, _], _ => rfl) (List.forall_mem_cons.mpr ⟨?n0_2, (List.forall_mem_cons.mpr ⟨?n1_2, (fun _ hf => nomatch hf)⟩)⟩) ?_
    (case aC_2 => k_is)
    (case kC_2 => k_is)
    (case kN_2 => k_is)
    (case kS_2 => exact rfl)
    (case nE_2 => k_is)
    (case nN_2 => k_is)
    (case pg_2 => k_is)
    (case hd_2 => k_is)
    (case po_2 => k_is)
    (case sa_2 => k_is)
    (case mk_2 => k_is)
    (case kc_2 => k_is)
    (case fc_2 => k_is)
    (case fI_2 => k_is)
    (case iI_2 => k_is)
    (case lI_2 => k_is)
    (case cI_2 => k_is)
    (case pI_2 => k_is)
    (case fE_2 => k_is)
    (case iE_2 => k_is)
    (case lE_2 => k_is)
    (case cE_2 => k_is)
    (case pE_2 => k_is)
    (case n0_2 => unfold L2.NoAttr; k_is)
    (case n1_2 => unfold L2.NoAttr; k_is)
    intro h2
    refine' K07.cf_cont (n := "UnlikeRow") (qI := "UnlikeRow.__init__") (qE := "UnlikeRow.__eq__") (sI := K07.mI 27) (sE := K07.mE 27) (ks := ["row"]) KX G sb sc ?aC_3 ?kC_3 ?kN_3 ?kS_3 ?nE_3 ?nN_3 ?pg_3 ?hd_3 ?po_3 ?sa_3 ?mk_3 ?kc_3 ?fc_3 ?fI_3 ?iI_3 ?lI_3 ?cI_3 ?pI_3 ?fE_3 ?iE_3 ?lE_3 ?cE_3 ?pE_3 (fun fd F => F.binds fun _ _ _ _ _ _ us hl => match us, hl with | [_, _], _ => rfl) (fun fd F => F.binds fun _ _ _ _ _ _ us hl => match us, hl with | [_, _], _ => rfl) (List.forall_mem_cons.mpr ⟨?n0_3, (fun _ hf => nomatch hf)⟩) ?_
    (case aC_3 => k_is)
    (case kC_3 => k_is)
    (case kN_3 => k_is)
    (case kS_3 => exact rfl)
    (case nE_3 => k_is)
    (case nN_3 => k_is)
    (case pg_3 => k_is)
    (case hd_3 => k_is)
    (case po_3 => k_is)
    (case sa_3 => k_is)
    (case mk_3 => k_is)
    (case kc_3 => k_is)
    (case fc_3 => k_is)
    (case fI_3 => k_is)
    (case iI_3 => k_is)
    (case lI_3 => k_is)
    (case cI_3 => k_is)
    (case pI_3 => k_is)
    (case fE_3 => k_is)
    (case iE_3 => k_is)
    (case lE_3 => k_is)
    (case cE_3 => k_is)
    (case pE_3 => k_is)
    (case n0_3 => unfold L2.NoAttr; k_is)
    intro h3
    refine' K07.cf_cont (n := "Meets") (qI := "Meets.__init__") (qE := "Meets.__eq__") (sI := K07.mI 1) (sE := K07.mE 1) (ks := ["rows"]) KX G sb sc ?aC_4 ?kC_4 ?kN_4 ?kS_4 ?nE_4 ?nN_4 ?pg_4 ?hd_4 ?po_4 ?sa_4 ?mk_4 ?kc_4 ?fc_4 ?fI_4 ?iI_4 ?lI_4 ?cI_4 ?pI_4 ?fE_4 ?iE_4 ?lE_4 ?cE_4 ?pE_4 (fun fd F => F.binds fun _ _ _ _ _ _ us hl => match us, hl with | [_, _], _ => rfl) (fun fd F => F.binds fun _ _ _ _ _ _ us hl => match us, hl with | [_, _], _ => rfl) (List.forall_mem_cons.mpr ⟨?n0_4, (fun _ hf => nomatch hf)⟩) ?_
    (case aC_4 => k_is)
    (case kC_4 => k_is)
    (case kN_4 => k_is)
    (case kS_4 => exact rfl)
    (case nE_4 => k_is)
    (case nN_4 => k_is)
    (case pg_4 => k_is)
    (case hd_4 => k_is)
    (case po_4 => k_is)
    (case sa_4 => k_is)
    (case mk_4 => k_is)
    (case kc_4 => k_is)
    (case fc_4 => k_is)
    (case fI_4 => k_is)
    (case iI_4 => k_is)
    (case lI_4 => k_is)
    (case cI_4 => k_is)
    (case pI_4 => k_is)
    (case fE_4 => k_is)
    (case iE_4 => k_is)
    (case lE_4 => k_is)
    (case cE_4 => k_is)
    (case pE_4 => k_is)
    (case n0_4 => unfold L2.NoAttr; k_is)
    intro h4
    refine' K07.cf_cont (n := "Parted") (qI := "Parted.__init__") (qE := "Parted.__eq__") (sI := K07.mI 2) (sE := K07.mE 2) (ks := ["index", "reading", "store", "answer"]) KX G sb sc ?aC_5 ?kC_5 ?kN_5 ?kS_5 ?nE_5 ?nN_5 ?pg_5 ?hd_5 ?po_5 ?sa_5 ?mk_5 ?kc_5 ?fc_5 ?fI_5 ?iI_5 ?lI_5 ?cI_5 ?pI_5 ?fE_5 ?iE_5 ?lE_5 ?cE_5 ?pE_5 (fun fd F => F.binds fun _ _ _ _ _ _ us hl => match us, hl with | [_, _, _, _, _], _ => rfl) (fun fd F => F.binds fun _ _ _ _ _ _ us hl => match us, hl with | [_, _], _ => rfl) (List.forall_mem_cons.mpr ⟨?n0_5, (List.forall_mem_cons.mpr ⟨?n1_5, (List.forall_mem_cons.mpr ⟨?n2_5, (List.forall_mem_cons.mpr ⟨?n3_5, (fun _ hf => nomatch hf)⟩)⟩)⟩)⟩) ?_
    (case aC_5 => k_is)
    (case kC_5 => k_is)
    (case kN_5 => k_is)
    (case kS_5 => exact rfl)
    (case nE_5 => k_is)
    (case nN_5 => k_is)
    (case pg_5 => k_is)
    (case hd_5 => k_is)
    (case po_5 => k_is)
    (case sa_5 => k_is)
    (case mk_5 => k_is)
    (case kc_5 => k_is)
    (case fc_5 => k_is)
    (case fI_5 => k_is)
    (case iI_5 => k_is)
    (case lI_5 => k_is)
    (case cI_5 => k_is)
    (case pI_5 => k_is)
    (case fE_5 => k_is)
    (case iE_5 => k_is)
    (case lE_5 => k_is)
    (case cE_5 => k_is)
    (case pE_5 => k_is)
    (case n0_5 => unfold L2.NoAttr; k_is)
    (case n1_5 => unfold L2.NoAttr; k_is)
    (case n2_5 => unfold L2.NoAttr; k_is)
    (case n3_5 => unfold L2.NoAttr; k_is)
    intro h5
    refine' K07.cf_cont (n := "Miscounted") (qI := "Miscounted.__init__") (qE := "Miscounted.__eq__") (sI := K07.mI 4) (sE := K07.mE 4) (ks := ["reading", "store", "answer", "hands"]) KX G sb sc ?aC_6 ?kC_6 ?kN_6 ?kS_6 ?nE_6 ?nN_6 ?pg_6 ?hd_6 ?po_6 ?sa_6 ?mk_6 ?kc_6 ?fc_6 ?fI_6 ?iI_6 ?lI_6 ?cI_6 ?pI_6 ?fE_6 ?iE_6 ?lE_6 ?cE_6 ?pE_6 (fun fd F => F.binds fun _ _ _ _ _ _ us hl => match us, hl with | [_, _, _, _, _], _ => rfl) (fun fd F => F.binds fun _ _ _ _ _ _ us hl => match us, hl with | [_, _], _ => rfl) (List.forall_mem_cons.mpr ⟨?n0_6, (List.forall_mem_cons.mpr ⟨?n1_6, (List.forall_mem_cons.mpr ⟨?n2_6, (List.forall_mem_cons.mpr ⟨?n3_6, (fun _ hf => nomatch hf)⟩)⟩)⟩)⟩) ?_
    (case aC_6 => k_is)
    (case kC_6 => k_is)
    (case kN_6 => k_is)
    (case kS_6 => exact rfl)
    (case nE_6 => k_is)
    (case nN_6 => k_is)
    (case pg_6 => k_is)
    (case hd_6 => k_is)
    (case po_6 => k_is)
    (case sa_6 => k_is)
    (case mk_6 => k_is)
    (case kc_6 => k_is)
    (case fc_6 => k_is)
    (case fI_6 => k_is)
    (case iI_6 => k_is)
    (case lI_6 => k_is)
    (case cI_6 => k_is)
    (case pI_6 => k_is)
    (case fE_6 => k_is)
    (case iE_6 => k_is)
    (case lE_6 => k_is)
    (case cE_6 => k_is)
    (case pE_6 => k_is)
    (case n0_6 => unfold L2.NoAttr; k_is)
    (case n1_6 => unfold L2.NoAttr; k_is)
    (case n2_6 => unfold L2.NoAttr; k_is)
    (case n3_6 => unfold L2.NoAttr; k_is)
    intro h6
    refine' K07.cf_cont (n := "Carry") (qI := "Carry.__init__") (qE := "Carry.__eq__") (sI := K07.mI 6) (sE := K07.mE 6) (ks := ["dealing", "demand"]) KX G sb sc ?aC_7 ?kC_7 ?kN_7 ?kS_7 ?nE_7 ?nN_7 ?pg_7 ?hd_7 ?po_7 ?sa_7 ?mk_7 ?kc_7 ?fc_7 ?fI_7 ?iI_7 ?lI_7 ?cI_7 ?pI_7 ?fE_7 ?iE_7 ?lE_7 ?cE_7 ?pE_7 (fun fd F => F.binds fun _ _ _ _ _ _ us hl => match us, hl with | [_, _, _], _ => rfl) (fun fd F => F.binds fun _ _ _ _ _ _ us hl => match us, hl with | [_, _], _ => rfl) (List.forall_mem_cons.mpr ⟨?n0_7, (List.forall_mem_cons.mpr ⟨?n1_7, (fun _ hf => nomatch hf)⟩)⟩) ?_
    (case aC_7 => k_is)
    (case kC_7 => k_is)
    (case kN_7 => k_is)
    (case kS_7 => exact rfl)
    (case nE_7 => k_is)
    (case nN_7 => k_is)
    (case pg_7 => k_is)
    (case hd_7 => k_is)
    (case po_7 => k_is)
    (case sa_7 => k_is)
    (case mk_7 => k_is)
    (case kc_7 => k_is)
    (case fc_7 => k_is)
    (case fI_7 => k_is)
    (case iI_7 => k_is)
    (case lI_7 => k_is)
    (case cI_7 => k_is)
    (case pI_7 => k_is)
    (case fE_7 => k_is)
    (case iE_7 => k_is)
    (case lE_7 => k_is)
    (case cE_7 => k_is)
    (case pE_7 => k_is)
    (case n0_7 => unfold L2.NoAttr; k_is)
    (case n1_7 => unfold L2.NoAttr; k_is)
    intro h7
    refine' K07.cf_cont (n := "Breaking") (qI := "Breaking.__init__") (qE := "Breaking.__eq__") (sI := K07.mI 13) (sE := K07.mE 13) (ks := ["copies", "demand"]) KX G sb sc ?aC_8 ?kC_8 ?kN_8 ?kS_8 ?nE_8 ?nN_8 ?pg_8 ?hd_8 ?po_8 ?sa_8 ?mk_8 ?kc_8 ?fc_8 ?fI_8 ?iI_8 ?lI_8 ?cI_8 ?pI_8 ?fE_8 ?iE_8 ?lE_8 ?cE_8 ?pE_8 (fun fd F => F.binds fun _ _ _ _ _ _ us hl => match us, hl with | [_, _, _], _ => rfl) (fun fd F => F.binds fun _ _ _ _ _ _ us hl => match us, hl with | [_, _], _ => rfl) (List.forall_mem_cons.mpr ⟨?n0_8, (List.forall_mem_cons.mpr ⟨?n1_8, (fun _ hf => nomatch hf)⟩)⟩) ?_
    (case aC_8 => k_is)
    (case kC_8 => k_is)
    (case kN_8 => k_is)
    (case kS_8 => exact rfl)
    (case nE_8 => k_is)
    (case nN_8 => k_is)
    (case pg_8 => k_is)
    (case hd_8 => k_is)
    (case po_8 => k_is)
    (case sa_8 => k_is)
    (case mk_8 => k_is)
    (case kc_8 => k_is)
    (case fc_8 => k_is)
    (case fI_8 => k_is)
    (case iI_8 => k_is)
    (case lI_8 => k_is)
    (case cI_8 => k_is)
    (case pI_8 => k_is)
    (case fE_8 => k_is)
    (case iE_8 => k_is)
    (case lE_8 => k_is)
    (case cE_8 => k_is)
    (case pE_8 => k_is)
    (case n0_8 => unfold L2.NoAttr; k_is)
    (case n1_8 => unfold L2.NoAttr; k_is)
    intro h8
    refine' K07.cf_cont (n := "Standings") (qI := "Standings.__init__") (qE := "Standings.__eq__") (sI := K07.mI 15) (sE := K07.mE 15) (ks := ["fixed", "free", "idle"]) KX G sb sc ?aC_9 ?kC_9 ?kN_9 ?kS_9 ?nE_9 ?nN_9 ?pg_9 ?hd_9 ?po_9 ?sa_9 ?mk_9 ?kc_9 ?fc_9 ?fI_9 ?iI_9 ?lI_9 ?cI_9 ?pI_9 ?fE_9 ?iE_9 ?lE_9 ?cE_9 ?pE_9 (fun fd F => F.binds fun _ _ _ _ _ _ us hl => match us, hl with | [_, _, _, _], _ => rfl) (fun fd F => F.binds fun _ _ _ _ _ _ us hl => match us, hl with | [_, _], _ => rfl) (List.forall_mem_cons.mpr ⟨?n0_9, (List.forall_mem_cons.mpr ⟨?n1_9, (List.forall_mem_cons.mpr ⟨?n2_9, (fun _ hf => nomatch hf)⟩)⟩)⟩) ?_
    (case aC_9 => k_is)
    (case kC_9 => k_is)
    (case kN_9 => k_is)
    (case kS_9 => exact rfl)
    (case nE_9 => k_is)
    (case nN_9 => k_is)
    (case pg_9 => k_is)
    (case hd_9 => k_is)
    (case po_9 => k_is)
    (case sa_9 => k_is)
    (case mk_9 => k_is)
    (case kc_9 => k_is)
    (case fc_9 => k_is)
    (case fI_9 => k_is)
    (case iI_9 => k_is)
    (case lI_9 => k_is)
    (case cI_9 => k_is)
    (case pI_9 => k_is)
    (case fE_9 => k_is)
    (case iE_9 => k_is)
    (case lE_9 => k_is)
    (case cE_9 => k_is)
    (case pE_9 => k_is)
    (case n0_9 => unfold L2.NoAttr; k_is)
    (case n1_9 => unfold L2.NoAttr; k_is)
    (case n2_9 => unfold L2.NoAttr; k_is)
    intro h9
    refine' K07.cf_cont (n := "Fewest") (qI := "Fewest.__init__") (qE := "Fewest.__eq__") (sI := K07.mI 16) (sE := K07.mE 16) (ks := ["number", "dealing"]) KX G sb sc ?aC_10 ?kC_10 ?kN_10 ?kS_10 ?nE_10 ?nN_10 ?pg_10 ?hd_10 ?po_10 ?sa_10 ?mk_10 ?kc_10 ?fc_10 ?fI_10 ?iI_10 ?lI_10 ?cI_10 ?pI_10 ?fE_10 ?iE_10 ?lE_10 ?cE_10 ?pE_10 (fun fd F => F.binds fun _ _ _ _ _ _ us hl => match us, hl with | [_, _, _], _ => rfl) (fun fd F => F.binds fun _ _ _ _ _ _ us hl => match us, hl with | [_, _], _ => rfl) (List.forall_mem_cons.mpr ⟨?n0_10, (List.forall_mem_cons.mpr ⟨?n1_10, (fun _ hf => nomatch hf)⟩)⟩) ?_
    (case aC_10 => k_is)
    (case kC_10 => k_is)
    (case kN_10 => k_is)
    (case kS_10 => exact rfl)
    (case nE_10 => k_is)
    (case nN_10 => k_is)
    (case pg_10 => k_is)
    (case hd_10 => k_is)
    (case po_10 => k_is)
    (case sa_10 => k_is)
    (case mk_10 => k_is)
    (case kc_10 => k_is)
    (case fc_10 => k_is)
    (case fI_10 => k_is)
    (case iI_10 => k_is)
    (case lI_10 => k_is)
    (case cI_10 => k_is)
    (case pI_10 => k_is)
    (case fE_10 => k_is)
    (case iE_10 => k_is)
    (case lE_10 => k_is)
    (case cE_10 => k_is)
    (case pE_10 => k_is)
    (case n0_10 => unfold L2.NoAttr; k_is)
    (case n1_10 => unfold L2.NoAttr; k_is)
    intro h10
    refine' K07.cf_cont (n := "NoRoom") (qI := "NoRoom.__init__") (qE := "NoRoom.__eq__") (sI := K07.mI 17) (sE := K07.mE 17) (ks := ["needed"]) KX G sb sc ?aC_11 ?kC_11 ?kN_11 ?kS_11 ?nE_11 ?nN_11 ?pg_11 ?hd_11 ?po_11 ?sa_11 ?mk_11 ?kc_11 ?fc_11 ?fI_11 ?iI_11 ?lI_11 ?cI_11 ?pI_11 ?fE_11 ?iE_11 ?lE_11 ?cE_11 ?pE_11 (fun fd F => F.binds fun _ _ _ _ _ _ us hl => match us, hl with | [_, _], _ => rfl) (fun fd F => F.binds fun _ _ _ _ _ _ us hl => match us, hl with | [_, _], _ => rfl) (List.forall_mem_cons.mpr ⟨?n0_11, (fun _ hf => nomatch hf)⟩) ?_
    (case aC_11 => k_is)
    (case kC_11 => k_is)
    (case kN_11 => k_is)
    (case kS_11 => exact rfl)
    (case nE_11 => k_is)
    (case nN_11 => k_is)
    (case pg_11 => k_is)
    (case hd_11 => k_is)
    (case po_11 => k_is)
    (case sa_11 => k_is)
    (case mk_11 => k_is)
    (case kc_11 => k_is)
    (case fc_11 => k_is)
    (case fI_11 => k_is)
    (case iI_11 => k_is)
    (case lI_11 => k_is)
    (case cI_11 => k_is)
    (case pI_11 => k_is)
    (case fE_11 => k_is)
    (case iE_11 => k_is)
    (case lE_11 => k_is)
    (case cE_11 => k_is)
    (case pE_11 => k_is)
    (case n0_11 => unfold L2.NoAttr; k_is)
    intro h11
    refine' K07.cf_cont (n := "PlanRun") (qI := "PlanRun.__init__") (qE := "PlanRun.__eq__") (sI := K07.mI 22) (sE := K07.mE 22) (ks := ["made", "answered"]) KX G sb sc ?aC_12 ?kC_12 ?kN_12 ?kS_12 ?nE_12 ?nN_12 ?pg_12 ?hd_12 ?po_12 ?sa_12 ?mk_12 ?kc_12 ?fc_12 ?fI_12 ?iI_12 ?lI_12 ?cI_12 ?pI_12 ?fE_12 ?iE_12 ?lE_12 ?cE_12 ?pE_12 (fun fd F => F.binds fun _ _ _ _ _ _ us hl => match us, hl with | [_, _, _], _ => rfl) (fun fd F => F.binds fun _ _ _ _ _ _ us hl => match us, hl with | [_, _], _ => rfl) (List.forall_mem_cons.mpr ⟨?n0_12, (List.forall_mem_cons.mpr ⟨?n1_12, (fun _ hf => nomatch hf)⟩)⟩) ?_
    (case aC_12 => k_is)
    (case kC_12 => k_is)
    (case kN_12 => k_is)
    (case kS_12 => exact rfl)
    (case nE_12 => k_is)
    (case nN_12 => k_is)
    (case pg_12 => k_is)
    (case hd_12 => k_is)
    (case po_12 => k_is)
    (case sa_12 => k_is)
    (case mk_12 => k_is)
    (case kc_12 => k_is)
    (case fc_12 => k_is)
    (case fI_12 => k_is)
    (case iI_12 => k_is)
    (case lI_12 => k_is)
    (case cI_12 => k_is)
    (case pI_12 => k_is)
    (case fE_12 => k_is)
    (case iE_12 => k_is)
    (case lE_12 => k_is)
    (case cE_12 => k_is)
    (case pE_12 => k_is)
    (case n0_12 => unfold L2.NoAttr; k_is)
    (case n1_12 => unfold L2.NoAttr; k_is)
    intro h12
    refine' K07.cf_cont (n := "PlanParted") (qI := "PlanParted.__init__") (qE := "PlanParted.__eq__") (sI := K07.mI 24) (sE := K07.mE 24) (ks := ["index", "case", "store", "answer"]) KX G sb sc ?aC_13 ?kC_13 ?kN_13 ?kS_13 ?nE_13 ?nN_13 ?pg_13 ?hd_13 ?po_13 ?sa_13 ?mk_13 ?kc_13 ?fc_13 ?fI_13 ?iI_13 ?lI_13 ?cI_13 ?pI_13 ?fE_13 ?iE_13 ?lE_13 ?cE_13 ?pE_13 (fun fd F => F.binds fun _ _ _ _ _ _ us hl => match us, hl with | [_, _, _, _, _], _ => rfl) (fun fd F => F.binds fun _ _ _ _ _ _ us hl => match us, hl with | [_, _], _ => rfl) (List.forall_mem_cons.mpr ⟨?n0_13, (List.forall_mem_cons.mpr ⟨?n1_13, (List.forall_mem_cons.mpr ⟨?n2_13, (List.forall_mem_cons.mpr ⟨?n3_13, (fun _ hf => nomatch hf)⟩)⟩)⟩)⟩) ?_
    (case aC_13 => k_is)
    (case kC_13 => k_is)
    (case kN_13 => k_is)
    (case kS_13 => exact rfl)
    (case nE_13 => k_is)
    (case nN_13 => k_is)
    (case pg_13 => k_is)
    (case hd_13 => k_is)
    (case po_13 => k_is)
    (case sa_13 => k_is)
    (case mk_13 => k_is)
    (case kc_13 => k_is)
    (case fc_13 => k_is)
    (case fI_13 => k_is)
    (case iI_13 => k_is)
    (case lI_13 => k_is)
    (case cI_13 => k_is)
    (case pI_13 => k_is)
    (case fE_13 => k_is)
    (case iE_13 => k_is)
    (case lE_13 => k_is)
    (case cE_13 => k_is)
    (case pE_13 => k_is)
    (case n0_13 => unfold L2.NoAttr; k_is)
    (case n1_13 => unfold L2.NoAttr; k_is)
    (case n2_13 => unfold L2.NoAttr; k_is)
    (case n3_13 => unfold L2.NoAttr; k_is)
    intro h13
    refine' K07.cf_cont (n := "PlanOutside") (qI := "PlanOutside.__init__") (qE := "PlanOutside.__eq__") (sI := K07.mI 25) (sE := K07.mE 25) (ks := ["index", "case", "store", "answer"]) KX G sb sc ?aC_14 ?kC_14 ?kN_14 ?kS_14 ?nE_14 ?nN_14 ?pg_14 ?hd_14 ?po_14 ?sa_14 ?mk_14 ?kc_14 ?fc_14 ?fI_14 ?iI_14 ?lI_14 ?cI_14 ?pI_14 ?fE_14 ?iE_14 ?lE_14 ?cE_14 ?pE_14 (fun fd F => F.binds fun _ _ _ _ _ _ us hl => match us, hl with | [_, _, _, _, _], _ => rfl) (fun fd F => F.binds fun _ _ _ _ _ _ us hl => match us, hl with | [_, _], _ => rfl) (List.forall_mem_cons.mpr ⟨?n0_14, (List.forall_mem_cons.mpr ⟨?n1_14, (List.forall_mem_cons.mpr ⟨?n2_14, (List.forall_mem_cons.mpr ⟨?n3_14, (fun _ hf => nomatch hf)⟩)⟩)⟩)⟩) ?_
    (case aC_14 => k_is)
    (case kC_14 => k_is)
    (case kN_14 => k_is)
    (case kS_14 => exact rfl)
    (case nE_14 => k_is)
    (case nN_14 => k_is)
    (case pg_14 => k_is)
    (case hd_14 => k_is)
    (case po_14 => k_is)
    (case sa_14 => k_is)
    (case mk_14 => k_is)
    (case kc_14 => k_is)
    (case fc_14 => k_is)
    (case fI_14 => k_is)
    (case iI_14 => k_is)
    (case lI_14 => k_is)
    (case cI_14 => k_is)
    (case pI_14 => k_is)
    (case fE_14 => k_is)
    (case iE_14 => k_is)
    (case lE_14 => k_is)
    (case cE_14 => k_is)
    (case pE_14 => k_is)
    (case n0_14 => unfold L2.NoAttr; k_is)
    (case n1_14 => unfold L2.NoAttr; k_is)
    (case n2_14 => unfold L2.NoAttr; k_is)
    (case n3_14 => unfold L2.NoAttr; k_is)
    intro h14
    refine' K07.cf_cont (n := "Broken") (qI := "Broken.__init__") (qE := "Broken.__eq__") (sI := K07.mI 19) (sE := K07.mE 19) (ks := ["moment", "what"]) KX G sb sc ?aC_15 ?kC_15 ?kN_15 ?kS_15 ?nE_15 ?nN_15 ?pg_15 ?hd_15 ?po_15 ?sa_15 ?mk_15 ?kc_15 ?fc_15 ?fI_15 ?iI_15 ?lI_15 ?cI_15 ?pI_15 ?fE_15 ?iE_15 ?lE_15 ?cE_15 ?pE_15 (fun fd F => F.binds fun _ _ _ _ _ _ us hl => match us, hl with | [_, _, _], _ => rfl) (fun fd F => F.binds fun _ _ _ _ _ _ us hl => match us, hl with | [_, _], _ => rfl) (List.forall_mem_cons.mpr ⟨?n0_15, (List.forall_mem_cons.mpr ⟨?n1_15, (fun _ hf => nomatch hf)⟩)⟩) ?_
    (case aC_15 => k_is)
    (case kC_15 => k_is)
    (case kN_15 => k_is)
    (case kS_15 => exact rfl)
    (case nE_15 => k_is)
    (case nN_15 => k_is)
    (case pg_15 => k_is)
    (case hd_15 => k_is)
    (case po_15 => k_is)
    (case sa_15 => k_is)
    (case mk_15 => k_is)
    (case kc_15 => k_is)
    (case fc_15 => k_is)
    (case fI_15 => k_is)
    (case iI_15 => k_is)
    (case lI_15 => k_is)
    (case cI_15 => k_is)
    (case pI_15 => k_is)
    (case fE_15 => k_is)
    (case iE_15 => k_is)
    (case lE_15 => k_is)
    (case cE_15 => k_is)
    (case pE_15 => k_is)
    (case n0_15 => unfold L2.NoAttr; k_is)
    (case n1_15 => unfold L2.NoAttr; k_is)
    intro h15
    refine' K07.cf_cont (n := "NoOrder") (qI := "NoOrder.__init__") (qE := "NoOrder.__eq__") (sI := K07.mI 20) (sE := K07.mE 20) (ks := ["reached"]) KX G sb sc ?aC_16 ?kC_16 ?kN_16 ?kS_16 ?nE_16 ?nN_16 ?pg_16 ?hd_16 ?po_16 ?sa_16 ?mk_16 ?kc_16 ?fc_16 ?fI_16 ?iI_16 ?lI_16 ?cI_16 ?pI_16 ?fE_16 ?iE_16 ?lE_16 ?cE_16 ?pE_16 (fun fd F => F.binds fun _ _ _ _ _ _ us hl => match us, hl with | [_, _], _ => rfl) (fun fd F => F.binds fun _ _ _ _ _ _ us hl => match us, hl with | [_, _], _ => rfl) (List.forall_mem_cons.mpr ⟨?n0_16, (fun _ hf => nomatch hf)⟩) ?_
    (case aC_16 => k_is)
    (case kC_16 => k_is)
    (case kN_16 => k_is)
    (case kS_16 => exact rfl)
    (case nE_16 => k_is)
    (case nN_16 => k_is)
    (case pg_16 => k_is)
    (case hd_16 => k_is)
    (case po_16 => k_is)
    (case sa_16 => k_is)
    (case mk_16 => k_is)
    (case kc_16 => k_is)
    (case fc_16 => k_is)
    (case fI_16 => k_is)
    (case iI_16 => k_is)
    (case lI_16 => k_is)
    (case cI_16 => k_is)
    (case pI_16 => k_is)
    (case fE_16 => k_is)
    (case iE_16 => k_is)
    (case lE_16 => k_is)
    (case cE_16 => k_is)
    (case pE_16 => k_is)
    (case n0_16 => unfold L2.NoAttr; k_is)
    intro h16
    refine' K07.cf_cont (n := "Showing") (qI := "Showing.__init__") (qE := "Showing.__eq__") (sI := K07.mI 29) (sE := K07.mE 29) (ks := ["right", "copies"]) KX G sb sc ?aC_17 ?kC_17 ?kN_17 ?kS_17 ?nE_17 ?nN_17 ?pg_17 ?hd_17 ?po_17 ?sa_17 ?mk_17 ?kc_17 ?fc_17 ?fI_17 ?iI_17 ?lI_17 ?cI_17 ?pI_17 ?fE_17 ?iE_17 ?lE_17 ?cE_17 ?pE_17 (fun fd F => F.binds fun _ _ _ _ _ _ us hl => match us, hl with | [_, _, _], _ => rfl) (fun fd F => F.binds fun _ _ _ _ _ _ us hl => match us, hl with | [_, _], _ => rfl) (List.forall_mem_cons.mpr ⟨?n0_17, (List.forall_mem_cons.mpr ⟨?n1_17, (fun _ hf => nomatch hf)⟩)⟩) ?_
    (case aC_17 => k_is)
    (case kC_17 => k_is)
    (case kN_17 => k_is)
    (case kS_17 => exact rfl)
    (case nE_17 => k_is)
    (case nN_17 => k_is)
    (case pg_17 => k_is)
    (case hd_17 => k_is)
    (case po_17 => k_is)
    (case sa_17 => k_is)
    (case mk_17 => k_is)
    (case kc_17 => k_is)
    (case fc_17 => k_is)
    (case fI_17 => k_is)
    (case iI_17 => k_is)
    (case lI_17 => k_is)
    (case cI_17 => k_is)
    (case pI_17 => k_is)
    (case fE_17 => k_is)
    (case iE_17 => k_is)
    (case lE_17 => k_is)
    (case cE_17 => k_is)
    (case pE_17 => k_is)
    (case n0_17 => unfold L2.NoAttr; k_is)
    (case n1_17 => unfold L2.NoAttr; k_is)
    intro h17
    have T := K07.ty_two m_isinstance h0 h1 h2 h3 h4 h5 h6 h7 h8 h9 h10 h11 h12 h13 h14 h15 h16 h17
    exact K07.all_mk T m_int m_len m_abs m_range m_bool m_repr m_tuple m_list g__law_hand F__law_hand g__law_mixed F__law_mixed g__law_take F__law_take g__law_truth F__law_truth g__law_sizes F__law_sizes g__law_results F__law_results g__law_kept F__law_kept g__law_says F__law_says g_law F_law hmg
#print axioms PySem.Challenge.cw_meetwhere_k07_results_equal_by_all_attri_holds
end
