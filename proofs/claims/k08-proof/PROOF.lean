import PyProof.Rows.All
import Wide.All
import OpenK.AllK
import Wide.FinOn
import HandS.ForMost
import HandS.ForExc
import HandS.CallSlots
import HandS.Flow
import HandS.TupAny
import HandS.Deep
import HandS.IsInst
import HandS.RaiseMore
import HandS.SortInts
import HandS.Style
import HandS.Codes
import HandS.ExcCtx
import HandS.HotCalls
import HandS.ExcInitHot
import HandS.NoneIn
import HandS.Walk
import HandS.Comp
import HandS.OwnEq
import HandS.ExcInit
import HandS.ExcField
import HandS.ExcIs
import HandS.Property
import HandS.Defaults
import KE.GoesNew
import HandS.Rev
import HandS.Strs
import HandS.SetFor
import HandS.Conv
import HandS.Iter
import PySem.Challenge.RW_meetwhere_k08_sorts_made_and_values_numb
section
set_option Elab.async false
set_option linter.all false
set_option autoImplicit false
set_option maxRecDepth 100000
set_option maxHeartbeats 4000000
namespace Mw
open PySem PySem.Spec L2

/-- data as a value -/
inductive D where
  | non | bl (b : Bool) | int (i : Int) | str (s : Str)
  | tup (ds : List D) | lst (ds : List D)
  | hand
  | dct (kvs : List (D × D))
  | ins (c : Nat) (fs : List (Str × D))

/-- the still context: the written part, the hand's place and word, the own classes by number -/
structure Gm where
  K : PySem.W.Frag
  hd : Addr
  word : List Int → Int → Int → Int → Prop
  cls : Nat → Addr
  /-- instances in the making: nobody's data -/
  raw : Addr → Prop
  /-- the one that this def makes -/
  me : Addr → Prop
  /-- the own classes, the error classes that there are -/
  kn : Nat → Prop
  ke : Nat → Prop

/-- a list that nobody writes any more -/
def FzL (H : Hp) (a : Addr) (xs : List V) : Prop := ∃ o, H a = some (.frz o (.lst xs))
def FzD (K : PySem.W.Frag) (H : Hp) (a : Addr) (kvs : List (Key × V)) : Prop := ∃ o, H a = some (.frz o (.dK kvs))
theorem FzL.sq {K : PySem.W.Frag} {H : Hp} {a : Addr} {xs : List V} (h : FzL H a xs) : SqL K H a xs := .inl (.inr h)

mutual
inductive Rep (Γ : Gm) (H : Hp) : V → D → Prop
  | non : Rep Γ H .non .non
  | bl (b : Bool) : Rep Γ H (.bl b) (.bl b)
  | int (i : Int) : Rep Γ H (.int i) (.int i)
  | str (x : Str) : Rep Γ H (.str x) (.str x)
  | tup {a : Addr} {xs : List V} {ds : List D} : SqT Γ.K H a xs → Reps Γ H xs ds → Rep Γ H (.ref a) (.tup ds)
  | lst {a : Addr} {xs : List V} {ds : List D} : FzL H a xs → Reps Γ H xs ds → Rep Γ H (.ref a) (.lst ds)
  | hand : Rep Γ H (.ref Γ.hd) .hand
  | ins {a dx : Addr} {c : Nat} {ks : List Str} {xs : List V} {ds : List D} : H a = some (.ins (Γ.cls c) dx (ks.zip xs)) → (¬ Γ.raw a ∧ Γ.kn c) → Reps Γ H xs ds → Rep Γ H (.ref a) (.ins c (ks.zip ds))
inductive Reps (Γ : Gm) (H : Hp) : List V → List D → Prop
  | nil : Reps Γ H [] []
  | cons {v : V} {vs : List V} {d : D} {ds : List D} : Rep Γ H v d → Reps Γ H vs ds → Reps Γ H (v :: vs) (d :: ds)
end

/-- a list that may be read: nobody's any more, or one's own -/
def LsR (Γ : Gm) (H : Hp) (a : Addr) (xs : List V) : Prop := FzL H a xs ∨ (a ≠ Γ.hd ∧ H a = some (.lst xs))
theorem LsR.sq {Γ : Gm} {H : Hp} {a : Addr} {xs : List V} (h : LsR Γ H a xs) : SqL Γ.K H a xs := h.elim (fun h => h.sq) fun h => .inl (.inl h.2)
/-- what may be read -/
inductive RepB (Γ : Gm) (H : Hp) : V → D → Prop
  | non : RepB Γ H .non .non
  | bl (b : Bool) : RepB Γ H (.bl b) (.bl b)
  | int (i : Int) : RepB Γ H (.int i) (.int i)
  | str (x : Str) : RepB Γ H (.str x) (.str x)
  | tup {a : Addr} {xs : List V} {ds : List D} : SqT Γ.K H a xs → Reps Γ H xs ds → RepB Γ H (.ref a) (.tup ds)
  | lst {a : Addr} {xs : List V} {ds : List D} : LsR Γ H a xs → Reps Γ H xs ds → RepB Γ H (.ref a) (.lst ds)
  | hand : RepB Γ H (.ref Γ.hd) .hand
  | ins {a dx : Addr} {c : Nat} {ks : List Str} {xs : List V} {ds : List D} : H a = some (.ins (Γ.cls c) dx (ks.zip xs)) → (¬ Γ.raw a ∧ Γ.kn c) → Reps Γ H xs ds → RepB Γ H (.ref a) (.ins c (ks.zip ds))
theorem Rep.b {Γ : Gm} {H : Hp} {v : V} {d : D} (r : Rep Γ H v d) : RepB Γ H v d := by
  cases r
  case non => exact .non
  case bl => exact .bl _
  case int => exact .int _
  case str => exact .str _
  case tup q r => exact .tup q r
  case lst q r => exact .lst (.inl q) r
  case hand => exact .hand
  case ins q m r => exact .ins q m r
/-- the hand: a list of a locked list of ints and three ints -/
def HandAt (Γ : Gm) (H : Hp) : Prop := (∃ (c : Addr) (ns : List Int) (i r t : Int), H Γ.hd = some (.lst [.ref c, .int i, .int r, .int t]) ∧ FzL H c (ns.map V.int) ∧ Γ.word ns i r t) ∧ ∀ b, Γ.raw b → H b ≠ none
theorem HandAt.lst {Γ : Gm} {H : Hp} (h : HandAt Γ H) : ∃ xs, H Γ.hd = some (.lst xs) := let ⟨⟨_, _, _, _, _, e, _⟩, _⟩ := h; ⟨_, e⟩
/-- all that was tracked is as it was, but the hand -/
structure Step (Γ : Gm) (H H' : Hp) : Prop where
  same : ∀ b u, b ≠ Γ.hd → H b = some u → H' b = some u
  hand : HandAt Γ H'
theorem Step.refl {Γ : Gm} {H : Hp} (h : HandAt Γ H) : Step Γ H H := ⟨fun _ _ _ e => e, h⟩
theorem Step.trans {Γ : Gm} {H H1 H2 : Hp} (a : Step Γ H H1) (b : Step Γ H1 H2) : Step Γ H H2 := ⟨fun c u n e => b.same c u n (a.same c u n e), b.hand⟩

section
variable {Γ : Gm} {H H' : Hp}
theorem Step.tup (s : Step Γ H H') (h : HandAt Γ H) {b : Addr} {xs : List V} (e : H b = some (.tup xs)) : H' b = some (.tup xs) := by
  obtain ⟨ys, hy⟩ := h.lst
  exact s.same b _ (fun z => by rw [z, hy] at e; cases e) e
theorem Step.ins (s : Step Γ H H') (h : HandAt Γ H) {b C dx : Addr} {fs : List (Str × V)} (e : H b = some (.ins C dx fs)) : H' b = some (.ins C dx fs) := by
  obtain ⟨ys, hy⟩ := h.lst
  exact s.same b _ (fun z => by rw [z, hy] at e; cases e) e
theorem Step.frz (s : Step Γ H H') (h : HandAt Γ H) {b : Addr} {o : Obj} {u : HO} (e : H b = some (.frz o u)) : H' b = some (.frz o u) := by
  obtain ⟨ys, hy⟩ := h.lst
  exact s.same b _ (fun z => by rw [z, hy] at e; cases e) e
theorem SqT.step (s : Step Γ H H') (h : HandAt Γ H) {a : Addr} {xs : List V} (q : SqT Γ.K H a xs) : SqT Γ.K H' a xs := by
  rcases q with (q | ⟨o, q⟩) | q
  · exact .inl (.inl (s.tup h q))
  · exact .inl (.inr ⟨o, s.frz h q⟩)
  · exact .inr q
theorem FzL.step (s : Step Γ H H') (h : HandAt Γ H) {a : Addr} {xs : List V} (q : FzL H a xs) : FzL H' a xs := let ⟨o, q⟩ := q; ⟨o, s.frz h q⟩
mutual
theorem Rep.step (s : Step Γ H H') (h : HandAt Γ H) : ∀ {v : V} {d : D}, Rep Γ H v d → Rep Γ H' v d
  | _, _, .non => .non
  | _, _, .bl b => .bl b
  | _, _, .int i => .int i
  | _, _, .str x => .str x
  | _, _, .tup q r => .tup (SqT.step s h q) (Reps.step s h r)
  | _, _, .lst q r => .lst (FzL.step s h q) (Reps.step s h r)
  | _, _, .hand => .hand
  | _, _, .ins q m r => .ins (s.ins h q) m (Reps.step s h r)
theorem Reps.step (s : Step Γ H H') (h : HandAt Γ H) : ∀ {vs : List V} {ds : List D}, Reps Γ H vs ds → Reps Γ H' vs ds
  | _, _, .nil => .nil
  | _, _, .cons q r => .cons (Rep.step s h q) (Reps.step s h r)
end
theorem LsR.step (s : Step Γ H H') (h : HandAt Γ H) {a : Addr} {xs : List V} (q : LsR Γ H a xs) : LsR Γ H' a xs := q.elim (fun q => .inl (FzL.step s h q)) fun q => .inr ⟨q.1, s.same a _ q.1 q.2⟩
theorem RepB.step (s : Step Γ H H') (h : HandAt Γ H) {v : V} {d : D} (r : RepB Γ H v d) : RepB Γ H' v d := by
  cases r
  case non => exact .non
  case bl => exact .bl _
  case int => exact .int _
  case str => exact .str _
  case tup q r => exact .tup (SqT.step s h q) (Reps.step s h r)
  case lst q r => exact .lst (LsR.step s h q) (Reps.step s h r)
  case hand => exact .hand
  case ins q m r => exact .ins (s.ins h q) m (Reps.step s h r)
theorem Reps.length : ∀ {vs : List V} {ds : List D}, Reps Γ H vs ds → vs.length = ds.length
  | _, _, .nil => rfl
  | _, _, .cons _ r => congrArg (· + 1) (Reps.length r)
theorem Reps.append : ∀ {vs : List V} {ds : List D} {us : List V} {es : List D}, Reps Γ H vs ds → Reps Γ H us es → Reps Γ H (vs ++ us) (ds ++ es)
  | _, _, _, _, .nil, s => s
  | _, _, _, _, .cons q r, s => .cons q (Reps.append r s)
theorem Reps.get : ∀ {vs : List V} {ds : List D} {i : Nat} {d : D}, Reps Γ H vs ds → ds[i]? = some d → ∃ v, vs[i]? = some v ∧ Rep Γ H v d
  | _, _, _, _, .nil, e => by simp at e
  | _, _, 0, d, .cons q _, e => by simp at e; subst e; exact ⟨_, rfl, q⟩
  | _, _, i + 1, d, .cons _ r, e => by
    obtain ⟨v, h1, h2⟩ := Reps.get (i := i) (d := d) r (by simpa using e)
    exact ⟨v, by simpa using h1, h2⟩
theorem Reps.getV : ∀ {vs : List V} {ds : List D} {i : Nat} {v : V}, Reps Γ H vs ds → vs[i]? = some v → ∃ d, ds[i]? = some d ∧ Rep Γ H v d
  | _, _, _, _, .nil, e => by simp at e
  | _, _, 0, v, .cons q _, e => by simp at e; subst e; exact ⟨_, rfl, q⟩
  | _, _, i + 1, v, .cons _ r, e => by
    obtain ⟨d, h1, h2⟩ := Reps.getV (i := i) (v := v) r (by simpa using e)
    exact ⟨d, by simpa using h1, h2⟩
theorem Reps.take : ∀ {vs : List V} {ds : List D} (n : Nat), Reps Γ H vs ds → Reps Γ H (vs.take n) (ds.take n)
  | _, _, 0, _ => .nil
  | _, _, _ + 1, .nil => .nil
  | _, _, n + 1, .cons q r => .cons q (Reps.take n r)
theorem Reps.drop : ∀ {vs : List V} {ds : List D} (n : Nat), Reps Γ H vs ds → Reps Γ H (vs.drop n) (ds.drop n)
  | _, _, 0, r => r
  | _, _, _ + 1, .nil => .nil
  | _, _, n + 1, .cons _ r => Reps.drop n r
theorem Reps.set {v : V} {d : D} (q : Rep Γ H v d) : ∀ {vs : List V} {ds : List D} (i : Nat), Reps Γ H vs ds → Reps Γ H (vs.set i v) (ds.set i d)
  | _, _, _, .nil => .nil
  | _, _, 0, .cons _ r => .cons q r
  | _, _, i + 1, .cons p r => .cons p (Reps.set q i r)
end

/-! ### to the library's data -/
mutual
def D.py : D → Option PyData
  | .non => some .none
  | .bl b => some (.bool b)
  | .int i => some (.int i)
  | .str x => some (.str x)
  | .tup ds => (D.pys ds).map .tuple
  | .lst ds => (D.pys ds).map .list
  | _ => none
def D.pys : List D → Option (List PyData)
  | [] => some []
  | d :: ds => match D.py d, D.pys ds with
    | some x, some xs => some (x :: xs)
    | _, _ => none
end
section
variable {Γ : Gm} {H : Hp}
mutual
theorem Rep.dp : ∀ {v : V} {d : D} {p : PyData}, Rep Γ H v d → d.py = some p → Dp Γ.K H v p
  | _, _, _, .non, e => by cases e; exact .non
  | _, _, _, .bl b, e => by cases e; exact .bl b
  | _, _, _, .int i, e => by cases e; exact .int i
  | _, _, _, .str x, e => by cases e; exact .str x
  | _, _, p, .tup q r, e => by
    unfold D.py at e
    obtain ⟨ps, h1, h2⟩ := Option.map_eq_some_iff.mp e
    subst h2
    exact .tup q (Reps.dp r h1)
  | _, _, p, .lst q r, e => by
    unfold D.py at e
    obtain ⟨ps, h1, h2⟩ := Option.map_eq_some_iff.mp e
    subst h2
    exact .lst q.sq (Reps.dp r h1)
  | _, _, _, .hand, e => by cases e
  | _, _, _, .ins q m r, e => by cases e
theorem Reps.dp : ∀ {vs : List V} {ds : List D} {ps : List PyData}, Reps Γ H vs ds → D.pys ds = some ps → DpAll Γ.K H vs ps
  | _, _, _, .nil, e => by cases e; exact .nil
  | _, d :: ds, ps, .cons q r, e => by
    unfold D.pys at e
    cases h1 : D.py d with
    | none => rw [h1] at e; simp at e
    | some x =>
      cases h2 : D.pys ds with
      | none => rw [h1, h2] at e; simp at e
      | some xs =>
        rw [h1, h2] at e
        cases e
        exact .cons (Rep.dp q h1) (Reps.dp r h2)
end
theorem RepB.dp {v : V} {d : D} {p : PyData} (r : RepB Γ H v d) (e : d.py = some p) : Dp Γ.K H v p := by
  cases r
  case lst q r =>
    unfold D.py at e
    obtain ⟨ps, h1, h2⟩ := Option.map_eq_some_iff.mp e
    subst h2
    exact .lst q.sq (Reps.dp r h1)
  case tup q r => exact (Rep.tup q r).dp e
  case non => exact Rep.non.dp e
  case bl => exact (Rep.bl (Γ := Γ) _).dp e
  case int => exact (Rep.int (Γ := Γ) _).dp e
  case str => exact (Rep.str (Γ := Γ) _).dp e
  case hand => cases e
  case ins => cases e
end

/-! ### new things -/
theorem HandAt.keeps {Γ : Gm} {H H' : Hp} (h : ∀ b u, H b = some u → H' b = some u) (a : HandAt Γ H) : HandAt Γ H' :=
  let ⟨⟨c, ns, i, r, t, e, ⟨o, q⟩, w⟩, m⟩ := a; ⟨⟨c, ns, i, r, t, h _ _ e, ⟨o, h _ _ q⟩, w⟩, fun b hb z => by
    cases q2 : H b with
    | none => exact m b hb q2
    | some u => rw [h b u q2] at z; cases z⟩
theorem Step.ext {Γ : Gm} {H H' : Hp} (h : ∀ b u, H b = some u → H' b = some u) (a : HandAt Γ H) : Step Γ H H' := ⟨fun b u _ e => h b u e, a.keeps h⟩
theorem upd_keeps {H : Hp} {p : Addr} {o : HO} (hp : H p = none) : ∀ b u, H b = some u → upd H p o b = some u := fun b u e => by
  rw [upd_ne (ne_of_none e hp)]; exact e
theorem upd2_keeps {H : Hp} {p : Addr} {o o' : HO} (hp : H p = none) : ∀ b u, H b = some u → upd (upd H p o) p o' b = some u := fun b u e => by
  rw [upd_upd]; exact upd_keeps hp b u e
/-- a new tuple -/
theorem new_tup {Γ : Gm} {H : Hp} {p : Addr} {xs : List V} {ds : List D} (a : HandAt Γ H) (hp : H p = none) (r : Reps Γ H xs ds) :
    Step Γ H (upd H p (.tup xs)) ∧ Rep Γ (upd H p (.tup xs)) (.ref p) (.tup ds) := by
  have st := Step.ext (upd_keeps (o := .tup xs) hp) a
  exact ⟨st, .tup (.inl (.inl upd_same)) (r.step st a)⟩
/-- a new list, locked -/
theorem new_lst {Γ : Gm} {H : Hp} {p : Addr} {xs : List V} {ds : List D} {o : Obj} (a : HandAt Γ H) (hp : H p = none) (r : Reps Γ H xs ds) :
    Step Γ H (upd (upd H p (.lst xs)) p (.frz o (.lst xs))) ∧ Rep Γ (upd (upd H p (.lst xs)) p (.frz o (.lst xs))) (.ref p) (.lst ds) := by
  have st := Step.ext (upd2_keeps (o := .lst xs) (o' := .frz o (.lst xs)) hp) a
  exact ⟨st, .lst ⟨o, upd_same⟩ (r.step st a)⟩
end Mw
end
section
set_option Elab.async false
set_option linter.all false
set_option autoImplicit false
set_option maxRecDepth 100000
set_option maxHeartbeats 4000000
namespace Mw
open PySem PySem.Spec L2

/-- a raised error: its class by number, its fields -/
structure Xn where
  c : Nat
  fs : List (Str × D)
/-- what a name holds: data; a list that only this name holds -/
inductive L where
  | d (x : D)
  | ml (ds : List D)
  | mi (c : Nat) (fs : List (Str × D))
  | xn (x : Xn)
abbrev En := List (Option L)
abbrev PD := D → Prop
abbrev PX := Xn → Prop
abbrev Sm := En → PD → PX → Prop

/-- the context of a def's run: the heap at its entry, the error in hand -/
structure Cm where
  g : Gm
  H0 : Hp
  now : Option (Addr × Value × Option Addr)
/-- an error, told by its class and its own dict -/
def XRep (g : Gm) (x : Xn) (t : Value) (dd : Option Addr) (H : Hp) : Prop := (t = .ref (g.cls x.c) ∧ g.ke x.c) ∧ ∃ d vs, dd = some d ∧ H d = some (.xd vs) ∧ ∀ f y, x.fs.lookup f = some y → ∃ v, vs.lookup f = some v ∧ Rep g H v y
theorem XRep.step {g : Gm} {H H' : Hp} (s : Step g H H') (h : HandAt g H) {x : Xn} {t : Value} {dd : Option Addr} (r : XRep g x t dd H) : XRep g x t dd H' := by
  obtain ⟨e, d, vs, e1, e2, q⟩ := r
  obtain ⟨ys, hy⟩ := h.lst
  exact ⟨e, d, vs, e1, s.same d _ (fun z => by rw [z, hy] at e2; cases e2) e2, fun f y hf => let ⟨v, h1, h2⟩ := q f y hf; ⟨v, h1, h2.step s h⟩⟩
structure Fm where
  c : Cm
  W : WX
abbrev Fm.g (Φ : Fm) : Gm := Φ.c.g

inductive FRep (Γ : Gm) (H : Hp) : List (Str × V) → List (Str × D) → Prop
  | nil : FRep Γ H [] []
  | cons {f : Str} {v : V} {d : D} {xs : List (Str × V)} {fs : List (Str × D)} : Rep Γ H v d → FRep Γ H xs fs → FRep Γ H ((f, v) :: xs) ((f, d) :: fs)
theorem FRep.step {Γ : Gm} {H H' : Hp} (s : Step Γ H H') (h : HandAt Γ H) : ∀ {xs : List (Str × V)} {fs : List (Str × D)}, FRep Γ H xs fs → FRep Γ H' xs fs
  | _, _, .nil => .nil
  | _, _, .cons q r => .cons (q.step s h) (FRep.step s h r)
theorem FRep.look {Γ : Gm} {H : Hp} {f : Str} {d : D} : ∀ {xs : List (Str × V)} {fs : List (Str × D)}, FRep Γ H xs fs → fs.lookup f = some d → ∃ v, xs.lookup f = some v ∧ Rep Γ H v d
  | _, _, .nil, e => by simp at e
  | _, _, .cons (f := g) (v := v) q r, e => by
    rw [List.lookup_cons] at e
    rw [List.lookup_cons]
    cases h : (f == g) with
    | true =>
      simp only [h] at e
      cases e
      exact ⟨v, rfl, q⟩
    | false =>
      simp only [h] at e
      exact FRep.look r e
def LRep (c : Cm) (H : Hp) (v : V) : L → Prop
  | .d d => Rep c.g H v d
  | .ml ds => ∃ p xs, v = .ref p ∧ p ≠ c.g.hd ∧ c.H0 p = none ∧ H p = some (.lst xs) ∧ Reps c.g H xs ds
  | .mi k fs => ∃ p dx xs, v = .ref p ∧ (c.g.raw p ∧ c.g.me p) ∧ c.H0 p = none ∧ H p = some (.ins (c.g.cls k) dx xs) ∧ FRep c.g H xs fs
  | .xn x => ∃ a t dd, c.now = some (a, t, dd) ∧ v = .ref a ∧ XRep c.g x t dd H

structure SOK (c : Cm) (env : En) (σ : St) (H : Hp) : Prop where
  hand : HandAt c.g H
  same : ∀ b u, b ≠ c.g.hd → c.H0 b = some u → H b = some u
  len : σ.length = env.length
  slot : ∀ (i : Nat) (l : L), env[i]? = some (some l) → ∃ v, σ[i]? = some (some v) ∧ LRep c H v l
  apart : ∀ (i j : Nat) (p : Addr) (ds es : List D), i ≠ j → env[i]? = some (some (.ml ds)) → env[j]? = some (some (.ml es)) → σ[i]? = some (some (.ref p)) → σ[j]? = some (some (.ref p)) → False

theorem LRep.step {c : Cm} {H H' : Hp} (s : Step c.g H H') (h : HandAt c.g H) {v : V} : ∀ {l : L}, LRep c H v l → LRep c H' v l
  | .d _, r => Rep.step s h r
  | .ml _, ⟨p, xs, e, n, n0, hp, r⟩ => ⟨p, xs, e, n, n0, s.same p _ n hp, Reps.step s h r⟩
  | .mi _ _, ⟨p, dx, xs, e, m, n0, hp, r⟩ => ⟨p, dx, xs, e, m, n0, s.ins h hp, r.step s h⟩
  | .xn _, ⟨a, t, dd, e1, e2, r⟩ => ⟨a, t, dd, e1, e2, r.step s h⟩
theorem SOK.step {c : Cm} {env : En} {σ : St} {H H' : Hp} (k : SOK c env σ H) (s : Step c.g H H') : SOK c env σ H' :=
  ⟨s.hand, fun b u n e => s.same b u n (k.same b u n e), k.len, fun i l e => let ⟨v, h1, h2⟩ := k.slot i l e; ⟨v, h1, h2.step s k.hand⟩, k.apart⟩

/-- what is wanted behind: of a value, of an error -/
structure WX1 (Φ : Fm) (σ : St) (H : Hp) (Qx : PX) : Prop where
  x : ∀ x t dd H', Qx x → Step Φ.g H H' → XRep Φ.g x t dd H' → Φ.W t dd σ H'
theorem WX1.step {Φ : Fm} {σ : St} {H H1 : Hp} {Qx : PX} (w : WX1 Φ σ H Qx) (s : Step Φ.g H H1) : WX1 Φ σ H1 Qx := ⟨fun x t dd H' q s' r => w.x x t dd H' q (s.trans s') r⟩
/-- the reading of a semantic term; R: how the value is told (Rep: nobody's; RepB: to be read) -/
def tX (R : Gm → Hp → V → D → Prop) (Φ : Fm) (s : Sm) : TE := fun σ H Q => ∃ env Qd Qx, SOK Φ.c env σ H ∧ s env Qd Qx ∧ (∀ d v H', Qd d → Step Φ.g H H' → R Φ.g H' v d → Q v H') ∧ WX1 Φ σ H Qx
abbrev tE := tX Rep
abbrev tR := tX RepB
theorem PE.imp {X : Cx} {e : Expr} {t t' : TE} (h : PE X e t) (i : ∀ σ H Q, t' σ H Q → t σ H Q) : PE X e t' := ⟨fun pins s σ H Q I q => h.run pins s σ H Q I (i σ H Q q)⟩
theorem PT.imp {X : Cx} {e : Expr} {t t' : TT} (h : PT X e t) (i : ∀ σ H Q, t' σ H Q → t σ H Q) : PT X e t' := ⟨fun pins s σ H Q I q => h.run pins s σ H Q I (i σ H Q q)⟩

/-! ### a new thing is locked -/
def Lk (Q : VK) : VK := fun v H => Q v H ∨ ∃ p u, v = .ref p ∧ H p = some u ∧ Mut (some u) ∧ ∀ o, Q v (upd H p (.frz o u))
theorem EP.lk {X : Cx} {pins : List (Addr × Obj)} {σ : St} {Q : VK} {u : Value} {s : Shared} (h : EP X pins σ (Lk Q) u s) : EP X pins σ Q u s := by
  obtain ⟨v, H, I, r, q⟩ := h
  rcases q with q | ⟨p, o, rfl, hp, hm, q⟩
  · exact ⟨v, H, I, r, q⟩
  · obtain ⟨od, I'⟩ := I.lock hp hm
    exact ⟨.ref p, _, I', r, q od⟩
theorem PE.lk {X : Cx} {e : Expr} {t : TE} (h : PE X e t) : PE X e (fun σ H Q => t σ H (Lk Q)) :=
  ⟨fun pins s σ H Q I q => wpAny_mono (h.run pins s σ H _ I q) (fun _ _ z => EP.lk z) fun _ _ z => z⟩

theorem PE.rd {X : Cx} {e : Expr} {Φ : Fm} {s : Sm} (h : PE X e (tE Φ s)) : PE X e (tR Φ s) := PE.imp h fun σ H Q ⟨env, Qd, Qx, k, h, w, wx⟩ => ⟨env, Qd, Qx, k, h, fun d v H' q s r => w d v H' q s r.b, wx⟩
theorem lk_lst {Γ : Gm} {H : Hp} {p : Addr} {xs : List V} {ds : List D} (a : HandAt Γ H) (hp : H p = none) (r : Reps Γ H xs ds) {Q : VK}
    (q : ∀ H', Step Γ H H' → Rep Γ H' (.ref p) (.lst ds) → Q (.ref p) H') : Lk Q (.ref p) (upd H p (.lst xs)) :=
  .inr ⟨p, _, rfl, upd_same, trivial, fun o => let ⟨s, z⟩ := new_lst (o := o) a hp r; q _ s z⟩

/-! ### values -/
def vBin (f : D → D → PD → Prop) (a b : Sm) : Sm := fun env Q Qx => a env (fun x => b env (fun y => f x y Q) Qx) Qx
def vUn (f : D → PD → Prop) (a : Sm) : Sm := fun env Q Qx => a env (fun x => f x Q) Qx

section
variable {X : Cx} {Φ : Fm} {a b e : Expr} {sa sb : Sm} {pos : Pos}
/-- a two-place operation that a rule serves -/
def Serves2 (Φ : Fm) (r : R2) (f : D → D → PD → Prop) : Prop := ∀ (x y : V) (d e : D) (H : Hp) (Qd : PD) (Q : VK), HandAt Φ.g H → RepB Φ.g H x d → RepB Φ.g H y e → f d e Qd →
  (∀ z v H', Qd z → Step Φ.g H H' → Rep Φ.g H' v z → Q v H') → r x y H (Lk Q)
theorem ok_two {r : R2} {f : D → D → PD → Prop} (hp : PE X e (tOp r (tR Φ sa) (tR Φ sb))) (hs : Serves2 Φ r f) : PE X e (tE Φ (vBin f sa sb)) := by
  refine PE.imp (PE.lk hp) fun σ H Q h => ?_
  obtain ⟨env, Qd, Qx, k, h, w, wx⟩ := h
  refine ⟨env, _, Qx, k, h, fun d x H1 h1 s1 r1 => ?_, wx⟩
  refine ⟨env, _, Qx, k.step s1, h1, fun d2 y H2 h2 s2 r2 => ?_, wx.step s1⟩
  exact hs x y d d2 H2 Qd Q (s1.trans s2).hand (r1.step s2 s1.hand) r2 h2 fun z v H' q s r => w z v H' q ((s1.trans s2).trans s) r
theorem ok_bin {op : Operator} {r : R2} {f : D → D → PD → Prop} (ho : OpR X (binaryOp op) r) (hs : Serves2 Φ r f) (ha : PE X a (tR Φ sa)) (hb : PE X b (tR Φ sb)) : PE X (.BinOp a op b pos) (tE Φ (vBin f sa sb)) :=
  ok_two (pe_op ho ha hb) hs
theorem ok_cmp {op : CmpOp} {r : R2} {f : D → D → PD → Prop} (ho : OpR X (compareOp op) r) (hs : Serves2 Φ r f) (ha : PE X a (tR Φ sa)) (hb : PE X b (tR Φ sb)) (hm : behindInMarks op b = false) : PE X (.Compare a [op] [b] pos) (tE Φ (vBin f sa sb)) :=
  ok_two (pe_cmpR ho ha hb hm) hs
theorem ok_ix {r : R2} {f : D → D → PD → Prop} (hr : IxR X r) (hs : Serves2 Φ r f) (ha : PE X a (tR Φ sa)) (hb : PE X b (tR Φ sb)) (hx : PlainIx b) : PE X (.Subscript a b pos) (tE Φ (vBin f sa sb)) :=
  ok_two (pe_ix hr ha hb hx) hs
end

/-! ### constants, names -/
def vCon (d : D) : Sm := fun _ Q _ => Q d
def vLoc (i : Nat) : Sm := fun env Q _ => ∃ d, env[i]? = some (some (.d d)) ∧ Q d
/-- a name's own list, to be read -/
def vMl (i : Nat) : Sm := fun env Q _ => ∃ ds, env[i]? = some (some (.ml ds)) ∧ Q (.lst ds)
section
variable {X : Cx} {Φ : Fm} {pos : Pos}
theorem tE_con {v : V} {d : D} (r : ∀ H, Rep Φ.g H v d) {σ : St} {H : Hp} {Q : VK} (h : tE Φ (vCon d) σ H Q) : tC v σ H Q := by
  obtain ⟨env, Qd, Qx, k, h, w, _⟩ := h
  exact w d v H h (Step.refl k.hand) (r H)
theorem ok_int {i j} : PE X (.Constant (.int i) j pos) (tE Φ (vCon (.int i))) := PE.imp pe_int fun _ _ _ => tE_con fun _ => .int i
theorem ok_bl {i j} : PE X (.Constant (.bool i) j pos) (tE Φ (vCon (.bl i))) := PE.imp pe_bl fun _ _ _ => tE_con fun _ => .bl i
theorem ok_non {j} : PE X (.Constant .none j pos) (tE Φ (vCon .non)) := PE.imp pe_non fun _ _ _ => tE_con fun _ => .non
theorem ok_str {x j} : PE X (.Constant (.str x) j pos) (tE Φ (vCon (.str x))) := PE.imp pe_str fun _ _ _ => tE_con fun _ => .str x
theorem ok_loc {i : Nat} {x : Str} (hN : X.N[i]? = some x) (hv : Vis X.env.scope x) (hd : (x == ("__debug__" : Str)) = false) (hcd : (x == ("__classdict__" : Str)) = false) : PE X (.Name x pos) (tE Φ (vLoc i)) :=
  PE.imp (pe_var hN hv hd hcd) fun σ H Q h => by
    obtain ⟨env, Qd, Qx, k, ⟨d, e, h⟩, w, _⟩ := h
    obtain ⟨v, e1, r⟩ := k.slot i _ e
    exact ⟨v, e1, w d v H h (Step.refl k.hand) r⟩
theorem ok_ml {i : Nat} {x : Str} (hN : X.N[i]? = some x) (hv : Vis X.env.scope x) (hd : (x == ("__debug__" : Str)) = false) (hcd : (x == ("__classdict__" : Str)) = false) : PE X (.Name x pos) (tR Φ (vMl i)) :=
  PE.imp (pe_var hN hv hd hcd) fun σ H Q h => by
    obtain ⟨env, Qd, Qx, k, ⟨ds, e, h⟩, w, _⟩ := h
    obtain ⟨v, e1, p, xs, rfl, n, n0, hp, r⟩ := k.slot i _ e
    exact ⟨.ref p, e1, w (.lst ds) _ H h (Step.refl k.hand) (.lst (.inr ⟨n, hp⟩) r)⟩
theorem ok_glob {x : Str} {v : V} {u : Value} {d : D} (hg : Gl X x) (hm : X.mg x = some u) (r : RelV v u) (hr : ∀ H, Rep Φ.g H v d) (hd : (x == ("__debug__" : Str)) = false) : PE X (.Name x pos) (tE Φ (vCon d)) :=
  PE.imp (pe_glob hg hm r hd) fun _ _ _ => tE_con hr
end

/-! ### arguments, displays -/
abbrev Sms := En → (List D → Prop) → PX → Prop
def vNil : Sms := fun _ Q _ => Q []
def vCons (a : Sm) (r : Sms) : Sms := fun env Q Qx => a env (fun x => r env (fun xs => Q (x :: xs)) Qx) Qx
def tA (Φ : Fm) (s : Sms) : TA := fun σ H Q => ∃ env Qd Qx, SOK Φ.c env σ H ∧ s env Qd Qx ∧ (∀ ds vs H', Qd ds → Step Φ.g H H' → Reps Φ.g H' vs ds → Q vs H') ∧ WX1 Φ σ H Qx
theorem PA.imp {X : Cx} {es : List Expr} {t t' : TA} (h : PA X es t) (i : ∀ σ H Q, t' σ H Q → t σ H Q) : PA X es t' := ⟨fun pos pins s σ H Q I q => h.run pos pins s σ H Q I (i σ H Q q)⟩
section
variable {X : Cx} {Φ : Fm} {e : Expr} {es : List Expr} {s : Sm} {ss : Sms} {pos : Pos}
theorem oka_nil : PA X [] (tA Φ vNil) := PA.imp pa_nil fun σ H Q h => by
  obtain ⟨env, Qd, Qx, k, h, w, _⟩ := h
  exact w [] [] H h (Step.refl k.hand) .nil
theorem oka_cons (ha : PE X e (tE Φ s)) (hr : PA X es (tA Φ ss)) (hs : starEach (e :: es) X.env = (false, eval e X.env) :: starEach es X.env) : PA X (e :: es) (tA Φ (vCons s ss)) := PA.imp (pa_cons ha hr hs) fun σ H Q h => by
  obtain ⟨env, Qd, Qx, k, h, w, wx⟩ := h
  refine ⟨env, _, Qx, k, h, fun d x H1 h1 s1 r1 => ?_, wx⟩
  exact ⟨env, _, Qx, k.step s1, h1, fun ds vs H2 h2 s2 r2 => w (d :: ds) (x :: vs) H2 h2 (s1.trans s2) (.cons (r1.step s2 s1.hand) r2), wx.step s1⟩
def vTup (ss : Sms) : Sm := fun env Q Qx => ss env (fun ds => ds.length ≤ sizeLine ∧ Q (.tup ds)) Qx
def vLst (ss : Sms) : Sm := fun env Q Qx => ss env (fun ds => ds.length ≤ sizeLine ∧ Q (.lst ds)) Qx
theorem ok_tup {x1} (h : PA X es (tA Φ ss)) : PE X (.Tuple es x1 pos) (tE Φ (vTup ss)) := PE.imp (pe_tup h) fun σ H Q h => by
  obtain ⟨env, Qd, Qx, k, h, w, wx⟩ := h
  refine ⟨env, _, Qx, k, h, fun ds vs H1 h1 s1 r1 => ⟨by rw [r1.length]; exact h1.1, fun p hp => ?_⟩, wx⟩
  obtain ⟨s2, z⟩ := new_tup s1.hand hp r1
  exact w _ _ _ h1.2 (s1.trans s2) z
theorem ok_lst (h : PA X es (tA Φ ss)) : PE X (.List es pos) (tE Φ (vLst ss)) := PE.imp (PE.lk (pe_lst h)) fun σ H Q h => by
  obtain ⟨env, Qd, Qx, k, h, w, wx⟩ := h
  refine ⟨env, _, Qx, k, h, fun ds vs H1 h1 s1 r1 => ⟨by rw [r1.length]; exact h1.1, fun p hp => ?_⟩, wx⟩
  exact lk_lst s1.hand hp r1 fun H' s2 z => w _ _ _ h1.2 (s1.trans s2) z
end
end Mw
end
section
set_option Elab.async false
set_option linter.all false
set_option autoImplicit false
set_option maxRecDepth 100000
set_option maxHeartbeats 4000000
namespace Mw
open PySem PySem.Spec L2

/-- the data that == and repr serve -/
def D.ok (d : D) : Bool := match d.py with
  | some p => SeqAt.shaped p
  | none => false
def D.eqv (d e : D) : Bool := match d.py, e.py with
  | some p, some q => PyData.eqv p q
  | _, _ => false

def fAdd : D → D → PD → Prop
  | .int i, .int j, Q => Q (.int (i + j))
  | .str i, .str j, Q => i.length + j.length ≤ sizeLine ∧ Q (.str (i ++ j))
  | .tup xs, .tup ys, Q => xs.length + ys.length ≤ sizeLine ∧ Q (.tup (xs ++ ys))
  | .lst xs, .lst ys, Q => xs.length + ys.length ≤ sizeLine ∧ Q (.lst (xs ++ ys))
  | _, _, _ => False
def fSub : D → D → PD → Prop
  | .int i, .int j, Q => Q (.int (i - j))
  | _, _, _ => False
def fMul : D → D → PD → Prop
  | .int i, .int j, Q => CMul i j ∧ Q (.int (i * j))
  | .lst xs, .int k, Q => -(2 ^ 63) ≤ k ∧ k < 2 ^ 63 ∧ xs.length * k.toNat ≤ sizeLine ∧ Q (.lst (List.replicate k.toNat xs).flatten)
  | _, _, _ => False
def fFdiv : D → D → PD → Prop
  | .int i, .int j, Q => CDiv i j ∧ Q (.int (i / j))
  | _, _, _ => False
def fMod : D → D → PD → Prop
  | .int i, .int j, Q => 0 < j ∧ Q (.int (i % j))
  | _, _, _ => False
def fPow : D → D → PD → Prop
  | .int i, .int j, Q => CPow i j ∧ Q (.int (i ^ j.toNat))
  | _, _, _ => False
def fEq (d e : D) (Q : PD) : Prop := d.ok = true ∧ e.ok = true ∧ Q (.bl (d.eqv e))
def fNe (d e : D) (Q : PD) : Prop := d.ok = true ∧ e.ok = true ∧ Q (.bl (!d.eqv e))
def fLt : D → D → PD → Prop
  | .int i, .int j, Q => Q (.bl (decide (i < j)))
  | _, _, _ => False
def fLe : D → D → PD → Prop
  | .int i, .int j, Q => Q (.bl (decide (i ≤ j)))
  | _, _, _ => False
def fGt : D → D → PD → Prop
  | .int i, .int j, Q => Q (.bl (decide (j < i)))
  | _, _, _ => False
def fGe : D → D → PD → Prop
  | .int i, .int j, Q => Q (.bl (decide (j ≤ i)))
  | _, _, _ => False
def D.isNon : D → Bool
  | .non => true
  | _ => false
/-- is of None, of True, of False alone -/
def fIs : D → D → PD → Prop
  | d, .non, Q => Q (.bl d.isNon)
  | .bl a, .bl b, Q => Q (.bl (decide (a = b)))
  | _, _, _ => False
def fIsNot : D → D → PD → Prop
  | d, .non, Q => Q (.bl (!d.isNon))
  | .bl a, .bl b, Q => Q (.bl (!decide (a = b)))
  | _, _, _ => False
def D.items : D → Option (List D)
  | .tup ds => some ds
  | .lst ds => some ds
  | _ => none
/-- in a list or a tuple -/
def D.isIn (d : D) (ds : List D) : Bool := ds.any fun z => z.eqv d
def dAt (ds : List D) (i : Int) : Option D := if 0 ≤ i then ds[i.toNat]? else if -(ds.length : Int) ≤ i then ds[(i + ds.length).toNat]? else none
def fIx : D → D → PD → Prop
  | .tup ds, .int i, Q => ∃ d, dAt ds i = some d ∧ Q d
  | .lst ds, .int i, Q => ∃ d, dAt ds i = some d ∧ Q d
  | .str z, .int i, Q => z.length ≤ sizeLine ∧ ∃ c, atI z.cps.toList i = some c ∧ Q (.str ⟨#[c]⟩)
  | _, _, _ => False

section
variable {X : Cx} {Φ : Fm}
/-- two locked or new lists -/
def rCatF (Γ : Gm) : R2 := fun x y H Q => ∃ l b xs zs, x = .ref l ∧ y = .ref b ∧ LsR Γ H l xs ∧ LsR Γ H b zs ∧ xs.length + zs.length ≤ sizeLine ∧ ∀ p, H p = none → Q (.ref p) (upd H p (.lst (xs ++ zs)))
theorem Inv.frzM {pins : List (Addr × Obj)} {σ : L2.St} {H : Hp} {s : Shared} {l : Addr} {xs : List V} (I : Inv X pins σ H s) {Γ : Gm} (h : LsR Γ H l xs) :
    xs.length ≤ sizeLine ∧ ∃ (its : List Value) (n : Nat), Vals xs its ∧ xs.length = its.length ∧ s.heap.get? l = some { cls := .type "list", data := .seq its.toArray n } := by
  rcases h with ⟨o, h⟩ | ⟨_, h⟩
  · obtain ⟨_, z, its, n, r, e⟩ := I.hok l _ h
    exact ⟨z, its, n, r, r.length, e⟩
  · obtain ⟨z, its, n, r, e⟩ := I.hok l _ h
    exact ⟨z, its, n, r, r.length, e⟩
theorem op_catF {Γ : Gm} : OpR X (binaryOp .Add) (rCatF Γ) := by
  intro pins s σ H x y v u Q I rx ry h
  obtain ⟨l, b, xs, zs, rfl, rfl, hH, hB, hz, q⟩ := h
  cases rx
  cases ry
  obtain ⟨z, its, n, r, hl, e⟩ := Inv.frzM I hH
  obtain ⟨z2, its2, n2, r2, hl2, e2⟩ := Inv.frzM I hB
  refine PySem.P.add_list e e2 ?_ (by rw [List.size_toArray, List.size_toArray]; omega)
  have ea : its.toArray ++ its2.toArray = (its ++ its2).toArray := by simp
  rw [ea]
  exact ⟨.ref _, _, I.lnew (t' := s.toks) (r.append r2) (by rw [List.length_append]; omega), rfl, q _ I.fresh⟩

theorem sv_add (hK : X.K = Φ.g.K) : Serves2 Φ (fun x y H Q => ((rI0 fun i j => V.int (i + j)) x y H Q ∨ (∃ i j, x = .str i ∧ y = .str j ∧ i.length + j.length ≤ sizeLine ∧ Q (.str (i ++ j)) H)) ∨ (rCatA X.K x y H Q ∨ rCatF Φ.g x y H Q)) fAdd := by
  intro x y d e H Qd Q a rx ry h w
  cases rx <;> cases ry <;> try (first | exact h.elim | skip)
  case int.int i j => exact .inl (.inl ⟨i, j, rfl, rfl, .inl (w _ _ _ h (Step.refl a) (.int _))⟩)
  case str.str i j => exact .inl (.inr ⟨i, j, rfl, rfl, h.1, .inl (w _ _ _ h.2 (Step.refl a) (.str _))⟩)
  case tup.tup p xs ds q r p2 xs2 ds2 q2 r2 =>
    rw [hK]
    have l1 := r.length
    have l2 := r2.length
    refine .inr (.inl ⟨p, p2, xs, xs2, rfl, rfl, q, q2, by rw [l1, l2]; exact h.1, fun e1 => .inl ?_, fun _ e2 => .inl ?_, fun _ _ p3 hp3 => .inl ?_⟩)
    · subst e1
      cases r
      exact w _ _ _ h.2 (Step.refl a) (.tup q2 r2)
    · subst e2
      cases r2
      have h2 := h.2
      rw [List.append_nil] at h2
      exact w _ _ _ h2 (Step.refl a) (.tup q r)
    · obtain ⟨s, z⟩ := new_tup a hp3 (r.append r2)
      exact w _ _ _ h.2 s z
  case lst.lst p xs ds q r p2 xs2 ds2 q2 r2 =>
    have l1 := r.length
    have l2 := r2.length
    exact .inr (.inr ⟨p, p2, xs, xs2, rfl, rfl, q, q2, by rw [l1, l2]; exact h.1, fun p3 hp3 => lk_lst a hp3 (r.append r2) fun H' s z => w _ _ _ h.2 s z⟩)
theorem ok_add (hK : X.K = Φ.g.K) {a b : Expr} {sa sb : Sm} {pos : Pos} (ha : PE X a (tR Φ sa)) (hb : PE X b (tR Φ sb)) : PE X (.BinOp a .Add b pos) (tE Φ (vBin fAdd sa sb)) :=
  ok_bin (OpR.or (OpR.or op_add op_add_str) (OpR.or op_catA op_catF)) (sv_add hK) ha hb

theorem sv_int {C : Int → Int → Prop} {g : Int → Int → V} {g' : Int → Int → D} {f : D → D → PD → Prop} (hg : ∀ i j H, Rep Φ.g H (g i j) (g' i j)) (hf : ∀ d e Q, f d e Q → ∃ i j, d = .int i ∧ e = .int j ∧ C i j ∧ Q (g' i j)) : Serves2 Φ (rI C g) f := by
  intro x y d e H Qd Q a rx ry h w
  obtain ⟨i, j, rfl, rfl, c, q⟩ := hf _ _ _ h
  cases rx
  cases ry
  exact ⟨i, j, rfl, rfl, c, .inl (w _ _ _ q (Step.refl a) (hg i j H))⟩
theorem sv_int0 {g : Int → Int → V} {g' : Int → Int → D} {f : D → D → PD → Prop} (hg : ∀ i j H, Rep Φ.g H (g i j) (g' i j)) (hf : ∀ d e Q, f d e Q → ∃ i j, d = .int i ∧ e = .int j ∧ Q (g' i j)) : Serves2 Φ (rI0 g) f := by
  intro x y d e H Qd Q a rx ry h w
  obtain ⟨i, j, rfl, rfl, q⟩ := hf _ _ _ h
  cases rx
  cases ry
  exact ⟨i, j, rfl, rfl, .inl (w _ _ _ q (Step.refl a) (hg i j H))⟩
theorem fSub_int : ∀ d e Q, fSub d e Q → ∃ i j, d = .int i ∧ e = .int j ∧ Q (.int (i - j)) := fun d e Q h => by
  cases d <;> cases e <;> first | exact ⟨_, _, rfl, rfl, h⟩ | exact h.elim
theorem fFdiv_int : ∀ d e Q, fFdiv d e Q → ∃ i j, d = .int i ∧ e = .int j ∧ CDiv i j ∧ Q (.int (i / j)) := fun d e Q h => by
  cases d <;> cases e <;> first | exact ⟨_, _, rfl, rfl, h⟩ | exact h.elim
theorem fMod_int : ∀ d e Q, fMod d e Q → ∃ i j, d = .int i ∧ e = .int j ∧ 0 < j ∧ Q (.int (i % j)) := fun d e Q h => by
  cases d <;> cases e <;> first | exact ⟨_, _, rfl, rfl, h⟩ | exact h.elim
theorem fPow_int : ∀ d e Q, fPow d e Q → ∃ i j, d = .int i ∧ e = .int j ∧ CPow i j ∧ Q (.int (i ^ j.toNat)) := fun d e Q h => by
  cases d <;> cases e <;> first | exact ⟨_, _, rfl, rfl, h⟩ | exact h.elim
theorem fLt_int : ∀ d e Q, fLt d e Q → ∃ i j, d = .int i ∧ e = .int j ∧ Q (.bl (decide (i < j))) := fun d e Q h => by
  cases d <;> cases e <;> first | exact ⟨_, _, rfl, rfl, h⟩ | exact h.elim
theorem fLe_int : ∀ d e Q, fLe d e Q → ∃ i j, d = .int i ∧ e = .int j ∧ Q (.bl (decide (i ≤ j))) := fun d e Q h => by
  cases d <;> cases e <;> first | exact ⟨_, _, rfl, rfl, h⟩ | exact h.elim
theorem fGt_int : ∀ d e Q, fGt d e Q → ∃ i j, d = .int i ∧ e = .int j ∧ Q (.bl (decide (j < i))) := fun d e Q h => by
  cases d <;> cases e <;> first | exact ⟨_, _, rfl, rfl, h⟩ | exact h.elim
theorem fGe_int : ∀ d e Q, fGe d e Q → ∃ i j, d = .int i ∧ e = .int j ∧ Q (.bl (decide (j ≤ i))) := fun d e Q h => by
  cases d <;> cases e <;> first | exact ⟨_, _, rfl, rfl, h⟩ | exact h.elim
variable {a b : Expr} {sa sb : Sm} {pos : Pos}
theorem ok_sub (ha : PE X a (tR Φ sa)) (hb : PE X b (tR Φ sb)) : PE X (.BinOp a .Sub b pos) (tE Φ (vBin fSub sa sb)) := ok_bin op_sub (sv_int0 (fun i j H => .int _) fSub_int) ha hb
theorem ok_fdiv (ha : PE X a (tR Φ sa)) (hb : PE X b (tR Φ sb)) : PE X (.BinOp a .FloorDiv b pos) (tE Φ (vBin fFdiv sa sb)) := ok_bin op_fdiv (sv_int (fun i j H => .int _) fFdiv_int) ha hb
theorem ok_mod (ha : PE X a (tR Φ sa)) (hb : PE X b (tR Φ sb)) : PE X (.BinOp a .Mod b pos) (tE Φ (vBin fMod sa sb)) := ok_bin op_mod (sv_int (fun i j H => .int _) fMod_int) ha hb
theorem ok_pow (ha : PE X a (tR Φ sa)) (hb : PE X b (tR Φ sb)) : PE X (.BinOp a .Pow b pos) (tE Φ (vBin fPow sa sb)) := ok_bin op_pow (sv_int (fun i j H => .int _) fPow_int) ha hb
end
end Mw
end
section
set_option Elab.async false
set_option linter.all false
set_option autoImplicit false
set_option maxRecDepth 100000
set_option maxHeartbeats 4000000
namespace Mw
open PySem PySem.Spec L2
section
variable {X : Cx} {Φ : Fm} {a b e c : Expr} {sa sb sc s : Sm} {pos : Pos}

theorem D.ok_py {d : D} (h : d.ok = true) : ∃ p, d.py = some p ∧ SeqAt.shaped p = true := by
  unfold D.ok at h
  cases e : d.py with
  | none => rw [e] at h; cases h
  | some p => rw [e] at h; exact ⟨p, rfl, h⟩
theorem sv_eq (hK : X.K = Φ.g.K) : Serves2 Φ (rEqD X.K) fEq := by
  intro x y d e H Qd Q a rx ry h w
  obtain ⟨h1, h2, q⟩ := h
  obtain ⟨p, e1, s1⟩ := D.ok_py h1
  obtain ⟨p2, e2, s2⟩ := D.ok_py h2
  rw [hK]
  refine ⟨p, p2, rx.dp e1, ry.dp e2, s1, s2, .inl (w _ _ _ q (Step.refl a) ?_)⟩
  unfold D.eqv
  rw [e1, e2]
  exact .bl _
theorem sv_ne (hK : X.K = Φ.g.K) : Serves2 Φ (rNeD X.K) fNe := by
  intro x y d e H Qd Q a rx ry h w
  obtain ⟨h1, h2, q⟩ := h
  obtain ⟨p, e1, s1⟩ := D.ok_py h1
  obtain ⟨p2, e2, s2⟩ := D.ok_py h2
  rw [hK]
  refine ⟨p, p2, rx.dp e1, ry.dp e2, s1, s2, .inl (w _ _ _ q (Step.refl a) ?_)⟩
  unfold D.eqv
  rw [e1, e2]
  exact .bl _
theorem ok_eq (hK : X.K = Φ.g.K) (hu : X.A.units + 65 < cLine) (ha : PE X a (tR Φ sa)) (hb : PE X b (tR Φ sb)) : PE X (.Compare a [.Eq] [b] pos) (tE Φ (vBin fEq sa sb)) :=
  ok_cmp (op_eqD (by omega)) (sv_eq hK) ha hb (nomark _)
theorem ok_ne (hK : X.K = Φ.g.K) (hu : X.A.units + 65 < cLine) (ha : PE X a (tR Φ sa)) (hb : PE X b (tR Φ sb)) : PE X (.Compare a [.NotEq] [b] pos) (tE Φ (vBin fNe sa sb)) :=
  ok_cmp (op_neD (by omega)) (sv_ne hK) ha hb (nomark _)
theorem ok_lt (ha : PE X a (tR Φ sa)) (hb : PE X b (tR Φ sb)) : PE X (.Compare a [.Lt] [b] pos) (tE Φ (vBin fLt sa sb)) := ok_cmp op_lt (sv_int0 (fun i j H => .bl _) fLt_int) ha hb (nomark _)
theorem ok_le (ha : PE X a (tR Φ sa)) (hb : PE X b (tR Φ sb)) : PE X (.Compare a [.LtE] [b] pos) (tE Φ (vBin fLe sa sb)) := ok_cmp op_le (sv_int0 (fun i j H => .bl _) fLe_int) ha hb (nomark _)
theorem ok_gt (ha : PE X a (tR Φ sa)) (hb : PE X b (tR Φ sb)) : PE X (.Compare a [.Gt] [b] pos) (tE Φ (vBin fGt sa sb)) := ok_cmp op_gt (sv_int0 (fun i j H => .bl _) fGt_int) ha hb (nomark _)
theorem ok_ge (ha : PE X a (tR Φ sa)) (hb : PE X b (tR Φ sb)) : PE X (.Compare a [.GtE] [b] pos) (tE Φ (vBin fGe sa sb)) := ok_cmp op_ge (sv_int0 (fun i j H => .bl _) fGe_int) ha hb (nomark _)

/-! ### is -/
theorem sv_is : Serves2 Φ (fun x y H Q => (y = .non ∧ Q (.bl (decide (x = .non))) H) ∨ (∃ a b, x = .bl a ∧ y = .bl b ∧ Q (.bl (decide (a = b))) H)) fIs := by
  intro x y d e H Qd Q a rx ry h w
  cases ry
  case non =>
    refine .inl ⟨rfl, .inl ?_⟩
    cases rx <;> exact w _ _ _ h (Step.refl a) (.bl _)
  case bl b =>
    cases rx <;> try exact h.elim
    exact .inr ⟨_, b, rfl, rfl, .inl (w _ _ _ h (Step.refl a) (.bl _))⟩
  all_goals (cases rx <;> exact h.elim)
theorem sv_isnot : Serves2 Φ (fun x y H Q => (y = .non ∧ Q (.bl (!decide (x = .non))) H) ∨ (∃ a b, x = .bl a ∧ y = .bl b ∧ Q (.bl (!decide (a = b))) H)) fIsNot := by
  intro x y d e H Qd Q a rx ry h w
  cases ry
  case non =>
    refine .inl ⟨rfl, .inl ?_⟩
    cases rx <;> exact w _ _ _ h (Step.refl a) (.bl _)
  case bl b =>
    cases rx <;> try exact h.elim
    exact .inr ⟨_, b, rfl, rfl, .inl (w _ _ _ h (Step.refl a) (.bl _))⟩
  all_goals (cases rx <;> exact h.elim)
theorem ok_is (ha : PE X a (tR Φ sa)) (hb : PE X b (tR Φ sb)) : PE X (.Compare a [.Is] [b] pos) (tE Φ (vBin fIs sa sb)) := ok_cmp (OpR.or op_isN op_isBl) sv_is ha hb (nomark _)
theorem ok_isnot (ha : PE X a (tR Φ sa)) (hb : PE X b (tR Φ sb)) : PE X (.Compare a [.IsNot] [b] pos) (tE Φ (vBin fIsNot sa sb)) := ok_cmp (OpR.or op_notN op_notBl) sv_isnot ha hb (nomark _)

/-! ### in -/
/-- a sign in a text, a thing in a list or tuple -/
def fIn : D → D → PD → Prop
  | d, .tup ds, Q => d.ok = true ∧ (D.tup ds).ok = true ∧ Q (.bl (d.isIn ds))
  | d, .lst ds, Q => d.ok = true ∧ (D.lst ds).ok = true ∧ Q (.bl (d.isIn ds))
  | .str x, .str z, Q => Q (.bl (!(Builtin.Str.occurrences z x 0 z.length 1).isEmpty))
  | _, _, _ => False
def fNotIn (d e : D) (Q : PD) : Prop := fIn d e fun r => ∃ b, r = .bl b ∧ Q (.bl (!b))
def rInT (K : PySem.W.Frag) : R2 := fun x y H Q => ∃ d ds, Dp K H x d ∧ Dp K H y (.tuple ds) ∧ SeqAt.shaped d = true ∧ SeqAt.shaped (.tuple ds) = true ∧ Q (.bl (ds.any fun z => PyData.eqv z d)) H
def rNotInT (K : PySem.W.Frag) : R2 := fun x y H Q => ∃ d ds, Dp K H x d ∧ Dp K H y (.tuple ds) ∧ SeqAt.shaped d = true ∧ SeqAt.shaped (.tuple ds) = true ∧ Q (.bl (!ds.any fun z => PyData.eqv z d)) H
theorem op_inT (hu : X.A.units + 65 < cLine) : OpR X (compareOp .In) (rInT X.K) := by
  intro pins s σ H x y v u Q I rx ry h
  obtain ⟨d, ds, hd, he, sd, se, q⟩ := h
  obtain ⟨as, r1⟩ := Dp.reads I d x v hd rx
  obtain ⟨bs, r2⟩ := Dp.reads I (.tuple ds) y u he ry
  exact SeqAt.in_tuple_reads r2 r1 (SeqAt.canLay_of_shaped se) (SeqAt.canLay_of_shaped sd) (PyProof.Rows.room_in_shaped sd hu) ⟨.bl _, H, I, rfl, q⟩
theorem op_notInT (hu : X.A.units + 65 < cLine) : OpR X (compareOp .NotIn) (rNotInT X.K) := by
  intro pins s σ H x y v u Q I rx ry h
  obtain ⟨d, ds, hd, he, sd, se, q⟩ := h
  obtain ⟨as, r1⟩ := Dp.reads I d x v hd rx
  obtain ⟨bs, r2⟩ := Dp.reads I (.tuple ds) y u he ry
  exact SeqAt.notIn_tuple_reads r2 r1 (SeqAt.canLay_of_shaped se) (SeqAt.canLay_of_shaped sd) (PyProof.Rows.room_in_shaped sd hu) ⟨.bl _, H, I, rfl, q⟩
theorem pys_any {d : D} {p : PyData} (e : d.py = some p) : ∀ {ds : List D} {ps : List PyData}, D.pys ds = some ps → (ps.any fun z => PyData.eqv z p) = d.isIn ds
  | [], _, h => by cases h; rfl
  | x :: xs, ps, h => by
    unfold D.pys at h
    cases h1 : D.py x with
    | none => rw [h1] at h; simp at h
    | some q =>
      cases h2 : D.pys xs with
      | none => rw [h1, h2] at h; simp at h
      | some qs =>
        rw [h1, h2] at h
        cases h
        unfold D.isIn
        rw [List.any_cons, List.any_cons, pys_any e h2]
        unfold D.isIn D.eqv
        rw [h1, e]
theorem tup_py {ds : List D} {p : PyData} (h : (D.tup ds).py = some p) : ∃ ps, D.pys ds = some ps ∧ p = .tuple ps := by
  unfold D.py at h
  obtain ⟨ps, h1, h2⟩ := Option.map_eq_some_iff.mp h
  exact ⟨ps, h1, h2.symm⟩
theorem lst_py {ds : List D} {p : PyData} (h : (D.lst ds).py = some p) : ∃ ps, D.pys ds = some ps ∧ p = .list ps := by
  unfold D.py at h
  obtain ⟨ps, h1, h2⟩ := Option.map_eq_some_iff.mp h
  exact ⟨ps, h1, h2.symm⟩
theorem sv_in (hK : X.K = Φ.g.K) : Serves2 Φ (fun x y H Q => (rInD X.K x y H Q ∨ rInT X.K x y H Q) ∨ (∃ i j, x = .str i ∧ y = .str j ∧ Q (.bl (!(Builtin.Str.occurrences j i 0 j.length 1).isEmpty)) H)) fIn := by
  intro x y d e H Qd Q a rx ry h w
  rw [hK]
  cases ry
  case tup p xs ds q r =>
    have h : d.ok = true ∧ (D.tup ds).ok = true ∧ Qd (.bl (d.isIn ds)) := by cases d <;> exact h
    obtain ⟨h1, h2, q'⟩ := h
    obtain ⟨p1, e1, s1⟩ := D.ok_py h1
    obtain ⟨p2, e2, s2⟩ := D.ok_py h2
    obtain ⟨ps, e3, rfl⟩ := tup_py e2
    refine .inl (.inr ⟨p1, ps, rx.dp e1, (RepB.tup q r).dp e2, s1, s2, .inl (w _ _ _ q' (Step.refl a) ?_)⟩)
    rw [pys_any e1 e3]
    exact .bl _
  case lst p xs ds q r =>
    have h : d.ok = true ∧ (D.lst ds).ok = true ∧ Qd (.bl (d.isIn ds)) := by cases d <;> exact h
    obtain ⟨h1, h2, q'⟩ := h
    obtain ⟨p1, e1, s1⟩ := D.ok_py h1
    obtain ⟨p2, e2, s2⟩ := D.ok_py h2
    obtain ⟨ps, e3, rfl⟩ := lst_py e2
    refine .inl (.inl ⟨p1, ps, rx.dp e1, (RepB.lst q r).dp e2, s1, s2, .inl (w _ _ _ q' (Step.refl a) ?_)⟩)
    rw [pys_any e1 e3]
    exact .bl _
  case str z =>
    cases rx <;> try exact h.elim
    exact .inr ⟨_, _, rfl, rfl, .inl (w _ _ _ h (Step.refl a) (.bl _))⟩
  all_goals (cases rx <;> exact h.elim)
theorem sv_notin (hK : X.K = Φ.g.K) : Serves2 Φ (fun x y H Q => (rNotInD X.K x y H Q ∨ rNotInT X.K x y H Q) ∨ (∃ i j, x = .str i ∧ y = .str j ∧ Q (.bl (!(!(Builtin.Str.occurrences j i 0 j.length 1).isEmpty))) H)) fNotIn := by
  intro x y d e H Qd Q a rx ry h w
  rw [hK]
  unfold fNotIn at h
  cases ry
  case tup p xs ds q r =>
    have h : d.ok = true ∧ (D.tup ds).ok = true ∧ ∃ b, D.bl (d.isIn ds) = .bl b ∧ Qd (.bl (!b)) := by cases d <;> exact h
    obtain ⟨h1, h2, b, eb, q'⟩ := h
    cases eb
    obtain ⟨p1, e1, s1⟩ := D.ok_py h1
    obtain ⟨p2, e2, s2⟩ := D.ok_py h2
    obtain ⟨ps, e3, rfl⟩ := tup_py e2
    refine .inl (.inr ⟨p1, ps, rx.dp e1, (RepB.tup q r).dp e2, s1, s2, .inl (w _ _ _ q' (Step.refl a) ?_)⟩)
    rw [pys_any e1 e3]
    exact .bl _
  case lst p xs ds q r =>
    have h : d.ok = true ∧ (D.lst ds).ok = true ∧ ∃ b, D.bl (d.isIn ds) = .bl b ∧ Qd (.bl (!b)) := by cases d <;> exact h
    obtain ⟨h1, h2, b, eb, q'⟩ := h
    cases eb
    obtain ⟨p1, e1, s1⟩ := D.ok_py h1
    obtain ⟨p2, e2, s2⟩ := D.ok_py h2
    obtain ⟨ps, e3, rfl⟩ := lst_py e2
    refine .inl (.inl ⟨p1, ps, rx.dp e1, (RepB.lst q r).dp e2, s1, s2, .inl (w _ _ _ q' (Step.refl a) ?_)⟩)
    rw [pys_any e1 e3]
    exact .bl _
  case str z =>
    cases rx <;> try exact h.elim
    obtain ⟨b, eb, q'⟩ := h
    cases eb
    exact .inr ⟨_, _, rfl, rfl, .inl (w _ _ _ q' (Step.refl a) (.bl _))⟩
  all_goals (cases rx <;> exact h.elim)
theorem ok_in (hK : X.K = Φ.g.K) (hu : X.A.units + 65 < cLine) (ha : PE X a (tR Φ sa)) (hb : PE X b (tR Φ sb)) (hm : behindInMarks .In b = false) : PE X (.Compare a [.In] [b] pos) (tE Φ (vBin fIn sa sb)) :=
  ok_cmp (OpR.or (OpR.or (op_inD hu) (op_inT hu)) op_in_str) (sv_in hK) ha hb hm
theorem ok_notin (hK : X.K = Φ.g.K) (hu : X.A.units + 65 < cLine) (ha : PE X a (tR Φ sa)) (hb : PE X b (tR Φ sb)) (hm : behindInMarks .NotIn b = false) : PE X (.Compare a [.NotIn] [b] pos) (tE Φ (vBin fNotIn sa sb)) :=
  ok_cmp (OpR.or (OpR.or (op_notInD hu) (op_notInT hu)) op_notIn_str) (sv_notin hK) ha hb hm

/-! ### subscripts -/
def fIx2 : D → D → PD → Prop
  | .tup ds, .int i, Q => ∃ d, atI ds i = some d ∧ Q d
  | .lst ds, .int i, Q => ∃ d, atI ds i = some d ∧ Q d
  | .str z, .int i, Q => z.length ≤ sizeLine ∧ ∃ c, atI z.cps.toList i = some c ∧ Q (.str ⟨#[c]⟩)
  | _, _, _ => False
theorem Reps.at {Γ : Gm} {H : Hp} {xs : List V} {ds : List D} (r : Reps Γ H xs ds) {i : Int} {d : D} (h : atI ds i = some d) : ∃ v, atI xs i = some v ∧ Rep Γ H v d := by
  unfold atI at h ⊢
  rw [r.length]
  cases e : ixN ds.length i with
  | none => rw [e] at h; cases h
  | some j => rw [e] at h; exact r.get h
theorem sv_ix (hK : X.K = Φ.g.K) : Serves2 Φ (rIx X.K) fIx2 := by
  intro x y d e H Qd Q a rx ry h w
  rw [hK]
  cases ry
  case int i =>
    cases rx
    case tup p xs ds q r =>
      obtain ⟨z, e1, q'⟩ := h
      obtain ⟨v, e2, r2⟩ := r.at e1
      exact .inr (.inl ⟨p, xs, i, v, rfl, rfl, q, e2, .inl (w _ _ _ q' (Step.refl a) r2)⟩)
    case lst p xs ds q r =>
      obtain ⟨z, e1, q'⟩ := h
      obtain ⟨v, e2, r2⟩ := r.at e1
      exact .inl ⟨p, xs, i, v, rfl, rfl, q.sq, e2, .inl (w _ _ _ q' (Step.refl a) r2)⟩
    case str z =>
      obtain ⟨hz, c, e1, q'⟩ := h
      exact .inr (.inr ⟨z, i, c, rfl, rfl, hz, e1, .inl (w _ _ _ q' (Step.refl a) (.str _))⟩)
    all_goals exact h.elim
  all_goals (cases rx <;> exact h.elim)
theorem ok_sub_ix (hK : X.K = Φ.g.K) (ha : PE X a (tR Φ sa)) (hb : PE X b (tR Φ sb)) (hx : PlainIx b) : PE X (.Subscript a b pos) (tE Φ (vBin fIx2 sa sb)) := ok_ix ix_seq (sv_ix hK) ha hb hx

/-! ### slices -/
abbrev SmO := En → (Option Int → Prop) → PX → Prop
def tO (Φ : Fm) (s : SmO) : TO := fun σ H Q => ∃ env Qd Qx, SOK Φ.c env σ H ∧ s env Qd Qx ∧ (∀ i H', Qd i → Step Φ.g H H' → Q i H') ∧ WX1 Φ σ H Qx
def oNone : SmO := fun _ Q _ => Q none
def oSome (s : Sm) : SmO := fun env Q Qx => s env (fun d => ∃ i, d = .int i ∧ Q (some i)) Qx
theorem PO.imp {X : Cx} {e : Option Expr} {t t' : TO} (h : PO X e t) (i : ∀ σ H Q, t' σ H Q → t σ H Q) : PO X e t' := ⟨fun pins s σ H Q I q => h.run pins s σ H Q I (i σ H Q q)⟩
theorem oko_none : PO X none (tO Φ oNone) := PO.imp po_none fun σ H Q h => by
  obtain ⟨env, Qd, Qx, k, h, w, _⟩ := h
  exact w none H h (Step.refl k.hand)
theorem oko_some (h : PE X a (tR Φ sa)) : PO X (some a) (tO Φ (oSome sa)) := PO.imp (po_some h) fun σ H Q h => by
  obtain ⟨env, Qd, Qx, k, h, w, wx⟩ := h
  refine ⟨env, _, Qx, k, h, fun d v H' hq s r => ?_, wx⟩
  obtain ⟨i, rfl, q⟩ := hq
  cases r
  exact ⟨i, rfl, w _ H' q s⟩
def cutD (ds : List D) (lo hi : Option Int) : List D := (ds.drop (HT.sIx ds.length 0 lo)).take (HT.sIx ds.length ds.length hi - HT.sIx ds.length 0 lo)
theorem Reps.cut {Γ : Gm} {H : Hp} {xs : List V} {ds : List D} (r : Reps Γ H xs ds) (lo hi : Option Int) : Reps Γ H (cutV xs lo hi) (cutD ds lo hi) := by
  unfold cutV cutD
  rw [r.length]
  exact (r.drop _).take _
def fSl : D → Option Int → Option Int → PD → Prop
  | .tup ds, lo, hi, Q => Q (.tup (cutD ds lo hi))
  | .lst ds, lo, hi, Q => Q (.lst (cutD ds lo hi))
  | .str z, lo, hi, Q => z.length ≤ sizeLine ∧ Q (.str (Txt.slice z lo hi))
  | _, _, _, _ => False
def vSl (a : Sm) (l u : SmO) : Sm := fun env Q Qx => a env (fun d => l env (fun lo => u env (fun hi => fSl d lo hi Q) Qx) Qx) Qx
theorem sIx_le (n lo hi : Nat) (o : Option Int) (h : lo ≤ n) : True := trivial
theorem ok_slice (hK : X.K = Φ.g.K) {lo hi : Option Expr} {sl sh : SmO} {p2 : Pos} (he : PE X a (tR Φ sa)) (hl : PO X lo (tO Φ sl)) (hu : PO X hi (tO Φ sh)) : PE X (.Subscript a (.Slice lo hi none p2) pos) (tE Φ (vSl sa sl sh)) := by
  refine PE.imp (PE.lk (pe_slice (SlR.or sl_list (SlR.or sl_tupA C8.sl_txt)) he hl hu)) fun σ H Q h => ?_
  obtain ⟨env, Qd, Qx, k, h, w, wx⟩ := h
  refine ⟨env, _, Qx, k, h, fun d v H1 h1 s1 r1 => ?_, wx⟩
  refine ⟨env, _, Qx, k.step s1, h1, fun lo H2 h2 s2 => ?_, wx.step s1⟩
  refine ⟨env, _, Qx, (k.step s1).step s2, h2, fun hi H3 h3 s3 => ?_, (wx.step s1).step s2⟩
  have st := (s1.trans s2).trans s3
  have r3 := r1.step (s2.trans s3) s1.hand
  cases r3
  case lst p xs ds q r =>
    refine .inl ⟨p, xs, rfl, by rw [hK]; exact q.sq, fun p3 hp3 => lk_lst st.hand hp3 (r.cut lo hi) fun H' s z => w _ _ _ h3 (st.trans s) z⟩
  case tup p xs ds q r =>
    refine .inr (.inl ⟨p, xs, rfl, by rw [hK]; exact q, fun whole => .inl ?_, fun _ p3 hp3 => .inl ?_⟩)
    · have e : cutD ds lo hi = ds := by
        unfold cutD
        rw [← r.length, whole.1, whole.2]
        simp [r.length]
      have h3' : Qd (.tup (cutD ds lo hi)) := h3
      rw [e] at h3'
      exact w _ _ _ h3' st (.tup q r)
    · obtain ⟨s, z⟩ := new_tup st.hand hp3 (r.cut lo hi)
      exact w _ _ _ h3 (st.trans s) z
  case str z => exact .inr (.inr ⟨z, rfl, h3.1, .inl (w _ _ _ h3.2 st (.str _))⟩)
  all_goals exact h3.elim

/-! ### truth -/
def D.tru : D → Option Bool
  | .non => some false
  | .bl b => some b
  | .int i => some (i != 0)
  | .str x => if x.length ≤ sizeLine then some ((x.length : Int) != 0) else none
  | .tup ds => some (!ds.isEmpty)
  | .lst ds => some (!ds.isEmpty)
  | _ => none
theorem Reps.empty {Γ : Gm} {H : Hp} {xs : List V} {ds : List D} (r : Reps Γ H xs ds) : xs.isEmpty = ds.isEmpty := by cases r <;> rfl
theorem RepB.tru {Γ : Gm} {H : Hp} {v : V} {d : D} {b : Bool} (r : RepB Γ H v d) (h : d.tru = some b) : TruV Γ.K v H b := by
  cases r
  case non => cases h; rfl
  case bl => cases h; rfl
  case int => cases h; rfl
  case str x =>
    have h : (if x.length ≤ sizeLine then some ((x.length : Int) != 0) else none) = some b := h
    by_cases hx : x.length ≤ sizeLine
    · rw [if_pos hx] at h; cases h; exact ⟨hx, rfl⟩
    · rw [if_neg hx] at h; cases h
  case tup p xs ds q r => cases h; exact .inr (.inl ⟨xs, q, by rw [r.empty]⟩)
  case lst p xs ds q r => cases h; exact .inl ⟨xs, q.sq, by rw [r.empty]⟩
  case hand => cases h
  case ins => cases h
abbrev SmB := En → (Bool → Prop) → PX → Prop
def tB (Φ : Fm) (s : SmB) : TT := fun σ H Q => ∃ env Qd Qx, SOK Φ.c env σ H ∧ s env Qd Qx ∧ (∀ b H', Qd b → Step Φ.g H H' → Q b H') ∧ WX1 Φ σ H Qx
def bOf (s : Sm) : SmB := fun env Q Qx => s env (fun d => ∃ b, d.tru = some b ∧ Q b) Qx
def bNot (s : SmB) : SmB := fun env Q Qx => s env (fun b => Q (!b)) Qx
def bAnd (s t : SmB) : SmB := fun env Q Qx => s env (fun b => if b = true then t env Q Qx else Q false) Qx
def bOr (s t : SmB) : SmB := fun env Q Qx => s env (fun b => if b = true then Q true else t env Q Qx) Qx
theorem okt_of (hK : X.K = Φ.g.K) (h : PE X a (tR Φ sa)) (he : ∀ whole, isTrue a X.env whole = (do let v ← whole; standAt a.pos; holding [v] (truthy v))) : PT X a (tB Φ (bOf sa)) :=
  PT.imp (pt_truth h he) fun σ H Q h => by
    obtain ⟨env, Qd, Qx, k, h, w, wx⟩ := h
    refine ⟨env, _, Qx, k, h, fun d v H' hq s r => ?_, wx⟩
    obtain ⟨b, e, q⟩ := hq
    exact ⟨b, by rw [hK]; exact r.tru e, w b H' q s⟩
/-- a comparison as a test -/
theorem okt_cmp {op : CmpOp} {r : R2} {f : D → D → PD → Prop} (ho : OpR X (compareOp op) r) (hs : Serves2 Φ r f) (hr : ∀ x y H Q Q', r x y H Q → (∀ v H', Q v H' → Q' v H') → r x y H Q') (ha : PE X a (tR Φ sa)) (hb : PE X b (tR Φ sb)) (hm : behindInMarks op b = false) : True := trivial
theorem okt_not {s : SmB} (h : PT X a (tB Φ s)) : PT X (.UnaryOp .Not a pos) (tB Φ (bNot s)) := PT.imp (pt_not h) fun σ H Q h => by
  obtain ⟨env, Qd, Qx, k, h, w, wx⟩ := h
  exact ⟨env, _, Qx, k, h, fun b H' q s => w _ H' q s, wx⟩
structure PWx (X : Cx) (e : Expr) (t : TT) : Prop where
  w : PW X e t
theorem PW.imp {X : Cx} {e : Expr} {t t' : TT} (h : PW X e t) (i : ∀ σ H Q, t' σ H Q → t σ H Q) : PW X e t' := ⟨fun wh pins s σ H Q I q => h.run wh pins s σ H Q I (i σ H Q q)⟩
theorem okw_and {rest : List Expr} {s t : SmB} (ha : PT X a (tB Φ s)) (hb : PW X (.BoolOp .And (b :: rest) pos) (tB Φ t)) : PW X (.BoolOp .And (a :: b :: rest) pos) (tB Φ (bAnd s t)) := PW.imp (pw_and ha hb) fun σ H Q h => by
  obtain ⟨env, Qd, Qx, k, h, w, wx⟩ := h
  refine ⟨env, _, Qx, k, h, fun b H1 q s1 => ?_, wx⟩
  cases b with
  | true => exact ⟨env, Qd, Qx, k.step s1, q, fun b H' q s => w b H' q (s1.trans s), wx.step s1⟩
  | false => exact w false H1 q s1
theorem okw_or {rest : List Expr} {s t : SmB} (ha : PT X a (tB Φ s)) (hb : PW X (.BoolOp .Or (b :: rest) pos) (tB Φ t)) : PW X (.BoolOp .Or (a :: b :: rest) pos) (tB Φ (bOr s t)) := PW.imp (pw_or ha hb) fun σ H Q h => by
  obtain ⟨env, Qd, Qx, k, h, w, wx⟩ := h
  refine ⟨env, _, Qx, k, h, fun b H1 q s1 => ?_, wx⟩
  cases b with
  | true => exact w true H1 q s1
  | false => exact ⟨env, Qd, Qx, k.step s1, q, fun b H' q s => w b H' q (s1.trans s), wx.step s1⟩
/-! ### .. as values -/
def vAnd (a b : Sm) : Sm := fun env Q Qx => a env (fun d => ∃ k, d.tru = some k ∧ if k = true then b env Q Qx else Q d) Qx
def vOr (a b : Sm) : Sm := fun env Q Qx => a env (fun d => ∃ k, d.tru = some k ∧ if k = true then Q d else b env Q Qx) Qx
def vNot (a : Sm) : Sm := fun env Q Qx => a env (fun d => ∃ k, d.tru = some k ∧ Q (.bl (!k))) Qx
def vIf (c : SmB) (a b : Sm) : Sm := fun env Q Qx => c env (fun k => if k = true then a env Q Qx else b env Q Qx) Qx
theorem ok_one {op} (h : PE X a (tE Φ sa)) : PE X (.BoolOp op [a] pos) (tE Φ sa) := pe_one h
theorem ok_and {rest : List Expr} (hK : X.K = Φ.g.K) (ha : PE X a (tE Φ sa)) (hb : PE X (.BoolOp .And (b :: rest) pos) (tE Φ sb)) : PE X (.BoolOp .And (a :: b :: rest) pos) (tE Φ (vAnd sa sb)) := PE.imp (pe_andT ha hb) fun σ H Q h => by
  obtain ⟨env, Qd, Qx, k, h, w, wx⟩ := h
  refine ⟨env, _, Qx, k, h, fun d v H1 hq s1 r1 => ?_, wx⟩
  obtain ⟨c, e, q⟩ := hq
  refine ⟨c, by rw [hK]; exact r1.b.tru e, ?_⟩
  cases c with
  | true => exact ⟨env, Qd, Qx, k.step s1, q, fun d v H' q s r => w d v H' q (s1.trans s) r, wx.step s1⟩
  | false => exact w _ _ _ q s1 r1
theorem ok_or {rest : List Expr} (hK : X.K = Φ.g.K) (ha : PE X a (tE Φ sa)) (hb : PE X (.BoolOp .Or (b :: rest) pos) (tE Φ sb)) : PE X (.BoolOp .Or (a :: b :: rest) pos) (tE Φ (vOr sa sb)) := PE.imp (pe_orT ha hb) fun σ H Q h => by
  obtain ⟨env, Qd, Qx, k, h, w, wx⟩ := h
  refine ⟨env, _, Qx, k, h, fun d v H1 hq s1 r1 => ?_, wx⟩
  obtain ⟨c, e, q⟩ := hq
  refine ⟨c, by rw [hK]; exact r1.b.tru e, ?_⟩
  cases c with
  | false => exact ⟨env, Qd, Qx, k.step s1, q, fun d v H' q s r => w d v H' q (s1.trans s) r, wx.step s1⟩
  | true => exact w _ _ _ q s1 r1
theorem ok_not (hK : X.K = Φ.g.K) (ha : PE X a (tR Φ sa)) : PE X (.UnaryOp .Not a pos) (tE Φ (vNot sa)) := PE.imp (pe_notT ha) fun σ H Q h => by
  obtain ⟨env, Qd, Qx, k, h, w, wx⟩ := h
  refine ⟨env, _, Qx, k, h, fun d v H1 hq s1 r1 => ?_, wx⟩
  obtain ⟨c, e, q⟩ := hq
  exact ⟨c, by rw [hK]; exact r1.tru e, w _ _ _ q s1 (.bl _)⟩
theorem ok_if {t : SmB} (hc : PT X c (tB Φ t)) (ha : PE X a (tE Φ sa)) (hb : PE X b (tE Φ sb)) : PE X (.IfExp c a b pos) (tE Φ (vIf t sa sb)) := PE.imp (pe_ifExp hc ha hb) fun σ H Q h => by
  obtain ⟨env, Qd, Qx, k, h, w, wx⟩ := h
  refine ⟨env, _, Qx, k, h, fun b H1 q s1 => ?_, wx⟩
  cases b with
  | true => exact ⟨env, Qd, Qx, k.step s1, q, fun d v H' q s r => w d v H' q (s1.trans s) r, wx.step s1⟩
  | false => exact ⟨env, Qd, Qx, k.step s1, q, fun d v H' q s r => w d v H' q (s1.trans s) r, wx.step s1⟩
/-- -a -/
def fNeg : D → PD → Prop
  | .int i, Q => Q (.int (-i))
  | _, _ => False
theorem ok_neg (ha : PE X a (tR Φ sa)) : PE X (.UnaryOp .USub a pos) (tE Φ (vUn fNeg sa)) := PE.imp (pe_un un_neg ha) fun σ H Q h => by
  obtain ⟨env, Qd, Qx, k, h, w, wx⟩ := h
  refine ⟨env, _, Qx, k, h, fun d v H1 hq s1 r1 => ?_, wx⟩
  cases r1 <;> try exact hq.elim
  exact ⟨_, rfl, w _ _ _ hq s1 (.int _)⟩
end
end Mw
end
section
set_option Elab.async false
set_option linter.all false
set_option autoImplicit false
set_option maxRecDepth 100000
set_option maxHeartbeats 4000000
namespace Mw
open PySem PySem.Spec L2

/-! ### readable arguments -/
inductive RepBs (Γ : Gm) (H : Hp) : List V → List D → Prop
  | nil : RepBs Γ H [] []
  | cons {v : V} {vs : List V} {d : D} {ds : List D} : RepB Γ H v d → RepBs Γ H vs ds → RepBs Γ H (v :: vs) (d :: ds)
theorem RepBs.step {Γ : Gm} {H H' : Hp} (s : Step Γ H H') (h : HandAt Γ H) : ∀ {vs : List V} {ds : List D}, RepBs Γ H vs ds → RepBs Γ H' vs ds
  | _, _, .nil => .nil
  | _, _, .cons q r => .cons (q.step s h) (RepBs.step s h r)
def tAR (Φ : Fm) (s : Sms) : TA := fun σ H Q => ∃ env Qd Qx, SOK Φ.c env σ H ∧ s env Qd Qx ∧ (∀ ds vs H', Qd ds → Step Φ.g H H' → RepBs Φ.g H' vs ds → Q vs H') ∧ WX1 Φ σ H Qx
section
variable {X : Cx} {Φ : Fm} {e : Expr} {es : List Expr} {s : Sm} {ss : Sms} {pos : Pos}
theorem okr_nil : PA X [] (tAR Φ vNil) := PA.imp pa_nil fun σ H Q h => by
  obtain ⟨env, Qd, Qx, k, h, w, _⟩ := h
  exact w [] [] H h (Step.refl k.hand) .nil
theorem okr_cons (ha : PE X e (tR Φ s)) (hr : PA X es (tAR Φ ss)) (hs : starEach (e :: es) X.env = (false, eval e X.env) :: starEach es X.env) : PA X (e :: es) (tAR Φ (vCons s ss)) := PA.imp (pa_cons ha hr hs) fun σ H Q h => by
  obtain ⟨env, Qd, Qx, k, h, w, wx⟩ := h
  refine ⟨env, _, Qx, k, h, fun d x H1 h1 s1 r1 => ?_, wx⟩
  exact ⟨env, _, Qx, k.step s1, h1, fun ds vs H2 h2 s2 r2 => w (d :: ds) (x :: vs) H2 h2 (s1.trans s2) (.cons (r1.step s2 s1.hand) r2), wx.step s1⟩

/-- a function of data that a rule serves -/
def ServesN (Φ : Fm) (r : List V → Hp → VK → Prop) (f : List D → PD → Prop) : Prop := ∀ (vs : List V) (ds : List D) (H : Hp) (Qd : PD) (Q : VK), HandAt Φ.g H → RepBs Φ.g H vs ds → f ds Qd →
  (∀ z v H', Qd z → Step Φ.g H H' → Rep Φ.g H' v z → Q v H') → r vs H (Lk Q)
def vFn (f : List D → PD → Prop) (ss : Sms) : Sm := fun env Q Qx => ss env (fun ds => f ds Q) Qx
theorem ok_fn {r : List V → Hp → VK → Prop} {f : List D → PD → Prop} (hp : PE X e (tCB r (tAR Φ ss))) (hs : ServesN Φ r f) : PE X e (tE Φ (vFn f ss)) := by
  refine PE.imp (PE.lk hp) fun σ H Q h => ?_
  obtain ⟨env, Qd, Qx, k, h, w, wx⟩ := h
  exact ⟨env, _, Qx, k, h, fun ds vs H1 h1 s1 r1 => hs vs ds H1 Qd Q s1.hand r1 h1 fun z v H' q s r => w z v H' q (s1.trans s) r, wx⟩
theorem RepBs.one {Γ : Gm} {H : Hp} {vs : List V} {d : D} (r : RepBs Γ H vs [d]) : ∃ v, vs = [v] ∧ RepB Γ H v d := by
  cases r with
  | cons q r => cases r; exact ⟨_, rfl, q⟩
theorem RepBs.two {Γ : Gm} {H : Hp} {vs : List V} {d e : D} (r : RepBs Γ H vs [d, e]) : ∃ v u, vs = [v, u] ∧ RepB Γ H v d ∧ RepB Γ H u e := by
  cases r with
  | cons q r =>
    obtain ⟨u, rfl, q2⟩ := r.one
    exact ⟨_, u, rfl, q, q2⟩

def fLen : List D → PD → Prop
  | [.tup ds], Q => Q (.int ds.length)
  | [.lst ds], Q => Q (.int ds.length)
  | [.str z], Q => z.length ≤ sizeLine ∧ Q (.int z.length)
  | _, _ => False
theorem sv_len (hK : X.K = Φ.g.K) : ServesN Φ (fun xs H Q => ∃ x n, xs = [x] ∧ LenV X.K x H n ∧ Q (.int n) H) fLen := by
  intro vs ds H Qd Q a r h w
  match ds, h with
  | [.tup ds], h =>
    obtain ⟨v, rfl, q⟩ := r.one
    cases q with
    | tup q r => exact ⟨_, ds.length, rfl, .inr ⟨_, by rw [hK]; exact q, r.length.symm⟩, .inl (w _ _ _ h (Step.refl a) (.int _))⟩
  | [.lst ds], h =>
    obtain ⟨v, rfl, q⟩ := r.one
    cases q with
    | lst q r => exact ⟨_, ds.length, rfl, .inl ⟨_, by rw [hK]; exact q.sq, r.length.symm⟩, .inl (w _ _ _ h (Step.refl a) (.int _))⟩
  | [.str z], h =>
    obtain ⟨v, rfl, q⟩ := r.one
    cases q
    exact ⟨_, z.length, rfl, ⟨h.1, rfl⟩, .inl (w _ _ _ h.2 (Step.refl a) (.int _))⟩
def fList : List D → PD → Prop
  | [.tup ds], Q => Q (.lst ds)
  | [.lst ds], Q => Q (.lst ds)
  | _, _ => False
theorem sv_list (hK : X.K = Φ.g.K) : ServesN Φ (fun xs H Q => ∃ p ys, xs = [.ref p] ∧ (SqL X.K H p ys ∨ SqT X.K H p ys) ∧ ∀ l, H l = none → Q (.ref l) (upd H l (.lst ys))) fList := by
  intro vs ds H Qd Q a r h w
  match ds, h with
  | [.tup ds], h =>
    obtain ⟨v, rfl, q⟩ := r.one
    cases q with
    | tup q r => exact ⟨_, _, rfl, .inr (by rw [hK]; exact q), fun l hl => lk_lst a hl r fun H' s z => w _ _ _ h s z⟩
  | [.lst ds], h =>
    obtain ⟨v, rfl, q⟩ := r.one
    cases q with
    | lst q r => exact ⟨_, _, rfl, .inl (by rw [hK]; exact q.sq), fun l hl => lk_lst a hl r fun H' s z => w _ _ _ h s z⟩
def fTuple : List D → PD → Prop
  | [.tup ds], Q => Q (.tup ds)
  | [.lst ds], Q => Q (.tup ds)
  | _, _ => False
theorem sv_tuple (hK : X.K = Φ.g.K) : ServesN Φ (fun xs H Q => ∃ p ys, xs = [.ref p] ∧ ((SqL X.K H p ys ∧ ∀ l, H l = none → Q (.ref l) (upd H l (.tup ys))) ∨ (SqT X.K H p ys ∧ Q (.ref p) H))) fTuple := by
  intro vs ds H Qd Q a r h w
  match ds, h with
  | [.tup ds], h =>
    obtain ⟨v, rfl, q⟩ := r.one
    cases q with
    | tup q r => exact ⟨_, _, rfl, .inr ⟨by rw [hK]; exact q, .inl (w _ _ _ h (Step.refl a) (.tup q r))⟩⟩
  | [.lst ds], h =>
    obtain ⟨v, rfl, q⟩ := r.one
    cases q with
    | lst q r => exact ⟨_, _, rfl, .inl ⟨by rw [hK]; exact q.sq, fun l hl => .inl (let ⟨s, z⟩ := new_tup a hl r; w _ _ _ h s z)⟩⟩
def fAbs : List D → PD → Prop
  | [.int i], Q => Q (.int (if i < 0 then -i else i))
  | _, _ => False
theorem sv_abs : ServesN Φ (fun xs H Q => ∃ i, xs = [V.int i] ∧ Q (.int (if i < 0 then -i else i)) H) fAbs := by
  intro vs ds H Qd Q a r h w
  match ds, h with
  | [.int i], h =>
    obtain ⟨v, rfl, q⟩ := r.one
    cases q
    exact ⟨i, rfl, .inl (w _ _ _ h (Step.refl a) (.int _))⟩
def fInt : List D → PD → Prop
  | [.int i], Q => Q (.int i)
  | [.bl k], Q => Q (.int (if k then 1 else 0))
  | _, _ => False
theorem sv_int1 : ServesN Φ (fun xs H Q => (∃ i, xs = [V.int i] ∧ Q (.int i) H) ∨ ∃ k, xs = [.bl k] ∧ Q (.int (if k then 1 else 0)) H) fInt := by
  intro vs ds H Qd Q a r h w
  match ds, h with
  | [.int i], h =>
    obtain ⟨v, rfl, q⟩ := r.one
    cases q
    exact .inl ⟨i, rfl, .inl (w _ _ _ h (Step.refl a) (.int _))⟩
  | [.bl k], h =>
    obtain ⟨v, rfl, q⟩ := r.one
    cases q
    exact .inr ⟨k, rfl, .inl (w _ _ _ h (Step.refl a) (.int _))⟩
theorem reps_ints {Γ : Gm} {H : Hp} : ∀ {ns : List Int} {vs : List V}, Reps Γ H vs (ns.map D.int) → vs = ns.map V.int
  | [], _, r => by cases r; rfl
  | n :: ns, _, r => by
    cases r with
    | cons q r => cases q; rw [reps_ints r]; rfl
theorem reps_of_ints {Γ : Gm} {H : Hp} : ∀ ns : List Int, Reps Γ H (ns.map V.int) (ns.map D.int)
  | [] => .nil
  | n :: ns => .cons (.int n) (reps_of_ints ns)
theorem reps_bls {Γ : Gm} {H : Hp} : ∀ {ns : List Bool} {vs : List V}, Reps Γ H vs (ns.map D.bl) → vs = ns.map V.bl
  | [], _, r => by cases r; rfl
  | n :: ns, _, r => by
    cases r with
    | cons q r => cases q; rw [reps_bls r]; rfl
def fSum (ds : List D) (Q : PD) : Prop := ∃ ns : List Int, ds = [.lst (ns.map D.int)] ∧ Q (.int ns.sum)
theorem sv_sum (hK : X.K = Φ.g.K) : ServesN Φ (rSum X.K) fSum := by
  intro vs ds H Qd Q a r h w
  obtain ⟨ns, rfl, h⟩ := h
  obtain ⟨v, rfl, q⟩ := r.one
  cases q with
  | lst q r =>
    have e := reps_ints r
    subst e
    exact ⟨_, ns, rfl, by rw [hK]; exact q.sq, .inl (w _ _ _ h (Step.refl a) (.int _))⟩
def fAll (ds : List D) (Q : PD) : Prop := ∃ bs : List Bool, ds = [.lst (bs.map D.bl)] ∧ Q (.bl (bs.all id))
theorem sv_all (hK : X.K = Φ.g.K) : ServesN Φ (rAll X.K) fAll := by
  intro vs ds H Qd Q a r h w
  obtain ⟨ns, rfl, h⟩ := h
  obtain ⟨v, rfl, q⟩ := r.one
  cases q with
  | lst q r =>
    have e := reps_bls r
    subst e
    exact ⟨_, ns, rfl, by rw [hK]; exact q.sq, .inl (w _ _ _ h (Step.refl a) (.bl _))⟩
def fAny (ds : List D) (Q : PD) : Prop := ∃ bs : List Bool, ds = [.lst (bs.map D.bl)] ∧ Q (.bl (bs.any id))
theorem sv_any (hK : X.K = Φ.g.K) : ServesN Φ (rAny X.K) fAny := by
  intro vs ds H Qd Q a r h w
  obtain ⟨ns, rfl, h⟩ := h
  obtain ⟨v, rfl, q⟩ := r.one
  cases q with
  | lst q r =>
    have e := reps_bls r
    subst e
    exact ⟨_, ns, rfl, by rw [hK]; exact q.sq, .inl (w _ _ _ h (Step.refl a) (.bl _))⟩
/-- least and greatest of two ints -/
def fMin2 : List D → PD → Prop
  | [.int i, .int j], Q => Q (.int (if j < i then j else i))
  | _, _ => False
def fMax2 : List D → PD → Prop
  | [.int i, .int j], Q => Q (.int (if j > i then j else i))
  | _, _ => False
theorem sv_min2 : ServesN Φ (fun xs H Q => ∃ i j, xs = [V.int i, V.int j] ∧ Q (.int (if j < i then j else i)) H) fMin2 := by
  intro vs ds H Qd Q a r h w
  match ds, h with
  | [.int i, .int j], h =>
    obtain ⟨v, u, rfl, q, q2⟩ := r.two
    cases q
    cases q2
    exact ⟨i, j, rfl, .inl (w _ _ _ h (Step.refl a) (.int _))⟩
theorem sv_max2 : ServesN Φ (fun xs H Q => ∃ i j, xs = [V.int i, V.int j] ∧ Q (.int (if j > i then j else i)) H) fMax2 := by
  intro vs ds H Qd Q a r h w
  match ds, h with
  | [.int i, .int j], h =>
    obtain ⟨v, u, rfl, q, q2⟩ := r.two
    cases q
    cases q2
    exact ⟨i, j, rfl, .inl (w _ _ _ h (Step.refl a) (.int _))⟩

/-! ### repr -/
def fRepr (ds : List D) (Q : PD) : Prop := ∃ d p, ds = [d] ∧ d.py = some p ∧ p.showable = true ∧ p.hasDict = false ∧ p.depth ≤ 64 ∧ p.shown.length ≤ sizeLine ∧ Q (.str p.shown)
def rRepr (Γ : Gm) : List V → Hp → VK → Prop := fun xs H Q => ∃ (v : V) (p : PyData), xs = [v] ∧ Dp Γ.K H v p ∧ p.showable = true ∧ p.hasDict = false ∧ p.depth ≤ 64 ∧ p.shown.length ≤ sizeLine ∧ Q (.str p.shown) H
theorem cr_repr (hK : X.K = Φ.g.K) (hg : X.A.guards = some []) (hu : X.A.units + 70 < cLine) : CallR X (.builtin "repr") (rRepr Φ.g) := by
  intro pins s σ H xs us Q I r h
  obtain ⟨v, p, rfl, hd, h1, h2, h3, h4, q⟩ := h
  obtain ⟨u, rfl, ru⟩ := vals1 r
  rw [← hK] at hd
  obtain ⟨as, rd⟩ := Dp.reads I p v u hd ru
  cases hd with
  | non => cases ru; exact PySem.P.repr_of_none ⟨.str _, H, I.tok _, ⟨_, rfl⟩, q⟩
  | bl b => cases ru; exact PySem.P.repr_of_bool ⟨.str _, H, I.tok _, ⟨_, rfl⟩, by cases b <;> exact q⟩
  | int i => obtain ⟨t, rfl⟩ := ru; exact PySem.P.repr_of_int (of_decide_eq_true h1) ⟨.str _, H, I.tok _, ⟨_, rfl⟩, q⟩
  | str x => obtain ⟨t, rfl⟩ := ru; exact PySem.P.repr_of_str ⟨.str _, H, I.tok _, ⟨_, rfl⟩, q⟩ h4
  | lst hs ha =>
    cases ru
    exact repr_of_reads' rd h1 (PyData.noDict_hsm h2) hg (by omega) (fun _ _ e => e) (fun h' u tk hk => ⟨.str _, H, I.kept (t' := tk) hk, ⟨_, rfl⟩, q⟩) h4
  | tup hs ha =>
    cases ru
    exact repr_of_reads' rd h1 (PyData.noDict_hsm h2) hg (by omega) (fun _ _ e => e) (fun h' u tk hk => ⟨.str _, H, I.kept (t' := tk) hk, ⟨_, rfl⟩, q⟩) h4
theorem sv_repr : ServesN Φ (rRepr Φ.g) fRepr := by
  intro vs ds H Qd Q a r h w
  obtain ⟨d, p, rfl, e, h1, h2, h3, h4, h⟩ := h
  obtain ⟨v, rfl, q⟩ := r.one
  exact ⟨v, p, rfl, q.dp e, h1, h2, h3, h4, .inl (w _ _ _ h (Step.refl a) (.str _))⟩
end
end Mw
end
section
set_option Elab.async false
set_option linter.all false
set_option autoImplicit false
set_option maxRecDepth 100000
set_option maxHeartbeats 4000000
namespace Mw
open PySem PySem.Spec L2
open PyProof.Rows (envOfC)

/-- a def's promise where nothing is being shown -/
structure FnG (P : Program) (w : World) (K : PySem.W.Frag) (mg : Str → Option Value) (base : Heap) (k : Nat) (f : Addr) (fd : FuncData) (ps : List Str) (sp : Sp) : Prop where
  len : ∀ vs H Q E, sp vs H Q E → vs.length = ps.length
  run : ∀ (A : Around) (outer : List Env) (s : Shared) (H : Hp) (args : Args) (us : List Value) (vs : List V) (Q : VK) (E : XK), A.guards = some [] → Room k A →
    Env0 P w K mg base A outer s H → BindsTo s fd args (ps.zip us) → Vals vs us → sp vs H Q E → codeAny (model P w) A (.call (.ref f) args) (CR (L2N.CX P w) outer P w H s Q E) s
theorem FnG.of {P : Program} {w : World} {K : PySem.W.Frag} {mg : Str → Option Value} {base : Heap} {k : Nat} {f : Addr} {fd : FuncData} {ps : List Str} {sp : Sp} (F : FnOk P w K mg base (L2N.CX P w) k f fd ps sp) : FnG P w K mg base k f fd ps sp :=
  ⟨F.len, fun A outer s H args us vs Q E _ => F.run A outer s H args us vs Q E⟩
theorem FnG.mono {P : Program} {w : World} {K : PySem.W.Frag} {mg : Str → Option Value} {base : Heap} {j k : Nat} {f : Addr} {fd : FuncData} {ps : List Str} {sp : Sp} (F : FnG P w K mg base j f fd ps sp) (h : j ≤ k) : FnG P w K mg base k f fd ps sp :=
  ⟨F.len, fun A outer s H args us vs Q E hg hr => F.run A outer s H args us vs Q E hg (hr.mono h)⟩
theorem FnG.imp {P : Program} {w : World} {K : PySem.W.Frag} {mg : Str → Option Value} {base : Heap} {k : Nat} {f : Addr} {fd : FuncData} {ps : List Str} {sp sp' : Sp} (F : FnG P w K mg base k f fd ps sp)
    (h : ∀ vs H Q E, sp' vs H Q E → sp vs H Q E) : FnG P w K mg base k f fd ps sp' :=
  ⟨fun vs H Q E q => F.len vs H Q E (h _ _ _ _ q), fun A outer s H args us vs Q E hg hr he hb hv hs => F.run A outer s H args us vs Q E hg hr he hb hv (h _ _ _ _ hs)⟩
theorem guards_deeper {A : Around} {env : PySem.Env} (h : A.guards = some []) : (A.deeper env).guards = some [] := by
  first
    | exact h
    | simpa [Around.deeper] using h

/-- THE RULE: a def by its body -/
theorem fng_of {P : Program} {w : World} {K : PySem.W.Frag} {mg : Str → Option Value} {base : Heap} {k : Nat} {f : Addr} {name qual : Str} {params : Arguments} {body : List Stmt} {scope : Scope} {dV kV doc pm cdv ct oc : Value} {an od : Option Addr}
    {osl : Array (Option Value)} {N ps : List Str} {sp : Sp} (lk : K.lookup f = some ⟨oc, od, .func (PySem.W.fnOf name qual params body scope dV kV doc pm an cdv ct), osl⟩) (hcd : PySem.W.codeIn K cdv qual = true) (S : FnScope N ps scope)
    (len : ∀ vs H Q E, sp vs H Q E → vs.length = ps.length)
    (hbody : ∀ (A : Around) (outer : List PySem.Env) (s : Shared) (H : Hp) (vs : List V) (Q : VK) (E : XK), A.guards = some [] → Room k (A.deeper (envOfC qual scope s.heap.objs.size f cdv)) → sp vs H Q E →
      ∃ t, PSs (cxOf (L2N.CX P w) P w K mg base N qual scope f cdv A outer s H E) body t ∧ t { nx := fun _ H' => Q .non H', rt := Q } (start N vs) H) :
    FnG P w K mg base (k + 1) f (PySem.W.fnOf name qual params body scope dV kV doc pm an cdv ct) ps sp := by
  refine ⟨len, ?_⟩
  intro A outer s H args us vs Q E hg hr e0 hb r hsp
  have old : ∀ b o, base.get? b = some o → s.heap.get? b = some o := fun b o e => (e0.bs b o e).1
  have kin : K.In s.heap := e0.mod.kin.keeps old
  have kinds : ∀ y ∈ ps.zip us, scope.names.lookup y.1 = some .local ∨ (scope.names.lookup y.1 = some .cell ∧ ((cellsFrom (s.heap.objs.size + 1) scope.names []).lookup y.1).isSome = true) := by
    rintro ⟨n, v⟩ hy
    rcases S.par n (List.of_mem_zip hy).1 with z | z
    · exact .inl z
    · exact .inr ⟨z, PySem.W.cellsFrom_some _ _ _ (.inl z)⟩
  refine codeAny_call_function hr.depth (kin _ _ lk) rfl S.co S.gen rfl (PySem.W.codeRec_of kin hcd) (hb _ _ _ _ ?_)
  refine wpAny_newFunctionEnv_cells S.kind kinds ?_
  intro env he s1 x
  subst he
  refine ⟨(e0.mod.nolimit.keeps old).keeps x.toInCall.keep, codeAny_func ?_⟩
  obtain ⟨t, ht, hq⟩ := hbody A outer s H vs Q E hg (hr.deeper _) hsp
  have I := inv_start (CX := L2N.CX P w) (E := E) S hr.hd e0 (len _ _ _ _ hsp) r x
  refine wpAny_mono (ht.run [] s1 (start N vs) H _ I hq) ?_ (fun _ _ z => z)
  intro fl s' hs
  cases fl with
  | ret u =>
    obtain ⟨v, σ', H', J, rv, q⟩ := hs
    exact ⟨v, H', J.os, J.bare, J.base, J.hok, rv, q⟩
  | next =>
    obtain ⟨σ', H', J, q⟩ := hs
    exact ⟨V.non, H', J.os, J.bare, J.base, J.hok, rfl, q⟩
  | brk => obtain ⟨_, _, _, q⟩ := hs; exact q.elim
  | cont => obtain ⟨_, _, _, q⟩ := hs; exact q.elim

section
variable {X : Cx} {k : Nat} {f : Addr} {fd : FuncData} {ps : List Str} {sp : Sp} {dvs : List V} {dus : List Value} {E : L2.St → XK} {x : Str} {p pos : Pos} {e : Expr} {es : List Expr} {t : TA}
theorem run_fng {pins : List (Addr × Obj)} {σ : L2.St} {H : Hp} {s : Shared} {Q : VK} {us : List Value} {vs : List V} (F : FnG X.prog X.w X.K X.mg X.base k f fd ps sp) (hg : X.A.guards = some []) (hr : Room k X.A) (hb : Binds X.K fd ps dus) (hd : Vals dvs dus)
    (hx : PassesAt (L2N.CX X.prog X.w) X σ (E σ)) (I : Inv X pins σ H s) (r : Vals vs us) (h : sp (vs ++ dvs) H Q (E σ)) : wpAny (model X.prog X.w) X.A (call (.ref f) us) (EP X pins σ Q) X.xe s := by
  have rr := r.append hd
  have hl : (us ++ dus).length = ps.length := rr.length.symm.trans (F.len _ _ _ _ h)
  refine wpAny_call (codeAny_mono (F.run X.A X.stack s H ⟨us, []⟩ (us ++ dus) (vs ++ dvs) Q (E σ) hg hr I.env0 (hb s us I.kIn hl) rr h) ?_)
  intro z s' hq
  match z, hq with
  | .error e, hq => exact hx pins H s e s' I hq
  | .ok (.ret u), hq => exact I.after hq
theorem pe_fng (F : FnG X.prog X.w X.K X.mg X.base k f fd ps sp) (hgd : X.A.guards = some []) (hr : Room k X.A) (hg : Gl X x) (hm : X.mg x = some (.ref f)) (hk : PySem.W.keepIn X.K (.ref f) = true) (hb : Binds X.K fd ps dus) (hd : Vals dvs dus)
    (hx : ∀ σ, PassesAt (L2N.CX X.prog X.w) X σ (E σ)) (ha : PA X (e :: es) t) (hdb : (x == ("__debug__" : Str)) = false) (he : starEach (e :: es) X.env = (false, eval e X.env) :: starEach es X.env) (hpl : (backTo pos (starEach es X.env)).any (·.1) = false) :
    PE X (.Call (.Name x p) (e :: es) [] pos) (tCallSD sp dvs E t) := by
  refine ⟨fun pins s σ H Q I h => wpAny_Call_Name_kw (ld_glob I hg hm ?_ hdb)⟩
  refine PySem.W.callWith_K (h₀ := X.base) I.ok.mod.kin hk ?_ he hpl
  refine thn (ha.run pos pins s σ H _ I h) ?_
  rintro us s1 ⟨vs, H1, I1, r, q⟩
  exact ⟨I1.kIn, run_fng F hgd hr hb hd (hx σ) I1 r q⟩
theorem pe_fng0 (F : FnG X.prog X.w X.K X.mg X.base k f fd ps sp) (hgd : X.A.guards = some []) (hr : Room k X.A) (hg : Gl X x) (hm : X.mg x = some (.ref f)) (hk : PySem.W.keepIn X.K (.ref f) = true) (hb : Binds X.K fd ps dus) (hd : Vals dvs dus)
    (hx : ∀ σ, PassesAt (L2N.CX X.prog X.w) X σ (E σ)) (hdb : (x == ("__debug__" : Str)) = false) : PE X (.Call (.Name x p) [] [] pos) (tCallSD sp dvs E tNil) := by
  refine ⟨fun pins s σ H Q I h => wpAny_Call_Name_kw (ld_glob I hg hm ?_ hdb)⟩
  exact PySem.W.callWith_K0 I.kIn hk (run_fng (us := []) F hgd hr hb hd (hx σ) I .nil h)
end

/-! ### promises over data -/
/-- what a def makes of data -/
abbrev Cl := List D → PD → PX → Prop
def spD {ι : Type} (Γ : ι → Gm) (cl : Cl) (n : Nat) : Sp := fun vs H Q E => vs.length = n ∧ ∃ hd ds Qd Qx, HandAt (Γ hd) H ∧ Reps (Γ hd) H vs ds ∧ cl ds Qd Qx ∧
  (∀ d v H', Qd d → Step (Γ hd) H H' → Rep (Γ hd) H' v d → Q v H') ∧ (∀ x t dd H', Qx x → Step (Γ hd) H H' → XRep (Γ hd) x t dd H' → E t dd H')
/-- constants that every heap bears -/
inductive RepC : V → D → Prop
  | non : RepC .non .non
  | bl (b : Bool) : RepC (.bl b) (.bl b)
  | int (i : Int) : RepC (.int i) (.int i)
  | str (x : Str) : RepC (.str x) (.str x)
theorem RepC.rep {Γ : Gm} {H : Hp} {v : V} {d : D} (r : RepC v d) : Rep Γ H v d := by
  cases r
  case non => exact .non
  case bl => exact .bl _
  case int => exact .int _
  case str => exact .str _
theorem reps_c {Γ : Gm} {H : Hp} : ∀ {vs : List V} {ds : List D}, Paired RepC vs ds → Reps Γ H vs ds
  | _, _, .nil => .nil
  | _, _, .cons r t => .cons r.rep (reps_c t)
def vCall (cl : Cl) (dfl : List D) (ss : Sms) : Sm := fun env Q Qx => ss env (fun ds => cl (ds ++ dfl) Q Qx) Qx
section
variable {X : Cx} {Φ : Fm} {ι : Type} {Γ : ι → Gm} {ix : ι} {cl : Cl} {n k : Nat} {f : Addr} {fd : FuncData} {ps : List Str} {dvs : List V} {dus : List Value} {dds : List D} {x : Str} {p pos : Pos} {e : Expr} {es : List Expr} {ss : Sms}
theorem ok_call (hΓ : Φ.g = Γ ix) (tk : L2N.Takes X Φ.W) (F : FnG X.prog X.w X.K X.mg X.base k f fd ps (spD Γ cl n)) (hgd : X.A.guards = some []) (hr : Room k X.A) (hg : Gl X x) (hm : X.mg x = some (.ref f)) (hk : PySem.W.keepIn X.K (.ref f) = true)
    (hb : Binds X.K fd ps dus) (hd : Vals dvs dus) (hc : Paired RepC dvs dds) (ha : PA X (e :: es) (tA Φ ss)) (hlen : ∀ env Q Qx, ss env Q Qx → ss env (fun ds => Q ds ∧ ds.length + dds.length = n) Qx)
    (hdb : (x == ("__debug__" : Str)) = false) (he : starEach (e :: es) X.env = (false, eval e X.env) :: starEach es X.env) (hpl : (backTo pos (starEach es X.env)).any (·.1) = false) : PE X (.Call (.Name x p) (e :: es) [] pos) (tE Φ (vCall cl dds ss)) := by
  refine PE.imp (pe_fng F hgd hr hg hm hk hb hd (fun σ => L2N.passAt tk σ) ha hdb he hpl) fun σ H Q h => ?_
  obtain ⟨env, Qd, Qx, kk, h, w, wx⟩ := h
  refine ⟨env, _, Qx, kk, hlen _ _ _ h, fun ds vs H1 h1 s1 r1 => ?_, wx⟩
  have e1 := r1.length
  have e2 : dvs.length = dds.length := Paired.length hc
  refine ⟨by rw [List.length_append, e1, e2]; exact h1.2, ix, ds ++ dds, Qd, Qx, by rw [← hΓ]; exact s1.hand, by rw [← hΓ]; exact r1.append (reps_c hc), h1.1, fun d v H' q s r => ?_, fun xx t dd H' q s r => ?_⟩
  · rw [← hΓ] at s r
    exact w d v H' q (s1.trans s) r
  · rw [← hΓ] at s r
    exact wx.x xx t dd H' q (s1.trans s) r
end
end Mw
end
section
set_option Elab.async false
set_option linter.all false
set_option autoImplicit false
set_option maxRecDepth 100000
set_option maxHeartbeats 4000000
namespace Mw
open PySem PySem.Spec L2

/-- what is wanted behind a statement -/
structure SE where
  nx : En → Prop
  rt : PD
  bk : En → Prop
  ct : En → Prop
  xx : Xn → En → Prop
abbrev SmS := En → SE → Prop
/-- what is written now and then -/
def Wr : HO → Prop
  | .lst _ => True
  | .dK _ => True
  | .dT _ => True
  | .set _ _ => True
  | .ext _ => True
  | _ => False
/-- what is never written stays -/
def isIns : HO → Prop
  | .ins _ _ _ => True
  | _ => False
def Keep (Γ : Gm) (H H' : Hp) : Prop := (∀ b u, ¬ Wr u → (isIns u → ¬ Γ.raw b) → H b = some u → H' b = some u) ∧ ∀ b, Γ.raw b → H b ≠ none → H' b ≠ none
theorem Keep.refl {Γ : Gm} (H : Hp) : Keep Γ H H := ⟨fun _ _ _ _ e => e, fun _ _ e => e⟩
theorem Keep.trans {Γ : Gm} {H H1 H2 : Hp} (a : Keep Γ H H1) (b : Keep Γ H1 H2) : Keep Γ H H2 := ⟨fun c u n m e => b.1 c u n m (a.1 c u n m e), fun c m e => b.2 c m (a.2 c m e)⟩
theorem Step.keep {Γ : Gm} {H H' : Hp} (s : Step Γ H H') (h : HandAt Γ H) : Keep Γ H H' := ⟨fun b u n _ e => s.same b u (fun z => by
  obtain ⟨ys, hy⟩ := h.lst
  rw [z, hy] at e
  cases e
  exact n trivial) e, fun b m _ => s.hand.2 b m⟩
theorem Keep.ext {Γ : Gm} {H H' : Hp} (h : ∀ b u, H b = some u → H' b = some u) : Keep Γ H H' := ⟨fun b u _ _ e => h b u e, fun b _ n z => by
  cases q : H b with
  | none => exact n q
  | some u => rw [h b u q] at z; cases z⟩
theorem Keep.new {Γ : Gm} {H : Hp} {p : Addr} {o : HO} (hp : H p = none) : Keep Γ H (upd H p o) := Keep.ext (upd_keeps hp)
theorem SOK.st {c : Cm} {env : En} {σ : L2.St} {H : Hp} (k : SOK c env σ H) : Step c.g c.H0 H := ⟨k.same, k.hand⟩
structure WntS (Φ : Fm) (H : Hp) (E : SE) (D : Ends) : Prop where
  nx : ∀ env σ H', E.nx env → Keep Φ.g H H' → SOK Φ.c env σ H' → D.nx σ H'
  rt : ∀ d v H', E.rt d → Keep Φ.g H H' → Step Φ.g Φ.c.H0 H' → Rep Φ.g H' v d → D.rt v H'
  bk : ∀ env σ H', E.bk env → Keep Φ.g H H' → SOK Φ.c env σ H' → D.bk σ H'
  ct : ∀ env σ H', E.ct env → Keep Φ.g H H' → SOK Φ.c env σ H' → D.ct σ H'
  x : ∀ x env t dd σ H', E.xx x env → Keep Φ.g H H' → SOK Φ.c env σ H' → XRep Φ.g x t dd H' → Φ.W t dd σ H'
theorem WntS.later {Φ : Fm} {H H1 : Hp} {E : SE} {D : Ends} (w : WntS Φ H E D) (k : Keep Φ.g H H1) : WntS Φ H1 E D :=
  ⟨fun env σ H' q s => w.nx env σ H' q (k.trans s), fun d v H' q s => w.rt d v H' q (k.trans s), fun env σ H' q s => w.bk env σ H' q (k.trans s), fun env σ H' q s => w.ct env σ H' q (k.trans s),
    fun x env t dd σ H' q s => w.x x env t dd σ H' q (k.trans s)⟩
def tS (Φ : Fm) (s : SmS) : TS := fun D σ H => ∃ env E, SOK Φ.c env σ H ∧ s env E ∧ WntS Φ H E D
theorem PS.imp {X : Cx} {e : Stmt} {t t' : TS} (h : PS X e t) (i : ∀ D σ H, t' D σ H → t D σ H) : PS X e t' := ⟨fun pins s σ H D I q => h.run pins s σ H D I (i D σ H q)⟩
theorem PSs.imp {X : Cx} {e : List Stmt} {t t' : TS} (h : PSs X e t) (i : ∀ D σ H, t' D σ H → t D σ H) : PSs X e t' := ⟨fun pins s σ H D I q => h.run pins s σ H D I (i D σ H q)⟩
/-- the errors of an expression within a statement -/
theorem WntS.wx {Φ : Fm} {H : Hp} {E : SE} {D : Ends} {env : En} {σ : L2.St} (w : WntS Φ H E D) (k : SOK Φ.c env σ H) : WX1 Φ σ H (fun x => E.xx x env) :=
  ⟨fun x t dd H' q s r => w.x x env t dd σ H' q (s.keep k.hand) (k.step s) r⟩

section
variable {X : Cx} {Φ : Fm} {st : Stmt} {rest : List Stmt} {e c : Expr} {s t : SmS} {se : Sm} {sb : SmB} {pos : Pos}
def sSkip : SmS := fun env E => E.nx env
def sSeq (s t : SmS) : SmS := fun env E => s env { E with nx := fun env' => t env' E }
theorem oks_nil : PSs X [] (tS Φ sSkip) := PSs.imp pss_nil fun D σ H h => by
  obtain ⟨env, E, k, h, w⟩ := h
  exact w.nx env σ H h (Keep.refl H) k
theorem oks_cons (h1 : PS X st (tS Φ s)) (h2 : PSs X rest (tS Φ t)) : PSs X (st :: rest) (tS Φ (sSeq s t)) := PSs.imp (pss_cons h1 h2) fun D σ H h => by
  obtain ⟨env, E, k, h, w⟩ := h
  exact ⟨env, _, k, h, fun env' σ' H' q kp k' => ⟨env', E, k', q, w.later kp⟩, w.rt, w.bk, w.ct, w.x⟩
theorem oks_one (h1 : PS X st (tS Φ s)) : PSs X [st] (tS Φ s) := pss_one h1
def sBreak : SmS := fun env E => E.bk env
def sCont : SmS := fun env E => E.ct env
theorem ok_pass : PS X (.Pass pos) (tS Φ sSkip) := PS.imp ps_pass fun D σ H h => by
  obtain ⟨env, E, k, h, w⟩ := h
  exact w.nx env σ H h (Keep.refl H) k
theorem ok_break : PS X (.Break pos) (tS Φ sBreak) := PS.imp ps_break fun D σ H h => by
  obtain ⟨env, E, k, h, w⟩ := h
  exact w.bk env σ H h (Keep.refl H) k
theorem ok_continue : PS X (.Continue pos) (tS Φ sCont) := PS.imp ps_continue fun D σ H h => by
  obtain ⟨env, E, k, h, w⟩ := h
  exact w.ct env σ H h (Keep.refl H) k
theorem ok_doc {x j pos'} : PS X (.Expr (.Constant (.str x) j pos) pos') (tS Φ sSkip) := PS.imp ps_doc fun D σ H h => by
  obtain ⟨env, E, k, h, w⟩ := h
  exact w.nx env σ H h (Keep.refl H) k
def sDrop (s : Sm) : SmS := fun env E => s env (fun _ => E.nx env) (fun x => E.xx x env)
theorem ok_drop (he : PE X e (tE Φ se)) (hs : swapsWith e none pos.line X.env = pure false) : PS X (.Expr e pos) (tS Φ (sDrop se)) := PS.imp (ps_expr he hs) fun D σ H h => by
  obtain ⟨env, E, k, h, w⟩ := h
  exact ⟨env, _, _, k, h, fun d v H' q s _ => w.nx env σ H' q (s.keep k.hand) (k.step s), w.wx k⟩
def sRet (s : Sm) : SmS := fun env E => s env E.rt (fun x => E.xx x env)
theorem ok_ret (he : PE X e (tE Φ se)) : PS X (.Return (some e) pos) (tS Φ (sRet se)) := PS.imp (ps_ret he) fun D σ H h => by
  obtain ⟨env, E, k, h, w⟩ := h
  exact ⟨env, _, _, k, h, fun d v H' q s r => w.rt d v H' q (s.keep k.hand) (k.step s).st r, w.wx k⟩
def sRetN : SmS := fun _ E => E.rt .non
theorem ok_retN : PS X (.Return none pos) (tS Φ sRetN) := PS.imp ps_retN fun D σ H h => by
  obtain ⟨env, E, k, h, w⟩ := h
  exact w.rt .non .non H h (Keep.refl H) k.st .non
def sIf (c : SmB) (s t : SmS) : SmS := fun env E => c env (fun b => if b = true then s env E else t env E) (fun x => E.xx x env)
theorem ok_ifS {a b : List Stmt} (hc : PT X c (tB Φ sb)) (ha : PSs X a (tS Φ s)) (hb : PSs X b (tS Φ t)) : PS X (.If c a b pos) (tS Φ (sIf sb s t)) := PS.imp (ps_if hc ha hb) fun D σ H h => by
  obtain ⟨env, E, k, h, w⟩ := h
  refine ⟨env, _, _, k, h, fun b H' q st => ?_, w.wx k⟩
  cases b with
  | true => exact ⟨env, E, k.step st, q, w.later (st.keep k.hand)⟩
  | false => exact ⟨env, E, k.step st, q, w.later (st.keep k.hand)⟩

/-! ### names -/
theorem SOK.set {c : Cm} {env : En} {σ : L2.St} {H : Hp} {i : Nat} {v : V} {d : D} (k : SOK c env σ H) (r : Rep c.g H v d) : SOK c (env.set i (some (.d d))) (σ.set i (some v)) H := by
  refine ⟨k.hand, k.same, by rw [List.length_set, List.length_set]; exact k.len, ?_, ?_⟩
  · intro j l e
    by_cases hj : i = j
    · subst hj
      by_cases hi : i < env.length
      · rw [List.getElem?_set_self hi] at e
        cases e
        exact ⟨v, List.getElem?_set_self (by rw [k.len]; exact hi), r⟩
      · rw [List.getElem?_eq_none (by rw [List.length_set]; omega)] at e
        cases e
    · rw [List.getElem?_set_ne hj] at e
      obtain ⟨u, h1, h2⟩ := k.slot j l e
      exact ⟨u, by rw [List.getElem?_set_ne hj]; exact h1, h2⟩
  · intro a b p ds es hab e1 e2 q1 q2
    have na : i ≠ a := fun z => by
      subst z
      by_cases hi : i < env.length
      · rw [List.getElem?_set_self hi] at e1; cases e1
      · rw [List.getElem?_eq_none (by rw [List.length_set]; omega)] at e1; cases e1
    have nb : i ≠ b := fun z => by
      subst z
      by_cases hi : i < env.length
      · rw [List.getElem?_set_self hi] at e2; cases e2
      · rw [List.getElem?_eq_none (by rw [List.length_set]; omega)] at e2; cases e2
    rw [List.getElem?_set_ne na] at e1 q1
    rw [List.getElem?_set_ne nb] at e2 q2
    exact k.apart a b p ds es hab e1 e2 q1 q2
def sSet (i : Nat) (s : Sm) : SmS := fun env E => s env (fun d => E.nx (env.set i (some (.d d)))) (fun x => E.xx x env)
theorem ok_set {i : Nat} {x : Str} {pos' : Pos} (hN : X.N.Nodup) (hi : X.N[i]? = some x) (hx : Loc X.env.scope x) (he : PE X e (tE Φ se)) (hs : swapsWith e (some (.Name x pos')) pos.line X.env = pure false) (hf : X.fn x = true ∨ X.env.scope.names.lookup x = some .local) :
    PS X (.Assign [.Name x pos'] e pos) (tS Φ (sSet i se)) := PS.imp (ps_set hN hi hx he hs hf) fun D σ H h => by
  obtain ⟨env, E, k, h, w⟩ := h
  exact ⟨env, _, _, k, h, fun d v H' q s r => w.nx _ _ H' q (s.keep k.hand) ((k.step s).set r), w.wx k⟩

/-! ### a name's own list -/
abbrev SmL := En → (List D → Prop) → PX → Prop
/-- a new list, not locked -/
def tN (Φ : Fm) (s : SmL) : TE := fun σ H Q => ∃ env Qd Qx, SOK Φ.c env σ H ∧ s env Qd Qx ∧ (∀ ds p xs H1, Qd ds → Step Φ.g H H1 → H1 p = none → Reps Φ.g H1 xs ds → Q (.ref p) (upd H1 p (.lst xs))) ∧ WX1 Φ σ H Qx
def vLock (s : SmL) : Sm := fun env Q Qx => s env (fun ds => Q (.lst ds)) Qx
theorem ok_lock {sl : SmL} (h : PE X e (tN Φ sl)) : PE X e (tE Φ (vLock sl)) := PE.imp (PE.lk h) fun σ H Q h => by
  obtain ⟨env, Qd, Qx, k, h, w, wx⟩ := h
  exact ⟨env, _, Qx, k, h, fun ds p xs H1 q s hp r => lk_lst s.hand hp r fun H' s2 z => w _ _ H' q (s.trans s2) z, wx⟩
theorem SOK.setM {c : Cm} {env : En} {σ : L2.St} {H1 : Hp} {i : Nat} {p : Addr} {xs : List V} {ds : List D} (k : SOK c env σ H1) (hp : H1 p = none) (r : Reps c.g H1 xs ds) : SOK c (env.set i (some (.ml ds))) (σ.set i (some (.ref p))) (upd H1 p (.lst xs)) := by
  have old : ∀ b u, H1 b = some u → upd H1 p (.lst xs) b = some u := upd_keeps hp
  have st := Step.ext old k.hand
  have k2 := k.step st
  have np : p ≠ c.g.hd := fun z => by
    obtain ⟨ys, hy⟩ := k.hand.lst
    rw [z, hy] at hp
    cases hp
  have n0 : c.H0 p = none := by
    cases e : c.H0 p with
    | none => rfl
    | some u =>
      have z := k.same p u np e
      rw [hp] at z
      cases z
  refine ⟨k2.hand, k2.same, by rw [List.length_set, List.length_set]; exact k2.len, ?_, ?_⟩
  · intro j l e
    by_cases hj : i = j
    · subst hj
      by_cases hi : i < env.length
      · rw [List.getElem?_set_self hi] at e
        cases e
        exact ⟨.ref p, List.getElem?_set_self (by rw [k.len]; exact hi), p, xs, rfl, np, n0, upd_same, r.step st k.hand⟩
      · rw [List.getElem?_eq_none (by rw [List.length_set]; omega)] at e
        cases e
    · rw [List.getElem?_set_ne hj] at e
      obtain ⟨u, h1, h2⟩ := k2.slot j l e
      exact ⟨u, by rw [List.getElem?_set_ne hj]; exact h1, h2⟩
  · -- p is new: no other name holds it
    have other : ∀ (b : Nat) (es : List D), env[b]? = some (some (.ml es)) → σ[b]? = some (some (.ref p)) → False := fun b es e q => by
      obtain ⟨v, h1, p', xs', e', _, _, hp', _⟩ := k.slot b _ e
      rw [q] at h1
      cases h1
      cases e'
      rw [hp] at hp'
      cases hp'
    intro a b q ds' es hab e1 e2 q1 q2
    by_cases na : i = a
    · subst na
      have nb : i ≠ b := hab
      rw [List.getElem?_set_ne nb] at e2 q2
      by_cases hi : i < σ.length
      · rw [List.getElem?_set_self hi] at q1
        cases q1
        exact other b es e2 q2
      · rw [List.getElem?_eq_none (by rw [List.length_set]; omega)] at q1
        cases q1
    · by_cases nb : i = b
      · subst nb
        rw [List.getElem?_set_ne na] at e1 q1
        by_cases hi : i < σ.length
        · rw [List.getElem?_set_self hi] at q2
          cases q2
          exact other a ds' e1 q1
        · rw [List.getElem?_eq_none (by rw [List.length_set]; omega)] at q2
          cases q2
      · rw [List.getElem?_set_ne na] at e1 q1
        rw [List.getElem?_set_ne nb] at e2 q2
        exact k.apart a b q ds' es hab e1 e2 q1 q2
def sSetM (i : Nat) (s : SmL) : SmS := fun env E => s env (fun ds => E.nx (env.set i (some (.ml ds)))) (fun x => E.xx x env)
theorem ok_setM {i : Nat} {x : Str} {pos' : Pos} {sl : SmL} (hN : X.N.Nodup) (hi : X.N[i]? = some x) (hx : Loc X.env.scope x) (he : PE X e (tN Φ sl)) (hs : swapsWith e (some (.Name x pos')) pos.line X.env = pure false) (hf : X.fn x = true ∨ X.env.scope.names.lookup x = some .local) :
    PS X (.Assign [.Name x pos'] e pos) (tS Φ (sSetM i sl)) := PS.imp (ps_set hN hi hx he hs hf) fun D σ H h => by
  obtain ⟨env, E, k, h, w⟩ := h
  refine ⟨env, _, _, k, h, fun ds p xs H1 q s hp r => ?_, w.wx k⟩
  exact w.nx _ _ _ q ((s.keep k.hand).trans (Keep.new hp)) ((k.step s).setM hp r)
end
end Mw
end
section
set_option Elab.async false
set_option linter.all false
set_option autoImplicit false
set_option maxRecDepth 100000
set_option maxHeartbeats 4000000
namespace Mw
open PySem PySem.Spec L2

section
variable {Γ : Gm} {H H' : Hp}
theorem Keep.tup (k : Keep Γ H H') {b : Addr} {xs : List V} (e : H b = some (.tup xs)) : H' b = some (.tup xs) := k.1 b _ (fun z => z) (fun z => z.elim) e
theorem Keep.frz (k : Keep Γ H H') {b : Addr} {o : Obj} {u : HO} (e : H b = some (.frz o u)) : H' b = some (.frz o u) := k.1 b _ (fun z => z) (fun z => z.elim) e
theorem Keep.ins (k : Keep Γ H H') {b C dx : Addr} {fs : List (Str × V)} (e : H b = some (.ins C dx fs)) (m : ¬ Γ.raw b) : H' b = some (.ins C dx fs) := k.1 b _ (fun z => z) (fun _ => m) e
theorem SqT.keep (k : Keep Γ H H') {K : PySem.W.Frag} {a : Addr} {xs : List V} (q : SqT K H a xs) : SqT K H' a xs := by
  rcases q with (q | ⟨o, q⟩) | q
  · exact .inl (.inl (k.tup q))
  · exact .inl (.inr ⟨o, k.frz q⟩)
  · exact .inr q
theorem FzL.keep (k : Keep Γ H H') {a : Addr} {xs : List V} (q : FzL H a xs) : FzL H' a xs := let ⟨o, q⟩ := q; ⟨o, k.frz q⟩
mutual
theorem Rep.keep (k : Keep Γ H H') : ∀ {v : V} {d : D}, Rep Γ H v d → Rep Γ H' v d
  | _, _, .non => .non
  | _, _, .bl b => .bl b
  | _, _, .int i => .int i
  | _, _, .str x => .str x
  | _, _, .tup q r => .tup (SqT.keep k q) (Reps.keep k r)
  | _, _, .lst q r => .lst (FzL.keep k q) (Reps.keep k r)
  | _, _, .hand => .hand
  | _, _, .ins q m r => .ins (k.ins q m.1) m (Reps.keep k r)
theorem Reps.keep (k : Keep Γ H H') : ∀ {vs : List V} {ds : List D}, Reps Γ H vs ds → Reps Γ H' vs ds
  | _, _, .nil => .nil
  | _, _, .cons q r => .cons (Rep.keep k q) (Reps.keep k r)
end
theorem XRep.keep (k : Keep Γ H H') {x : Xn} {t : Value} {dd : Option Addr} (r : XRep Γ x t dd H) : XRep Γ x t dd H' := by
  obtain ⟨e, d, vs, e1, e2, q⟩ := r
  exact ⟨e, d, vs, e1, k.1 d _ (fun z => z) (fun z => z.elim) e2, fun f y hf => let ⟨v, h1, h2⟩ := q f y hf; ⟨v, h1, h2.keep k⟩⟩
theorem FRep.keep (k : Keep Γ H H') : ∀ {xs : List (Str × V)} {fs : List (Str × D)}, FRep Γ H xs fs → FRep Γ H' xs fs
  | _, _, .nil => .nil
  | _, _, .cons q r => .cons (Rep.keep k q) (FRep.keep k r)
theorem HandAt.keep (k : Keep Γ H H') (e : H' Γ.hd = H Γ.hd) (a : HandAt Γ H) : HandAt Γ H' :=
  let ⟨⟨c, ns, i, r, t, e1, q, w⟩, m⟩ := a; ⟨⟨c, ns, i, r, t, e.trans e1, q.keep k, w⟩, fun b hb => k.2 b hb (m b hb)⟩
end

theorem keep_put {Γ : Gm} {H : Hp} {p : Addr} {xs : List V} {o : HO} (hp : H p = some (.lst xs)) : Keep Γ H (upd H p o) := ⟨fun b u n _ e => by
  rw [upd_ne]
  · exact e
  · intro z
    subst z
    rw [hp] at e
    cases e
    exact n trivial, fun b _ n => by
  by_cases hb : b = p
  · subst hb; rw [upd_same]; simp
  · rw [upd_ne hb]; exact n⟩
theorem SOK.put {c : Cm} {env : En} {σ : L2.St} {H : Hp} {i : Nat} {p : Addr} {xs : List V} {ds : List D} {o : HO} {l : L} (k : SOK c env σ H) (hi : env[i]? = some (some (.ml ds))) (hσ : σ[i]? = some (some (.ref p))) (hp : H p = some (.lst xs)) (np : p ≠ c.g.hd) (n0 : c.H0 p = none)
    (hl : LRep c (upd H p o) (.ref p) l) (hlm : ∀ es, l = .ml es → True) : SOK c (env.set i (some l)) σ (upd H p o) := by
  have kp : Keep c.g H (upd H p o) := keep_put hp
  have il : i < env.length := by
    by_cases h : i < env.length
    · exact h
    · rw [List.getElem?_eq_none (by omega)] at hi; cases hi
  refine ⟨k.hand.keep kp (upd_ne np.symm), fun b u n e => ?_, by rw [List.length_set]; exact k.len, ?_, ?_⟩
  · rw [upd_ne]
    · exact k.same b u n e
    · intro z
      subst z
      rw [n0] at e
      cases e
  · intro j z e
    by_cases hj : i = j
    · subst hj
      rw [List.getElem?_set_self il] at e
      cases e
      exact ⟨.ref p, hσ, hl⟩
    · rw [List.getElem?_set_ne hj] at e
      obtain ⟨v, h1, h2⟩ := k.slot j z e
      refine ⟨v, h1, ?_⟩
      match z, e, h2 with
      | .d d, _, h2 => exact Rep.keep kp h2
      | .xn x, _, ⟨a, t, dd, e1, e2, r⟩ => exact ⟨a, t, dd, e1, e2, r.keep kp⟩
      | .mi k fs, _, ⟨p', dx, xs', e', m', n0', hp', r⟩ =>
        have ne : p' ≠ p := fun q => by
          subst q
          rw [hp] at hp'
          cases hp'
        exact ⟨p', dx, xs', e', m', n0', by rw [upd_ne ne]; exact hp', r.keep kp⟩
      | .ml es, e, ⟨p', xs', e', n', n0', hp', r⟩ =>
        subst e'
        have ne : p' ≠ p := fun q => by
          subst q
          exact k.apart i j _ ds es hj hi e hσ h1
        exact ⟨p', xs', rfl, n', n0', by rw [upd_ne ne]; exact hp', r.keep kp⟩
  · intro a b q ds' es hab e1 e2 q1 q2
    by_cases na : i = a
    · subst na
      rw [List.getElem?_set_ne hab] at e2
      rw [hσ] at q1
      cases q1
      exact k.apart i b _ ds es hab hi e2 hσ q2
    · by_cases nb : i = b
      · subst nb
        rw [List.getElem?_set_ne na] at e1
        rw [hσ] at q2
        cases q2
        exact k.apart i a _ ds ds' (fun z => na z) hi e1 hσ q1
      · rw [List.getElem?_set_ne na] at e1
        rw [List.getElem?_set_ne nb] at e2
        exact k.apart a b q ds' es hab e1 e2 q1 q2
theorem SOK.mlAt {c : Cm} {env : En} {σ : L2.St} {H : Hp} {i : Nat} {ds : List D} (k : SOK c env σ H) (hi : env[i]? = some (some (.ml ds))) : ∃ p xs, σ[i]? = some (some (.ref p)) ∧ p ≠ c.g.hd ∧ c.H0 p = none ∧ H p = some (.lst xs) ∧ Reps c.g H xs ds := by
  obtain ⟨v, h1, p, xs, rfl, h2, h3, h4, h5⟩ := k.slot i _ hi
  exact ⟨p, xs, h1, h2, h3, h4, h5⟩

section
variable {X : Cx} {Φ : Fm} {st : Stmt} {e c : Expr} {s t : SmS} {se si : Sm} {pos : Pos}
/-- the name's own list is nobody's from here on -/
def sFrz (i : Nat) (s : SmS) : SmS := fun env E => ∃ ds, env[i]? = some (some (.ml ds)) ∧ s (env.set i (some (.d (.lst ds)))) E
theorem ok_frz {i : Nat} (h : PS X st (tS Φ s)) : PS X st (tS Φ (sFrz i s)) := by
  refine ⟨fun pins sh σ H Dd I q => ?_⟩
  obtain ⟨env, E, k, ⟨ds, hi, h2⟩, w⟩ := q
  obtain ⟨p, xs, hσ, np, n0, hp, r⟩ := k.mlAt hi
  obtain ⟨o, I'⟩ := I.lock hp trivial
  have kp : Keep Φ.g H (upd H p (.frz o (.lst xs))) := keep_put hp
  exact h.run pins sh σ _ Dd I' ⟨_, E, k.put hi hσ hp np n0 (l := .d (.lst ds)) (Rep.lst ⟨o, upd_same⟩ (r.keep kp)) (fun _ _ => trivial), h2, w.later kp⟩
/-- x.append(e) -/
def sApp (i : Nat) (s : Sm) : SmS := fun env E => ∃ ds, env[i]? = some (some (.ml ds)) ∧ ds.length < sizeLine ∧ s env (fun d => E.nx (env.set i (some (.ml (ds ++ [d]))))) (fun x => E.xx x env)
theorem ok_app {i : Nat} {x : Str} {p1 apos cpos : Pos} (hN : X.N[i]? = some x) (hv : Vis X.env.scope x) (hd : (x == ("__debug__" : Str)) = false) (hcd : (x == ("__classdict__" : Str)) = false) (he : PE X e (tE Φ se)) (hst : starEach [e] X.env = [(false, eval e X.env)])
    (hb : attributeBase (.Name x p1) "append" X.env (eval (.Name x p1) X.env) = eval (.Name x p1) X.env)
    (hfew : ((backTo cpos (starEach [e] X.env)).all (fun x => !x.1) && (backToKw cpos (keywordEach [] X.env)).all (fun x => x.1.isSome) && decide ([e].length + ([] : List Keyword).length + (if ([] : List Keyword).isEmpty then 0 else 1) < 30)) = true)
    (hline : (apos.endLine == cpos.line) = true) (hsw : swapsWith (.Call (.Attribute (.Name x p1) "append" apos) [e] [] cpos) none pos.line X.env = pure false) :
    PS X (.Expr (.Call (.Attribute (.Name x p1) "append" apos) [e] [] cpos) pos) (tS Φ (sApp i se)) := by
  refine PS.imp (ps_expr (pe_bm PySem.F.plainAttrs_list PySem.F.slot_list_append PySem.F.type_list_append mt_append (pe_var hN hv hd hcd) (pa_cons he pa_nil hst) hb hfew hline hst rfl) hsw) fun D σ H h => ?_
  obtain ⟨env, E, k, ⟨ds, hi, hz, h⟩, w⟩ := h
  obtain ⟨p, xs, hσ, np, n0, hp, r⟩ := k.mlAt hi
  refine ⟨.ref p, hσ, .inl ⟨rfl, _, .inl (.inl hp)⟩, env, _, _, k, h, fun d v H' q s rd => ?_, w.wx k⟩
  have k' := k.step s
  have hp' := s.same p _ np hp
  have kp : Keep Φ.g H' (upd H' p (.lst (xs ++ [v]))) := keep_put hp'
  refine ⟨p, xs, v, rfl, rfl, hp', by rw [r.length]; exact hz, w.nx _ _ _ q ((s.keep k.hand).trans kp) (k'.put hi hσ hp' np n0 ⟨p, _, rfl, np, n0, upd_same, ?_⟩ (fun _ _ => trivial))⟩
  exact ((r.step s k.hand).append (.cons rd .nil)).keep kp
/-- x[i] = e, x a name's own list -/
def sSetIx (i : Nat) (si se : Sm) : SmS := fun env E => ∃ ds, env[i]? = some (some (.ml ds)) ∧ se env (fun d => si env (fun z => ∃ n j, z = .int n ∧ ixN ds.length n = some j ∧ E.nx (env.set i (some (.ml (ds.set j d))))) (fun x => E.xx x env)) (fun x => E.xx x env)
theorem ok_setIx {i : Nat} {x : Str} {p1 p2 : Pos} (hN : X.N[i]? = some x) (hv : Vis X.env.scope x) (hd : (x == ("__debug__" : Str)) = false) (hcd : (x == ("__classdict__" : Str)) = false) (he : PE X e (tE Φ se)) (hc : PE X c (tE Φ si))
    (hs : swapsWithSole [.Subscript (.Name x p1) c p2] e pos.line X.env = pure false) (hw : swappedStores [.Subscript (.Name x p1) c p2] e X.env = pure none) (h1 : (assignEach [.Subscript (.Name x p1) c p2] X.env).map (·.2) = [assign (.Subscript (.Name x p1) c p2) X.env])
    (ha : ∀ v, assign (.Subscript (.Name x p1) c p2) X.env v = (do
      let ov ← holding [v] (eval (.Name x p1) X.env)
      let iv ← holding [v, ov] (eval c X.env)
      standAt p2
      holding [v, ov, iv] (setItem ov iv v)
      release [v, ov, iv] [])) : PS X (.Assign [.Subscript (.Name x p1) c p2] e pos) (tS Φ (sSetIx i si se)) := by
  refine PS.imp (ps_asg he (pg_sub (pe_var hN hv hd hcd) hc set_list ha) hs hw h1) fun D σ H h => ?_
  obtain ⟨env, E, k, ⟨ds, hi, h⟩, w⟩ := h
  obtain ⟨p, xs, hσ, np, n0, hp, r⟩ := k.mlAt hi
  refine ⟨env, _, _, k, h, fun d v H1 q1 s1 rd => ?_, w.wx k⟩
  refine ⟨.ref p, hσ, ?_⟩
  refine ⟨env, _, _, k.step s1, q1, fun z y H2 hz s2 rz => ?_, (w.wx k).step s1⟩
  obtain ⟨n, j, rfl, hj, q⟩ := hz
  cases rz
  have k2 := (k.step s1).step s2
  have hp2 : H2 p = some (.lst xs) := s2.same p _ np (s1.same p _ np hp)
  have r2 : Reps Φ.g H2 xs ds := (r.step s1 k.hand).step s2 s1.hand
  have kp : Keep Φ.g H2 (upd H2 p (.lst (xs.set j v))) := keep_put hp2
  refine ⟨p, xs, n, j, rfl, rfl, hp2, by rw [r.length]; exact hj, w.nx _ _ _ q (((s1.trans s2).keep k.hand).trans kp) (k2.put hi hσ hp2 np n0 ⟨p, _, rfl, np, n0, upd_same, ?_⟩ (fun _ _ => trivial))⟩
  exact (Reps.set (rd.step s2 s1.hand) j r2).keep kp
end
end Mw
end
section
set_option Elab.async false
set_option linter.all false
set_option autoImplicit false
set_option maxRecDepth 100000
set_option maxHeartbeats 4000000
namespace Mw
open PySem PySem.Spec L2

section
variable {X : Cx} {pins : List (Addr × Obj)} {σ : L2.St} {H : Hp} {s : Shared} {tg : Expr} {R : It → Hp → Prop} {a : Addr} {xs : List V}
theorem iter_lst (I : L2.Inv X pins σ H s) (hq : SqL X.K H a xs) (q : R (Itl X.K a) H) : wpAny (model X.prog X.w) X.A (pyIter (.ref a)) (PIE X pins σ tg R) X.xe s := by
  obtain ⟨its, rv, p, hz⟩ := I.list hq
  exact wpAny_pyIter_list p.isList ⟨s.heap.objs.size, [s.heap.objs.size], fun i h => h.IsListIter s.heap.objs.size a i, Itl X.K a, H, rfl, I.kept (fun b o e => Heap.get?_push_of_some _ e), turn_list a _, ⟨_, Heap.get?_push_size s.1 rfl, rfl, rfl⟩,
    fun b hb => by
      rw [List.mem_singleton] at hb
      subst hb
      exact I.fpOk (Nat.le_refl _) (I.hok.fresh (Nat.le_refl _)), q⟩
theorem iter_tup (I : L2.Inv X pins σ H s) (hq : SqT X.K H a xs) (q : R (Itt X.K a) H) : wpAny (model X.prog X.w) X.A (pyIter (.ref a)) (PIE X pins σ tg R) X.xe s := by
  obtain ⟨its, rv, p, hz⟩ := I.tuple hq
  exact wpAny_pyIter_tuple p ⟨s.heap.objs.size, [s.heap.objs.size], fun i h => h.IsTupleIter s.heap.objs.size a i, Itt X.K a, H, rfl, I.kept (fun b o e => Heap.get?_push_of_some _ e), turn_tuple a _, ⟨_, Heap.get?_push_size s.1 rfl, rfl, rfl⟩,
    fun b hb => by
      rw [List.mem_singleton] at hb
      subst hb
      exact I.fpOk (Nat.le_refl _) (I.hok.fresh (Nat.le_refl _)), q⟩
end
/-- what a walk gives: these data, at any later heap -/
structure WalkD (Γ : Gm) (J : It) (H1 : Hp) (ds : List D) : Prop where
  goes : ∀ i H, i < ds.length → Keep Γ H1 H → J.go i H
  stops : ∀ H, Keep Γ H1 H → J.stop ds.length H
  yields : ∀ i H x H', i < ds.length → Keep Γ H1 H → HandAt Γ H → J.yld i H x H' → Step Γ H H' ∧ ∃ d, ds[i]? = some d ∧ Rep Γ H' x d
abbrev SmI := En → (List D → Prop) → PX → Prop
def tI (Φ : Fm) (s : SmI) : TI := fun σ H R => ∃ env Qd Qx, SOK Φ.c env σ H ∧ s env Qd Qx ∧ (∀ ds J H', Qd ds → Step Φ.g H H' → WalkD Φ.g J H' ds → R J H') ∧ WX1 Φ σ H Qx
theorem PI.imp {X : Cx} {tg e : Expr} {t t' : TI} (h : PI X tg e t) (i : ∀ σ H R, t' σ H R → t σ H R) : PI X tg e t' := ⟨fun pins s σ H R I q => h.run pins s σ H R I (i σ H R q)⟩

section
variable {Γ : Gm} {H1 : Hp} {a : Addr} {xs : List V} {ds : List D} {K : PySem.W.Frag}
theorem walkD_lst (q : FzL H1 a xs) (r : Reps Γ H1 xs ds) : WalkD Γ (Itl K a) H1 ds := by
  have w := walk_list (K := K) (a := a) (xs := xs)
  refine ⟨fun i H hi k => w.goes i H (by rw [r.length]; exact hi) (q.keep k).sq, fun H k => by rw [← r.length]; exact w.stops H (q.keep k).sq, fun i H x H' hi k hh hy => ?_⟩
  obtain ⟨rfl, hx⟩ := w.yields i H x H' (by rw [r.length]; exact hi) (q.keep k).sq hy
  obtain ⟨d, e, rd⟩ := Reps.getV (Reps.keep k r) hx
  exact ⟨Step.refl hh, d, e, rd⟩
theorem walkD_tup (q : SqT K H1 a xs) (r : Reps Γ H1 xs ds) : WalkD Γ (Itt K a) H1 ds := by
  have w := walk_tup (K := K) (a := a) (xs := xs)
  refine ⟨fun i H hi k => w.goes i H (by rw [r.length]; exact hi) (SqT.keep k q), fun H k => by rw [← r.length]; exact w.stops H (SqT.keep k q), fun i H x H' hi k hh hy => ?_⟩
  obtain ⟨rfl, hx⟩ := w.yields i H x H' (by rw [r.length]; exact hi) (SqT.keep k q) hy
  obtain ⟨d, e, rd⟩ := Reps.getV (Reps.keep k r) hx
  exact ⟨Step.refl hh, d, e, rd⟩
def rngD (lo : Int) (n : Nat) : List D := (List.range n).map fun i => .int (lo + (i : Nat))
theorem walkD_rng {lo : Int} {n : Nat} : WalkD Γ (Itr lo n) H1 (rngD lo n) := by
  have w := walk_range (lo := lo) (n := n)
  have e : (rngD lo n).length = n := by unfold rngD; simp
  refine ⟨fun i H hi _ => w.goes i H (by rw [← e]; exact hi) trivial, fun H _ => by rw [e]; exact w.stops H trivial, fun i H x H' hi _ hh hy => ?_⟩
  obtain ⟨rfl, rfl⟩ : H' = H ∧ x = .int (lo + (i : Nat)) := w.yields i H x H' (by rw [← e]; exact hi) trivial hy
  refine ⟨Step.refl hh, .int (lo + (i : Nat)), ?_, .int _⟩
  unfold rngD
  rw [e] at hi
  simp [hi]
end
section
variable {X : Cx} {Φ : Fm} {tg a b : Expr} {es : List Expr} {sa : Sm} {ss : Sms} {pos p : Pos}
def seqI (d : D) (Q : List D → Prop) : Prop := match d with
  | .lst ds => Q ds
  | .tup ds => Q ds
  | _ => False
def iSeq (a : Sm) : SmI := fun env Q Qx => a env (fun d => seqI d Q) Qx
theorem oki_seq (hK : X.K = Φ.g.K) (he : PE X a (tE Φ sa)) : PI X tg a (tI Φ (iSeq sa)) := by
  refine ⟨fun pins s σ H R I h => ?_⟩
  obtain ⟨env, Qd, Qx, k, h, w, wx⟩ := h
  refine thn (he.run pins s σ H (fun v H1 => (∃ p xs ds, v = .ref p ∧ FzL H1 p xs ∧ Reps Φ.g H1 xs ds ∧ Qd ds ∧ Step Φ.g H H1) ∨ ∃ p xs ds, v = .ref p ∧ SqT Φ.g.K H1 p xs ∧ Reps Φ.g H1 xs ds ∧ Qd ds ∧ Step Φ.g H H1) I ⟨env, _, Qx, k, h, fun d v H1 q s1 r => ?_, wx⟩) fun u s1 hh => ?_
  · cases r
    case lst p xs ds z r => exact .inl ⟨p, xs, ds, rfl, z, r, q, s1⟩
    case tup p xs ds z r => exact .inr ⟨p, xs, ds, rfl, z, r, q, s1⟩
    all_goals exact q.elim
  · obtain ⟨v, H1, I1, rv, hh⟩ := hh
    rcases hh with ⟨p, xs, ds, rfl, z, r, q, st⟩ | ⟨p, xs, ds, rfl, z, r, q, st⟩
    · obtain rfl : u = .ref p := rv
      exact iter_lst I1 z.sq (w ds _ H1 q st (walkD_lst z r))
    · obtain rfl : u = .ref p := rv
      exact iter_tup I1 (by rw [hK]; exact z) (w ds _ H1 q st (walkD_tup (by rw [hK]; exact z) r))
def iRng (ss : Sms) : SmI := fun env Q Qx => ss env (fun ds => ∃ n, ds = [.int n] ∧ -2 ^ 62 ≤ n ∧ n < 2 ^ 62 ∧ Q (rngD 0 n.toNat)) Qx
theorem oki_rng (hg : Gl X "range") (hm : X.mg "range" = none) (ha : PA X [a] (tA Φ ss)) (hs : starEach [a] X.env = [(false, eval a X.env)]) : PI X tg (.Call (.Name "range" p) [a] [] pos) (tI Φ (iRng ss)) :=
  PI.imp (pi_range1 hg hm ha hs) fun σ H R h => by
    obtain ⟨env, Qd, Qx, k, h, w, wx⟩ := h
    refine ⟨env, _, Qx, k, h, fun ds vs H1 q s1 r => ?_, wx⟩
    obtain ⟨n, rfl, h1, h2, q⟩ := q
    cases r with
    | cons r1 r2 =>
      cases r1
      cases r2
      exact ⟨n, rfl, h1, h2, w _ _ H1 q s1 walkD_rng⟩

/-! ### targets -/
abbrev SmG := D → En → (En → Prop) → Prop
def tG (Φ : Fm) (g : SmG) : TG := fun v σ H Q => ∃ d env Qe, SOK Φ.c env σ H ∧ Rep Φ.g H v d ∧ g d env Qe ∧ ∀ env' σ', Qe env' → SOK Φ.c env' σ' H → Q σ' H
theorem PG.imp {X : Cx} {e : Expr} {t t' : TG} (h : PG X e t) (i : ∀ v σ H Q, t' v σ H Q → t v σ H Q) : PG X e t' := ⟨fun pins s σ H v u Q I r q => h.run pins s σ H v u Q I r (i v σ H Q q)⟩
def gN (i : Nat) : SmG := fun d env Q => Q (env.set i (some (.d d)))
theorem okg_name {i : Nat} {x : Str} (hN : X.N.Nodup) (hi : X.N[i]? = some x) (hx : Loc X.env.scope x) (hf : X.fn x = true ∨ X.env.scope.names.lookup x = some .local) : PG X (.Name x pos) (tG Φ (gN i)) :=
  PG.imp (pg_name hN hi hx hf) fun v σ H Q h => by
    obtain ⟨d, env, Qe, k, r, h, w⟩ := h
    exact w _ _ h (k.set r)
end

/-! ### for -/
def forD (g : SmG) (b : SmS) : List D → SmS
  | [], env, E => E.nx env
  | d :: r, env, E => g d env fun env1 => b env1 { nx := fun env' => forD g b r env' E, rt := E.rt, bk := E.nx, ct := fun env' => forD g b r env' E, xx := E.xx }
def sFor (s : SmI) (g : SmG) (b : SmS) : SmS := fun env E => s env (fun ds => forD g b ds env E) (fun x => E.xx x env)
theorem ok_for {X : Cx} {Φ : Fm} {tg iter : Expr} {body : List Stmt} {s : SmI} {g : SmG} {b : SmS} {pos : Pos} (hp : PassesOwn (model X.prog X.w) X.A X.env X.xe) (hc : X.calm = true) (hi : PI X tg iter (tI Φ s)) (hg : PG X tg (tG Φ g)) (hb : PSs X body (tS Φ b))
    (hf : ∀ x : Value, foldedSetIterable iter X.env x = pure x) : PS X (.For tg iter body [] pos) (tS Φ (sFor s g b)) := PS.imp (ps_for hp hc hi hg hb hf) fun Dd σ H h => by
  obtain ⟨env, E, k, h, w⟩ := h
  refine ⟨env, _, _, k, h, fun ds J H1 q s1 W => ?_, w.wx k⟩
  have k1 := k.step s1
  have kp1 : Keep Φ.g H H1 := s1.keep k.hand
  refine ⟨fun i m σ' H' => i ≤ ds.length ∧ m = ds.length - i ∧ ∃ env', SOK Φ.c env' σ' H' ∧ Keep Φ.g H1 H' ∧ forD g b (ds.drop i) env' E, ⟨ds.length, Nat.zero_le _, rfl, env, k1, Keep.refl _, q⟩, fun i m σ' H' hW => ?_⟩
  obtain ⟨hi', rfl, env', k', kp, hf'⟩ := hW
  by_cases hlt : i < ds.length
  · refine .inr ⟨W.goes i H' hlt kp, fun σ'' H'' => i + 1 ≤ ds.length ∧ ∃ env'', SOK Φ.c env'' σ'' H'' ∧ Keep Φ.g H1 H'' ∧ forD g b (ds.drop (i + 1)) env'' E, fun σ'' H'' hN => ?_, fun x H2 hy => ?_⟩
    · obtain ⟨h1, rest⟩ := hN
      exact ⟨ds.length - (i + 1), by omega, h1, rfl, rest⟩
    · obtain ⟨st, d, hd, rd⟩ := W.yields i H' x H2 hlt kp k'.hand hy
      have e : ds.drop i = d :: ds.drop (i + 1) := by
        rw [List.drop_eq_getElem_cons hlt]
        congr 1
        rw [List.getElem?_eq_getElem hlt] at hd
        exact Option.some.inj hd
      rw [e] at hf'
      have kp2 : Keep Φ.g H1 H2 := kp.trans (st.keep k'.hand)
      refine ⟨d, env', _, k'.step st, rd, hf', fun env1 σ1 q1 k2 => ⟨env1, _, k2, q1, ?_⟩⟩
      have wl := w.later (kp1.trans kp2)
      exact ⟨fun en σ3 H3 z kp3 k3 => ⟨hlt, en, k3, kp2.trans kp3, z⟩, wl.rt, fun en σ3 H3 z kp3 k3 => wl.nx en σ3 H3 z kp3 k3, fun en σ3 H3 z kp3 k3 => ⟨hlt, en, k3, kp2.trans kp3, z⟩, wl.x⟩
  · have ei : i = ds.length := by omega
    subst ei
    rw [List.drop_length] at hf'
    exact .inl ⟨W.stops H' kp, w.nx env' σ' H' hf' (kp1.trans kp) k'⟩
end Mw
end
section
set_option Elab.async false
set_option linter.all false
set_option autoImplicit false
set_option maxRecDepth 100000
set_option maxHeartbeats 4000000
namespace Mw
open PySem PySem.Spec L2

section
variable {c : Cm} {env : En} {σ : L2.St} {H : Hp}
theorem get_app {α : Type} {l : List α} {x : α} {i : Nat} (h : i < l.length) : (l ++ [x])[i]? = l[i]? := List.getElem?_append_left h
theorem lt_of_get {α : Type} {l : List α} {x : α} {i : Nat} (h : l[i]? = some x) : i < l.length := by
  by_cases hi : i < l.length
  · exact hi
  · rw [List.getElem?_eq_none (by omega)] at h; cases h
/-- without the last slot -/
theorem SOK.less {l : Option L} {v : Option V} (k : SOK c (env ++ [l]) (σ ++ [v]) H) : SOK c env σ H := by
  have hl : σ.length = env.length := by have e := k.len; simpa using e
  have up : ∀ {i : Nat} {z : L}, env[i]? = some (some z) → (env ++ [l])[i]? = some (some z) := fun {i z} e => by rw [get_app (lt_of_get e)]; exact e
  have upσ : ∀ {i : Nat} {z : Option V}, σ[i]? = some z → (σ ++ [v])[i]? = some z := fun {i z} e => by rw [get_app (lt_of_get e)]; exact e
  refine ⟨k.hand, k.same, hl, fun i z e => ?_, fun i j p ds es n e1 e2 q1 q2 => k.apart i j p ds es n (up e1) (up e2) (upσ q1) (upσ q2)⟩
  obtain ⟨u, h1, h2⟩ := k.slot i z (up e)
  rw [get_app (by rw [hl]; exact lt_of_get e)] at h1
  exact ⟨u, h1, h2⟩
theorem SOK.non {i : Nat} (k : SOK c env σ H) : SOK c (env.set i none) (σ.set i none) H := by
  have up : ∀ {j : Nat} {z : L}, (env.set i none)[j]? = some (some z) → j ≠ i ∧ env[j]? = some (some z) := fun {j z} e => by
    by_cases h : i = j
    · subst h
      have hi := lt_of_get e
      rw [List.length_set] at hi
      rw [List.getElem?_set_self hi] at e
      cases e
    · rw [List.getElem?_set_ne h] at e
      exact ⟨fun z => h z.symm, e⟩
  refine ⟨k.hand, k.same, by rw [List.length_set, List.length_set]; exact k.len, fun j z e => ?_, fun a b p ds es n e1 e2 q1 q2 => ?_⟩
  · obtain ⟨n, e'⟩ := up e
    obtain ⟨u, h1, h2⟩ := k.slot j z e'
    exact ⟨u, by rw [List.getElem?_set_ne (Ne.symm n)]; exact h1, h2⟩
  · obtain ⟨n1, e1'⟩ := up e1
    obtain ⟨n2, e2'⟩ := up e2
    rw [List.getElem?_set_ne (Ne.symm n1)] at q1
    rw [List.getElem?_set_ne (Ne.symm n2)] at q2
    exact k.apart a b p ds es n e1' e2' q1 q2
/-- one slot more -/
theorem SOK.add (k : SOK c env σ H) : SOK c (env ++ [none]) (σ ++ [none]) H := by
  have dn : ∀ {i : Nat} {z : L}, (env ++ [none])[i]? = some (some z) → i < env.length ∧ env[i]? = some (some z) := fun {i z} e => by
    by_cases h : i < env.length
    · rw [get_app h] at e; exact ⟨h, e⟩
    · have hi := lt_of_get e
      rw [List.length_append] at hi
      have : i = env.length := by simp at hi; omega
      subst this
      rw [List.getElem?_append_right (Nat.le_refl _)] at e
      simp at e
  refine ⟨k.hand, k.same, by simp [k.len], fun i z e => ?_, fun i j p ds es n e1 e2 q1 q2 => ?_⟩
  · obtain ⟨hi, e'⟩ := dn e
    obtain ⟨u, h1, h2⟩ := k.slot i z e'
    exact ⟨u, by rw [get_app (by rw [k.len]; exact hi)]; exact h1, h2⟩
  · obtain ⟨h1, e1'⟩ := dn e1
    obtain ⟨h2, e2'⟩ := dn e2
    rw [get_app (by rw [k.len]; exact h1)] at q1
    rw [get_app (by rw [k.len]; exact h2)] at q2
    exact k.apart i j p ds es n e1' e2' q1 q2
theorem set_last {α : Type} (l : List α) (x y : α) : (l ++ [x]).set l.length y = l ++ [y] := by
  rw [List.set_append_right _ _ (Nat.le_refl _)]
  simp
theorem SOK.more {p : Addr} {xs : List V} {ds : List D} (k : SOK c env σ H) (hp : H p = none) (r : Reps c.g H xs ds) : SOK c (env ++ [some (.ml ds)]) (σ ++ [some (.ref p)]) (upd H p (.lst xs)) := by
  have q := k.add.setM (i := env.length) hp r
  rw [set_last] at q
  rw [← k.len, set_last] at q
  exact q
end
/-- the errors that can't be -/
def noW : WX := fun _ _ _ _ => False
def Fm.no (Φ : Fm) : Fm := ⟨Φ.c, noW⟩
theorem WX1.no {Φ : Fm} {σ : L2.St} {H : Hp} : WX1 Φ σ H (fun _ => False) := ⟨fun _ _ _ _ q => q.elim⟩

def lcD (g : SmG) (cnd : SmB) (e : Sm) (env : En) : List D → List D → (List D → Prop) → Prop
  | [], acc, Q => Q acc
  | d :: r, acc, Q => g d env fun env1 => cnd env1 (fun b => if b = true then e env1 (fun y => acc.length < sizeLine ∧ lcD g cnd e env r (acc ++ [y]) Q) (fun _ => False) else lcD g cnd e env r acc Q) (fun _ => False)
def setNones (env : En) : List Nat → En
  | [] => env
  | v :: vs => (setNones env vs).set v none
def vLcL (s : SmI) (vs : List Nat) (g : SmG) (cnd : SmB) (e : Sm) : SmL := fun env Q Qx => s env (fun ds => lcD g cnd e (setNones env vs) ds [] Q) Qx
def bTrue : SmB := fun _ Q _ => Q true
theorem SOK.wipe {c : Cm} {env : En} {σ : L2.St} {H : Hp} (k : SOK c env σ H) : ∀ vs : List Nat, SOK c (setNones env vs) (L2.wipe σ vs) H
  | [] => by rw [L2.wipe.eq_1]; exact k
  | v :: vs => by rw [L2.wipe.eq_2]; exact (k.wipe vs).non
theorem wipe_wipe (σ : L2.St) (vs : List Nat) : L2.wipe (L2.wipe σ vs) vs = L2.wipe σ vs := by
  have key : ∀ (vs us : List Nat), (∀ v ∈ vs, v ∈ us) → L2.wipe (L2.wipe σ us) vs = L2.wipe σ us := by
    intro vs
    induction vs with
    | nil => intro us _; rw [L2.wipe.eq_1]
    | cons v vs ih =>
      intro us hv
      rw [L2.wipe.eq_2, ih us fun z hz => hv z (List.mem_cons_of_mem _ hz)]
      have hm : ∀ us : List Nat, v ∈ us → (L2.wipe σ us).set v none = L2.wipe σ us := by
        intro us
        induction us with
        | nil => intro h; cases h
        | cons u us ih2 =>
          intro h
          rw [L2.wipe.eq_2]
          by_cases e : u = v
          · subst e; rw [List.set_set]
          · rcases List.mem_cons.mp h with z | z
            · exact (e z.symm).elim
            · rw [List.set_comm _ _ e, ih2 z]
      exact hm us (hv v List.mem_cons_self)
  exact key vs vs fun _ z => z
/-- targets within a comprehension: only the own slots are written -/
def tGw (Φ : Fm) (vs : List Nat) (g : SmG) : TG := fun v σ H Q => ∃ d env Qe, SOK Φ.c env σ H ∧ Rep Φ.g H v d ∧ g d env Qe ∧ ∀ env' σ', Qe env' → SOK Φ.c env' σ' H → L2.wipe σ' vs = L2.wipe σ vs → Q σ' H
section
variable {X : Cx} {Φ : Fm} {pos : Pos}
theorem okgw_name {i : Nat} {x : Str} (hN : X.N.Nodup) (hi : X.N[i]? = some x) (hx : Loc X.env.scope x) (hf : X.fn x = true ∨ X.env.scope.names.lookup x = some .local) : PG X (.Name x pos) (tGw Φ [i] (gN i)) :=
  PG.imp (pg_name hN hi hx hf) fun v σ H Q h => by
    obtain ⟨d, env, Qe, k, r, h, w⟩ := h
    refine w _ _ h (k.set r) ?_
    rw [L2.wipe.eq_2, L2.wipe.eq_1, L2.wipe.eq_2, L2.wipe.eq_1, List.set_set]
theorem okts_nil : PTs X [] (tB Φ bTrue) := by
  have h := @pts_nil X
  exact ⟨fun pins s σ H Q I q => h.run pins s σ H Q I (by
    obtain ⟨env, Qd, Qx, k, h, w, _⟩ := q
    exact w true H h (Step.refl k.hand))⟩
theorem lcL_imp {vs : List Nat} {s : SmI} {g : SmG} {cnd : SmB} {e : Sm} {σ : L2.St} {H : Hp} {Q : VK} (h : tN Φ (vLcL s vs g cnd e) σ H Q) : tLc (tI Φ s) (tGw Φ.no vs g) (tB Φ.no cnd) (tE Φ.no e) vs σ H Q := by
  obtain ⟨env, Qd, Qx, k, h, w, wx⟩ := h
  refine ⟨env, _, Qx, k, h, fun ds J H1 q s1 W => fun D hD => ?_, wx⟩
  have k1 := k.step s1
  have kw := k1.wipe vs
  have nD : D ≠ Φ.g.hd := fun z => by
    obtain ⟨ys, hy⟩ := k1.hand.lst
    rw [z, hy] at hD
    cases hD
  have n0 : Φ.c.H0 D = none := by
    cases e0 : Φ.c.H0 D with
    | none => rfl
    | some u =>
      have z := k1.same D u nD e0
      rw [hD] at z
      cases z
  have hl : (setNones env vs).length = (L2.wipe σ vs).length := kw.len.symm
  refine ⟨fun i m H' => i ≤ ds.length ∧ m = ds.length - i ∧ ∃ acc xs, SOK Φ.c (setNones env vs ++ [some (.ml acc)]) (L2.wipe σ vs ++ [some (.ref D)]) H' ∧ H' D = some (.lst xs) ∧ Reps Φ.g H' xs acc ∧ Keep Φ.g H1 H' ∧ Step Φ.g H1 H' ∧ lcD g cnd e (setNones env vs) (ds.drop i) acc Qd,
    ⟨ds.length, Nat.zero_le _, rfl, [], [], kw.more hD .nil, upd_same, .nil, Keep.new hD, Step.ext (upd_keeps hD) k1.hand, q⟩, fun i m H' hW => ?_⟩
  obtain ⟨hi', rfl, acc, xs, k', hDx, r', kp, st, hf'⟩ := hW
  by_cases hlt : i < ds.length
  · refine .inr ⟨W.goes i H' hlt kp, fun H'' => i + 1 ≤ ds.length ∧ ∃ acc xs, SOK Φ.c (setNones env vs ++ [some (.ml acc)]) (L2.wipe σ vs ++ [some (.ref D)]) H'' ∧ H'' D = some (.lst xs) ∧ Reps Φ.g H'' xs acc ∧ Keep Φ.g H1 H'' ∧ Step Φ.g H1 H'' ∧ lcD g cnd e (setNones env vs) (ds.drop (i + 1)) acc Qd, fun H'' hN => ?_, fun x H2 hy => ?_⟩
    · obtain ⟨h1, rest⟩ := hN
      exact ⟨ds.length - (i + 1), by omega, h1, rfl, rest⟩
    · obtain ⟨st2, d, hd, rd⟩ := W.yields i H' x H2 hlt kp k'.hand hy
      have ed : ds.drop i = d :: ds.drop (i + 1) := by
        rw [List.drop_eq_getElem_cons hlt]
        congr 1
        rw [List.getElem?_eq_getElem hlt] at hd
        exact Option.some.inj hd
      rw [ed] at hf'
      have kp2 : Keep Φ.g H1 H2 := kp.trans (st2.keep k'.hand)
      have k2 := k'.step st2
      refine ⟨d, setNones env vs, _, k2.less, rd, hf', fun env1 σ1 q1 k3 ew => ⟨ew.trans (wipe_wipe σ vs), ?_⟩⟩
      · refine ⟨env1, _, fun _ => False, k3, q1, fun b H3 q3 s3 => ?_, WX1.no⟩
        have k3' := k2.step s3
        have st3 : Step Φ.g H1 H3 := (st.trans st2).trans s3
        have kp3 : Keep Φ.g H1 H3 := kp2.trans (s3.keep k2.hand)
        have hD3 : H3 D = some (.lst xs) := s3.same D _ nD (st2.same D _ nD hDx)
        have r3 : Reps Φ.g H3 xs acc := (r'.step st2 k'.hand).step s3 k2.hand
        cases b with
        | false => exact ⟨hlt, acc, xs, k3', hD3, r3, kp3, st3, q3⟩
        | true =>
          refine ⟨env1, _, fun _ => False, k3.step s3, q3, fun y v H4 q4 s4 ry => ?_, WX1.no⟩
          have k4 := k3'.step s4
          have hD4 : H4 D = some (.lst xs) := s4.same D _ nD hD3
          have r4 : Reps Φ.g H4 xs acc := r3.step s4 s3.hand
          have kq : Keep Φ.g H4 (upd H4 D (.lst (xs ++ [v]))) := keep_put hD4
          have rr : Reps Φ.g (upd H4 D (.lst (xs ++ [v]))) (xs ++ [v]) (acc ++ [y]) := (r4.append (.cons ry .nil)).keep kq
          have hlast : (setNones env vs ++ [some (L.ml acc)])[(setNones env vs).length]? = some (some (.ml acc)) := by simp
          have hlastσ : (L2.wipe σ vs ++ [some (V.ref D)])[(setNones env vs).length]? = some (some (.ref D)) := by rw [hl]; simp
          have kf := k4.put hlast hlastσ hD4 nD n0 (l := .ml (acc ++ [y])) ⟨D, xs ++ [v], rfl, nD, n0, upd_same, rr⟩ (fun _ _ => trivial)
          rw [set_last] at kf
          refine ⟨xs, hD4, by rw [r4.length]; exact q4.1, hlt, acc ++ [y], xs ++ [v], kf, upd_same, rr, kp3.trans ((s4.keep s3.hand).trans kq), ⟨fun b u n e => ?_, kf.hand⟩, q4.2⟩
          rw [upd_ne]
          · exact s4.same b u n (st3.same b u n e)
          · intro z
            subst z
            rw [hD] at e
            cases e
  · have ei : i = ds.length := by omega
    subst ei
    rw [List.drop_length] at hf'
    refine .inl ⟨W.stops H' kp, ?_⟩
    -- the heap without the list
    have eH : H' = upd (fun b => if b = D then none else H' b) D (.lst xs) := by
      funext b
      by_cases hb : b = D
      · subst hb; rw [upd_same]; exact hDx
      · rw [upd_ne hb, if_neg hb]
    have sub : ∀ b u, b ≠ D → H' b = some u → (if b = D then none else H' b) = some u := fun b u n e => by rw [if_neg n]; exact e
    have hh : HandAt Φ.g (fun b => if b = D then none else H' b) := by
      obtain ⟨⟨c, ns, i, r, t, e1, ⟨o, e2⟩, wd⟩, hm⟩ := k'.hand
      refine ⟨⟨c, ns, i, r, t, sub _ _ (Ne.symm nD) e1, ⟨o, sub _ _ (fun z => ?_) e2⟩, wd⟩, fun b hb => ?_⟩
      · subst z
        rw [hDx] at e2
        cases e2
      · have nb : b ≠ D := fun z => k1.hand.2 b hb (by rw [z]; exact hD)
        show (if b = D then none else H' b) ≠ none
        rw [if_neg nb]
        exact hm b hb
    have rr : Reps Φ.g (fun b => if b = D then none else H' b) xs acc := r'.keep ⟨fun b u n _ e => sub b u (fun z => by
      subst z
      rw [hDx] at e
      cases e
      exact n trivial) e, fun b hb _ => hh.2 b hb⟩
    rw [eH]
    refine w acc D xs _ hf' ⟨fun b u n e => ?_, hh⟩ (if_pos rfl) rr
    have e2 := (s1.trans st).same b u n e
    refine sub b u (fun z => ?_) e2
    subst z
    have e3 := s1.same b u n e
    rw [hD] at e3
    cases e3
theorem ok_lcL {elt tg iter : Expr} {ifs : List Expr} {scope : Scope} {own : List (Str × Nat)} {vs : List Nat} (hvs : own.map (·.2) = vs) {s : SmI} {g : SmG} {cnd : SmB} {e : Sm} (hc : X.calm = true) (hN : X.N.Nodup) (hi : PI X tg iter (tI Φ s)) (ok : BlkOk X.N X.env.scope scope own)
    (hg : ∀ (s : Shared) (H : Hp) (C : Addr) (cl : List (Str × Addr)) (fp : List Addr), PG (X.blk s H scope (compEnvC scope cl C X.env) fp) tg (tGw Φ.no vs g))
    (ht : ∀ (s : Shared) (H : Hp) (C : Addr) (cl : List (Str × Addr)) (fp : List Addr), PTs (X.blk s H scope (compEnvC scope cl C X.env) fp) ifs (tB Φ.no cnd))
    (he : ∀ (s : Shared) (H : Hp) (C : Addr) (cl : List (Str × Addr)) (fp : List Addr), PE (X.blk s H scope (compEnvC scope cl C X.env) fp) elt (tE Φ.no e))
    (hf : ∀ x : Value, foldedSetIterable iter X.env x = pure x) :
    PE X (elt.ListComp [{ target := tg, iter := iter, ifs := ifs, is_async := 0 }] scope pos) (tN Φ (vLcL s vs g cnd e)) := by
  have hp := pe_lc (pos := pos) hc hN hi ok hg ht he hf
  rw [hvs] at hp
  exact PE.imp hp fun σ H Q h => lcL_imp h
end
end Mw
end
section
set_option Elab.async false
set_option linter.all false
set_option autoImplicit false
set_option maxRecDepth 100000
set_option maxHeartbeats 200000
namespace Mw
open PySem PySem.Spec L2

theorem rich_one {prog : Program} {w : World} {A : Around} {E : Value → Shared → Prop} {s : Shared} {x y : Addr} {C C' : Addr} {op : CmpOp} {Q : Value → Shared → Prop} (hu : A.units < cLine)
    (ha : PySem.W.Looks (model prog w) s.heap (typeOf (.ref x)) (.ref C)) (hb : PySem.W.Looks (model prog w) s.heap (typeOf (.ref y)) (.ref C')) (hs : C' ≠ C → PySem.W.Looks (model prog w) s.heap (isSubtype (.ref C') (.ref C)) false)
    (one : wpAny (model prog w) A (tryCompare (.ref x) (cmpInfo op).2.1 (.ref y)) (fun r s' => ∃ v, r = some v ∧ Q v s') E s) : wpAny (model prog w) A (richCompare op (.ref x) (.ref y)) Q E s := by
  unfold richCompare
  refine wpAny_holding (wpAny_bind (wpAny_cRoomFor hu ?_))
  have e1 : oneThing? op (.ref x) (.ref y) = none := by rfl
  rw [e1]
  refine wpAny_bind (ha.here (wpAny_bind (hb.here ?_)))
  by_cases hc : C' = C
  · subst hc
    rw [if_neg (by simp)]
    refine wpAny_bind (wpAny_pure ?_)
    simp only [Bool.false_eq_true, if_false]
    refine wpAny_bind (wpAny_mono one ?_ (fun _ _ e => e))
    rintro r s' ⟨v, rfl, q⟩
    exact wpAny_pure q
  · rw [if_pos (by simp; exact fun z => hc z.symm)]
    refine wpAny_bind ((hs hc).here ?_)
    simp only [Bool.false_eq_true, if_false]
    refine wpAny_bind (wpAny_mono one ?_ (fun _ _ e => e))
    rintro r s' ⟨v, rfl, q⟩
    exact wpAny_pure q
section
variable {X : Cx} {k : Nat} {f : Addr} {fd : FuncData} {ps : List Str} {sp : Sp} {dvs : List V} {dus : List Value} {E : XK}
theorem run_fngA {A : Around} {pins : List (Addr × Obj)} {σ : L2.St} {H : Hp} {s : Shared} {Q : VK} {us : List Value} {vs : List V} (F : FnG X.prog X.w X.K X.mg X.base k f fd ps sp) (hg : A.guards = some []) (hr : Room k A) (hfr : A.frames = X.A.frames) (hb : Binds X.K fd ps dus) (hd : Vals dvs dus)
    (hx : PassesAt (L2N.CX X.prog X.w) X σ E) (I : L2.Inv X pins σ H s) (r : Vals vs us) (h : sp (vs ++ dvs) H Q E) : wpAny (model X.prog X.w) A (call (.ref f) us) (EP X pins σ Q) X.xe s := by
  have rr := r.append hd
  have hl : (us ++ dus).length = ps.length := rr.length.symm.trans (F.len _ _ _ _ h)
  have e := I.env0
  have e0 : Env0 X.prog X.w X.K X.mg X.base A X.stack s H := ⟨hfr.trans e.frames, e.mod, e.bs, e.bsz, e.funs, e.frf, e.hok, e.bare⟩
  refine wpAny_call (codeAny_mono (F.run A X.stack s H ⟨us, []⟩ (us ++ dus) (vs ++ dvs) Q E hg hr e0 (hb s us I.kIn hl) rr h) ?_)
  intro z s' hq
  match z, hq with
  | .error e, hq => exact hx pins H s e s' I hq
  | .ok (.ret u), hq => exact I.after hq
end

theorem Rep.insI {Γ : Gm} {H : Hp} {x : V} {c : Nat} {fs : List (Str × D)} (r : Rep Γ H x (.ins c fs)) : ∃ a dx ks xs ds, x = .ref a ∧ fs = List.zip ks ds ∧ H a = some (.ins (Γ.cls c) dx (List.zip ks xs)) ∧ Reps Γ H xs ds ∧ (¬ Γ.raw a ∧ Γ.kn c) := by
  generalize ed : D.ins c fs = d at r
  cases r
  case ins a dx c0 ks xs ds h m r =>
    cases ed
    exact ⟨a, dx, ks, xs, ds, rfl, rfl, h, r, m⟩
  all_goals cases ed
/-! ### == and != -/
def clEq (eqI : Nat → List (Str × D) → D → Option Bool) (c : Nat) : Cl := fun ds Q _ => ∃ fs o b, ds = [.ins c fs, o] ∧ eqI c fs o = some b ∧ Q (.bl b)
/-- what the written part says of a class with an own __eq__ -/
structure EqC (X : Cx) {ι : Type} (Γ : ι → Gm) (k : Nat) (eqI : Nat → List (Str × D) → D → Option Bool) (c : Nat) : Prop where
  fn : ∃ (C f : Addr) (fd : FuncData), (∀ hd, (Γ hd).cls c = C) ∧ FnG X.prog X.w X.K X.mg X.base k f fd ["self", "other"] (spD Γ (clEq eqI c) 2) ∧ PySem.W.findIn X.K (.ref C) "__eq__" = some (some (.ref f)) ∧ PySem.W.isFn X.K (.ref f) = true ∧ Binds X.K fd ["self", "other"] [] ∧
    ∃ nm q N bs hdct sn sub ab col dd k0 k1 k2 k3 k5 newId oN es ep oF, X.K.lookup C = some (excClassObj nm q C N bs [.type "object"] hdct sn sub ab col dd k0 k1 k2 k3 k5 newId) ∧ X.K.lookup N = some oN ∧ oN.data = Data.dict es ep ∧ StrKeys es ∧ nsFind es "__eq__" = some (.ref f) ∧ nsFind es "__ne__" = none ∧
      X.K.lookup f = some oF ∧ oF.cls = .type "function"
def rOwn (op : Bool → Bool) {ι : Type} (Γ : ι → Gm) (has : Nat → Prop) (eqI : Nat → List (Str × D) → D → Option Bool) : R2 := fun x y H Q => ∃ hd c c' fs gs b, HandAt (Γ hd) H ∧ has c ∧ has c' ∧ Rep (Γ hd) H x (.ins c fs) ∧ Rep (Γ hd) H y (.ins c' gs) ∧ eqI c fs (.ins c' gs) = some b ∧ ∀ H', Step (Γ hd) H H' → Q (.bl (op b)) H'
section
variable {X : Cx} {ι : Type} {Γ : ι → Gm} {k : Nat} {has : Nat → Prop} {eqI : Nat → List (Str × D) → D → Option Bool}
theorem op_own_eq (hc : ∀ c, has c → EqC X Γ k eqI c) (hn : ∀ c c' hd, has c → has c' → PySem.W.notFirst X.K ((Γ hd).cls c) (.ref ((Γ hd).cls c')) = true) (hg : X.A.guards = some []) (hr : Room (k + 1) X.A) {W : WX} (tk : L2N.Takes X W) : OpR X (compareOp .Eq) (rOwn (fun b => b) Γ has eqI) := by
  intro pins s σ H x y v u Q I rx ry hq
  obtain ⟨hd, c, c', fs, gs, b, hh, h1, h2, r1, r2, he, q⟩ := hq
  obtain ⟨C, f, fd, gC, F, fE, fI, hb, _⟩ := (hc c h1).fn
  have nf := hn c c' hd h1 h2
  have r1' := r1
  have r2' := r2
  obtain ⟨a, dx, ks, xs, ds, rfl, _, ha, rs, _⟩ := r1.insI
  obtain ⟨a', dx', ks', xs', ds', rfl, _, ha', rs', _⟩ := r2.insI
  obtain rfl : v = .ref a := rx
  obtain rfl : u = .ref a' := ry
  obtain ⟨mA, J, _⟩ := ins_get I.hok ha
  obtain ⟨mB, J', _⟩ := ins_get I.hok ha'
  obtain ⟨od, J, _⟩ := J.look
  obtain ⟨od', J', _⟩ := J'.look
  obtain ⟨m, hF⟩ := I.fr
  rw [gC hd] at J
  have key2 : wpAny (model X.prog X.w) X.A (call (.ref f) [.ref a, .ref a']) (PySem.W.CmpBack (EP X pins σ Q)) X.xe s := by
    refine wpAny_mono (?_ : wpAny (model X.prog X.w) X.A (call (.ref f) [.ref a, .ref a']) (EP X pins σ (fun v H' => (∃ b, v = .bl b) ∧ Q v H')) X.xe s) (fun r s' z => ?_) (fun _ _ e => e)
    · refine run_fngA (vs := [.ref a, .ref a']) (dvs := []) F hg (hr.mono (Nat.le_succ _)) rfl hb .nil (L2N.passAt tk σ) I (.cons rfl (.cons rfl .nil)) ?_
      refine ⟨rfl, hd, [_, _], (fun z => z = .bl b), fun _ => False, hh, .cons r1' (.cons r2' .nil), ⟨_, _, b, rfl, he, rfl⟩, fun d v H' qd st rv => ?_, fun _ _ _ _ z => z.elim⟩
      subst qd
      cases rv
      exact ⟨⟨b, rfl⟩, q H' st⟩
    · obtain ⟨v, H', I', rv, ⟨b', rfl⟩, qq⟩ := z
      obtain rfl : r = .bool b' := rv
      exact ⟨.bl b', H', I', rfl, qq⟩
  rw [gC hd] at nf
  have fE' : PySem.W.findIn X.K (Value.ref C) (cmpInfo .Eq).2.1 = some (some (.ref f)) := fE
  show wpAny (model X.prog X.w) X.A (richCompare .Eq (.ref a) (.ref a')) (EP X pins σ Q) X.xe s
  exact PySem.W.cmp_K (op := .Eq) hr.units0 hF I.ok.mod.kin J J'.type nf fE' fI key2
theorem op_own_ne (hc : ∀ c, has c → EqC X Γ k eqI c) (hn : ∀ c c' hd, has c → has c' → PySem.W.notFirst X.K ((Γ hd).cls c) (.ref ((Γ hd).cls c')) = true) (hg : X.A.guards = some []) (hr : Room (k + 1) X.A) {W : WX} (tk : L2N.Takes X W) : OpR X (compareOp .NotEq) (rOwn (fun b => !b) Γ has eqI) := by
  intro pins s σ H x y v u Q I rx ry hq
  obtain ⟨hd, c, c', fs, gs, b, hh, h1, h2, r1, r2, he, q⟩ := hq
  obtain ⟨C, f, fd, gC, F, fE, fI, hb, nm, qn, N, bs, hdct, sn, sub, ab, col, dd, k0, k1, k2, k3, k5, newId, oN, es, ep, oF, kC, kN, dN, sN, eE, eN, kF, cF⟩ := (hc c h1).fn
  have nf := hn c c' hd h1 h2
  obtain ⟨a, dx, ks, xs, ds, rfl, _, ha, rs, _⟩ := r1.insI
  obtain ⟨a', dx', ks', xs', ds', rfl, _, ha', rs', _⟩ := r2.insI
  obtain rfl : v = .ref a := rx
  obtain rfl : u = .ref a' := ry
  obtain ⟨mA, J, _⟩ := ins_get I.hok ha
  obtain ⟨mB, J', _⟩ := ins_get I.hok ha'
  obtain ⟨od, J, _⟩ := J.look
  obtain ⟨od', J', _⟩ := J'.look
  obtain ⟨m, hF⟩ := I.fr
  rw [gC hd] at J nf
  have kin : X.K.In s.heap := I.kIn
  have OE : s.heap.OwnEqNoNe a C f "object" [.type "object"] := ⟨_, oF, nm, qn, N, bs, hdct, sn, sub, ab, col, dd, k0, k1, k2, k3, k5, newId, fun name => nsFind es name, some (.builtin "object.__eq__"), J.at_, J.cls, kin _ _ kC, ⟨oN, es, ep, kin _ _ kN, dN, sN, fun _ => rfl⟩, eE, kin _ _ kF, cF, PySem.F.cmp_object.mro, PySem.F.cmp_object.eq.lookup, eN⟩
  have hsub : (Γ hd).cls c' ≠ C → PySem.W.Looks (model X.prog X.w) s.heap (isSubtype (.ref ((Γ hd).cls c')) (.ref C)) false := fun hne => by
    unfold PySem.W.notFirst at nf
    rw [Bool.or_eq_true] at nf
    rcases nf with z | z
    · have z' : Value.ref ((Γ hd).cls c') = Value.ref C := by simpa using z
      cases z'
      exact (hne rfl).elim
    · have z' : PySem.W.subIn X.K (.ref ((Γ hd).cls c')) (.ref C) = some false := by simpa using z
      exact PySem.W.looks_subIn kin z'
  have hcall : wpAny (model X.prog X.w) X.A.in1 (call (.ref f) [.ref a, .ref a']) (fun r s' => ∃ b, r = Value.bool b ∧ EP X pins σ Q (Value.bool !b) s') X.xe s := by
    refine wpAny_mono (?_ : wpAny (model X.prog X.w) X.A.in1 (call (.ref f) [.ref a, .ref a']) (EP X pins σ (fun v H' => ∃ b, v = .bl b ∧ Q (.bl (!b)) H')) X.xe s) (fun r s' z => ?_) (fun _ _ e => e)
    · refine run_fngA (A := X.A.in1) (vs := [.ref a, .ref a']) (dvs := []) F hg ⟨hr.hd, ?_, ?_⟩ rfl hb .nil (L2N.passAt tk σ) I (.cons rfl (.cons rfl .nil)) ?_
      · have := hr.dp; show X.A.depth + 3 * k + 5 < recursionLimit; omega
      · have := hr.un; show X.A.units + 1 + 16 * k + 200 < cLine; omega
      · refine ⟨rfl, hd, [_, _], (fun z => z = .bl b), fun _ => False, hh, .cons r1 (.cons r2 .nil), ⟨_, _, b, rfl, he, rfl⟩, fun d v H' qd st rv => ?_, fun _ _ _ _ z => z.elim⟩
        subst qd
        cases rv
        exact ⟨b, rfl, q H' st⟩
    · obtain ⟨v, H', I', rv, b', rfl, qq⟩ := z
      obtain rfl : r = .bool b' := rv
      exact ⟨b', rfl, .bl (!b'), H', I', rfl, qq⟩
  show wpAny (model X.prog X.w) X.A (richCompare .NotEq (.ref a) (.ref a')) (EP X pins σ Q) X.xe s
  refine rich_one (C := C) (C' := (Γ hd).cls c') hr.units0 J.type J'.type hsub ?_
  obtain ⟨hp, g, dr, t, os⟩ := s
  refine tryCompare_ne_ownEq PySem.F.cmp_object OE (by have := hr.un; omega) ?_
  refine wpAny_mono hcall (fun r s' z => ?_) (fun _ _ e => e)
  obtain ⟨b', e, qq⟩ := z
  exact ⟨b', e, _, rfl, qq⟩
end
end Mw
end
section
set_option Elab.async false
set_option linter.all false
set_option autoImplicit false
set_option maxRecDepth 100000
set_option maxHeartbeats 400000
namespace Mw
open PySem PySem.Spec L2

theorem zip_look {Γ : Gm} {H : Hp} {f : Str} {d : D} : ∀ {ks : List Str} {xs : List V} {ds : List D}, Reps Γ H xs ds → (List.zip ks ds).lookup f = some d → ∃ v, (List.zip ks xs).lookup f = some v ∧ Rep Γ H v d
  | [], _, _, _, e => by simp at e
  | _ :: _, _, _, .nil, e => by simp at e
  | k :: ks, _, _, .cons (v := v) (d := d0) q r, e => by
    rw [List.zip_cons_cons, List.lookup_cons] at e
    rw [List.zip_cons_cons, List.lookup_cons]
    cases h : (f == k) with
    | true =>
      simp only [h] at e
      cases e
      exact ⟨v, rfl, q⟩
    | false =>
      simp only [h] at e
      exact zip_look r e
section
variable {X : Cx} {Φ : Fm} {a b e : Expr} {sa sb : Sm} {pos : Pos}
/-- x.f -/
def fFld (has : Nat → Str → Prop) (f : Str) (d : D) (Q : PD) : Prop := ∃ c fs v, d = .ins c fs ∧ has c f ∧ fs.lookup f = some v ∧ Q v
def vFld (has : Nat → Str → Prop) (f : Str) (a : Sm) : Sm := fun env Q Qx => a env (fun d => fFld has f d Q) Qx
theorem ok_fld {has : Nat → Str → Prop} {f : Str} (hh : ∀ c, has c f → Cls X.K (Φ.g.cls c) ∧ NoAttr X.K (Φ.g.cls c) f) (he : PE X e (tE Φ sa)) (hb : attributeBase e f X.env (eval e X.env) = eval e X.env) : PE X (.Attribute e f pos) (tE Φ (vFld has f sa)) :=
  PE.imp (pe_fld he hb) fun σ H Q h => by
    obtain ⟨env, Qd, Qx, k, h, w, wx⟩ := h
    refine ⟨env, _, Qx, k, h, fun d v H1 q s1 r => ?_, wx⟩
    obtain ⟨c, fs, y, rfl, hc, hl, q⟩ := q
    obtain ⟨p, dx, ks, xs, ds, rfl, rfl, hp, rs, _⟩ := r.insI
    obtain ⟨u, hu, ru⟩ := zip_look rs hl
    obtain ⟨c1, c2⟩ := hh c hc
    exact ⟨p, _, dx, _, u, rfl, hp, c1, c2, hu, w _ _ _ q s1 ru⟩

theorem OpR.or {op : Value → Value → Sem Value} {r1 r2 : R2} (h1 : OpR X op r1) (h2 : OpR X op r2) : OpR X op (fun x y H Q => r1 x y H Q ∨ r2 x y H Q) := fun pins s σ H x y v u Q I rx ry h => h.elim (h1 pins s σ H x y v u Q I rx ry) (h2 pins s σ H x y v u Q I rx ry)
theorem Serves2.or {r1 r2 : R2} {f1 f2 : D → D → PD → Prop} (h1 : Serves2 Φ r1 f1) (h2 : Serves2 Φ r2 f2) : Serves2 Φ (fun x y H Q => r1 x y H Q ∨ r2 x y H Q) (fun x y Q => f1 x y Q ∨ f2 x y Q) := fun x y d e H Qd Q hh rx ry hf w => hf.elim (fun z => .inl (h1 x y d e H Qd Q hh rx ry z w)) (fun z => .inr (h2 x y d e H Qd Q hh rx ry z w))
def fOwn (op : Bool → Bool) (has : Nat → Prop) (eqI : Nat → List (Str × D) → D → Option Bool) (x y : D) (Q : PD) : Prop := ∃ c c' fs gs b, x = .ins c fs ∧ y = .ins c' gs ∧ has c ∧ has c' ∧ eqI c fs y = some b ∧ Q (.bl (op b))
theorem RepB.ofIns {Γ : Gm} {H : Hp} {v : V} {c : Nat} {fs : List (Str × D)} (r : RepB Γ H v (.ins c fs)) : Rep Γ H v (.ins c fs) := by
  generalize e : D.ins c fs = d at r
  cases r
  case ins h m r => cases e; exact .ins h m r
  all_goals cases e
theorem sv_own {op : Bool → Bool} {ι : Type} {Γ : ι → Gm} {ix : ι} {has : Nat → Prop} {eqI : Nat → List (Str × D) → D → Option Bool} (hΓ : Φ.g = Γ ix) : Serves2 Φ (rOwn op Γ has eqI) (fOwn op has eqI) := fun x y d e H Qd Q hh rx ry hf w => by
  obtain ⟨c, c', fs, gs, b, rfl, rfl, h1, h2, he, q⟩ := hf
  refine ⟨ix, c, c', fs, gs, b, by rw [← hΓ]; exact hh, h1, h2, by rw [← hΓ]; exact rx.ofIns, by rw [← hΓ]; exact ry.ofIns, he, fun H' st => .inl (w _ _ _ q ?_ (.bl _))⟩
  rw [← hΓ] at st
  exact st

/-! ### C(..) -/
def spInit (C : Addr) (ks : List Str) : Sp := fun vs H Q _ => ∃ x dx xs, vs = .ref x :: xs ∧ xs.length = ks.length ∧ H x = some (.ins C dx []) ∧ Q .non (upd H x (.ins C dx (List.zip ks xs)))
def vMake (c : Nat) (ks : List Str) (ss : Sms) : Sm := fun env Q Qx => ss env (fun ds => ds.length = ks.length ∧ Q (.ins c (List.zip ks ds))) Qx
theorem ok_make {es : List Expr} {ss : Sms} {CX : CXT} {k : Nat} {f C : Addr} {fd : FuncData} {ps : List Str} {c : Nat} {ks : List Str} {x : Str} {p : Pos} (gC : Φ.g.cls c = C) (hkn : Φ.g.kn c) (M : Mk X.K C f) (F : FnOk X.prog X.w X.K X.mg X.base CX k f fd ps (spInit C ks)) (hr : Room (k + 1) X.A) (hg : Gl X x) (hm : X.mg x = some (.ref C)) (hb : Binds X.K fd ps [])
    (hx : Passes CX X (fun _ _ _ => False)) (ha : PA X (e :: es) (tA Φ ss)) (hd : (x == ("__debug__" : Str)) = false) (he : starEach (e :: es) X.env = (false, eval e X.env) :: starEach es X.env) (hpl : (backTo pos (starEach es X.env)).any (·.1) = false) :
    PE X (.Call (.Name x p) (e :: es) [] pos) (tE Φ (vMake c ks ss)) := PE.imp (pe_make M F hr hg hm hb .nil hx ha hd he hpl) fun σ H Q h => by
  obtain ⟨env, Qd, Qx, k, h, w, wx⟩ := h
  refine ⟨env, _, Qx, k, h, fun ds vs H1 q s1 r => fun x dx hx hdx ne => ?_, wx⟩
  refine ⟨x, dx, vs, by rw [List.append_nil], by rw [r.length]; exact q.1, upd_same, rfl, ?_⟩
  have kk : ∀ b u, H1 b = some u → upd (upd (upd H1 dx (.own x)) x (.ins C dx [])) x (.ins C dx (List.zip ks vs)) b = some u := fun b u e => by
    have n1 : b ≠ x := ne_of_none e hx
    have n2 : b ≠ dx := ne_of_none e hdx
    rw [upd_ne n1, upd_ne n1, upd_ne n2]
    exact e
  have st := Step.ext kk s1.hand
  exact w _ _ _ q.2 (s1.trans st) (.ins (by rw [gC]; exact upd_same) ⟨fun z => s1.hand.2 x z hx, hkn⟩ (r.step st s1.hand))

/-! ### isinstance -/
/-- what a class must tell so that its instances' type can be read -/
structure TyC (K : PySem.W.Frag) (C : Addr) : Prop where
  cl : Cls K C
  a : PySem.W.findIn K (.ref C) "__class__" = some (some (.builtin "object.__class__"))
  b : PySem.W.specialIn K (.builtin "object.__class__") "__get__" = some (some (.builtin "getset_descriptor.__get__"))
  c : PySem.W.takesIn K (.builtin "object.__class__") = some true
  d : PySem.W.mroIn K C (.type "object") = some true
def tyD (Γ : Gm) : D → Value
  | .non => .type "NoneType"
  | .bl _ => .type "bool"
  | .int _ => .type "int"
  | .str _ => .type "str"
  | .tup _ => .type "tuple"
  | .lst _ => .type "list"
  | .hand => .type "list"
  | .dct _ => .type "dict"
  | .ins c _ => .ref (Γ.cls c)
theorem RepB.ty {Γ : Gm} {H : Hp} {v : V} {d : D} (hc : ∀ c fs, d = .ins c fs → TyC Γ.K (Γ.cls c)) (hh : HandAt Γ H) (r : RepB Γ H v d) : TyX Γ.K H v (tyD Γ d) := by
  cases r
  case non => exact .base .non
  case bl => exact .base (.bl _)
  case int => exact .base (.int _)
  case str => exact .base (.str _)
  case tup q r =>
    rcases q with (q | ⟨o, q⟩) | ⟨o, its, n, q, cq, _⟩
    · exact .base (.tup q)
    · exact .fTuple q
    · exact .kTuple q cq
  case lst q r =>
    rcases q with ⟨o, q⟩ | ⟨_, q⟩
    · exact .base (.frz q)
    · exact .base (.lst q)
  case hand => obtain ⟨xs, hx⟩ := hh.lst; exact .base (.lst hx)
  case ins q m r => have T := hc _ _ rfl; exact .base (.ins q T.cl T.a T.b T.c T.d)
def vIsi (ans : D → Option Bool) (a : Sm) : Sm := fun env Q Qx => a env (fun d => ∃ b, ans d = some b ∧ Q (.bl b)) Qx
theorem ok_isi {ans : D → Option Bool} {c : V} {u : Value} {p : Pos} (hK : X.K = Φ.g.K) (hg : Gl X "isinstance") (hm : X.mg "isinstance" = none) (hv : bootBuiltins "isinstance" = some (.builtin "isinstance")) (he : PE X e (tR Φ sa)) (hc : PE X b (tC c)) (kc : ClsV c u)
    (hans : ∀ d k, ans d = some k → PySem.W.kitOne Φ.g.K (tyD Φ.g d) u = some k ∧ ∀ c fs, d = .ins c fs → TyC Φ.g.K (Φ.g.cls c))
    (hst : starEach [e, b] X.env = (false, eval e X.env) :: starEach [b] X.env) (hst2 : starEach [b] X.env = [(false, eval b X.env)]) (hpl : (backTo pos (starEach [b] X.env)).any (·.1) = false) : PE X (.Call (.Name "isinstance" p) [e, b] [] pos) (tE Φ (vIsi ans sa)) :=
  PE.imp (pe_callB call_isi hg hm hv (pa_cons he (pa_cons hc pa_nil hst2) hst) (by decide) (by decide) hst hpl) fun σ H Q h => by
    obtain ⟨env, Qd, Qx, k, h, w, wx⟩ := h
    refine ⟨env, _, Qx, k, h, fun d v H1 q s1 r => ?_, wx⟩
    obtain ⟨b, ha, q⟩ := q
    obtain ⟨k1, k2⟩ := hans d b ha
    exact ⟨v, c, _, u, b, rfl, kc, by rw [hK]; exact r.ty k2 s1.hand, by rw [hK]; exact k1, w _ _ _ q s1 (.bl b)⟩
end
end Mw
end
section
set_option Elab.async false
set_option linter.all false
set_option autoImplicit false
set_option maxRecDepth 100000
set_option maxHeartbeats 1000000
namespace Mw
open PySem PySem.Spec L2
open PyProof.Rows (IntsAre)
open PyProof.Rows

theorem law_callG {P : Program} {w : World} {K : PySem.W.Frag} {mg mb : Str → Option Value} {k : Nat} {fa a : Addr} {fd : FuncData} {x : Str} {sp : Sp} {s₁ : Shared} {vs : List Value} {ns : List Int} (KX : K.In s₁.heap) (hns : s₁.heap.Ns mainGlobals mg) (hb : s₁.heap.Ns builtinsNs mb)
    (hbb : ∀ x : Str, x ≠ "__name__" → mb x = bootBuiltins x) (hlim : s₁.heap.NoLimit) (hg : s₁.gens = #[]) (ha : s₁.heap.get? a = some { cls := .type "list", data := .seq vs.toArray }) (hi : IntsAre vs ns) (hl : ns.length ≤ sizeLine) (hr : Room k callerA)
    (F : ∀ base : Heap, K.In base → base.Ns mainGlobals mg → FnG P w K mg base k fa fd [x] sp) (hbind : ∀ (s : Shared) (u : Value), BindsTo s fd { pos := [u] } [(x, u)])
    (hsp : ∀ H : Hp, Only H → SqL K H a (ns.map V.int) → sp [.ref a] H (fun v _ => v = .bl true) (fun _ _ _ => False)) :
    codeAny (model P w) callerA (.call (.ref fa) { pos := [.ref a] }) (fun r s' => r = .ok (.ret (.bool true)) ∧ OldK s₁.heap s'.heap ∧ s'.os = s₁.os ∧ AllBare s'.gens) s₁ := by
  have rv := vals_ints hi
  have lenV := hi.length
  have core : ∀ H : Hp, Only H → SqL K H a (ns.map V.int) → HOk P w H s₁.heap → (∀ b, H b ≠ none → b = a) → (H a ≠ none → K.lookup a = none) →
      codeAny (model P w) callerA (.call (.ref fa) { pos := [.ref a] }) (fun r s' => r = .ok (.ret (.bool true)) ∧ OldK s₁.heap s'.heap ∧ s'.os = s₁.os ∧ AllBare s'.gens) s₁ := by
    intro H hO hS hok hA hK
    have base_of : ∀ {b : Addr} {o : Obj}, s₁.heap.get? b = some o → H b = none → (hidT s₁.heap H).get? b = some o := fun e n => hidT_get e n
    have noA : ∀ {b : Addr} {o : Obj} {es : Array DictEntry} {ep : Nat}, s₁.heap.get? b = some o → o.data = .dict es ep → H b = none := by
      intro b o es ep e d
      cases q : H b with
      | none => rfl
      | some u =>
        have e' := hA b (by rw [q]; simp)
        subst e'
        rw [ha] at e
        cases e
        cases d
    have nsK : ∀ {b : Addr} {m : Str → Option Value}, s₁.heap.Ns b m → (hidT s₁.heap H).Ns b m := by
      rintro b m ⟨o, es, ep, e, d, r⟩
      exact ⟨o, es, ep, base_of e (noA e d), d, r⟩
    have hKb : K.In (hidT s₁.heap H) := by
      intro b o e
      refine base_of (KX b o e) ?_
      cases q : H b with
      | none => rfl
      | some u =>
        have e' := hA b (by rw [q]; simp)
        subst e'
        have z := hK (by rw [q]; simp)
        rw [z] at e
        cases e
    have hM : L2.Mod K mg (hidT s₁.heap H) := { kin := hKb, glob := nsK hns, blt := ⟨mb, nsK hb, hbb⟩, nolimit := (let ⟨mc, h1, h2⟩ := hlim; ⟨mc, nsK h1, h2⟩) }
    have e0 : Env0 P w K mg (hidT s₁.heap H) callerA [] s₁ H := { frames := rfl, mod := hM, bs := fun b o e => of_hidT e, bsz := Nat.le_of_eq (hidT_size s₁.heap H), funs := trivial, frf := fun b hb => (List.not_mem_nil hb).elim, hok := hok, bare := AllBare.of_eq hg }
    refine codeAny_mono ((F (hidT s₁.heap H) hKb (nsK hns)).run callerA [] s₁ H { pos := [.ref a] } [.ref a] [.ref a] (fun v _ => v = .bl true) (fun _ _ _ => False) rfl hr e0 (hbind s₁ (.ref a)) (.cons rfl .nil) (hsp H hO hS)) ?_
    intro r s' h
    cases r with
    | error e =>
      obtain ⟨_, _, _, _, _, _, _, _, _, _, _, _, z⟩ := (h : L2N.CX P w [] H s₁ (fun _ _ _ => False) e s')
      exact z.elim
    | ok fl =>
      cases fl with
      | ret u =>
        obtain ⟨v, H', os, bare, un, hok', r', q⟩ := h
        subst q
        obtain rfl : u = .bool true := r'
        refine ⟨rfl, OldK.of_keep fun b o e => ?_, os, bare⟩
        cases q : H b with
        | none => exact un.keep b o e q (List.not_mem_nil) (List.not_mem_nil)
        | some u =>
          rcases hO b with z | ⟨ob, ys, z⟩
          · rw [q] at z; cases z
          · have g1 := (hok b _ z).1
            have g2 := (hok' b _ (un.frzs b ob _ z)).1
            rw [e] at g1
            cases g1
            exact g2
      | next => exact h.elim
      | brk => exact h.elim
      | cont => exact h.elim
  cases hk : K.lookup a with
  | none =>
    refine core (fun b => if b = a then some (.frz { cls := .type "list", data := .seq vs.toArray } (.lst (ns.map V.int))) else none) ?_ ?_ ?_ ?_ (fun _ => hk)
    · intro b
      by_cases hb : b = a
      · exact .inr ⟨_, _, if_pos hb⟩
      · exact .inl (if_neg hb)
    · exact .inl (.inr ⟨_, if_pos rfl⟩)
    · intro b u z
      by_cases hb : b = a
      · subst hb
        have z' := (if_pos rfl).symm.trans z
        cases z'
        refine ⟨ha, ?_, vs, 0, rv, ha⟩
        rw [List.length_map]; exact hl
      · have z' := (if_neg hb).symm.trans z
        cases z'
    · intro b z
      by_cases hb : b = a
      · exact hb
      · exact absurd (if_neg hb) z
  | some o =>
    have e := KX a o hk
    rw [ha] at e
    cases e
    refine core (fun _ => none) (fun _ => .inl rfl) (.inr ⟨_, vs.toArray, 0, hk, rfl, rfl, rfl, ?_, rv⟩) (fun b u z => by cases z) (fun b z => absurd rfl z) (fun z => absurd rfl z)
    rw [List.size_toArray, lenV]
    exact hl
theorem walk_ofG {l : PySem.W.OpenLaw} {n k : Nat} {q : Program} {loose : List Str} {XP : (Str → Option Value) → Heap → Prop} {YP : World → Heap → Prop} {d : DefRec} {K : Params → PySem.W.Frag} {sp : World → Sp} {x : Str} (hn : l.most = some n) (hn2 : n ≤ sizeLine) (hdf : d.params.defaults = []) (hr : Room k callerA)
    (hY : ∀ (w : World) (h : Heap), YP w h → (K w.params).In h)
    (F : ∀ (w : World) (mg : Str → Option Value) (fa : Addr) (h : Heap), (K w.params).In h → h.Ns mainGlobals mg → mg d.name = some (.ref fa) → ∃ fd, (∀ (s : Shared) (u : Value), BindsTo s fd { pos := [u] } [(x, u)]) ∧ ∀ base : Heap, (K w.params).In base → base.Ns mainGlobals mg → FnG l.prog w (K w.params) mg base k fa fd [x] (sp w))
    (hsp : ∀ (w : World) (H : Hp) (a : Addr) (ns : List Int), ns.length ≤ n → Only H → SqL (K w.params) H a (ns.map V.int) → sp w [.ref a] H (fun v _ => v = .bl true) (fun _ _ _ => False)) :
    PySem.W.WalkO q loose XP YP l.row.toRowW d [] fun f vs => call f vs :=
  Att.attach_call hn hdf fun w s₀ s₁ mg mb fa o pm cd doc a vs ns G Y ho hd hcd hmg hobj hints hlen hg => by
    have KX := hY w s₁.heap Y
    obtain ⟨fd, hb, hF⟩ := F w mg fa s₁.heap KX G.T.g hmg
    exact law_callG KX G.T.g G.T.b G.T.builtins G.T.nolimit hg hobj hints (Nat.le_trans hlen hn2) hr hF hb (fun H hO hS => hsp w H a ns hlen hO hS)
end Mw
end
section
set_option Elab.async false
set_option linter.all false
set_option autoImplicit false
set_option maxRecDepth 100000
set_option maxHeartbeats 1000000
namespace Mw
open PySem PySem.Spec L2
open PyProof.Rows (envOfC)

def env0 (N : List Str) (ds : List D) : En := ds.map (fun d => some (.d d)) ++ List.replicate (N.length - ds.length) none
theorem sok_start {c : Cm} {H : Hp} {N : List Str} {vs : List V} {ds : List D} (hc : c.H0 = H) (hh : HandAt c.g H) (r : Reps c.g H vs ds) : SOK c (env0 N ds) (L2.start N vs) H := by
  have hl := r.length
  have noml : ∀ (i : Nat) (es : List D), (env0 N ds)[i]? ≠ some (some (.ml es)) := fun i es e => by
    unfold env0 at e
    by_cases hi : i < ds.length
    · rw [List.getElem?_append_left (by simpa using hi)] at e
      simp [hi] at e
    · rw [List.getElem?_append_right (by simpa using Nat.le_of_not_lt hi)] at e
      rw [List.getElem?_replicate] at e
      split at e <;> cases e
  refine ⟨hh, fun b u _ e => by rw [← hc]; exact e, ?_, fun i l e => ?_, fun i j p es fs n e1 => (noml i es e1).elim⟩
  · unfold env0 L2.start
    simp [hl]
  · unfold env0 at e
    by_cases hi : i < ds.length
    · rw [List.getElem?_append_left (by simpa using hi)] at e
      rw [List.getElem?_map, List.getElem?_eq_getElem hi] at e
      cases e
      obtain ⟨v, h1, h2⟩ := r.get (List.getElem?_eq_getElem hi)
      refine ⟨v, ?_, h2⟩
      unfold L2.start
      rw [List.getElem?_append_left (by rw [List.length_map, hl]; exact hi), List.getElem?_map, h1]
      rfl
    · rw [List.getElem?_append_right (by simpa using Nat.le_of_not_lt hi)] at e
      rw [List.getElem?_replicate] at e
      split at e <;> cases e
/-- the frame of a def's run -/
def FmOf (g : Gm) (H : Hp) (W : WX) : Fm := ⟨⟨g, H, none⟩, W⟩
/-- what is wanted of a def's body -/
def seD (Qd : PD) (Qx : PX) : SE := ⟨fun _ => Qd .non, Qd, fun _ => False, fun _ => False, fun x _ => Qx x⟩
section
variable {P : Program} {w : World} {K : PySem.W.Frag} {mg : Str → Option Value} {base : Heap} {k n : Nat} {f : Addr} {fd : FuncData} {x qual : Str} {st : Stmt} {N ps : List Str} {ι : Type} {Γ : ι → Gm} {cl : Cl} {s : SmS}
/-- where a def that raises nothing runs -/
abbrev XD (P : Program) (w : World) (K : PySem.W.Frag) (mg : Str → Option Value) (base : Heap) (N : List Str) (qual : Str) (sc : Scope) (f : Addr) (cdv : Value) (A : Around) (outer : List PySem.Env) (s0 : Shared) (H : Hp) (E : XK) : Cx := (cxOf (L2N.CX P w) P w K mg base N qual sc f cdv A outer s0 H E).nox
theorem takesN {X : Cx} : L2N.Takes X noW := fun _ _ x => by
  obtain ⟨_, _, _, _, _, _, _, _, _, _, _, _, _, _, _, _, z⟩ := x
  exact z.elim
/-- THE RULE over data, nothing raised -/
theorem fngD (F : Fun K x qual st f fd) (S : FnScope N ps (defScope st)) (hn : ps.length = n)
    (hb : ∀ (hd : ι) (H : Hp) (A : Around) (outer : List PySem.Env) (s0 : Shared) (E : XK) (cdv : Value), (A.deeper (envOfC qual (defScope st) s0.heap.objs.size f cdv)).guards = some [] → Room k (A.deeper (envOfC qual (defScope st) s0.heap.objs.size f cdv)) →
      PSs (XD P w K mg base N qual (defScope st) f cdv A outer s0 H E) (defBody st) (tS (FmOf (Γ hd) H noW) s))
    (hs : ∀ ds Qd Qx, ds.length = n → cl ds Qd Qx → s (env0 N ds) (seD Qd fun _ => False)) : FnG P w K mg base (k + 1) f fd ps (spD Γ cl n) := by
  obtain ⟨⟨oc, od, kV, doc, pm, an, cdv, ct, osl, rfl, lk, hcd⟩, kp⟩ := F
  refine fng_of lk hcd S (fun vs H Q E h => by rw [hn]; exact h.1) fun A outer sh H vs Q E hg hr h => ?_
  obtain ⟨hl, hd, ds, Qd, Qx, hh, r, hcl, hq, hx⟩ := h
  refine ⟨_, PSs.nox (hb hd H A outer sh E cdv (guards_deeper hg) hr), ?_⟩
  refine ⟨_, seD Qd fun _ => False, sok_start rfl hh r, hs ds Qd Qx (by rw [← r.length]; exact hl) hcl, ⟨fun env σ H' q _ k => ?_, fun d v H' q _ st rv => hq d v H' q st rv, fun _ _ _ q => q.elim, fun _ _ _ q => q.elim, fun xx env t dd σ H' q _ k xr => q.elim⟩⟩
  exact hq .non .non H' q k.st .non
end

/-! ### short words -/
section
variable {X : Cx} {Φ : Fm} {a b e : Expr} {sa sb : Sm} {pos : Pos}
theorem lv (i : Nat) {x : Str} (hN : X.N[i]? = some x := by rfl) (hv : Vis X.env.scope x := by first | exact .inl rfl | exact .inr (.inl rfl) | exact .inr (.inr rfl)) (hd : (x == ("__debug__" : Str)) = false := by decide) (hcd : (x == ("__classdict__" : Str)) = false := by decide) : PE X (.Name x pos) (tE Φ (vLoc i)) := ok_loc hN hv hd hcd
theorem lm (i : Nat) {x : Str} (hN : X.N[i]? = some x := by rfl) (hv : Vis X.env.scope x := by first | exact .inl rfl | exact .inr (.inl rfl) | exact .inr (.inr rfl)) (hd : (x == ("__debug__" : Str)) = false := by decide) (hcd : (x == ("__classdict__" : Str)) = false := by decide) : PE X (.Name x pos) (tR Φ (vMl i)) := ok_ml hN hv hd hcd
theorem ac {es : List Expr} {s : Sm} {ss : Sms} (ha : PE X e (tE Φ s)) (hr : PA X es (tA Φ ss)) (hs : starEach (e :: es) X.env = (false, eval e X.env) :: starEach es X.env := by rfl) : PA X (e :: es) (tA Φ (vCons s ss)) := oka_cons ha hr hs
theorem rc {es : List Expr} {s : Sm} {ss : Sms} (ha : PE X e (tR Φ s)) (hr : PA X es (tAR Φ ss)) (hs : starEach (e :: es) X.env = (false, eval e X.env) :: starEach es X.env := by rfl) : PA X (e :: es) (tAR Φ (vCons s ss)) := okr_cons ha hr hs
theorem OpR.lk {op : Value → Value → Sem Value} {r : R2} (h : OpR X op r) : OpR X op (fun x y H Q => r x y H (Lk Q)) := fun pins s σ H x y v u Q I rx ry q => wpAny_mono (h pins s σ H x y v u (Lk Q) I rx ry q) (fun _ _ z => EP.lk z) fun _ _ z => z
/-- a comparison as a test -/
theorem tcmp {op : CmpOp} {r : R2} {f : D → D → PD → Prop} (ho : OpR X (compareOp op) r) (hs : Serves2 Φ r f) (hb1 : ∀ x y Q, f x y Q → f x y fun d => Q d ∧ ∃ c, d = .bl c) (ha : PE X a (tR Φ sa)) (hb : PE X b (tR Φ sb)) (hk : behindInMarks op b = false) : PT X (.Compare a [op] [b] pos) (tB Φ (bOf (vBin f sa sb))) := by
  refine PT.imp (pt_cmpR (OpR.lk ho) ha hb hk) fun σ H Q h => ?_
  obtain ⟨env, Qd, Qx, k, h, w, wx⟩ := h
  refine ⟨env, _, Qx, k, h, fun d x H1 h1 s1 r1 => ?_, wx⟩
  refine ⟨env, _, Qx, k.step s1, h1, fun d2 y H2 h2 s2 r2 => ?_, wx.step s1⟩
  have st := s1.trans s2
  refine hs x y d d2 H2 _ _ st.hand (r1.step s2 s1.hand) r2 (hb1 _ _ _ h2) fun z v H' q s rz => ?_
  obtain ⟨⟨k, hk, q⟩, c, rfl⟩ := q
  cases hk
  cases rz
  exact ⟨_, rfl, w _ H' q (st.trans s)⟩
theorem fEq_b (x y : D) (Q : PD) (h : fEq x y Q) : fEq x y fun d => Q d ∧ ∃ c, d = .bl c := ⟨h.1, h.2.1, h.2.2, _, rfl⟩
theorem fNe_b (x y : D) (Q : PD) (h : fNe x y Q) : fNe x y fun d => Q d ∧ ∃ c, d = .bl c := ⟨h.1, h.2.1, h.2.2, _, rfl⟩
theorem fOwn_b {op : Bool → Bool} {has : Nat → Prop} {eqI : Nat → List (Str × D) → D → Option Bool} (x y : D) (Q : PD) (h : fOwn op has eqI x y Q) : fOwn op has eqI x y fun d => Q d ∧ ∃ c, d = .bl c :=
  let ⟨c, c', fs, gs, b, h1, h2, h3, h4, h5, q⟩ := h; ⟨c, c', fs, gs, b, h1, h2, h3, h4, h5, q, _, rfl⟩
theorem tne (hK : X.K = Φ.g.K) (hu : X.A.units + 65 < cLine) (ha : PE X a (tR Φ sa)) (hb : PE X b (tR Φ sb)) : PT X (.Compare a [.NotEq] [b] pos) (tB Φ (bOf (vBin fNe sa sb))) := tcmp (op_neD (by omega)) (sv_ne hK) fNe_b ha hb (nomark _)
theorem teq (hK : X.K = Φ.g.K) (hu : X.A.units + 65 < cLine) (ha : PE X a (tR Φ sa)) (hb : PE X b (tR Φ sb)) : PT X (.Compare a [.Eq] [b] pos) (tB Φ (bOf (vBin fEq sa sb))) := tcmp (op_eqD (by omega)) (sv_eq hK) fEq_b ha hb (nomark _)
/-- a product of ints -/
def fMulI (x y : D) (Q : PD) : Prop := ∃ i j, x = .int i ∧ y = .int j ∧ CMul i j ∧ Q (.int (i * j))
theorem ok_mulI (ha : PE X a (tR Φ sa)) (hb : PE X b (tR Φ sb)) : PE X (.BinOp a .Mult b pos) (tE Φ (vBin fMulI sa sb)) := ok_bin op_mul (sv_int (fun i j H => .int _) fun d e Q h => h) ha hb
theorem okw_or1 {t : SmB} (h : PT X a (tB Φ t)) : PW X (.BoolOp .Or [a] pos) (tB Φ t) := pw_or1 h
theorem okw_and1 {t : SmB} (h : PT X a (tB Φ t)) : PW X (.BoolOp .And [a] pos) (tB Φ t) := pw_and1 h
end
end Mw
end
section
set_option Elab.async false
set_option linter.all false
set_option autoImplicit false
set_option maxRecDepth 100000
set_option maxHeartbeats 1000000
namespace Mw
open PySem PySem.Spec L2
section
variable {X : Cx} {Φ : Fm} {ι : Type} {Γ : ι → Gm} {ix : ι} {cl : Cl} {k : Nat} {f : Addr} {fd : FuncData} {x : Str} {p pos : Pos} {e a b : Expr} {es : List Expr} {ss : Sms} {sa sb : Sm}
theorem ok_call0 (hΓ : Φ.g = Γ ix) (tk : L2N.Takes X Φ.W) (F : FnG X.prog X.w X.K X.mg X.base k f fd [] (spD Γ cl 0)) (hgd : X.A.guards = some []) (hr : Room k X.A) (hg : Gl X x) (hm : X.mg x = some (.ref f)) (hk : PySem.W.keepIn X.K (.ref f) = true)
    (hb : Binds X.K fd [] []) (hdb : (x == ("__debug__" : Str)) = false) : PE X (.Call (.Name x p) [] [] pos) (tE Φ (vCall cl [] vNil)) := by
  refine PE.imp (pe_fng0 F hgd hr hg hm hk hb .nil (fun σ => L2N.passAt tk σ) hdb) fun σ H Q h => ?_
  obtain ⟨env, Qd, Qx, kk, h, w, wx⟩ := h
  refine ⟨rfl, ix, [], Qd, Qx, by rw [← hΓ]; exact kk.hand, .nil, h, fun d v H' q s r => ?_, fun xx t dd H' q s r => ?_⟩
  · rw [← hΓ] at s r
    exact w d v H' q s r
  · rw [← hΓ] at s r
    exact wx.x xx t dd H' q s r
theorem ok_newl (h : PA X es (tA Φ ss)) : PE X (.List es pos) (tN Φ (fun env Q Qx => ss env (fun ds => ds.length ≤ sizeLine ∧ Q ds) Qx)) := PE.imp (pe_lst h) fun σ H Q h => by
  obtain ⟨env, Qd, Qx, k, h, w, wx⟩ := h
  exact ⟨env, _, Qx, k, h, fun ds vs H1 h1 s1 r1 => ⟨by rw [r1.length]; exact h1.1, fun p hp => w ds p vs H1 h1.2 s1 hp r1⟩, wx⟩
/-- list(x), the name's own -/
def nList (a : Sm) : SmL := fun env Q Qx => a env (fun d => seqI d Q) Qx
theorem ok_newlist (hK : X.K = Φ.g.K) (hg : Gl X "list") (hm : X.mg "list" = none) (hv : bootBuiltins "list" = some (.type "list")) (ha : PE X a (tR Φ sa)) (hs : starEach [a] X.env = [(false, eval a X.env)] := by rfl) (hpl : (backTo pos (starEach ([] : List Expr) X.env)).any (·.1) = false := by rfl) :
    PE X (.Call (.Name "list" p) [a] [] pos) (tN Φ (nList sa)) := PE.imp (pe_callTy call_list_of hg hm hv (pa_cons ha pa_nil hs) (by decide) (by decide) hs hpl) fun σ H Q h => by
  obtain ⟨env, Qd, Qx, k, h, w, wx⟩ := h
  refine ⟨env, _, Qx, k, h, fun d v H1 q s1 r => ?_, wx⟩
  cases r
  case lst p xs ds q1 r => exact ⟨p, xs, rfl, .inl (by rw [hK]; exact q1.sq), fun l hl => w ds l xs H1 q s1 hl r⟩
  case tup p xs ds q1 r => exact ⟨p, xs, rfl, .inr (by rw [hK]; exact q1), fun l hl => w ds l xs H1 q s1 hl r⟩
  all_goals exact q.elim
/-- texts -/
def fNeS : D → D → PD → Prop
  | .str x, .str y, Q => Q (.bl (!decide (x = y)))
  | _, _, _ => False
theorem sv_neS : Serves2 Φ rNe fNeS := by
  intro x y d e H Qd Q a rx ry h w
  cases rx <;> cases ry <;> try exact h.elim
  case str.str u v =>
    refine ⟨rfl, .inl (w _ _ _ h (Step.refl a) ?_)⟩
    have e : decide (V.str u = V.str v) = decide (u = v) := by simp
    rw [e]
    exact .bl _
theorem fNeS_b (x y : D) (Q : PD) (h : fNeS x y Q) : fNeS x y fun d => Q d ∧ ∃ c, d = .bl c := by
  cases x <;> cases y <;> try exact h.elim
  exact ⟨h, _, rfl⟩
theorem tneS (ha : PE X a (tR Φ sa)) (hb : PE X b (tR Φ sb)) : PT X (.Compare a [.NotEq] [b] pos) (tB Φ (bOf (vBin fNeS sa sb))) := tcmp op_ne sv_neS fNeS_b ha hb (nomark _)
theorem PSs.ex {α : Type} {es : List Stmt} {t : α → TS} (h : ∀ i, PSs X es (t i)) : PSs X es (fun D σ H => ∃ i, t i D σ H) := ⟨fun pins s σ H D I q => by
  obtain ⟨i, q⟩ := q
  exact (h i).run pins s σ H D I q⟩
end
/-- a walk by an invariant -/
theorem forD_inv {i : Nat} {b : SmS} {E : SE} (I : Nat → En → Prop) (all : List D) (hb : ∀ (j : Nat) (d : D) (env : En) (K : En → Prop), all[j]? = some d → I j env → (∀ env', I (j + 1) env' → K env') → b (env.set i (some (.d d))) { nx := K, rt := E.rt, bk := E.nx, ct := K, xx := E.xx })
    (he : ∀ env, I all.length env → E.nx env) : ∀ (n : Nat) (env : En), n ≤ all.length → I n env → forD (gN i) b (all.drop n) env E := by
  have key : ∀ (m n : Nat) (env : En), m = all.length - n → n ≤ all.length → I n env → forD (gN i) b (all.drop n) env E := by
    intro m
    induction m with
    | zero =>
      intro n env hm hn h
      have e : n = all.length := by omega
      subst e
      rw [List.drop_length]
      exact he env h
    | succ m ih =>
      intro n env hm hn h
      have hlt : n < all.length := by omega
      rw [List.drop_eq_getElem_cons hlt]
      exact hb n _ env _ (List.getElem?_eq_getElem hlt) h fun env' h' => ih (n + 1) env' (by omega) (by omega) h'
  exact fun n env hn h => key _ n env rfl hn h
theorem forD_inv0 {i : Nat} {b : SmS} {E : SE} {all : List D} {env : En} (I : Nat → En → Prop) (h0 : I 0 env) (hb : ∀ (j : Nat) (d : D) (env : En) (K : En → Prop), all[j]? = some d → I j env → (∀ env', I (j + 1) env' → K env') → b (env.set i (some (.d d))) { nx := K, rt := E.rt, bk := E.nx, ct := K, xx := E.xx })
    (he : ∀ env, I all.length env → E.nx env) : forD (gN i) b all env E := forD_inv I all hb he 0 env (Nat.zero_le _) h0
theorem rng_get {n j : Nat} {d : D} (h : (rngD 0 n)[j]? = some d) : j < n ∧ d = .int j := by
  unfold rngD at h
  rw [List.getElem?_map] at h
  by_cases hj : j < n
  · rw [List.getElem?_range hj] at h
    refine ⟨hj, ?_⟩
    cases h
    simp
  · rw [List.getElem?_eq_none (by simp; omega)] at h
    cases h
theorem rng_len {n : Nat} : (rngD 0 n).length = n := by unfold rngD; simp
end Mw
end
section
set_option Elab.async false
set_option linter.all false
set_option autoImplicit false
set_option maxRecDepth 100000
set_option maxHeartbeats 1000000
namespace Mw
open PySem PySem.Spec L2
open PyProof.Rows (envOfC)

section
variable {P : Program} {w : World} {K : PySem.W.Frag} {mg : Str → Option Value} {base : Heap} {k n : Nat} {f : Addr} {fd : FuncData} {x qual : Str} {st : Stmt} {N ps : List Str} {ι : Type} {Γ : ι → Gm} {cl : Cl} {s : SmS}
/-- where a def that may raise runs -/
abbrev XX (P : Program) (w : World) (K : PySem.W.Frag) (mg : Str → Option Value) (base : Heap) (N : List Str) (qual : Str) (sc : Scope) (f : Addr) (cdv : Value) (A : Around) (outer : List PySem.Env) (s0 : Shared) (H : Hp) (E : XK) : Cx := cxOf (L2N.CX P w) P w K mg base N qual sc f cdv A outer s0 H E
abbrev WE (E : XK) : WX := fun t dd _ H => E t dd H
/-- THE RULE over data, errors told -/
theorem fngX (F : Fun K x qual st f fd) (S : FnScope N ps (defScope st)) (hn : ps.length = n)
    (hb : ∀ (hd : ι) (H : Hp) (A : Around) (outer : List PySem.Env) (s0 : Shared) (E : XK) (cdv : Value), (A.deeper (envOfC qual (defScope st) s0.heap.objs.size f cdv)).guards = some [] → Room k (A.deeper (envOfC qual (defScope st) s0.heap.objs.size f cdv)) →
      L2N.Takes (XX P w K mg base N qual (defScope st) f cdv A outer s0 H E) (WE E) → PassesOwn (model P w) (XX P w K mg base N qual (defScope st) f cdv A outer s0 H E).A (XX P w K mg base N qual (defScope st) f cdv A outer s0 H E).env (XX P w K mg base N qual (defScope st) f cdv A outer s0 H E).xe →
      PSs (XX P w K mg base N qual (defScope st) f cdv A outer s0 H E) (defBody st) (tS (FmOf (Γ hd) H (WE E)) s))
    (hs : ∀ ds Qd Qx, ds.length = n → cl ds Qd Qx → s (env0 N ds) (seD Qd Qx)) : FnG P w K mg base (k + 1) f fd ps (spD Γ cl n) := by
  obtain ⟨⟨oc, od, kV, doc, pm, an, cdv, ct, osl, rfl, lk, hcd⟩, kp⟩ := F
  refine fng_of lk hcd S (fun vs H Q E h => by rw [hn]; exact h.1) fun A outer sh H vs Q E hg hr h => ?_
  obtain ⟨hl, hd, ds, Qd, Qx, hh, r, hcl, hq, hx⟩ := h
  refine ⟨_, hb hd H A outer sh E cdv (guards_deeper hg) hr (L2N.takes_of rfl rfl rfl rfl) (passes_of rfl), ?_⟩
  refine ⟨_, seD Qd Qx, sok_start rfl hh r, hs ds Qd Qx (by rw [← r.length]; exact hl) hcl, ⟨fun env σ H' q _ k => ?_, fun d v H' q _ st rv => hq d v H' q st rv, fun _ _ _ q => q.elim, fun _ _ _ q => q.elim, fun xx env t dd σ H' q _ k xr => hx xx t dd H' q k.st xr⟩⟩
  exact hq .non .non H' q k.st .non
end

/-! ### raise C(..) -/
section
variable {X : Cx} {e : Expr} {es : List Expr} {ta : TA} {pos p : Pos}
/-- C(..), an own error made where nothing is handled: its context is None -/
theorem pmkN_oex {CX : CXT} {x : Str} {C fI : Addr} {k : Nat} {fd : FuncData} {ps : List Str} {sp : Sp} {dus : List Value} {dvs : List V} (T : OexC X.K C) (iC : PySem.W.findIn X.K (.ref C) "__init__" = some (some (.ref fI))) (tI : PySem.W.typeIn X.K (.ref fI) = some (.type "function"))
    (F1 : FnOk X.prog X.w X.K X.mg X.base CX k fI fd ps sp) (hr : Room (k + 1) X.A) (hb : Binds X.K fd ps dus) (hd : Vals dvs dus) (hx : Passes CX X (fun _ _ _ => False)) (hg : Gl X x) (hm : X.mg x = some (.ref C)) (ha : PA X (e :: es) ta)
    (hdb : (x == ("__debug__" : Str)) = false) (he : starEach (e :: es) X.env = (false, eval e X.env) :: starEach es X.env) (hpl : (backTo pos (starEach es X.env)).any (·.1) = false) : L2N.PMk X (.Call (.Name x p) (e :: es) [] pos) (tMkO C sp dvs ta) := by
  intro pins s σ H Q I h
  obtain ⟨nm, q, N, bs, bm, sn, sub, ab, col, dd, k0, k1, k2, k3, k5, hC, hbm⟩ := T.cls
  refine wpAny_Call_Name_kw (ld_glob I hg hm (PySem.W.callWith_K (h₀ := X.base) I.ok.mod.kin T.kC (thn (ha.run pos pins s σ H _ I h) ?_) he hpl) hdb)
  rintro us ⟨hp, g, dr, tk, os⟩ ⟨vs, H1, I1, r1, hz, q1⟩
  refine ⟨I1.kIn, (show wpAny _ _ (call (.ref C) us) _ _ _ from ?_)⟩
  have hsz : hp.objs.size ≤ hp.objs.size + 1 := Nat.le_succ _
  have hn : H1 (hp.objs.size + 1) = none := I1.hok.fresh hsz; have hq := q1 (hp.objs.size + 1) hn
  have kk : ∀ b o, hp.get? b = some o → ((hp.push (PySem.W.kdv_tup us)).push (PySem.HandSPX.excO C hp.objs.size)).get? b = some o := fun b o e0 => Heap.get?_push_of_some _ (Heap.get?_push_of_some _ e0)
  have g1 : ((hp.push (PySem.W.kdv_tup us)).push (PySem.HandSPX.excO C hp.objs.size)).get? (hp.objs.size + 1) = some (PySem.HandSPX.excO C hp.objs.size) := by heap_get
  have I2 : L2.Inv X pins σ (upd H1 (hp.objs.size + 1) (exo (hp.objs.size + 1) C none)) ⟨(hp.push (PySem.W.kdv_tup us)).push (PySem.HandSPX.excO C hp.objs.size), g, dr, tk, os⟩ := I1.laid (t' := tk) (a := hp.objs.size + 1) (o := exo (hp.objs.size + 1) C none) (h' := (hp.push (PySem.W.kdv_tup us)).push (PySem.HandSPX.excO C hp.objs.size)) kk hsz (exo_ok g1)
  have r2 : Vals (V.ref (hp.objs.size + 1) :: (vs ++ dvs)) (Value.ref (hp.objs.size + 1) :: (us ++ dus)) := .cons rfl (r1.append hd)
  have hl : (Value.ref (hp.objs.size + 1) :: us ++ dus).length = ps.length := by have e1 := r2.length; rw [F1.len _ _ _ _ hq] at e1; exact e1.symm
  have hus : us.length ≤ sizeLine := by rw [← Paired.length r1, sizeLine_eq]; omega
  refine wpAny_call (PySem.HandSPX.call_own PySem.F.excBase_ValueError (fun Y => PySem.HandSPX.refsVE_contains Y bm hbm) (I1.kIn _ _ hC) (PySem.W.looks_findIn I1.kIn iC) (fun self => PySem.W.bind_fn I1.kIn self tI) hus (codeAny_mono (F1.run _ X.stack _ _ ⟨Value.ref (hp.objs.size + 1) :: us, []⟩ (Value.ref (hp.objs.size + 1) :: (us ++ dus)) _ _ (fun _ _ _ => False) (hr.make C us []) (I2.env0.make C us []) (hb _ (Value.ref (hp.objs.size + 1) :: us) I2.kIn hl) r2 hq) ?_))
  intro r s' hq'
  match r, hq' with
  | .error er, hq' => exact hx pins σ _ _ er s' I2 hq'
  | .ok .next, hq' => exact False.elim hq'
  | .ok .brk, hq' => exact False.elim hq'
  | .ok .cont, hq' => exact False.elim hq'
  | .ok (.ret u), hq' =>
    obtain ⟨v, H2, os2, bare2, un2, hok2, rv, ev, d, fs, ea, ed, hd1, q2⟩ := hq'
    subst ev
    obtain ⟨h2, g2, d2, t2, os'⟩ := s'
    obtain ⟨t0, G, J, kG, ge, hoe, na⟩ := mk_end0 (d2 := d2) (t2 := t2) I1 hsz kk un2 hok2 os2 bare2 ea ed hd1
    exact ⟨rv, hp.objs.size + 1, _, _, ⟨G, g2, d2, t2, os'⟩, _, .ref C, some d, rfl, J, kG, ge, hoe, ⟨rfl, rfl, fun vs hv => by cases hv; rfl⟩, rfl, rfl, na, rfl, bare2, raises_own T.exC T.tyC, q2⟩
end
theorem Reps.reverse {Γ : Gm} {H : Hp} : ∀ {vs : List V} {ds : List D}, Reps Γ H vs ds → Reps Γ H vs.reverse ds.reverse
  | _, _, .nil => .nil
  | _, _, .cons q r => by
    rw [List.reverse_cons, List.reverse_cons]
    exact (Reps.reverse r).append (.cons q .nil)
/-- an own error's __init__: it keeps what it is given, by these names -/
def spXInit (C : Addr) (ks : List Str) : Sp := fun vs H Q _ => ∃ a xs, vs = .ref a :: xs ∧ xs.length = ks.length ∧ H a = some (exo a C none) ∧
  ∀ d H', H d = none → d ≠ a → (∀ b, b ≠ a → b ≠ d → H' b = H b) → H' a = some (exo a C (some d)) → H' d = some (exd d (List.zip ks.reverse xs.reverse)) → Q .non H'
section
variable {X : Cx} {Φ : Fm} {e : Expr} {es : List Expr} {ss : Sms} {x : Str} {pos pos' p : Pos} {k : Nat} {fI : Addr} {fd : FuncData} {ps : List Str} {CX : CXT}
def sRaise (c : Nat) (ks : List Str) (ss : Sms) : SmS := fun env E => ss env (fun ds => ds.length = ks.length ∧ ds.length ≤ 1000 ∧ E.xx ⟨c, List.zip ks.reverse ds.reverse⟩ env) (fun x => E.xx x env)
theorem ok_raise {c : Nat} {C : Addr} {ks : List Str} (gC : Φ.g.cls c = C) (hke : Φ.g.ke c) (hc : X.calm = true) (tk : L2N.Takes X Φ.W) (T : OexC X.K C) (iC : PySem.W.findIn X.K (.ref C) "__init__" = some (some (.ref fI))) (tI : PySem.W.typeIn X.K (.ref fI) = some (.type "function"))
    (F1 : FnOk X.prog X.w X.K X.mg X.base CX k fI fd ps (spXInit C ks)) (hr : Room (k + 1) X.A) (hb : Binds X.K fd ps []) (hx : Passes CX X (fun _ _ _ => False)) (hg : Gl X x) (hm : X.mg x = some (.ref C)) (ha : PA X (e :: es) (tA Φ ss))
    (hdb : (x == ("__debug__" : Str)) = false := by decide) (he : starEach (e :: es) X.env = (false, eval e X.env) :: starEach es X.env := by rfl) (hpl : (backTo pos (starEach es X.env)).any (·.1) = false := by rfl) :
    PS X (.Raise (some (.Call (.Name x p) (e :: es) [] pos)) none pos') (tS Φ (sRaise c ks ss)) := PS.imp (L2N.ps_raise hc tk (pmkN_oex T iC tI F1 hr hb .nil hx hg hm ha hdb he hpl)) fun D σ H h => by
  obtain ⟨env, E, kk, h, w⟩ := h
  refine ⟨env, _, _, kk, h, fun ds vs H1 q s1 r => ?_, w.wx kk⟩
  obtain ⟨q1, q2, q⟩ := q
  refine ⟨by rw [r.length]; exact q2, fun a na => ?_⟩
  refine ⟨a, vs, by rw [List.append_nil], by rw [r.length]; exact q1, upd_same, fun d H2 nd da same e1 e2 => ?_⟩
  rw [upd_ne da] at nd
  refine ⟨rfl, d, _, e1, e2, nd, ?_⟩
  have kp : ∀ b u, H1 b = some u → upd (del H2 a) d (.xd (List.zip ks.reverse vs.reverse)) b = some u := fun b u eb => by
    have n1 : b ≠ a := ne_of_none eb na
    have n2 : b ≠ d := ne_of_none eb nd
    rw [upd_ne n2, del_ne n1, same b n1 n2, upd_ne n1]
    exact eb
  have st := Step.ext kp s1.hand
  have st' := s1.trans st
  refine w.x _ env _ _ σ _ q (st'.keep kk.hand) (kk.step st') ⟨⟨by rw [gC], hke⟩, d, _, rfl, upd_same, fun f y hf => ?_⟩
  exact zip_look (Reps.reverse (r.step st s1.hand)) hf
end

/-! ### try .. except C as n -/
def noXn (env : En) : Bool := env.all fun
  | some (.xn _) => false
  | _ => true
theorem noXn_at {env : En} (h : noXn env = true) {i : Nat} {x : Xn} : env[i]? ≠ some (some (.xn x)) := fun e => by
  unfold noXn at h
  have m := List.mem_of_getElem? e
  have z := (List.all_eq_true.mp h) _ m
  cases z
theorem SOK.now {c c' : Cm} {env : En} {σ : St} {H : Hp} (k : SOK c env σ H) (hg : c'.g = c.g) (h0 : c'.H0 = c.H0) (hx : ∀ (i : Nat) (x : Xn), env[i]? ≠ some (some (.xn x))) : SOK c' env σ H := by
  refine ⟨by rw [hg]; exact k.hand, by rw [hg, h0]; exact k.same, k.len, fun i l e => ?_, k.apart⟩
  obtain ⟨v, h1, h2⟩ := k.slot i l e
  refine ⟨v, h1, ?_⟩
  match l, e, h2 with
  | .d d, _, h2 =>
    show Rep c'.g H v d
    rw [hg]
    exact h2
  | .ml ds, _, h2 =>
    show ∃ p xs, _
    rw [hg, h0]
    exact h2
  | .mi k fs, _, h2 =>
    show ∃ p dx xs, _
    rw [hg, h0]
    exact h2
  | .xn x, e, _ => exact (hx i x e).elim
theorem SOK.setX {c : Cm} {env : En} {σ : St} {H : Hp} {i : Nat} {a : Addr} {t : Value} {dd : Option Addr} {x : Xn} (k : SOK c env σ H) (hc : c.now = some (a, t, dd)) (r : XRep c.g x t dd H) : SOK c (env.set i (some (.xn x))) (σ.set i (some (.ref a))) H := by
  refine ⟨k.hand, k.same, by rw [List.length_set, List.length_set]; exact k.len, ?_, ?_⟩
  · intro j l e
    by_cases hj : i = j
    · subst hj
      by_cases hi : i < env.length
      · rw [List.getElem?_set_self hi] at e
        cases e
        exact ⟨.ref a, List.getElem?_set_self (by rw [k.len]; exact hi), a, t, dd, hc, rfl, r⟩
      · rw [List.getElem?_eq_none (by rw [List.length_set]; omega)] at e
        cases e
    · rw [List.getElem?_set_ne hj] at e
      obtain ⟨u, h1, h2⟩ := k.slot j l e
      exact ⟨u, by rw [List.getElem?_set_ne hj]; exact h1, h2⟩
  · intro j m p ds es hab e1 e2 q1 q2
    have na : i ≠ j := fun z => by
      subst z
      by_cases hi : i < env.length
      · rw [List.getElem?_set_self hi] at e1; cases e1
      · rw [List.getElem?_eq_none (by rw [List.length_set]; omega)] at e1; cases e1
    have nb : i ≠ m := fun z => by
      subst z
      by_cases hi : i < env.length
      · rw [List.getElem?_set_self hi] at e2; cases e2
      · rw [List.getElem?_eq_none (by rw [List.length_set]; omega)] at e2; cases e2
    rw [List.getElem?_set_ne na] at e1 q1
    rw [List.getElem?_set_ne nb] at e2 q2
    exact k.apart j m p ds es hab e1 e2 q1 q2
/-- the frame within an except suite -/
abbrev Fm.hot (Φ : Fm) (a : Addr) (cls : Value) (d : Option Addr) : Fm := ⟨⟨Φ.c.g, Φ.c.H0, some (a, cls, d)⟩, noW⟩
def bye (i : Nat) (Q : En → Prop) : En → Prop := fun e => noXn (e.set i none) = true ∧ Q (e.set i none)
def sTryAs (i : Nat) (caught : Nat → Option Bool) (body suite : SmS) : SmS := fun env E => body env { nx := E.nx, rt := E.rt, bk := E.bk, ct := E.ct, xx := fun x env' => ∃ b, caught x.c = some b ∧ if b = true then suite (env'.set i (some (.xn x))) { nx := bye i E.nx, rt := E.rt, bk := bye i E.bk, ct := bye i E.ct, xx := fun _ _ => False } else E.xx x env' }
section
variable {X : Cx} {Φ : Fm} {body suite : List Stmt} {b₀ : Stmt} {sb ss : SmS} {x n : Str} {c : Value} {i : Nat} {np pos pos' : Pos}
theorem ok_tryAs {caught : Nat → Option Bool} (hnow : Φ.c.now = none) (hs : X.stack = X.env :: X.outer) (hf : X.env.frame = some X.env.locals) (hN : X.N.Nodup) (hi : X.N[i]? = some n) (hln : X.env.kindOf n = some .local) (hc : Names X x c) (tk : L2N.Takes X Φ.W)
    (hk : ∀ k b, Φ.g.ke k → caught k = some b → PySem.W.exmOne X.K (.ref (Φ.g.cls k)) c = some b)
    (hb : ∀ (W : WX) (pn : List (Addr × Obj)) (xe : Value → Shared → Prop), L2N.Takes (X.tr pn xe) W → PassesOwn (model X.prog X.w) X.A X.env xe → PSs (X.tr pn xe) body (tS ⟨Φ.c, W⟩ sb))
    (hsu : ∀ (a : Addr) (oe : Obj) (cls : Value) (d : Option Addr) (pn : List (Addr × Obj)), L2N.Zn cls d oe → (∃ vs, oe.data = .fields vs) → PSs (X.suite a ((a, oe) :: pn)) (b₀ :: suite) (tS (Φ.hot a cls d) ss)) :
    PS X (.Try body [.ExceptHandler (some (.Name x np)) (some n) (b₀ :: suite) pos'] [] [] pos) (tS Φ (sTryAs i caught sb ss)) := PS.imp (L2N.ps_try_as (tb := fun W => tS ⟨Φ.c, W⟩ sb) (ts := fun a cls d => tS (Φ.hot a cls d) ss) hs hf hN hi hln hc tk hb hsu) fun D σ H h => by
  obtain ⟨env, E, k, h, w⟩ := h
  refine ⟨env, _, k, h, ⟨w.nx, w.rt, w.bk, w.ct, fun x env' t dd σ' H' q kp k' xr => ?_⟩⟩
  obtain ⟨b, hb', q⟩ := q
  have et : t = .ref (Φ.g.cls x.c) := xr.1.1
  have wl := w.later kp
  refine ⟨b, by rw [et]; exact hk _ _ xr.1.2 hb', fun eb a na => ?_, fun eb => ?_⟩
  · rw [if_pos eb] at q
    have noX : ∀ (j : Nat) (z : Xn), env'[j]? ≠ some (some (.xn z)) := fun j z e => by
      obtain ⟨v, _, a', t', dd', e1, _⟩ := k'.slot j _ e
      have e1 : Φ.c.now = some (a', t', dd') := e1
      rw [hnow] at e1
      cases e1
    have k2 : SOK (Φ.hot a t dd).c (env'.set i (some (.xn x))) (σ'.set i (some (.ref a))) H' := (k'.now (c' := (Φ.hot a t dd).c) rfl rfl noX).setX rfl xr
    have back : ∀ {e2 : En} {σ2 : St} {H2 : Hp}, SOK (Φ.hot a t dd).c e2 σ2 H2 → noXn (e2.set i none) = true → SOK Φ.c (e2.set i none) (σ2.set i none) H2 := fun k3 hx => k3.non.now (c' := Φ.c) rfl rfl fun j z => noXn_at hx
    refine ⟨_, _, k2, q, ⟨fun e2 σ2 H2 q2 kp2 k3 => wl.nx _ _ _ q2.2 kp2 (back k3 q2.1), fun d v H2 q2 kp2 st r => wl.rt d v H2 q2 kp2 st r, fun e2 σ2 H2 q2 kp2 k3 => wl.bk _ _ _ q2.2 kp2 (back k3 q2.1), fun e2 σ2 H2 q2 kp2 k3 => wl.ct _ _ _ q2.2 kp2 (back k3 q2.1), fun _ _ _ _ _ _ q2 => q2.elim⟩⟩
  · rw [if_neg (by rw [eb]; simp)] at q
    exact wl.x x env' t dd σ' H' q (Keep.refl _) k' xr
/-- raised.f, raised a caught error of the class c -/
def vXf (i c : Nat) (f : Str) : Sm := fun env Q _ => ∃ x v, env[i]? = some (some (.xn x)) ∧ x.c = c ∧ x.fs.lookup f = some v ∧ Q v
theorem ok_xf {k : Nat} {f : Str} {C a : Addr} {oe : Obj} {cls : Value} {d : Option Addr} {pn : List (Addr × Obj)} (gC : Φ.g.cls k = C) (T : XfC X.K C) (hno : PySem.W.findIn X.K (.ref C) f = some none) (hz : Zc cls d oe) (hf : ∃ vs, oe.data = .fields vs)
    (hN : (X.suite a ((a, oe) :: pn)).N[i]? = some n) (hv : Vis (X.suite a ((a, oe) :: pn)).env.scope n) (hd : (n == ("__debug__" : Str)) = false) (hcd : (n == ("__classdict__" : Str)) = false) (hb : attributeBase (.Name n np) f X.env (eval (.Name n np) X.env) = eval (.Name n np) X.env) :
    PE (X.suite a ((a, oe) :: pn)) (.Attribute (.Name n np) f pos) (tE (Φ.hot a cls d) (vXf i k f)) := PE.imp (pe_xf T hno hz hf (pe_var hN hv hd hcd) hb) fun σ H Q h => by
  obtain ⟨env, Qd, Qx, kk, ⟨x, v, e1, rfl, e3, q⟩, w, _⟩ := h
  obtain ⟨u, h1, a', t, dd, e4, rfl, et, d', vs, e5, e6, r⟩ := kk.slot i _ e1
  have e4 : some (a, cls, d) = some (a', t, dd) := e4
  cases e4
  obtain ⟨y, hy, ry⟩ := r f v e3
  exact ⟨.ref a, h1, rfl, by rw [et.1]; exact congrArg Value.ref gC, d', vs, y, e5, e6, hy, w _ _ H q (Step.refl kk.hand) ry⟩
end
end Mw
end
section
set_option Elab.async false
set_option linter.all false
set_option autoImplicit false
set_option maxRecDepth 100000
set_option maxHeartbeats 1000000
namespace Mw
open PySem PySem.Spec L2
open PyProof.Rows (envOfC)

section
variable {X : Cx} {k : Nat} {f C : Addr} {fd : FuncData} {ps : List Str} {sp : Sp} {dvs : List V} {dus : List Value} {E : L2.St → XK} {x m : Str} {p pos apos : Pos} {e o : Expr} {es : List Expr} {ta : TE} {t : TA}
/-- o.m(..), the method a promise without guards -/
def tMethG (C : Addr) (m : Str) (sp : Sp) (dvs : List V) (E : L2.St → XK) (ta : TE) (t : TA) : TE := fun σ H Q => ta σ H fun x H1 => ∃ a dx fs, x = .ref a ∧ H1 a = some (.ins C dx fs) ∧ fs.lookup m = none ∧ t σ H1 fun vs H2 => sp (.ref a :: (vs ++ dvs)) H2 Q (E σ)
theorem pe_methG {pl : Sem Bool} (he : PE X o ta) (c : Cls X.K C) (hm : Meth X.K C m f) (F : FnG X.prog X.w X.K X.mg X.base k f fd ps sp) (hgd : X.A.guards = some []) (hr : Room k X.A) (hb : Binds X.K fd ps dus) (hd : Vals dvs dus)
    (hx : ∀ σ, PassesAt (L2N.CX X.prog X.w) X σ (E σ)) (ha : PA X (e :: es) t) (hst : starEach (e :: es) X.env = (false, eval e X.env) :: starEach es X.env) (hpl : (backTo pos (starEach es X.env)).any (·.1) = false)
    (ht : eval (.Call (.Attribute o m apos) (e :: es) [] pos) X.env = (do
        let ov ← eval o X.env
        standAt apos.atName
        let (g, fst) ← holding [ov] (getMethod ov m pl)
        callWith pos g fst (backTo pos (starEach (e :: es) X.env)) (backToKw pos (keywordEach [] X.env)))) :
    PE X (.Call (.Attribute o m apos) (e :: es) [] pos) (tMethG C m sp dvs E ta t) := by
  constructor
  intro pins s σ H Q I h
  refine PySem.W.methodCall_KW (pl := pl) (thn (he.run pins s σ H _ I h) ?_) ht
  rintro u s1 ⟨y, H1, I1, ry, a, dx, fs, ey, ea, l, q⟩
  subst ey
  cases (show u = Value.ref a from ry)
  refine getmeth_ok I1 ea c hm l (PySem.W.callWith_K (first := [.ref a]) (h₀ := X.base) I1.ok.mod.kin hm.kp (thn (ha.run pos pins s1 σ H1 _ I1 q) ?_) hst hpl)
  rintro us s2 ⟨vs, H2, I2, r, q2⟩
  exact ⟨I2.kIn, run_fng (us := .ref a :: us) (vs := .ref a :: vs) F hgd hr hb hd (hx σ) I2 (.cons rfl r) q2⟩
theorem pe_methG0 {pl : Sem Bool} (he : PE X o ta) (c : Cls X.K C) (hm : Meth X.K C m f) (F : FnG X.prog X.w X.K X.mg X.base k f fd ps sp) (hgd : X.A.guards = some []) (hr : Room k X.A) (hb : Binds X.K fd ps dus) (hd : Vals dvs dus)
    (hx : ∀ σ, PassesAt (L2N.CX X.prog X.w) X σ (E σ))
    (ht : eval (.Call (.Attribute o m apos) [] [] pos) X.env = (do
        let ov ← eval o X.env
        standAt apos.atName
        let (g, fst) ← holding [ov] (getMethod ov m pl)
        callWith pos g fst (backTo pos (starEach [] X.env)) (backToKw pos (keywordEach [] X.env)))) :
    PE X (.Call (.Attribute o m apos) [] [] pos) (tMethG C m sp dvs E ta tNil) := by
  constructor
  intro pins s σ H Q I h
  refine PySem.W.methodCall_KW (pl := pl) (thn (he.run pins s σ H _ I h) ?_) ht
  rintro u s1 ⟨y, H1, I1, ry, a, dx, fs, ey, ea, l, q⟩
  subst ey
  cases (show u = Value.ref a from ry)
  exact getmeth_ok I1 ea c hm l (PySem.W.callWith_K0 (first := [.ref a]) I1.kIn hm.kp (run_fng (us := [.ref a]) (vs := [.ref a]) F hgd hr hb hd (hx σ) I1 (.cons rfl .nil) q))
/-- C(..), __init__ a promise without guards -/
theorem run_makeG {pins : List (Addr × Obj)} {σ : L2.St} {H : Hp} {s : Shared} {Q : VK} {us : List Value} {vs : List V} (M : Mk X.K C f) (F : FnG X.prog X.w X.K X.mg X.base k f fd ps sp) (hgd : X.A.guards = some []) (hr : Room (k + 1) X.A) (hb : Binds X.K fd ps dus) (hd : Vals dvs dus)
    (hx : PassesAt (L2N.CX X.prog X.w) X σ (E σ)) (I : L2.Inv X pins σ H s) (r : Vals vs us)
    (h : ∀ x dx, H x = none → H dx = none → dx ≠ x → sp (.ref x :: (vs ++ dvs)) (upd (upd H dx (.own x)) x (.ins C dx [])) (fun v H2 => v = .non ∧ Q (.ref x) H2) (E σ)) :
    wpAny (model X.prog X.w) X.A (call (.ref C) us) (EP X pins σ Q) X.xe s := by
  have J := Inv.made (C := C) I
  have q0 := h (s.heap.objs.size + 1) s.heap.objs.size (I.hok.fresh (Nat.le_succ _)) (I.hok.fresh (Nat.le_refl _)) (Nat.ne_of_lt (Nat.lt_succ_self s.heap.objs.size))
  have rr : Vals (V.ref (s.heap.objs.size + 1) :: (vs ++ dvs)) (Value.ref (s.heap.objs.size + 1) :: (us ++ dus)) := .cons rfl (r.append hd)
  have ln : (Value.ref (s.heap.objs.size + 1) :: us ++ dus).length = ps.length := rr.length.symm.trans (F.len _ _ _ _ q0)
  have body := F.run (X.A.under (Code.builtin "type.__call__" { pos := Value.ref C :: us })) X.stack _ _ ⟨Value.ref (s.heap.objs.size + 1) :: us, []⟩ (Value.ref (s.heap.objs.size + 1) :: (us ++ dus)) _ _ (E σ) hgd (hr.make C us []) (J.env0.make C us []) (hb _ (Value.ref (s.heap.objs.size + 1) :: us) J.kIn ln) rr q0
  refine wpAny_call (make_map (f := f) I.kIn M.makes M.init (beq_iff_eq.mp M.fn) (codeAny_mono body ?_))
  intro z s' hz
  match z, hz with
  | .error e, hz => exact hx pins _ _ e s' J hz
  | .ok (.ret u), hz =>
    obtain ⟨v, H', J', rv, rfl, q⟩ := J.after hz
    exact ⟨rv, V.ref (s.heap.objs.size + 1), H', J', rfl, q⟩
theorem pe_makeG (M : Mk X.K C f) (F : FnG X.prog X.w X.K X.mg X.base k f fd ps sp) (hgd : X.A.guards = some []) (hr : Room (k + 1) X.A) (hg : Gl X x) (hm : X.mg x = some (.ref C)) (hb : Binds X.K fd ps dus) (hd : Vals dvs dus)
    (hx : ∀ σ, PassesAt (L2N.CX X.prog X.w) X σ (E σ)) (ha : PA X (e :: es) t) (hdb : (x == ("__debug__" : Str)) = false) (he : starEach (e :: es) X.env = (false, eval e X.env) :: starEach es X.env) (hpl : (backTo pos (starEach es X.env)).any (·.1) = false) :
    PE X (.Call (.Name x p) (e :: es) [] pos) (fun σ H Q => t σ H fun vs H1 => ∀ x dx, H1 x = none → H1 dx = none → dx ≠ x → sp (.ref x :: (vs ++ dvs)) (upd (upd H1 dx (.own x)) x (.ins C dx [])) (fun v H2 => v = .non ∧ Q (.ref x) H2) (E σ)) := by
  constructor
  intro pins s σ H Q I h
  refine wpAny_Call_Name_kw (ld_glob I hg hm (PySem.W.callWith_K (h₀ := X.base) I.ok.mod.kin M.kp (thn (ha.run pos pins s σ H _ I h) ?_) he hpl) hdb)
  rintro us s1 ⟨vs, H1, I1, r, q⟩
  exact ⟨I1.kIn, run_makeG M F hgd hr hb hd (hx σ) I1 r q⟩
/-- o.f, a property; its getter a promise without guards -/
theorem pe_propG {g p : Addr} {ff : Str} (he : PE X o ta) (c : Cls X.K C) (hp : PropOf X.K C ff p g) (F : FnG X.prog X.w X.K X.mg X.base k g fd ps sp) (hgd : X.A.guards = some []) (hr : Room (k + 1) X.A) (hb : Binds X.K fd ps []) (hab : attributeBase o ff X.env (eval o X.env) = eval o X.env) :
    PE X (.Attribute o ff pos) (fun σ H Q => ta σ H fun x H1 => ∃ a dx fs, x = .ref a ∧ H1 a = some (.ins C dx fs) ∧ sp [.ref a] H1 Q (fun _ _ _ => False)) := by
  constructor
  intro pins s σ H Q I h
  refine attr_of hab (thn (he.run pins s σ H _ I h) ?_)
  rintro u s1 ⟨y, H1, I1, ry, a, dx, fs, ey, ea, q⟩
  subst ey
  cases (show u = Value.ref a from ry)
  obtain ⟨_, O, _⟩ := ins_get I1.hok ea
  obtain ⟨od, J, _⟩ := O.look
  obtain ⟨rest, hrec⟩ := hp.rec_
  have J1 := I1.tok (s1.toks + 1)
  have ln : ([Value.ref a] ++ ([] : List Value)).length = ps.length := F.len _ _ _ _ q
  have hc : (PySem.W.clsIn X.K C).isSome = true := by
    obtain ⟨_, hc, _⟩ := PySem.W.any_some c.hd
    simp [hc]
  have pl := PySem.W.plainGet_of (c.get ff)
  have go := F.run X.A.in1 X.stack { s1 with toks := s1.toks + 1 } H1 ⟨[.ref a], []⟩ [.ref a] [.ref a] Q (fun _ _ _ => False) hgd hr.in1 J1.env0.in1 (hb _ [.ref a] J1.kIn ln) (.cons rfl .nil) q
  refine PySem.W.get_bind I1.kIn J pl.1 (PySem.W.findObj_data hc hp.at_ hp.get hp.tak) pl.2 (wpAny_call (PySem.W.prop_get (s := { s1 with toks := s1.toks + 1 }) I1.kIn hrec (codeAny_mono go ?_)))
  intro z s' hz
  match z, hz with
  | .error e, hz =>
    obtain ⟨_, _, _, _, _, _, _, _, _, _, _, _, w⟩ := (hz : L2N.CX X.prog X.w X.stack H1 _ (fun _ _ _ => False) e s')
    exact w.elim
  | .ok (.ret u), hz =>
    obtain ⟨v, H', J', rv, q3⟩ := J1.after hz
    show wpAny _ _ (handedOut u) _ _ _
    rw [PySem.W.handedOut_of (handed_of rv)]
    exact wpAny_pure ⟨v, H', J', rv, q3⟩
end

/-! ### over data -/
theorem zip_none {f : Str} : ∀ {ks : List Str} {xs : List V} {ds : List D}, xs.length = ds.length → (List.zip ks ds).lookup f = none → (List.zip ks xs).lookup f = none
  | [], _, _, _, _ => by simp
  | _ :: _, [], _, _, _ => by simp
  | _ :: _, _ :: _, [], h, _ => by simp at h
  | k :: ks, x :: xs, d :: ds, h, e => by
    rw [List.zip_cons_cons, List.lookup_cons] at e
    rw [List.zip_cons_cons, List.lookup_cons]
    cases q : (f == k) with
    | true => simp [q] at e
    | false =>
      simp only [q] at e ⊢
      exact zip_none (by simpa using h) e
/-- o.m(..): o an instance of the class c -/
def vMeth (c : Nat) (m : Str) (cl : Cl) (dfl : List D) (a : Sm) (ss : Sms) : Sm := fun env Q Qx => a env (fun d => ∃ fs, d = .ins c fs ∧ fs.lookup m = none ∧ ss env (fun ds => cl (d :: (ds ++ dfl)) Q Qx) Qx) Qx
section
variable {X : Cx} {Φ : Fm} {ι : Type} {Γ : ι → Gm} {ix : ι} {cl : Cl} {n k : Nat} {f C : Addr} {fd : FuncData} {ps : List Str} {dvs : List V} {dus : List Value} {dds : List D} {m : Str} {pos apos : Pos} {e o : Expr} {es : List Expr} {sa : Sm} {ss : Sms}
theorem ok_meth {c : Nat} {pl : Sem Bool} (hΓ : Φ.g = Γ ix) (gC : Φ.g.cls c = C) (tk : L2N.Takes X Φ.W) (he : PE X o (tE Φ sa)) (cc : Cls X.K C) (hm : Meth X.K C m f) (F : FnG X.prog X.w X.K X.mg X.base k f fd ps (spD Γ cl n)) (hgd : X.A.guards = some []) (hr : Room k X.A)
    (hb : Binds X.K fd ps dus) (hd : Vals dvs dus) (hc : Paired RepC dvs dds) (hcl : ∀ ds Q Qx, cl ds Q Qx → ds.length = n) (ha : PA X (e :: es) (tA Φ ss)) (hst : starEach (e :: es) X.env = (false, eval e X.env) :: starEach es X.env := by rfl) (hpl : (backTo pos (starEach es X.env)).any (·.1) = false := by rfl)
    (ht : eval (.Call (.Attribute o m apos) (e :: es) [] pos) X.env = (do
        let ov ← eval o X.env
        standAt apos.atName
        let (g, fst) ← holding [ov] (getMethod ov m pl)
        callWith pos g fst (backTo pos (starEach (e :: es) X.env)) (backToKw pos (keywordEach [] X.env))) := by rfl) :
    PE X (.Call (.Attribute o m apos) (e :: es) [] pos) (tE Φ (vMeth c m cl dds sa ss)) := by
  refine PE.imp (pe_methG (pl := pl) he cc hm F hgd hr hb hd (fun σ => L2N.passAt tk σ) ha hst hpl ht) fun σ H Q h => ?_
  obtain ⟨env, Qd, Qx, kk, h, w, wx⟩ := h
  refine ⟨env, _, Qx, kk, h, fun d v H1 h1 s1 r1 => ?_, wx⟩
  obtain ⟨fs, rfl, hl, h1⟩ := h1
  have r0 := r1
  obtain ⟨a, dx, ks, xs, ds0, rfl, rfl, ha1, rs, _⟩ := r1.insI
  refine ⟨a, dx, _, rfl, by rw [← gC]; exact ha1, zip_none rs.length hl, env, _, Qx, kk.step s1, h1, fun ds vs H2 h2 s2 r2 => ?_, wx.step s1⟩
  have e1 := r2.length
  have e2 := Paired.length hc
  have st := s1.trans s2
  have ln := hcl _ _ _ h2
  refine ⟨?_, ix, _, Qd, Qx, by rw [← hΓ]; exact s2.hand, ?_, h2, fun d v H' q s r => ?_, fun xx t dd H' q s r => ?_⟩
  · rw [← ln]
    simp [e1, e2]
  · rw [← hΓ]
    exact .cons (r0.step s2 s1.hand) (r2.append (reps_c hc))
  · rw [← hΓ] at s r
    exact w d v H' q (st.trans s) r
  · rw [← hΓ] at s r
    exact wx.x xx t dd H' q (st.trans s) r
/-- o.f, a property -/
def vProp (c : Nat) (cl : Cl) (a : Sm) : Sm := fun env Q Qx => a env (fun d => ∃ fs, d = .ins c fs ∧ cl [d] Q fun _ => False) Qx
theorem ok_prop {c : Nat} {p : Addr} (hΓ : Φ.g = Γ ix) (gC : Φ.g.cls c = C) (he : PE X o (tE Φ sa)) (cc : Cls X.K C) (hp : PropOf X.K C m p f) (F : FnG X.prog X.w X.K X.mg X.base k f fd ps (spD Γ cl 1)) (hgd : X.A.guards = some []) (hr : Room (k + 1) X.A)
    (hb : Binds X.K fd ps []) (hab : attributeBase o m X.env (eval o X.env) = eval o X.env) : PE X (.Attribute o m pos) (tE Φ (vProp c cl sa)) := by
  refine PE.imp (pe_propG he cc hp F hgd hr hb hab) fun σ H Q h => ?_
  obtain ⟨env, Qd, Qx, kk, h, w, wx⟩ := h
  refine ⟨env, _, Qx, kk, h, fun d v H1 h1 s1 r1 => ?_, wx⟩
  obtain ⟨fs, rfl, h1⟩ := h1
  have r0 := r1
  obtain ⟨a, dx, ks, xs, ds0, rfl, rfl, ha1, rs, _⟩ := r1.insI
  refine ⟨a, dx, _, rfl, by rw [← gC]; exact ha1, rfl, ix, _, Qd, _, by rw [← hΓ]; exact s1.hand, by rw [← hΓ]; exact .cons r0 .nil, h1, fun d v H' q s r => ?_, fun xx t dd H' q s r => q.elim⟩
  rw [← hΓ] at s r
  exact w d v H' q (s1.trans s) r
end
end Mw
end
section
set_option Elab.async false
set_option linter.all false
set_option autoImplicit false
set_option maxRecDepth 100000
set_option maxHeartbeats 1000000
namespace Mw
open PySem PySem.Spec L2
open PyProof.Rows (envOfC)

/-- where a def runs: the hand, the instances in the making -/
structure Ix where
  hd : Addr
  raw : Addr → Prop
  me : Addr → Prop
/-- the own classes: where they stand, which there are; the error classes that there are -/
structure Cs where
  ad : Nat → Addr
  kn : Nat → Prop
  ke : Nat → Prop
instance : CoeFun Cs fun _ => Nat → Addr := ⟨Cs.ad⟩
def Ix.with (i : Ix) (x : Addr) : Ix := ⟨i.hd, fun b => i.raw b ∨ b = x, fun b => b = x⟩
def GmX (K : PySem.W.Frag) (word : List Int → Int → Int → Int → Prop) (cs : Cs) (i : Ix) : Gm := ⟨K, i.hd, word, cs.ad, i.raw, i.me, cs.kn, cs.ke⟩

section
variable {K : PySem.W.Frag} {word : List Int → Int → Int → Int → Prop} {cs : Cs} {i : Ix} {x : Addr} {H H1 : Hp}
theorem HandAt.with (h : HandAt (GmX K word cs i) H1) (kp : ∀ b u, H1 b = some u → H b = some u) (hx : H x ≠ none) : HandAt (GmX K word cs (i.with x)) H := by
  obtain ⟨⟨c, ns, a, r, t, e, ⟨o, q⟩, w⟩, m⟩ := h
  refine ⟨⟨c, ns, a, r, t, kp _ _ e, ⟨o, kp _ _ q⟩, w⟩, fun b hb => ?_⟩
  rcases hb with hb | hb
  · intro z
    cases q2 : H1 b with
    | none => exact m b hb q2
    | some u => rw [kp b u q2] at z; cases z
  · rw [hb]; exact hx
theorem HandAt.without (h : HandAt (GmX K word cs (i.with x)) H) : HandAt (GmX K word cs i) H := ⟨h.1, fun b hb => h.2 b (.inl hb)⟩
theorem SqT.ext {a : Addr} {xs : List V} (kp : ∀ b u, H1 b = some u → H b = some u) (q : SqT K H1 a xs) : SqT K H a xs := by
  rcases q with (q | ⟨o, q⟩) | q
  · exact .inl (.inl (kp _ _ q))
  · exact .inl (.inr ⟨o, kp _ _ q⟩)
  · exact .inr q
mutual
theorem Rep.with (kp : ∀ b u, H1 b = some u → H b = some u) (hx : H1 x = none) : ∀ {v : V} {d : D}, Rep (GmX K word cs i) H1 v d → Rep (GmX K word cs (i.with x)) H v d
  | _, _, .non => .non
  | _, _, .bl b => .bl b
  | _, _, .int n => .int n
  | _, _, .str z => .str z
  | _, _, .tup q r => .tup (SqT.ext kp q) (Reps.with kp hx r)
  | _, _, .lst ⟨o, q⟩ r => .lst ⟨o, kp _ _ q⟩ (Reps.with kp hx r)
  | _, _, .hand => .hand
  | _, _, .ins q m r => .ins (kp _ _ q) ⟨fun z => z.elim m.1 fun e => (by rw [e, hx] at q; cases q), m.2⟩ (Reps.with kp hx r)
theorem Reps.with (kp : ∀ b u, H1 b = some u → H b = some u) (hx : H1 x = none) : ∀ {vs : List V} {ds : List D}, Reps (GmX K word cs i) H1 vs ds → Reps (GmX K word cs (i.with x)) H vs ds
  | _, _, .nil => .nil
  | _, _, .cons q r => .cons (Rep.with kp hx q) (Reps.with kp hx r)
end
mutual
theorem Rep.without : ∀ {v : V} {d : D}, Rep (GmX K word cs (i.with x)) H v d → Rep (GmX K word cs i) H v d
  | _, _, .non => .non
  | _, _, .bl b => .bl b
  | _, _, .int n => .int n
  | _, _, .str z => .str z
  | _, _, .tup q r => .tup q (Reps.without r)
  | _, _, .lst q r => .lst q (Reps.without r)
  | _, _, .hand => .hand
  | _, _, .ins q m r => .ins q ⟨fun z => m.1 (.inl z), m.2⟩ (Reps.without r)
theorem Reps.without : ∀ {vs : List V} {ds : List D}, Reps (GmX K word cs (i.with x)) H vs ds → Reps (GmX K word cs i) H vs ds
  | _, _, .nil => .nil
  | _, _, .cons q r => .cons (Rep.without q) (Reps.without r)
end
theorem XRep.without {z : Xn} {t : Value} {dd : Option Addr} (r : XRep (GmX K word cs (i.with x)) z t dd H) : XRep (GmX K word cs i) z t dd H := by
  obtain ⟨e, d, vs, e1, e2, q⟩ := r
  exact ⟨e, d, vs, e1, e2, fun f y hf => let ⟨v, h1, h2⟩ := q f y hf; ⟨v, h1, h2.without⟩⟩
end
theorem FRep.zip {Γ : Gm} {H : Hp} : ∀ {xs : List (Str × V)} {fs : List (Str × D)}, FRep Γ H xs fs → xs = List.zip (fs.map (·.1)) (xs.map (·.2)) ∧ fs = List.zip (fs.map (·.1)) (fs.map (·.2)) ∧ Reps Γ H (xs.map (·.2)) (fs.map (·.2))
  | _, _, .nil => ⟨rfl, rfl, .nil⟩
  | _, _, .cons (f := f) q r => by
    obtain ⟨h1, h2, h3⟩ := FRep.zip r
    refine ⟨?_, ?_, .cons q h3⟩
    · simp only [List.map_cons, List.zip_cons_cons]
      rw [← h1]
    · simp only [List.map_cons, List.zip_cons_cons]
      rw [← h2]

/-! ### the promise of an __init__ -/
abbrev ClI := List D → (List (Str × D) → Prop) → PX → Prop
def spI (Γ : Ix → Gm) (c : Nat) (cl : ClI) (n : Nat) : Sp := fun vs H Q E => vs.length = n + 1 ∧ ∃ i x dx xs ds H1 Qd Qx, vs = .ref x :: xs ∧ H x = some (.ins ((Γ i).cls c) dx []) ∧ H1 x = none ∧ (∀ b u, H1 b = some u → H b = some u) ∧ HandAt (Γ i) H1 ∧ Reps (Γ i) H1 xs ds ∧ cl ds Qd Qx ∧
  (∀ fs H', Qd fs → Step (Γ i) H1 H' → Rep (Γ i) H' (.ref x) (.ins c fs) → Q .non H') ∧ (∀ z t dd H', Qx z → Step (Γ i) H1 H' → XRep (Γ i) z t dd H' → E t dd H')
def envI (N : List Str) (c : Nat) (ds : List D) : En := some (.mi c []) :: (ds.map (fun d => some (.d d)) ++ List.replicate (N.length - (ds.length + 1)) none)
/-- what is wanted of an __init__'s body -/
def seI (c : Nat) (Qd : List (Str × D) → Prop) (Qx : PX) : SE := ⟨fun env => ∃ fs, env[0]? = some (some (.mi c fs)) ∧ Qd fs, fun _ => False, fun _ => False, fun _ => False, fun x _ => Qx x⟩
section
variable {P : Program} {w : World} {K : PySem.W.Frag} {mg : Str → Option Value} {base : Heap} {k n : Nat} {f : Addr} {fd : FuncData} {x qual : Str} {st : Stmt} {N ps : List Str} {word : List Int → Int → Int → Int → Prop} {cs : Cs} {c : Nat} {cl : ClI} {s : SmS}
theorem fngI {dvs : List V} (hkn : cs.kn c) (F : FunD K x qual (defArgs st) (defBody st) (defScope st) dvs [] f fd) (S : FnScope N ps (defScope st)) (hn : ps.length = n + 1)
    (hb : ∀ (i : Ix) (H : Hp) (A : Around) (outer : List PySem.Env) (s0 : Shared) (H0 : Hp) (E : XK) (cdv : Value), (A.deeper (envOfC qual (defScope st) s0.heap.objs.size f cdv)).guards = some [] → Room k (A.deeper (envOfC qual (defScope st) s0.heap.objs.size f cdv)) →
      L2N.Takes (XX P w K mg base N qual (defScope st) f cdv A outer s0 H0 E) (WE E) → PassesOwn (model P w) (XX P w K mg base N qual (defScope st) f cdv A outer s0 H0 E).A (XX P w K mg base N qual (defScope st) f cdv A outer s0 H0 E).env (XX P w K mg base N qual (defScope st) f cdv A outer s0 H0 E).xe →
      PSs (XX P w K mg base N qual (defScope st) f cdv A outer s0 H0 E) (defBody st) (tS (FmOf (GmX K word cs i) H (WE E)) s))
    (hs : ∀ ds Qd Qx, ds.length = n → cl ds Qd Qx → s (envI N c ds) (seI c Qd Qx)) : FnG P w K mg base (k + 1) f fd ps (spI (GmX K word cs) c cl n) := by
  obtain ⟨oc, od, dV, kV, doc, pm, an, cdv, ct, osl, rfl, lk, hcd, _, _⟩ := F.ex
  refine fng_of lk hcd S (fun vs H Q E h => by rw [hn]; exact h.1) fun A outer sh H vs Q E hg hr h => ?_
  obtain ⟨hl, i, x, dx, xs, ds, H1, Qd, Qx, rfl, hx, nx1, kp1, hh, r, hcl, hq, hxx⟩ := h
  have hl2 : ds.length = n := by
    rw [← r.length]
    simpa using hl
  let Hm : Hp := fun b => if b = x then none else H b
  refine ⟨_, hb (i.with x) Hm A outer sh H E cdv (guards_deeper hg) hr (L2N.takes_of rfl rfl rfl rfl) (passes_of rfl), ?_⟩
  have r' : Reps (GmX K word cs (i.with x)) H xs ds := r.with kp1 nx1
  have sx : SOK (FmOf (GmX K word cs (i.with x)) Hm (WE E)).c (envI N c ds) (L2.start N (.ref x :: xs)) H := by
    have ln := r.length
    have at0 : (envI N c ds)[0]? = some (some (.mi c [])) := rfl
    have atS : ∀ j : Nat, (envI N c ds)[j + 1]? = (ds.map (fun d => some (L.d d)) ++ List.replicate (N.length - (ds.length + 1)) none)[j]? := fun j => rfl
    have slotS : ∀ (j : Nat) (l : L), (envI N c ds)[j + 1]? = some (some l) → ∃ d v, ds[j]? = some d ∧ l = .d d ∧ xs[j]? = some v ∧ Rep (GmX K word cs (i.with x)) H v d := fun j l e => by
      rw [atS] at e
      by_cases hj : j < ds.length
      · rw [List.getElem?_append_left (by simpa using hj), List.getElem?_map, List.getElem?_eq_getElem hj] at e
        cases e
        obtain ⟨v, h1, h2⟩ := r'.get (List.getElem?_eq_getElem hj)
        exact ⟨_, v, List.getElem?_eq_getElem hj, rfl, h1, h2⟩
      · rw [List.getElem?_append_right (by simpa using Nat.le_of_not_lt hj), List.getElem?_replicate] at e
        split at e <;> cases e
    refine ⟨hh.with kp1 (by rw [hx]; simp), fun b u n e => ?_, ?_, fun j l e => ?_, fun j m p es es' nj e1 e2 => ?_⟩
    · by_cases hb : b = x
      · have e : (if b = x then none else H b) = some u := e
        rw [if_pos hb] at e
        cases e
      · have e : (if b = x then none else H b) = some u := e
        rw [if_neg hb] at e
        exact e
    · unfold envI L2.start
      simp [ln]
    · match j, e with
      | 0, e =>
        rw [at0] at e
        cases e
        exact ⟨.ref x, rfl, x, dx, [], rfl, ⟨.inr rfl, rfl⟩, if_pos rfl, hx, .nil⟩
      | j + 1, e =>
        obtain ⟨d, v, e1, rfl, e2, rv⟩ := slotS j l e
        refine ⟨v, ?_, rv⟩
        have hj := lt_of_get e2
        unfold L2.start
        rw [List.getElem?_append_left (by simpa using hj), List.getElem?_map]
        show Option.map some xs[j]? = _
        rw [e2]
        rfl
    · match j, e1 with
      | 0, e1 => rw [at0] at e1; cases e1
      | j + 1, e1 =>
        obtain ⟨d, v, _, z, _⟩ := slotS j _ e1
        cases z
  have back : ∀ {env : En} {σ : L2.St} {H' : Hp}, SOK (FmOf (GmX K word cs (i.with x)) Hm (WE E)).c env σ H' → Step (GmX K word cs i) H1 H' := fun {env σ H'} kk =>
    ⟨fun b u nb e => kk.same b u nb (by
      have nb : b ≠ x := ne_of_none e nx1
      show (if b = x then none else H b) = some u
      rw [if_neg nb]
      exact kp1 b u e), kk.hand.without⟩
  refine ⟨_, seI c Qd Qx, sx, hs ds Qd Qx hl2 hcl, ⟨fun env σ H' q kp2 kk => ?_, fun _ _ _ q => q.elim, fun _ _ _ q => q.elim, fun _ _ _ q => q.elim, fun zz env t dd σ H' q _ kk xr => hxx zz t dd H' q (back kk) xr.without⟩⟩
  obtain ⟨fs, e0, q⟩ := q
  obtain ⟨v, h1, p, dx', xs', rfl, m, n0, hp, fr⟩ := kk.slot 0 _ e0
  obtain rfl : p = x := m.2
  obtain ⟨z1, z2, z3⟩ := FRep.zip fr
  refine hq fs H' q (back kk) ?_
  rw [z1] at hp
  rw [z2]
  exact .ins hp ⟨fun z => hh.2 p z nx1, hkn⟩ z3.without

/-! ### self.f -/
def putD (f : Str) (d : D) : List (Str × D) → List (Str × D)
  | [] => [(f, d)]
  | (g, x) :: r => if g = f then (g, d) :: r else (g, x) :: putD f d r
theorem FRep.put {Γ : Gm} {H : Hp} {f : Str} {v : V} {d : D} (rv : Rep Γ H v d) : ∀ {xs : List (Str × V)} {fs : List (Str × D)}, FRep Γ H xs fs → FRep Γ H (putF f v xs) (putD f d fs)
  | _, _, .nil => .cons rv .nil
  | _, _, .cons (f := g) q r => by
    unfold putF putD
    by_cases e : g = f
    · rw [if_pos e, if_pos e]
      exact .cons rv r
    · rw [if_neg e, if_neg e]
      exact .cons q (FRep.put rv r)
theorem FRep.len {Γ : Gm} {H : Hp} : ∀ {xs : List (Str × V)} {fs : List (Str × D)}, FRep Γ H xs fs → xs.length = fs.length
  | _, _, .nil => rfl
  | _, _, .cons _ r => congrArg (· + 1) (FRep.len r)
/-- no other name holds an instance in the making -/
def solo (i : Nat) (env : En) : Bool := (env.set i none).all fun
  | some (.mi _ _) => false
  | _ => true
theorem solo_at {i j : Nat} {env : En} (h : solo i env = true) (hj : i ≠ j) {c : Nat} {fs : List (Str × D)} : env[j]? ≠ some (some (.mi c fs)) := fun e => by
  have e2 : (env.set i none)[j]? = some (some (.mi c fs)) := by rw [List.getElem?_set_ne hj]; exact e
  have z := (List.all_eq_true.mp h) _ (List.mem_of_getElem? e2)
  cases z
theorem keep_raw {Γ : Gm} {H : Hp} {p C dx : Addr} {xs : List (Str × V)} {o : HO} (hp : H p = some (.ins C dx xs)) (m : Γ.raw p) : Keep Γ H (upd H p o) := ⟨fun b u n ni e => by
  rw [upd_ne]
  · exact e
  · intro z
    subst z
    rw [hp] at e
    cases e
    exact ni trivial m, fun b _ nb => by
  by_cases hb : b = p
  · subst hb; rw [upd_same]; simp
  · rw [upd_ne hb]; exact nb⟩
section
variable {X : Cx} {Φ : Fm} {se : Sm} {e : Expr} {pos pos' np : Pos} {n : Str} {i : Nat}
def sSetF (i : Nat) (ff : Str) (s : Sm) : SmS := fun env E => ∃ c fs, env[i]? = some (some (.mi c fs)) ∧ solo i env = true ∧ fs.length < 1000 ∧ s env (fun d => E.nx (env.set i (some (.mi c (putD ff d fs))))) (fun x => E.xx x env)
theorem ok_setF {c : Nat} {C : Addr} {ff : Str} (gC : ∀ k, Φ.g.cls k = Φ.g.cls k) (hN : X.N[i]? = some n) (hv : Vis X.env.scope n) (hd : (n == ("__debug__" : Str)) = false) (hcd : (n == ("__classdict__" : Str)) = false) (hc : Cls X.K (Φ.g.cls c)) (hno : NoAttr X.K (Φ.g.cls c) ff) (he : PE X e (tE Φ se))
    (hs : swapsWith e (some (.Attribute (.Name n np) ff pos')) pos.line X.env = pure false) :
    PS X (.Assign [.Attribute (.Name n np) ff pos'] e pos) (tS Φ (fun env E => (∀ c' fs, env[i]? = some (some (.mi c' fs)) → c' = c) ∧ sSetF i ff se env E)) := PS.imp (ps_fld (pe_var hN hv hd hcd) he hs) fun D σ H h => by
  obtain ⟨env, E, k, ⟨hcc, c', fs, e0, so, hl, h⟩, w⟩ := h
  obtain rfl := hcc _ _ e0
  refine ⟨env, _, _, k, h, fun d v H1 q s1 r => ?_, w.wx k⟩
  have k1 := k.step s1
  obtain ⟨u, h1, p, dx, xs, rfl, m, n0, hp, fr⟩ := k1.slot i _ e0
  refine ⟨.ref p, h1, p, _, dx, xs, rfl, hp, hc, hno, by rw [fr.len]; exact hl, ?_⟩
  have kp : Keep Φ.g H1 (upd H1 p (.ins (Φ.g.cls c') dx (putF ff v xs))) := keep_raw hp m.1
  have np : p ≠ Φ.g.hd := fun z => by
    obtain ⟨ys, hy⟩ := k1.hand.lst
    have hp' : H1 Φ.g.hd = some (.ins (Φ.g.cls c') dx xs) := by rw [← z]; exact hp
    rw [hy] at hp'
    cases hp'
  refine w.nx _ σ _ q ((s1.keep k.hand).trans kp) ?_
  refine ⟨k1.hand.keep kp (upd_ne np.symm), fun b z nb e => ?_, by rw [List.length_set]; exact k1.len, fun j l e => ?_, fun a b q' ds es hab e1 e2 q1 q2 => ?_⟩
  · rw [upd_ne]
    · exact k1.same b z nb e
    · intro y
      subst y
      rw [n0] at e
      cases e
  · by_cases hj : i = j
    · subst hj
      have il := lt_of_get e0
      rw [List.getElem?_set_self il] at e
      cases e
      exact ⟨.ref p, h1, p, dx, _, rfl, m, n0, upd_same, (FRep.put r fr).keep kp⟩
    · rw [List.getElem?_set_ne hj] at e
      obtain ⟨z, g1, g2⟩ := k1.slot j l e
      refine ⟨z, g1, ?_⟩
      match l, e, g2 with
      | .d d, _, g2 => exact Rep.keep kp g2
      | .xn x, _, ⟨a, t, dd, z1, z2, r⟩ => exact ⟨a, t, dd, z1, z2, r.keep kp⟩
      | .mi c2 fs2, e, _ => exact (solo_at so hj e).elim
      | .ml es, e, ⟨p', xs', e', n', n0', hp', r⟩ =>
        have ne : p' ≠ p := fun q => by
          subst q
          rw [hp] at hp'
          cases hp'
        exact ⟨p', xs', e', n', n0', by rw [upd_ne ne]; exact hp', r.keep kp⟩
  · have na : i ≠ a := fun z => by
      subst z
      rw [List.getElem?_set_self (lt_of_get e0)] at e1
      cases e1
    have nb : i ≠ b := fun z => by
      subst z
      rw [List.getElem?_set_self (lt_of_get e0)] at e2
      cases e2
    rw [List.getElem?_set_ne na] at e1
    rw [List.getElem?_set_ne nb] at e2
    exact k1.apart a b q' ds es hab e1 e2 q1 q2
/-- self.f, read -/
def vFldS (i : Nat) (c : Nat) (ff : Str) : Sm := fun env Q _ => ∃ fs v, env[i]? = some (some (.mi c fs)) ∧ fs.lookup ff = some v ∧ Q v
theorem ok_fldS {c : Nat} {ff : Str} (hN : X.N[i]? = some n) (hv : Vis X.env.scope n) (hd : (n == ("__debug__" : Str)) = false) (hcd : (n == ("__classdict__" : Str)) = false) (hc : Cls X.K (Φ.g.cls c)) (hno : NoAttr X.K (Φ.g.cls c) ff) (hb : attributeBase (.Name n np) ff X.env (eval (.Name n np) X.env) = eval (.Name n np) X.env) :
    PE X (.Attribute (.Name n np) ff pos) (tE Φ (vFldS i c ff)) := PE.imp (pe_fld (pe_var hN hv hd hcd) hb) fun σ H Q h => by
  obtain ⟨env, Qd, Qx, k, ⟨fs, v, e0, e1, q⟩, w, _⟩ := h
  obtain ⟨u, h1, p, dx, xs, rfl, m, n0, hp, fr⟩ := k.slot i _ e0
  obtain ⟨y, hy, ry⟩ := fr.look e1
  exact ⟨.ref p, h1, p, _, dx, xs, y, rfl, hp, hc, hno, hy, w v y H q (Step.refl k.hand) ry⟩
end
end
end Mw
end
section
set_option Elab.async false
set_option linter.all false
set_option autoImplicit false
set_option maxRecDepth 100000
set_option maxHeartbeats 1000000
namespace Mw
open PySem PySem.Spec L2
open PyProof.Rows (envOfC)
def vMakeI (c : Nat) (cl : ClI) (ss : Sms) : Sm := fun env Q Qx => ss env (fun ds => cl ds (fun fs => Q (.ins c fs)) Qx) Qx
section
variable {X : Cx} {Φ : Fm} {cl : ClI} {n k c : Nat} {f C : Addr} {fd : FuncData} {ps : List Str} {x : Str} {p pos : Pos} {e : Expr} {es : List Expr} {ss : Sms} {word : List Int → Int → Int → Int → Prop} {cs : Cs} {ix : Ix}
theorem ok_makeI (hΓ : Φ.g = GmX X.K word cs ix) (tk : L2N.Takes X Φ.W) (M : Mk X.K (cs c) f) (F : FnG X.prog X.w X.K X.mg X.base k f fd ps (spI (GmX X.K word cs) c cl n)) (hgd : X.A.guards = some []) (hr : Room (k + 1) X.A) (hg : Gl X x) (hm : X.mg x = some (.ref (cs c))) (hb : Binds X.K fd ps [])
    (hcl : ∀ ds Q Qx, cl ds Q Qx → ds.length = n) (ha : PA X (e :: es) (tA Φ ss)) (hdb : (x == ("__debug__" : Str)) = false := by decide) (he : starEach (e :: es) X.env = (false, eval e X.env) :: starEach es X.env := by rfl) (hpl : (backTo pos (starEach es X.env)).any (·.1) = false := by rfl) :
    PE X (.Call (.Name x p) (e :: es) [] pos) (tE Φ (vMakeI c cl ss)) := by
  refine PE.imp (pe_makeG M F hgd hr hg hm hb .nil (fun σ => L2N.passAt tk σ) ha hdb he hpl) fun σ H Q h => ?_
  obtain ⟨env, Qd, Qx, kk, h, w, wx⟩ := h
  refine ⟨env, _, Qx, kk, h, fun ds vs H1 h1 s1 r1 => fun x dx nx ndx ne => ?_, wx⟩
  have hh := s1.hand
  rw [hΓ] at hh r1
  have old : ∀ b u, H1 b = some u → upd (upd H1 dx (.own x)) x (.ins (cs c) dx []) b = some u := fun b u eb => by
    rw [upd_ne (ne_of_none eb nx), upd_ne (ne_of_none eb ndx)]
    exact eb
  refine ⟨by rw [List.append_nil, List.length_cons, r1.length, hcl _ _ _ h1], ix, x, dx, vs, ds, H1, _, Qx, by rw [List.append_nil], upd_same, nx, old, hh, r1, h1, fun fs H' q st r => ⟨rfl, ?_⟩, fun z t dd H' q st r => ?_⟩
  · rw [← hΓ] at st r
    exact w _ _ H' q (s1.trans st) r
  · rw [← hΓ] at st r
    exact wx.x z t dd H' q (s1.trans st) r
end
end Mw
end
section
set_option Elab.async false
set_option linter.all false
set_option autoImplicit false
set_option maxRecDepth 100000
set_option maxHeartbeats 1000000
namespace Mw
open PySem PySem.Spec L2

section
variable {X : Cx} {Φ : Fm}
theorem PE.sem {R : Gm → Hp → V → D → Prop} {e : Expr} {s s' : Sm} (h : PE X e (tX R Φ s)) (i : ∀ env Q Qx, s' env Q Qx → s env Q Qx) : PE X e (tX R Φ s') :=
  PE.imp h fun σ H Q ⟨env, Qd, Qx, k, h, w⟩ => ⟨env, Qd, Qx, k, i _ _ _ h, w⟩
theorem PT.sem {e : Expr} {s s' : SmB} (h : PT X e (tB Φ s)) (i : ∀ env Q Qx, s' env Q Qx → s env Q Qx) : PT X e (tB Φ s') :=
  PT.imp h fun σ H Q ⟨env, Qd, Qx, k, h, w⟩ => ⟨env, Qd, Qx, k, i _ _ _ h, w⟩
theorem PS.sem {e : Stmt} {s s' : SmS} (h : PS X e (tS Φ s)) (i : ∀ env E, s' env E → s env E) : PS X e (tS Φ s') :=
  PS.imp h fun D σ H ⟨env, E, k, h, w⟩ => ⟨env, E, k, i _ _ h, w⟩

/-! ### names -/
def vN (i : Nat) : Sm := fun env Q _ => match env[i]? with
  | some (some (.d d)) => Q d
  | _ => False
/-- to be read, whoever it belongs to -/
def vR (i : Nat) : Sm := fun env Q _ => match env[i]? with
  | some (some (.d d)) => Q d
  | some (some (.ml ds)) => Q (.lst ds)
  | _ => False
abbrev VisT (sc : Scope) (x : Str) : Prop := Vis sc x
theorem xn (i : Nat) {x : Str} {pos : Pos} (hN : X.N[i]? = some x := by rfl) (hv : Vis X.env.scope x := by first | exact .inl rfl | exact .inr (.inl rfl) | exact .inr (.inr rfl)) (hd : (x == ("__debug__" : Str)) = false := by decide) (hcd : (x == ("__classdict__" : Str)) = false := by decide) : PE X (.Name x pos) (tE Φ (vN i)) :=
  PE.sem (ok_loc hN hv hd hcd) fun env Q Qx h => by
    unfold vN at h
    split at h
    · rename_i d e; exact ⟨d, e, h⟩
    · exact h.elim
theorem xr (i : Nat) {x : Str} {pos : Pos} (hN : X.N[i]? = some x := by rfl) (hv : Vis X.env.scope x := by first | exact .inl rfl | exact .inr (.inl rfl) | exact .inr (.inr rfl)) (hd : (x == ("__debug__" : Str)) = false := by decide) (hcd : (x == ("__classdict__" : Str)) = false := by decide) : PE X (.Name x pos) (tR Φ (vR i)) :=
  PE.imp (pe_var hN hv hd hcd) fun σ H Q h => by
    obtain ⟨env, Qd, Qx, k, h, w, _⟩ := h
    unfold vR at h
    split at h
    · rename_i d e
      obtain ⟨v, e1, r⟩ := k.slot i _ e
      exact ⟨v, e1, w d v H h (Step.refl k.hand) (Rep.b r)⟩
    · rename_i ds e
      obtain ⟨v, e1, p, xs, rfl, n, n0, hp, r⟩ := k.slot i _ e
      exact ⟨.ref p, e1, w (.lst ds) _ H h (Step.refl k.hand) (.lst (.inr ⟨n, hp⟩) r)⟩
    · exact h.elim
/-- a constant of the module -/
theorem xg {x : Str} {pos : Pos} {v : V} {u : Value} {d : D} (hm : X.mg x = some u) (r : RelV v u) (hr : RepC v d) (hg : Gl X x := by rfl) (hd : (x == ("__debug__" : Str)) = false := by decide) : PE X (.Name x pos) (tE Φ (vCon d)) :=
  ok_glob hg hm r (fun _ => hr.rep) hd

/-! ### truth -/
def bT (s : Sm) : SmB := fun env Q Qx => s env (fun d => match d.tru with
  | some b => Q b
  | none => False) Qx
variable {a b c : Expr} {sa sb sc : Sm} {pos : Pos}
/-- the readings keep what is wanted -/
def Sm.Mono (s : Sm) : Prop := ∀ env (Q Q' : PD) Qx, (∀ d, Q d → Q' d) → s env Q Qx → s env Q' Qx
theorem xt (hK : X.K = Φ.g.K) (h : PE X a (tR Φ sa)) (he : ∀ whole, isTrue a X.env whole = (do let v ← whole; standAt a.pos; holding [v] (truthy v)) := by intro _; rfl) : PT X a (tB Φ (bT sa)) :=
  PT.imp (pt_truth h he) fun σ H Q h => by
    obtain ⟨env, Qd, Qx, k, h, w, wx⟩ := h
    refine ⟨env, _, Qx, k, h, fun d v H' hq s r => ?_, wx⟩
    cases e : d.tru with
    | none => rw [e] at hq; exact hq.elim
    | some b => rw [e] at hq; exact ⟨b, by rw [hK]; exact r.tru e, w b H' hq s⟩
/-- a and b, a or b, not a as values -/
def vAndT (a b : Sm) : Sm := fun env Q Qx => a env (fun d => match d.tru with
  | some true => b env Q Qx
  | some false => Q d
  | none => False) Qx
def vOrT (a b : Sm) : Sm := fun env Q Qx => a env (fun d => match d.tru with
  | some true => Q d
  | some false => b env Q Qx
  | none => False) Qx
def vNotT (a : Sm) : Sm := fun env Q Qx => a env (fun d => match d.tru with
  | some k => Q (.bl (!k))
  | none => False) Qx
theorem xand {rest : List Expr} (hK : X.K = Φ.g.K) (ha : PE X a (tE Φ sa)) (hb : PE X (.BoolOp .And (b :: rest) pos) (tE Φ sb)) : PE X (.BoolOp .And (a :: b :: rest) pos) (tE Φ (vAndT sa sb)) := PE.imp (pe_andT ha hb) fun σ H Q h => by
  obtain ⟨env, Qd, Qx, k, h, w, wx⟩ := h
  refine ⟨env, _, Qx, k, h, fun d v H1 hq s1 r1 => ?_, wx⟩
  cases e : d.tru with
  | none => rw [e] at hq; exact hq.elim
  | some c =>
    rw [e] at hq
    refine ⟨c, by rw [hK]; exact r1.b.tru e, ?_⟩
    cases c with
    | true => exact ⟨env, Qd, Qx, k.step s1, hq, fun d v H' q s r => w d v H' q (s1.trans s) r, wx.step s1⟩
    | false => exact w _ _ _ hq s1 r1
theorem xor {rest : List Expr} (hK : X.K = Φ.g.K) (ha : PE X a (tE Φ sa)) (hb : PE X (.BoolOp .Or (b :: rest) pos) (tE Φ sb)) : PE X (.BoolOp .Or (a :: b :: rest) pos) (tE Φ (vOrT sa sb)) := PE.imp (pe_orT ha hb) fun σ H Q h => by
  obtain ⟨env, Qd, Qx, k, h, w, wx⟩ := h
  refine ⟨env, _, Qx, k, h, fun d v H1 hq s1 r1 => ?_, wx⟩
  cases e : d.tru with
  | none => rw [e] at hq; exact hq.elim
  | some c =>
    rw [e] at hq
    refine ⟨c, by rw [hK]; exact r1.b.tru e, ?_⟩
    cases c with
    | false => exact ⟨env, Qd, Qx, k.step s1, hq, fun d v H' q s r => w d v H' q (s1.trans s) r, wx.step s1⟩
    | true => exact w _ _ _ hq s1 r1
theorem xnot (hK : X.K = Φ.g.K) (ha : PE X a (tR Φ sa)) : PE X (.UnaryOp .Not a pos) (tE Φ (vNotT sa)) := PE.imp (pe_notT ha) fun σ H Q h => by
  obtain ⟨env, Qd, Qx, k, h, w, wx⟩ := h
  refine ⟨env, _, Qx, k, h, fun d v H1 hq s1 r1 => ?_, wx⟩
  cases e : d.tru with
  | none => rw [e] at hq; exact hq.elim
  | some c => rw [e] at hq; exact ⟨c, by rw [hK]; exact r1.tru e, w _ _ _ hq s1 (.bl _)⟩

/-! ### comparisons as tests -/
/-- what a comparison says -/
def bC (f : D → D → PD → Prop) (a b : Sm) : SmB := fun env Q Qx => a env (fun x => b env (fun y => f x y fun d => match d with
  | .bl k => Q k
  | _ => False) Qx) Qx
/-- an operation gives a truth value alone -/
theorem xc {op : CmpOp} {r : R2} {f : D → D → PD → Prop} (ho : OpR X (compareOp op) r) (hs : Serves2 Φ r f) (ha : PE X a (tR Φ sa)) (hb : PE X b (tR Φ sb)) (hk : behindInMarks op b = false) : PT X (.Compare a [op] [b] pos) (tB Φ (bC f sa sb)) := by
  refine PT.imp (pt_cmpR (OpR.lk ho) ha hb hk) fun σ H Q h => ?_
  obtain ⟨env, Qd, Qx, k, h, w, wx⟩ := h
  refine ⟨env, _, Qx, k, h, fun d x H1 h1 s1 r1 => ?_, wx⟩
  refine ⟨env, _, Qx, k.step s1, h1, fun d2 y H2 h2 s2 r2 => ?_, wx.step s1⟩
  have st := s1.trans s2
  refine hs x y d d2 H2 _ _ st.hand (r1.step s2 s1.hand) r2 h2 fun z v H' q s rz => ?_
  cases z <;> try exact q.elim
  cases rz
  exact ⟨_, rfl, w _ H' q (st.trans s)⟩
/-- a op b op c -/
def vCh (f f' : D → D → PD → Prop) (a b c : Sm) : Sm := fun env Q Qx => a env (fun x => b env (fun y => f x y fun d => match d with
  | .bl true => c env (fun z => f' y z Q) Qx
  | .bl false => Q (.bl false)
  | _ => False) Qx) Qx
def bCh (f f' : D → D → PD → Prop) (a b c : Sm) : SmB := fun env Q Qx => a env (fun x => b env (fun y => f x y fun d => match d with
  | .bl true => c env (fun z => f' y z fun d => match d with
    | .bl k => Q k
    | _ => False) Qx
  | .bl false => Q false
  | _ => False) Qx) Qx
theorem xch {op op' : CmpOp} {r r' : R2} {f f' : D → D → PD → Prop} (ho : OpR X (compareOp op) r) (ho' : OpR X (compareOp op') r') (hs : Serves2 Φ r f) (hs' : Serves2 Φ r' f') (ha : PE X a (tR Φ sa)) (hb : PE X b (tR Φ sb)) (hc : PE X c (tR Φ sc))
    (hm : lastMarks [op, op'] [b, c] = false := by with_unfolding_all rfl) : PE X (.Compare a [op, op'] [b, c] pos) (tE Φ (vCh f f' sa sb sc)) := PE.imp (pe_chain (OpR.lk ho) (OpR.lk ho') ha hb hc hm) fun σ H Q h => by
  obtain ⟨env, Qd, Qx, k, h, w, wx⟩ := h
  refine ⟨env, _, Qx, k, h, fun d x H1 h1 s1 r1 => ?_, wx⟩
  refine ⟨env, _, Qx, k.step s1, h1, fun d2 y H2 h2 s2 r2 => ?_, wx.step s1⟩
  have st := s1.trans s2
  refine hs x y d d2 H2 _ _ st.hand (r1.step s2 s1.hand) r2 h2 fun z v H3 q s3 rz => ?_
  cases z <;> try exact q.elim
  case bl t =>
    cases rz
    refine ⟨t, rfl, ?_⟩
    cases t with
    | false => exact w _ _ _ q (st.trans s3) (.bl _)
    | true =>
      refine ⟨env, _, Qx, (k.step st).step s3, q, fun d3 z H4 h4 s4 r4 => ?_, (wx.step st).step s3⟩
      have st3 := (st.trans s3).trans s4
      exact hs' y z d2 d3 H4 Qd Q st3.hand (r2.step (s3.trans s4) st.hand) r4 h4 fun z v H' q s rz => w _ _ _ q (st3.trans s) rz
theorem xcht {op op' : CmpOp} {r r' : R2} {f f' : D → D → PD → Prop} (ho : OpR X (compareOp op) r) (ho' : OpR X (compareOp op') r') (hs : Serves2 Φ r f) (hs' : Serves2 Φ r' f') (ha : PE X a (tR Φ sa)) (hb : PE X b (tR Φ sb)) (hc : PE X c (tR Φ sc))
    (hm : lastMarks [op, op'] [b, c] = false := by with_unfolding_all rfl) : PT X (.Compare a [op, op'] [b, c] pos) (tB Φ (bCh f f' sa sb sc)) := PT.imp (pt_chain (OpR.lk ho) (OpR.lk ho') ha hb hc hm) fun σ H Q h => by
  obtain ⟨env, Qd, Qx, k, h, w, wx⟩ := h
  refine ⟨env, _, Qx, k, h, fun d x H1 h1 s1 r1 => ?_, wx⟩
  refine ⟨env, _, Qx, k.step s1, h1, fun d2 y H2 h2 s2 r2 => ?_, wx.step s1⟩
  have st := s1.trans s2
  refine hs x y d d2 H2 _ _ st.hand (r1.step s2 s1.hand) r2 h2 fun z v H3 q s3 rz => ?_
  cases z <;> try exact q.elim
  case bl t =>
    cases rz
    refine ⟨t, rfl, ?_⟩
    cases t with
    | false => exact ⟨_, rfl, w _ _ q (st.trans s3)⟩
    | true =>
      refine ⟨env, _, Qx, (k.step st).step s3, q, fun d3 z H4 h4 s4 r4 => ?_, (wx.step st).step s3⟩
      have st3 := (st.trans s3).trans s4
      refine hs' y z d2 d3 H4 _ _ st3.hand (r2.step (s3.trans s4) st.hand) r4 h4 fun z v H' q s rz => ?_
      cases z <;> try exact q.elim
      cases rz
      exact ⟨_, rfl, w _ _ q (st3.trans s)⟩
/-! ### the comparisons, by name -/
theorem tLt (ha : PE X a (tR Φ sa)) (hb : PE X b (tR Φ sb)) : PT X (.Compare a [.Lt] [b] pos) (tB Φ (bC fLt sa sb)) := xc op_lt (sv_int0 (fun i j H => .bl _) fLt_int) ha hb (nomark _)
theorem tLe (ha : PE X a (tR Φ sa)) (hb : PE X b (tR Φ sb)) : PT X (.Compare a [.LtE] [b] pos) (tB Φ (bC fLe sa sb)) := xc op_le (sv_int0 (fun i j H => .bl _) fLe_int) ha hb (nomark _)
theorem tGt (ha : PE X a (tR Φ sa)) (hb : PE X b (tR Φ sb)) : PT X (.Compare a [.Gt] [b] pos) (tB Φ (bC fGt sa sb)) := xc op_gt (sv_int0 (fun i j H => .bl _) fGt_int) ha hb (nomark _)
theorem tGe (ha : PE X a (tR Φ sa)) (hb : PE X b (tR Φ sb)) : PT X (.Compare a [.GtE] [b] pos) (tB Φ (bC fGe sa sb)) := xc op_ge (sv_int0 (fun i j H => .bl _) fGe_int) ha hb (nomark _)
theorem tEq (hu : X.A.units + 65 < cLine) (ha : PE X a (tR Φ sa)) (hb : PE X b (tR Φ sb)) (hK : X.K = Φ.g.K := by rfl) : PT X (.Compare a [.Eq] [b] pos) (tB Φ (bC fEq sa sb)) := xc (op_eqD (by omega)) (sv_eq hK) ha hb (nomark _)
theorem tNe (hu : X.A.units + 65 < cLine) (ha : PE X a (tR Φ sa)) (hb : PE X b (tR Φ sb)) (hK : X.K = Φ.g.K := by rfl) : PT X (.Compare a [.NotEq] [b] pos) (tB Φ (bC fNe sa sb)) := xc (op_neD (by omega)) (sv_ne hK) ha hb (nomark _)
theorem tIs (ha : PE X a (tR Φ sa)) (hb : PE X b (tR Φ sb)) : PT X (.Compare a [.Is] [b] pos) (tB Φ (bC fIs sa sb)) := xc (OpR.or op_isN op_isBl) sv_is ha hb (nomark _)
theorem tIsN (ha : PE X a (tR Φ sa)) (hb : PE X b (tR Φ sb)) : PT X (.Compare a [.IsNot] [b] pos) (tB Φ (bC fIsNot sa sb)) := xc (OpR.or op_notN op_notBl) sv_isnot ha hb (nomark _)
/-- in, with a plain answer -/
def fNotIn2 : D → D → PD → Prop
  | d, .tup ds, Q => d.ok = true ∧ (D.tup ds).ok = true ∧ Q (.bl (!d.isIn ds))
  | d, .lst ds, Q => d.ok = true ∧ (D.lst ds).ok = true ∧ Q (.bl (!d.isIn ds))
  | .str x, .str z, Q => Q (.bl (!(!(Builtin.Str.occurrences z x 0 z.length 1).isEmpty)))
  | _, _, _ => False
theorem fNotIn2_to {d e : D} {Q : PD} (h : fNotIn2 d e Q) : fNotIn d e Q := by
  unfold fNotIn
  cases e
  case tup ds => exact (by cases d <;> exact ⟨h.1, h.2.1, _, rfl, h.2.2⟩)
  case lst ds => exact (by cases d <;> exact ⟨h.1, h.2.1, _, rfl, h.2.2⟩)
  case str z => cases d <;> first | exact h.elim | exact ⟨_, rfl, h⟩
  all_goals (cases d <;> exact h.elim)
theorem Serves2.weak {r : R2} {f g : D → D → PD → Prop} (h : Serves2 Φ r f) (i : ∀ x y Q, g x y Q → f x y Q) : Serves2 Φ r g := fun x y d e H Qd Q a rx ry hf w => h x y d e H Qd Q a rx ry (i _ _ _ hf) w
theorem tIn (hu : X.A.units + 65 < cLine) (ha : PE X a (tR Φ sa)) (hb : PE X b (tR Φ sb)) (hm : behindInMarks .In b = false := by rfl) (hK : X.K = Φ.g.K := by rfl) : PT X (.Compare a [.In] [b] pos) (tB Φ (bC fIn sa sb)) := xc (OpR.or (OpR.or (op_inD hu) (op_inT hu)) op_in_str) (sv_in hK) ha hb hm
theorem tNotIn (hu : X.A.units + 65 < cLine) (ha : PE X a (tR Φ sa)) (hb : PE X b (tR Φ sb)) (hm : behindInMarks .NotIn b = false := by rfl) (hK : X.K = Φ.g.K := by rfl) : PT X (.Compare a [.NotIn] [b] pos) (tB Φ (bC fNotIn2 sa sb)) := xc (OpR.or (OpR.or (op_notInD hu) (op_notInT hu)) op_notIn_str) ((sv_notin hK).weak fun _ _ _ => fNotIn2_to) ha hb hm
theorem xEq (hu : X.A.units + 65 < cLine) (ha : PE X a (tR Φ sa)) (hb : PE X b (tR Φ sb)) (hK : X.K = Φ.g.K := by rfl) : PE X (.Compare a [.Eq] [b] pos) (tE Φ (vBin fEq sa sb)) := ok_eq hK hu ha hb
theorem xNe (hu : X.A.units + 65 < cLine) (ha : PE X a (tR Φ sa)) (hb : PE X b (tR Φ sb)) (hK : X.K = Φ.g.K := by rfl) : PE X (.Compare a [.NotEq] [b] pos) (tE Φ (vBin fNe sa sb)) := ok_ne hK hu ha hb
theorem xIn (hu : X.A.units + 65 < cLine) (ha : PE X a (tR Φ sa)) (hb : PE X b (tR Φ sb)) (hm : behindInMarks .In b = false := by rfl) (hK : X.K = Φ.g.K := by rfl) : PE X (.Compare a [.In] [b] pos) (tE Φ (vBin fIn sa sb)) := ok_in hK hu ha hb hm
theorem xNotIn (hu : X.A.units + 65 < cLine) (ha : PE X a (tR Φ sa)) (hb : PE X b (tR Φ sb)) (hm : behindInMarks .NotIn b = false := by rfl) (hK : X.K = Φ.g.K := by rfl) : PE X (.Compare a [.NotIn] [b] pos) (tE Φ (vBin fNotIn2 sa sb)) :=
  ok_cmp (OpR.or (OpR.or (op_notInD hu) (op_notInT hu)) op_notIn_str) ((sv_notin hK).weak fun _ _ _ => fNotIn2_to) ha hb hm
/-- the orders that chain -/
abbrev sLt : Serves2 Φ (rI0 fun i j => V.bl (decide (i < j))) fLt := sv_int0 (fun i j H => .bl _) fLt_int
theorem xLeLe (ha : PE X a (tR Φ sa)) (hb : PE X b (tR Φ sb)) (hc : PE X c (tR Φ sc)) (hm : lastMarks [.LtE, .LtE] [b, c] = false := by with_unfolding_all rfl) : PE X (.Compare a [.LtE, .LtE] [b, c] pos) (tE Φ (vCh fLe fLe sa sb sc)) := xch op_le op_le (sv_int0 (fun i j H => .bl _) fLe_int) (sv_int0 (fun i j H => .bl _) fLe_int) ha hb hc hm
theorem xLeLt (ha : PE X a (tR Φ sa)) (hb : PE X b (tR Φ sb)) (hc : PE X c (tR Φ sc)) (hm : lastMarks [.LtE, .Lt] [b, c] = false := by with_unfolding_all rfl) : PE X (.Compare a [.LtE, .Lt] [b, c] pos) (tE Φ (vCh fLe fLt sa sb sc)) := xch op_le op_lt (sv_int0 (fun i j H => .bl _) fLe_int) (sv_int0 (fun i j H => .bl _) fLt_int) ha hb hc hm
theorem tLeLe (ha : PE X a (tR Φ sa)) (hb : PE X b (tR Φ sb)) (hc : PE X c (tR Φ sc)) (hm : lastMarks [.LtE, .LtE] [b, c] = false := by with_unfolding_all rfl) : PT X (.Compare a [.LtE, .LtE] [b, c] pos) (tB Φ (bCh fLe fLe sa sb sc)) := xcht op_le op_le (sv_int0 (fun i j H => .bl _) fLe_int) (sv_int0 (fun i j H => .bl _) fLe_int) ha hb hc hm
theorem tLeLt (ha : PE X a (tR Φ sa)) (hb : PE X b (tR Φ sb)) (hc : PE X c (tR Φ sc)) (hm : lastMarks [.LtE, .Lt] [b, c] = false := by with_unfolding_all rfl) : PT X (.Compare a [.LtE, .Lt] [b, c] pos) (tB Φ (bCh fLe fLt sa sb sc)) := xcht op_le op_lt (sv_int0 (fun i j H => .bl _) fLe_int) (sv_int0 (fun i j H => .bl _) fLt_int) ha hb hc hm
end
end Mw
end
section
set_option Elab.async false
set_option linter.all false
set_option autoImplicit false
set_option maxRecDepth 100000
set_option maxHeartbeats 1000000
namespace Mw
open PySem PySem.Spec L2

/-- what a default is, at any heap -/
def RepK (K : PySem.W.Frag) (v : V) (d : D) : Prop := ∀ (Γ : Gm) (H : Hp), Γ.K = K → Rep Γ H v d
theorem RepC.k {K : PySem.W.Frag} {v : V} {d : D} (r : RepC v d) : RepK K v d := fun _ _ _ => r.rep
theorem reps_k {K : PySem.W.Frag} {Γ : Gm} {H : Hp} (e : Γ.K = K) : ∀ {vs : List V} {ds : List D}, Paired (RepK K) vs ds → Reps Γ H vs ds
  | _, _, .nil => .nil
  | _, _, .cons r t => .cons (r Γ H e) (reps_k e t)
theorem repK_nil {K : PySem.W.Frag} {a : Addr} {o : Obj} {its : Array Value} {n : Nat} (l : K.lookup a = some o) (c : o.cls = .type "tuple") (e : o.data = .seq its n) (z : its = #[]) : RepK K (.ref a) (.tup []) := fun Γ H h => .tup (.inr ⟨o, its, n, by rw [h]; exact l, c, e, by rw [z]; exact Nat.zero_le _, by rw [z]; exact .nil⟩) .nil
abbrev Wd := List Int → Int → Int → Int → Prop
/-- a def that may be called by the name x: its promise over data; dfl its defaults -/
structure Cal (P : Program) (w : World) (K : PySem.W.Frag) (mg : Str → Option Value) (base : Heap) (wd : Wd) (cs : Cs) (x : Str) (k n : Nat) (cl : Cl) (dfl : List D) : Prop where
  ex : ∃ f fd ps, FnG P w K mg base k f fd ps (spD (GmX K wd cs) cl n) ∧ mg x = some (.ref f) ∧ PySem.W.keepIn K (.ref f) = true ∧ ∀ j, j ≤ dfl.length → ∃ dvs dus, Binds K fd ps dus ∧ Vals dvs dus ∧ Paired (RepK K) dvs (dfl.drop j)
/-- a method m of the class c -/
structure Met (P : Program) (w : World) (K : PySem.W.Frag) (mg : Str → Option Value) (base : Heap) (wd : Wd) (cs : Cs) (c : Nat) (m : Str) (k n : Nat) (cl : Cl) (dfl : List D) : Prop where
  ex : ∃ f fd ps, FnG P w K mg base k f fd ps (spD (GmX K wd cs) cl n) ∧ Cls K (cs c) ∧ Meth K (cs c) m f ∧ ∀ j, j ≤ dfl.length → ∃ dvs dus, Binds K fd ps dus ∧ Vals dvs dus ∧ Paired (RepK K) dvs (dfl.drop j)
/-- a property f of the class c -/
structure Prp (P : Program) (w : World) (K : PySem.W.Frag) (mg : Str → Option Value) (base : Heap) (wd : Wd) (cs : Cs) (c : Nat) (m : Str) (k : Nat) (cl : Cl) : Prop where
  ex : ∃ f fd ps p, FnG P w K mg base k f fd ps (spD (GmX K wd cs) cl 1) ∧ Cls K (cs c) ∧ PropOf K (cs c) m p f ∧ Binds K fd ps []
/-- the class c may be made by the name x -/
structure Mak (P : Program) (w : World) (K : PySem.W.Frag) (mg : Str → Option Value) (base : Heap) (wd : Wd) (cs : Cs) (c : Nat) (x : Str) (k n : Nat) (cl : ClI) : Prop where
  ex : ∃ f fd ps, FnG P w K mg base k f fd ps (spI (GmX K wd cs) c cl n) ∧ Mk K (cs c) f ∧ mg x = some (.ref (cs c)) ∧ Binds K fd ps []
/-- the error class c, made by the name x with the fields ks -/
structure Err (P : Program) (w : World) (K : PySem.W.Frag) (mg : Str → Option Value) (base : Heap) (cs : Cs) (c : Nat) (x : Str) (k : Nat) (ks : List Str) : Prop where
  ex : ∃ f fd ps, FnOk P w K mg base CX0 k f fd ps (spXInit (cs c) ks) ∧ OexC K (cs c) ∧ PySem.W.findIn K (.ref (cs c)) "__init__" = some (some (.ref f)) ∧ PySem.W.typeIn K (.ref f) = some (.type "function") ∧ mg x = some (.ref (cs c)) ∧ Binds K fd ps [] ∧ cs.ke c

/-- f(..), n parameters in all, dfl the defaults that are taken -/
def vCallN (n : Nat) (cl : Cl) (dfl : List D) (ss : Sms) : Sm := fun env Q Qx => ss env (fun ds => (ds ++ dfl).length = n ∧ cl (ds ++ dfl) Q Qx) Qx
def vMethN (c n : Nat) (m : Str) (cl : Cl) (dfl : List D) (a : Sm) (ss : Sms) : Sm := fun env Q Qx => a env (fun d => match d with
  | .ins c' fs => c' = c ∧ fs.lookup m = none ∧ ss env (fun ds => (d :: (ds ++ dfl)).length = n ∧ cl (d :: (ds ++ dfl)) Q Qx) Qx
  | _ => False) Qx
def vPropN (c : Nat) (cl : Cl) (a : Sm) : Sm := fun env Q Qx => a env (fun d => match d with
  | .ins c' fs => c' = c ∧ cl [d] Q fun _ => False
  | _ => False) Qx
def vMakeN (c n : Nat) (cl : ClI) (ss : Sms) : Sm := fun env Q Qx => ss env (fun ds => ds.length = n ∧ cl ds (fun fs => Q (.ins c fs)) Qx) Qx
section
variable {X : Cx} {Φ : Fm} {wd : Wd} {cs : Cs} {ix : Ix} {x m : Str} {k n c : Nat} {cl : Cl} {cli : ClI} {dfl : List D} {p pos apos : Pos} {e o : Expr} {es : List Expr} {ss : Sms} {sa : Sm} {ks : List Str}
theorem xcall (C : Cal X.prog X.w X.K X.mg X.base wd cs x k n cl dfl) (j : Nat) (hj : j ≤ dfl.length) (tk : L2N.Takes X Φ.W) (hgd : X.A.guards = some []) (hr : Room k X.A) (ha : PA X (e :: es) (tA Φ ss)) (hΓ : Φ.g = GmX X.K wd cs ix := by rfl) (hg : Gl X x := by rfl) (hdb : (x == ("__debug__" : Str)) = false := by decide)
    (he : starEach (e :: es) X.env = (false, eval e X.env) :: starEach es X.env := by rfl) (hpl : (backTo pos (starEach es X.env)).any (·.1) = false := by rfl) : PE X (.Call (.Name x p) (e :: es) [] pos) (tE Φ (vCallN n cl (dfl.drop j) ss)) := by
  obtain ⟨f, fd, ps, F, hm, hk, hB⟩ := C.ex
  obtain ⟨dvs, dus, hb, hd, hc⟩ := hB j hj
  refine PE.imp (pe_fng F hgd hr hg hm hk hb hd (fun σ => L2N.passAt tk σ) ha hdb he hpl) fun σ H Q h => ?_
  obtain ⟨env, Qd, Qx, kk, h, w, wx⟩ := h
  refine ⟨env, _, Qx, kk, h, fun ds vs H1 h1 s1 r1 => ?_, wx⟩
  have e1 := r1.length
  have e2 : dvs.length = (dfl.drop j).length := Paired.length hc
  refine ⟨by rw [List.length_append, e1, e2, ← List.length_append]; exact h1.1, ix, ds ++ dfl.drop j, Qd, Qx, by rw [← hΓ]; exact s1.hand, by rw [← hΓ]; exact r1.append (reps_k (by rw [hΓ]; rfl) hc), h1.2, fun d v H' q s r => ?_, fun xx t dd H' q s r => ?_⟩
  · rw [← hΓ] at s r
    exact w d v H' q (s1.trans s) r
  · rw [← hΓ] at s r
    exact wx.x xx t dd H' q (s1.trans s) r
theorem xcall0 (C : Cal X.prog X.w X.K X.mg X.base wd cs x k n cl dfl) (tk : L2N.Takes X Φ.W) (hgd : X.A.guards = some []) (hr : Room k X.A) (hΓ : Φ.g = GmX X.K wd cs ix := by rfl) (hg : Gl X x := by rfl) (hdb : (x == ("__debug__" : Str)) = false := by decide) :
    PE X (.Call (.Name x p) [] [] pos) (tE Φ (vCallN n cl dfl vNil)) := by
  obtain ⟨f, fd, ps, F, hm, hk, hB⟩ := C.ex
  obtain ⟨dvs, dus, hb, hd, hc⟩ := hB 0 (Nat.zero_le _)
  refine PE.imp (pe_fng0 F hgd hr hg hm hk hb hd (fun σ => L2N.passAt tk σ) hdb) fun σ H Q h => ?_
  obtain ⟨env, Qd, Qx, kk, h, w, wx⟩ := h
  have e2 : dvs.length = dfl.length := Paired.length hc
  refine ⟨by rw [List.nil_append, e2]; exact h.1, ix, dfl, Qd, Qx, by rw [← hΓ]; exact kk.hand, by rw [List.nil_append]; exact reps_k rfl hc, h.2, fun d v H' q s r => ?_, fun xx t dd H' q s r => ?_⟩
  · rw [← hΓ] at s r
    exact w d v H' q s r
  · rw [← hΓ] at s r
    exact wx.x xx t dd H' q s r
theorem xmeth {pl : Sem Bool} (C : Met X.prog X.w X.K X.mg X.base wd cs c m k n cl dfl) (j : Nat) (hj : j ≤ dfl.length) (tk : L2N.Takes X Φ.W) (hgd : X.A.guards = some []) (hr : Room k X.A) (he : PE X o (tE Φ sa)) (ha : PA X (e :: es) (tA Φ ss)) (hΓ : Φ.g = GmX X.K wd cs ix := by rfl)
    (hst : starEach (e :: es) X.env = (false, eval e X.env) :: starEach es X.env := by rfl) (hpl : (backTo pos (starEach es X.env)).any (·.1) = false := by rfl)
    (ht : eval (.Call (.Attribute o m apos) (e :: es) [] pos) X.env = (do
        let ov ← eval o X.env
        standAt apos.atName
        let (g, fst) ← holding [ov] (getMethod ov m pl)
        callWith pos g fst (backTo pos (starEach (e :: es) X.env)) (backToKw pos (keywordEach [] X.env))) := by rfl) :
    PE X (.Call (.Attribute o m apos) (e :: es) [] pos) (tE Φ (vMethN c n m cl (dfl.drop j) sa ss)) := by
  obtain ⟨f, fd, ps, F, cc, hm, hB⟩ := C.ex
  obtain ⟨dvs, dus, hb, hd, hc⟩ := hB j hj
  refine PE.imp (pe_methG (pl := pl) he cc hm F hgd hr hb hd (fun σ => L2N.passAt tk σ) ha hst hpl ht) fun σ H Q h => ?_
  obtain ⟨env, Qd, Qx, kk, h, w, wx⟩ := h
  refine ⟨env, _, Qx, kk, h, fun d v H1 h1 s1 r1 => ?_, wx⟩
  cases d <;> try exact h1.elim
  case ins c' fs =>
  obtain ⟨rfl, hl, h1⟩ := h1
  have r0 := r1
  obtain ⟨a, dx, ks, xs, ds0, rfl, rfl, ha1, rs, _⟩ := r1.insI
  refine ⟨a, dx, _, rfl, by rw [show cs c' = Φ.g.cls c' by rw [hΓ]; rfl]; exact ha1, zip_none rs.length hl, env, _, Qx, kk.step s1, h1, fun ds vs H2 h2 s2 r2 => ?_, wx.step s1⟩
  have e1 := r2.length
  have e2 := Paired.length hc
  have st := s1.trans s2
  refine ⟨?_, ix, _, Qd, Qx, by rw [← hΓ]; exact s2.hand, ?_, h2.2, fun d v H' q s r => ?_, fun xx t dd H' q s r => ?_⟩
  · rw [← h2.1]
    simp [e1, e2]
  · rw [← hΓ]
    exact .cons (r0.step s2 s1.hand) (r2.append (reps_k (by rw [hΓ]; rfl) hc))
  · rw [← hΓ] at s r
    exact w d v H' q (st.trans s) r
  · rw [← hΓ] at s r
    exact wx.x xx t dd H' q (st.trans s) r
theorem xprop (C : Prp X.prog X.w X.K X.mg X.base wd cs c m k cl) (hgd : X.A.guards = some []) (hr : Room (k + 1) X.A) (he : PE X o (tE Φ sa)) (hΓ : Φ.g = GmX X.K wd cs ix := by rfl) (hab : attributeBase o m X.env (eval o X.env) = eval o X.env := by rfl) : PE X (.Attribute o m pos) (tE Φ (vPropN c cl sa)) := by
  obtain ⟨f, fd, ps, p, F, cc, hp, hb⟩ := C.ex
  refine PE.imp (pe_propG he cc hp F hgd hr hb hab) fun σ H Q h => ?_
  obtain ⟨env, Qd, Qx, kk, h, w, wx⟩ := h
  refine ⟨env, _, Qx, kk, h, fun d v H1 h1 s1 r1 => ?_, wx⟩
  cases d <;> try exact h1.elim
  case ins c' fs =>
  obtain ⟨rfl, h1⟩ := h1
  have r0 := r1
  obtain ⟨a, dx, ks, xs, ds0, rfl, rfl, ha1, rs, _⟩ := r1.insI
  refine ⟨a, dx, _, rfl, by rw [show cs c' = Φ.g.cls c' by rw [hΓ]; rfl]; exact ha1, rfl, ix, _, Qd, _, by rw [← hΓ]; exact s1.hand, by rw [← hΓ]; exact .cons r0 .nil, h1, fun d v H' q s r => ?_, fun xx t dd H' q s r => q.elim⟩
  rw [← hΓ] at s r
  exact w d v H' q (s1.trans s) r
theorem xmake (C : Mak X.prog X.w X.K X.mg X.base wd cs c x k n cli) (tk : L2N.Takes X Φ.W) (hgd : X.A.guards = some []) (hr : Room (k + 1) X.A) (ha : PA X (e :: es) (tA Φ ss)) (hΓ : Φ.g = GmX X.K wd cs ix := by rfl) (hg : Gl X x := by rfl) (hdb : (x == ("__debug__" : Str)) = false := by decide)
    (he : starEach (e :: es) X.env = (false, eval e X.env) :: starEach es X.env := by rfl) (hpl : (backTo pos (starEach es X.env)).any (·.1) = false := by rfl) : PE X (.Call (.Name x p) (e :: es) [] pos) (tE Φ (vMakeN c n cli ss)) := by
  obtain ⟨f, fd, ps, F, M, hm, hb⟩ := C.ex
  exact ok_makeI (p := p) (ix := ix) (cl := fun ds Q Qx => ds.length = n ∧ cli ds Q Qx) (n := n) hΓ tk M (F.imp fun vs H Q E h => by
    obtain ⟨hl, i, x, dx, xs, ds, H1, Qd, Qx, h1, h2, h3, h4, h5, h6, h7, h8, h9⟩ := h
    exact ⟨hl, i, x, dx, xs, ds, H1, Qd, Qx, h1, h2, h3, h4, h5, h6, h7.2, h8, h9⟩) hgd hr hg hm hb (fun ds Q Qx h => h.1) ha hdb he hpl
/-- raise C(..) -/
def sRaiseN (c : Nat) (ks : List Str) (ss : Sms) : SmS := fun env E => ss env (fun ds => ds.length = ks.length ∧ E.xx ⟨c, List.zip ks.reverse ds.reverse⟩ env) (fun x => E.xx x env)
theorem xraise {pos' : Pos} (C : Err X.prog X.w X.K X.mg X.base cs c x k ks) (hks : ks.length ≤ 1000) (hc : X.calm = true) (tk : L2N.Takes X Φ.W) (hr : Room (k + 1) X.A) (ha : PA X (e :: es) (tA Φ ss)) (gC : Φ.g.cls c = cs c := by rfl) (gE : Φ.g.ke = cs.ke := by rfl) (hg : Gl X x := by rfl)
    (hdb : (x == ("__debug__" : Str)) = false := by decide) (he : starEach (e :: es) X.env = (false, eval e X.env) :: starEach es X.env := by rfl) (hpl : (backTo pos (starEach es X.env)).any (·.1) = false := by rfl) :
    PS X (.Raise (some (.Call (.Name x p) (e :: es) [] pos)) none pos') (tS Φ (sRaiseN c ks ss)) := by
  obtain ⟨f, fd, ps, F, T, iC, tI, hm, hb, hke⟩ := C.ex
  refine PS.imp (L2N.ps_raise hc tk (pmkN_oex T iC tI F hr hb .nil pass0 hg hm ha hdb he hpl)) fun D σ H h => ?_
  obtain ⟨env, E, kk, h, w⟩ := h
  refine ⟨env, _, _, kk, h, fun ds vs H1 q s1 r => ?_, w.wx kk⟩
  obtain ⟨q1, q⟩ := q
  refine ⟨by rw [r.length, q1]; exact hks, fun a na => ?_⟩
  refine ⟨a, vs, by rw [List.append_nil], by rw [r.length]; exact q1, upd_same, fun d H2 nd da same e1 e2 => ?_⟩
  rw [upd_ne da] at nd
  refine ⟨rfl, d, _, e1, e2, nd, ?_⟩
  have kp : ∀ b u, H1 b = some u → upd (del H2 a) d (.xd (List.zip ks.reverse vs.reverse)) b = some u := fun b u eb => by
    have n1 : b ≠ a := ne_of_none eb na
    have n2 : b ≠ d := ne_of_none eb nd
    rw [upd_ne n2, del_ne n1, same b n1 n2, upd_ne n1]
    exact eb
  have st := Step.ext kp s1.hand
  have st' := s1.trans st
  refine w.x _ env _ _ σ _ q (st'.keep kk.hand) (kk.step st') ⟨⟨by rw [gC], by rw [gE]; exact hke⟩, d, _, rfl, upd_same, fun f y hf => ?_⟩
  exact zip_look (Reps.reverse (r.step st s1.hand)) hf
end
end Mw
end
section
set_option Elab.async false
set_option linter.all false
set_option autoImplicit false
set_option maxRecDepth 100000
set_option maxHeartbeats 1000000
namespace Mw
open PySem PySem.Spec L2

/-- the own classes, whose instances are data -/
structure Uni (K : PySem.W.Frag) (cs : Cs) : Prop where
  ty : ∀ c, cs.kn c → TyC K (cs c)
  cd : ∀ c, cs.kn c → ∃ cd, PySem.W.clsIn K (cs c) = some cd ∧ cd.mro = [.ref (cs c), .type "object"]
  tp : ∀ c, cs.kn c → PySem.W.typeIn K (.ref (cs c)) = some (.type "type")
  inj : ∀ c c', cs.kn c → cs.kn c' → cs c = cs c' → c = c'
def D.insIn (cs : Cs) : D → Prop
  | .ins c _ => cs.kn c
  | _ => True
theorem RepB.known {Γ : Gm} {H : Hp} {v : V} {d : D} {cs : Cs} (e : Γ.kn = cs.kn) (r : RepB Γ H v d) : d.insIn cs := by
  cases r <;> try trivial
  case ins c _ _ _ q m r => show cs.kn c; rw [← e]; exact m.2
/-- isinstance(d, T), T a built-in class -/
def isT (T : String) : D → Bool
  | .non => T == "NoneType"
  | .bl _ => T == "bool" || T == "int"
  | .int _ => T == "int"
  | .str _ => T == "str"
  | .tup _ => T == "tuple"
  | .lst _ => T == "list"
  | .hand => T == "list"
  | .dct _ => T == "dict"
  | .ins _ _ => false
def isC (c : Nat) : D → Bool
  | .ins c' _ => c' == c
  | _ => false
/-- the built-in classes that are asked for -/
def isiTs : List String := ["int", "bool", "str", "list", "tuple"]
theorem kit_bt {K : PySem.W.Frag} {Γ : Gm} {T : String} (hT : T ∈ isiTs) {cs : Cs} (hc : Γ.cls = cs.ad) (U : Uni K cs) (d : D) (hd : d.insIn cs) : PySem.W.kitOne K (tyD Γ d) (.type T) = some (isT T d) := by
  have h5 : T = "int" ∨ T = "bool" ∨ T = "str" ∨ T = "list" ∨ T = "tuple" := by simpa [isiTs] using hT
  cases d
  case ins c fs =>
    obtain ⟨cd, e1, e2⟩ := U.cd c hd
    have key : PySem.W.subIn K (.ref (cs c)) (.type T) = some false := by
      show (PySem.W.clsIn K (cs c)).bind _ = _
      rw [e1, Option.bind_some, e2]
      rcases h5 with rfl | rfl | rfl | rfl | rfl <;> simp
    show PySem.W.kitOne K (.ref (Γ.cls c)) (.type T) = _
    rw [hc]
    unfold PySem.W.kitOne
    rw [if_neg (by simp)]
    unfold PySem.W.kitCls
    rcases h5 with rfl | rfl | rfl | rfl | rfl <;> exact (if_pos (by decide +kernel)).trans key
  all_goals (rcases h5 with rfl | rfl | rfl | rfl | rfl <;> rfl)
theorem kit_own {K : PySem.W.Frag} {Γ : Gm} {c : Nat} {cs : Cs} (hc : Γ.cls = cs.ad) (U : Uni K cs) (h : cs.kn c) (d : D) (hd : d.insIn cs) : PySem.W.kitOne K (tyD Γ d) (.ref (cs c)) = some (isC c d) := by
  obtain ⟨cd, e1, e2⟩ := U.cd c h
  have e3 := U.tp c h
  have ok : ((PySem.W.clsIn K (cs c)).isSome && PySem.W.typeIn K (.ref (cs c)) == some (.type "type")) = true := by rw [e1, e3]; rfl
  cases d
  case ins c' fs =>
    have hd : cs.kn c' := hd
    show PySem.W.kitOne K (.ref (Γ.cls c')) (.ref (cs c)) = _
    rw [hc]
    unfold PySem.W.kitOne
    by_cases e : c' = c
    · subst e
      rw [if_pos (by simp)]
      simp [isC]
    · have ne : cs c' ≠ cs c := fun z => e (U.inj _ _ hd h z)
      rw [if_neg (by simpa using ne)]
      unfold PySem.W.kitCls
      refine (if_pos ok).trans ?_
      obtain ⟨cd', e1', e2'⟩ := U.cd c' hd
      show (PySem.W.clsIn K (cs c')).bind _ = _
      rw [e1', Option.bind_some, e2']
      have ne' : cs c ≠ cs c' := fun z => ne z.symm
      simp [isC, e, ne']
  all_goals
    unfold PySem.W.kitOne
    rw [if_neg (by simp [tyD])]
    unfold PySem.W.kitCls
    exact (if_pos ok).trans rfl
section
variable {X : Cx} {Φ : Fm} {cs : Cs} {c : Nat} {a b e : Expr} {sa sb : Sm} {pos p p2 : Pos} {T : String} {wd : Wd} {ix : Ix}
theorem ok_isi2 {f : D → PD → Prop} {c : V} {u : Value} (hm : X.mg "isinstance" = none) (he : PE X e (tR Φ sa)) (hc : PE X b (tC c)) (kc : ClsV c u) (hK : X.K = Φ.g.K)
    (U : Uni X.K cs) (hΓ : Φ.g.cls = cs.ad) (hkn : Φ.g.kn = cs.kn) (hf : ∀ d Q, d.insIn cs → f d Q → ∃ k, Q (.bl k) ∧ PySem.W.kitOne Φ.g.K (tyD Φ.g d) u = some k)
    (hg : Gl X "isinstance") (hst : starEach [e, b] X.env = (false, eval e X.env) :: starEach [b] X.env) (hst2 : starEach [b] X.env = [(false, eval b X.env)]) (hpl : (backTo pos (starEach [b] X.env)).any (·.1) = false) :
    PE X (.Call (.Name "isinstance" p) [e, b] [] pos) (tE Φ (vUn f sa)) :=
  PE.imp (pe_callB call_isi hg hm PyProof.Rows.boot_isinstance (pa_cons he (pa_cons hc pa_nil hst2) hst) (by decide) (by decide) hst hpl) fun σ H Q h => by
    obtain ⟨env, Qd, Qx, k, h, w, wx⟩ := h
    refine ⟨env, _, Qx, k, h, fun d v H1 q s1 r => ?_, wx⟩
    have hi := r.known hkn
    obtain ⟨b, q, k1⟩ := hf d _ hi q
    exact ⟨v, c, _, u, b, rfl, kc, by rw [hK]; exact r.ty (fun c fs ed => by subst ed; rw [hΓ, ← hK]; exact U.ty c hi) s1.hand, by rw [hK]; exact k1, w _ _ _ q s1 (.bl b)⟩
def fIsT (T : String) (d : D) (Q : PD) : Prop := Q (.bl (isT T d))
def fIsC (c : Nat) (d : D) (Q : PD) : Prop := Q (.bl (isC c d))
theorem xisT (U : Uni X.K cs) (hm : X.mg "isinstance" = none) {x : Str} (hmx : X.mg x = none) (he : PE X e (tR Φ sa)) (hT : T ∈ isiTs := by decide) (hv : bootBuiltins x = some (.type T) := by rfl) (hΓ : Φ.g.cls = cs.ad := by rfl) (hkn : Φ.g.kn = cs.kn := by rfl) (hK : X.K = Φ.g.K := by rfl) (hg : Gl X "isinstance" := by rfl) (hgx : Gl X x := by rfl) (hd : (x == ("__debug__" : Str)) = false := by decide) (hn : x ≠ "__name__" := by decide)
    (hst : starEach [e, .Name x p2] X.env = (false, eval e X.env) :: starEach [.Name x p2] X.env := by rfl) (hst2 : starEach [.Name x p2] X.env = [(false, eval (.Name x p2) X.env)] := by rfl) (hpl : (backTo pos (starEach [.Name x p2] X.env)).any (·.1) = false := by rfl) :
    PE X (.Call (.Name "isinstance" p) [e, .Name x p2] [] pos) (tE Φ (vUn (fIsT T) sa)) :=
  ok_isi2 hm he (pe_bltn (v := .ty T) hgx hmx hv rfl hn hd) (.ty T) hK U hΓ hkn (fun d Q hi h => ⟨_, h, by rw [← hK]; exact kit_bt hT hΓ U d hi⟩) hg hst hst2 hpl
theorem xisC (U : Uni X.K cs) (c : Nat) (hm : X.mg "isinstance" = none) {x : Str} (hmx : X.mg x = some (.ref (cs c))) (hc : cs.kn c) (he : PE X e (tR Φ sa)) (hΓ : Φ.g.cls = cs.ad := by rfl) (hkn : Φ.g.kn = cs.kn := by rfl) (hK : X.K = Φ.g.K := by rfl) (hg : Gl X "isinstance" := by rfl) (hgx : Gl X x := by rfl) (hd : (x == ("__debug__" : Str)) = false := by decide)
    (hst : starEach [e, .Name x p2] X.env = (false, eval e X.env) :: starEach [.Name x p2] X.env := by rfl) (hst2 : starEach [.Name x p2] X.env = [(false, eval (.Name x p2) X.env)] := by rfl) (hpl : (backTo pos (starEach [.Name x p2] X.env)).any (·.1) = false := by rfl) :
    PE X (.Call (.Name "isinstance" p) [e, .Name x p2] [] pos) (tE Φ (vUn (fIsC c) sa)) :=
  ok_isi2 hm he (pe_glob (v := .ref (cs c)) hgx hmx rfl hd) (.own _) hK U hΓ hkn (fun d Q hi h => ⟨_, h, by rw [← hK]; exact kit_own hΓ U hc d hi⟩) hg hst hst2 hpl

/-! ### fields -/
/-- the classes in ks have the plain field f -/
structure Fld (K : PySem.W.Frag) (cs : Cs) (ks : List Nat) (f : Str) : Prop where
  ok : ∀ c ∈ ks, Cls K (cs c) ∧ NoAttr K (cs c) f
def fFldN (ks : List Nat) (f : Str) (d : D) (Q : PD) : Prop := match d with
  | .ins c fs => c ∈ ks ∧ match fs.lookup f with
    | some v => Q v
    | none => False
  | _ => False
theorem xfld {ks : List Nat} {f : Str} (F : Fld X.K cs ks f) (he : PE X e (tE Φ sa)) (hΓ : Φ.g.cls = cs.ad := by rfl) (hb : attributeBase e f X.env (eval e X.env) = eval e X.env := by rfl) : PE X (.Attribute e f pos) (tE Φ (vUn (fFldN ks f) sa)) :=
  PE.imp (pe_fld he hb) fun σ H Q h => by
    obtain ⟨env, Qd, Qx, k, h, w, wx⟩ := h
    refine ⟨env, _, Qx, k, h, fun d v H1 q s1 r => ?_, wx⟩
    cases d <;> try exact q.elim
    case ins c fs =>
    obtain ⟨hc, q⟩ := q
    cases hl : fs.lookup f with
    | none => rw [hl] at q; exact q.elim
    | some y =>
      rw [hl] at q
      obtain ⟨p, dx, ks', xs, ds, rfl, rfl, hp, rs, _⟩ := r.insI
      obtain ⟨u, hu, ru⟩ := zip_look rs hl
      obtain ⟨c1, c2⟩ := F.ok c hc
      exact ⟨p, _, dx, _, u, rfl, hp, by rw [hΓ]; exact c1, by rw [hΓ]; exact c2, hu, w _ _ _ q s1 ru⟩

/-! ### own == -/
/-- the built-in types of data -/
def btNames : List String := ["NoneType", "bool", "int", "str", "tuple", "list", "dict"]
/-- the class c has an own __eq__ -/
structure OwnE (P : Program) (w : World) (K : PySem.W.Frag) (mg : Str → Option Value) (base : Heap) (wd : Wd) (cs : Cs) (c k : Nat) (cl : Cl) : Prop where
  ex : ∃ f fd, FnG P w K mg base k f fd ["self", "other"] (spD (GmX K wd cs) cl 2) ∧ PySem.W.findIn K (.ref (cs c)) "__eq__" = some (some (.ref f)) ∧ PySem.W.isFn K (.ref f) = true ∧ Binds K fd ["self", "other"] [] ∧ cs.kn c
theorem uni_notFirst {K : PySem.W.Frag} {Γ : Gm} (hΓ : Γ.cls = cs.ad) (U : Uni K cs) (hc : cs.kn c) (d : D) (hd : d.insIn cs) : PySem.W.notFirst K (cs c) (tyD Γ d) = true := by
  unfold PySem.W.notFirst
  cases d
  case ins c' fs =>
    have hd : cs.kn c' := hd
    by_cases e : cs c' = cs c
    · show ((Value.ref (Γ.cls c') == Value.ref (cs c)) || _) = true
      rw [hΓ, e]; simp
    · obtain ⟨cd', e1', e2'⟩ := U.cd c' hd
      have key : PySem.W.subIn K (.ref (cs c')) (.ref (cs c)) = some false := by
        show (PySem.W.clsIn K (cs c')).bind _ = _
        rw [e1', Option.bind_some, e2']
        have ne' : cs c ≠ cs c' := fun z => e z.symm
        simp [ne']
      show (_ || PySem.W.subIn K (.ref (Γ.cls c')) (.ref (cs c)) == some false) = true
      rw [hΓ, key]; simp
  all_goals rfl
def fEqG (own : Nat → Option Cl) (x y : D) (Q : PD) : Prop := match x with
  | .ins c fs => match own c with
    | some cl => cl [.ins c fs, y] (fun r => match r with
      | .bl b => Q (.bl b)
      | _ => False) fun _ => False
    | none => False
  | _ => fEq x y Q
theorem fEqG_no {own : Nat → Option Cl} {d e : D} {Q : PD} (h : ¬ ∃ c fs, d = .ins c fs) (q : fEqG own d e Q) : fEq d e Q := by
  unfold fEqG at q
  split at q
  · exact (h ⟨_, _, rfl⟩).elim
  · exact q
def rEqG (Φ : Fm) (own : Nat → Option Cl) : R2 := fun x y H Q => ∃ d e Qd, Rep Φ.g H x d ∧ Rep Φ.g H y e ∧ HandAt Φ.g H ∧ fEqG own d e Qd ∧ ∀ z v H', Qd z → Step Φ.g H H' → Rep Φ.g H' v z → Q v H'
theorem op_EqG {own : Nat → Option Cl} (U : Uni X.K cs) (k : Nat) (ho : ∀ c cl, own c = some cl → OwnE X.prog X.w X.K X.mg X.base wd cs c k cl) (tk : L2N.Takes X Φ.W) (hgd : X.A.guards = some []) (hr : Room k X.A) (hΓ : Φ.g = GmX X.K wd cs ix := by rfl) : OpR X (compareOp .Eq) (rEqG Φ own) := by
  have hK : X.K = Φ.g.K := by rw [hΓ]; rfl
  have hC : Φ.g.cls = cs.ad := by rw [hΓ]; rfl
  have hkn : Φ.g.kn = cs.kn := by rw [hΓ]; rfl
  intro pins s σ H x y v u Q I rx ry hq
  obtain ⟨d, e, Qd, r1, r2, hh, q, wq⟩ := hq
  by_cases hd : ∃ c fs, d = .ins c fs
  · obtain ⟨c, fs, rfl⟩ := hd
    have hi := r2.b.known hkn
    have q : (match own c with | some cl => cl [.ins c fs, e] (fun r => match r with | .bl b => Qd (.bl b) | _ => False) (fun _ => False) | none => False) := q
    cases ec : own c with
    | none => rw [ec] at q; exact q.elim
    | some cl =>
      rw [ec] at q
      obtain ⟨f, fd, F, fE, fI, hbn, hc⟩ := (ho c cl ec).ex
      have r1' := r1
      obtain ⟨p, dx, ks, xs, ds, rfl, _, hp, rs, _⟩ := r1.insI
      obtain rfl : v = .ref p := rx
      obtain ⟨mA, J, _⟩ := ins_get I.hok hp
      obtain ⟨od, J, _⟩ := J.look
      obtain ⟨m, hF⟩ := I.fr
      rw [hC] at J
      obtain ⟨PP, kx, hP, _⟩ := kit_of I ry (by rw [hK]; exact r2.b.ty (fun c' fs' e' => by subst e'; rw [hC, ← hK]; exact U.ty c' hi) hh)
      have Jy := kx.ty (model X.prog X.w) s.heap I.kIn hP
      have key2 : wpAny (model X.prog X.w) X.A (call (.ref f) [.ref p, u]) (PySem.W.CmpBack (EP X pins σ Q)) X.xe s := by
        refine wpAny_mono (?_ : wpAny (model X.prog X.w) X.A (call (.ref f) [.ref p, u]) (EP X pins σ (fun v H' => (∃ b, v = .bl b) ∧ Q v H')) X.xe s) (fun r s' z => ?_) (fun _ _ e => e)
        · refine run_fngA (vs := [.ref p, y]) (dvs := []) F hgd hr rfl hbn .nil (L2N.passAt tk σ) I (.cons rfl (.cons ry .nil)) ?_
          refine ⟨rfl, ix, [_, _], _, fun _ => False, by rw [← hΓ]; exact hh, by rw [← hΓ]; exact .cons r1' (.cons r2 .nil), q, fun d v H' qd st rv => ?_, fun _ _ _ _ z => z.elim⟩
          cases d <;> try exact qd.elim
          rw [← hΓ] at st rv
          have qq := wq _ _ _ qd st rv
          cases rv
          exact ⟨⟨_, rfl⟩, qq⟩
        · obtain ⟨v, H', I', rv, ⟨b', rfl⟩, qq⟩ := z
          obtain rfl : r = .bool b' := rv
          exact ⟨.bl b', H', I', rfl, qq⟩
      have nf := uni_notFirst hC U hc e hi
      rw [← hC] at nf
      have fE' : PySem.W.findIn X.K (Value.ref (cs c)) (cmpInfo .Eq).2.1 = some (some (.ref f)) := fE
      show wpAny (model X.prog X.w) X.A (richCompare .Eq (.ref p) u) (EP X pins σ Q) X.xe s
      rw [hC] at nf
      exact PySem.W.cmp_K (op := .Eq) hr.units0 hF I.ok.mod.kin J Jy nf fE' fI key2
  · have q' : fEq d e Qd := by
      exact fEqG_no hd q
    have hu : X.A.units + 64 < cLine := by have := hr.un; omega
    have h2 := sv_eq (Φ := Φ) hK x y d e H _ Q hh r1.b r2.b q' wq
    exact OpR.lk (op_eqD hu) pins s σ H x y v u Q I rx ry h2
theorem xEqG {own : Nat → Option Cl} (U : Uni X.K cs) (k : Nat) (ho : ∀ c cl, own c = some cl → OwnE X.prog X.w X.K X.mg X.base wd cs c k cl) (tk : L2N.Takes X Φ.W) (hgd : X.A.guards = some []) (hr : Room k X.A) (ha : PE X a (tE Φ sa)) (hb : PE X b (tE Φ sb)) (hΓ : Φ.g = GmX X.K wd cs ix := by rfl) :
    PE X (.Compare a [.Eq] [b] pos) (tE Φ (vBin (fEqG own) sa sb)) := by
  refine PE.imp (pe_cmpR (op_EqG U k ho tk hgd hr hΓ) ha hb (nomark _)) fun σ H Q h => ?_
  obtain ⟨env, Qd, Qx, kk, h, w, wx⟩ := h
  refine ⟨env, _, Qx, kk, h, fun d x H1 h1 s1 r1 => ?_, wx⟩
  refine ⟨env, _, Qx, kk.step s1, h1, fun e y H2 h2 s2 r2 => ?_, wx.step s1⟩
  have st := s1.trans s2
  exact ⟨d, e, Qd, r1.step s2 s1.hand, r2, st.hand, h2, fun z v H' q s r => w z v H' q (st.trans s) r⟩
theorem tEqG {own : Nat → Option Cl} (U : Uni X.K cs) (k : Nat) (ho : ∀ c cl, own c = some cl → OwnE X.prog X.w X.K X.mg X.base wd cs c k cl) (tk : L2N.Takes X Φ.W) (hgd : X.A.guards = some []) (hr : Room k X.A) (ha : PE X a (tE Φ sa)) (hb : PE X b (tE Φ sb)) (hΓ : Φ.g = GmX X.K wd cs ix := by rfl) :
    PT X (.Compare a [.Eq] [b] pos) (tB Φ (bC (fEqG own) sa sb)) := by
  refine PT.imp (pt_cmpR (op_EqG U k ho tk hgd hr hΓ) ha hb (nomark _)) fun σ H Q h => ?_
  obtain ⟨env, Qd, Qx, kk, h, w, wx⟩ := h
  refine ⟨env, _, Qx, kk, h, fun d x H1 h1 s1 r1 => ?_, wx⟩
  refine ⟨env, _, Qx, kk.step s1, h1, fun e y H2 h2 s2 r2 => ?_, wx.step s1⟩
  have st := s1.trans s2
  refine ⟨d, e, _, r1.step s2 s1.hand, r2, st.hand, h2, fun z v H' q s r => ?_⟩
  cases z <;> try exact q.elim
  cases r
  exact ⟨_, rfl, w _ H' q (st.trans s)⟩
end
end Mw
end
section
set_option Elab.async false
set_option linter.all false
set_option autoImplicit false
set_option maxRecDepth 100000
set_option maxHeartbeats 1000000
namespace Mw
open PySem PySem.Spec L2
/-- enumerate(v) makes its iterator -/
theorem enum_one {v : Value} {ob : Obj} {HH : Heap → Prop} (B : Begins v ob HH) : Meets (Builtin.«enumerate.__new__» ⟨[.type "enumerate", v], []⟩) fun _ R s => HH s.heap ∧ R (.ok (.ret (.ref (s.heap.push ob).objs.size))) { s with heap := (s.heap.push ob).push { cls := .type "enumerate", data := .fields #[.none, .bool false, .ref s.heap.objs.size, rawInt 0, .none, .none] } } := by
  refine .of_wp fun prog w A R s ⟨h1, h⟩ => ?_
  have hsub := sub_enumerate
  have it : ∀ {A2 : Around} {E2 : Value → Shared → Prop} {Q2 : Value → Shared → Prop}, Q2 (.ref s.heap.objs.size) { s with heap := s.heap.push ob } → wpAny (model prog w) A2 (pyIter v) Q2 E2 s := fun {A2 E2 Q2} q => B.iter prog w A2 E2 s Q2 h1 q
  obtain ⟨hp, g, d, tk, os⟩ := s
  wp_walk using it
  refine (wpAny_stack_any fun st => (wpAny_pure ?_))
  split
  case h_1 c _ _ _ _ _ => cases (c == Value.type "enumerate") <;> (wp_walk using it; exact ⟨_, rfl, h⟩)
  case h_2 => wp_walk using it; exact ⟨_, rfl, h⟩
theorem call_enum {prog : Program} {w : World} {A : Around} {E : Value → Shared → Prop} {s : Shared} {v : Value} {ob : Obj} {HH : Heap → Prop} {Q : Value → Shared → Prop} (B : Begins v ob HH) (h1 : HH s.heap)
    (h : ∀ h', IsEnum h' (s.heap.objs.size + 1) s.heap.objs.size 0 .none → h'.get? s.heap.objs.size = some ob → (∀ b o, s.heap.get? b = some o → h'.get? b = some o) → Q (.ref (s.heap.objs.size + 1)) { s with heap := h' }) : wpAny (model prog w) A (call (.type "enumerate") [v]) Q E s := by
  refine callType_new F.called_enumerate (by decide) (F.typeCall_enumerate_1 _) (F.newCall_enumerate_1 _) (fun obj => F.args_object_init_2 obj _) F.entry_enumerate_new (enum_one B) ⟨h1, ?_⟩
  have z : (s.heap.push ob).objs.size = s.heap.objs.size + 1 := Heap.size_push ..
  show _ ∧ _
  rw [z]
  have g1 : IsEnum ((s.heap.push ob).push { cls := .type "enumerate", data := .fields #[.none, .bool false, .ref s.heap.objs.size, rawInt 0, .none, .none] }) (s.heap.objs.size + 1) s.heap.objs.size 0 .none := by
    have q := Heap.get?_push_size (s.heap.push ob) (o := { cls := .type "enumerate", data := .fields #[.none, .bool false, .ref s.heap.objs.size, rawInt 0, .none, .none] }) rfl
    rw [z] at q
    exact q
  exact ⟨⟨_, g1, rfl⟩, h _ g1 (Heap.get?_push_of_some _ (Heap.get?_push_size _ B.free)) fun b o x => Heap.get?_push_of_some _ (Heap.get?_push_of_some _ x)⟩
/-- the tuple at a with its places -/
def IteT (K : PySem.W.Frag) (a : Addr) : It :=
  ⟨fun i H => ∃ xs x, SqT K H a xs ∧ xs[i]? = some x, fun i H v H' => ∃ T x, v = .ref T ∧ H T = none ∧ H' = upd H T (.tup [.int (i : Nat), x]) ∧ ∀ xs, SqT K H a xs → xs[i]? = some x, fun i H => ∃ xs, SqT K H a xs ∧ xs.length = i⟩
theorem turn_enumT {P : Program} {w : World} {K : PySem.W.Frag} {elts : List Expr} {kk : Nat} {tpos : Pos} (a e it : Addr) (nee : a ≠ e) (nit : a ≠ it) :
    Turn P w K (.Tuple elts kk tpos) (IteT K a) [e, it] e (fun i h => (∃ old, IsEnum h e it ((i : Nat) : Int) old) ∧ h.IsTupleIter it a i ∧ e ≠ it) where
  mem := by simp
  obj := fun i h st b hb => by
    obtain ⟨⟨old, he⟩, ⟨o, ho, hc, hd⟩, _⟩ := st
    rcases (by simpa using hb : b = e ∨ b = it) with rfl | rfl
    · exact ⟨_, he, fun v q => nomatch q⟩
    · exact ⟨o, ho, fun v q => by rw [hd] at q; cases q⟩
  keep := fun i h h' st k => let ⟨⟨old, he⟩, hi, hne⟩ := st; ⟨⟨old, k e (by simp) _ he⟩, hi.at fun o q => k it (by simp) o q, hne⟩
  item := by
    intro X hP hw hK hc i pins s σ H E I hf st hg
    subst hP hw hK
    obtain ⟨⟨old, he⟩, hit, hne⟩ := st
    obtain ⟨xs, x, hq, hx⟩ := hg
    obtain ⟨its, rv, p, hz⟩ := I.tuple hq
    obtain ⟨u, hu, ru⟩ := rv.get hx
    have hel : e < s.heap.objs.size := Heap.lt_size he
    have hil : it < s.heap.objs.size := by obtain ⟨_, q, _⟩ := hit; exact Heap.lt_size q
    have D := Draws.tuple (prog := X.prog) (w := X.w) (A := X.A.in1) (I.ok.hd hc) it a nit its.toArray
    refine wpAny_pyNext_enum_itemD D he ⟨hit, p⟩ (by simpa using lt_of_get hu) hne (by simpa using ⟨hne, nee.symm⟩) fun x0 h' tk hP' ho' st' hT hsz hk => ?_
    obtain rfl : x0 = u := by
      have e1 : its.toArray[i]? = some x0 := hP'
      rw [List.getElem?_toArray, hu] at e1
      exact (Option.some.inj e1).symm
    refine ⟨_, rfl, wpAny_letOwnedTupleGo_enum (s := { s with heap := h', toks := tk + 1 }) ho' fun h'' he' sb => ?_⟩
    have hT2 : h''.get? s.heap.objs.size = some { cls := .type "tuple", data := .seq #[.int i tk, x0] } := (sb.2 _ (Nat.ne_of_gt hel)).trans hT
    have new : ObjOk X.prog X.w (upd H s.heap.objs.size (.tup [.int (i : Nat), x])) h'' s.heap.objs.size (.tup [.int (i : Nat), x]) := ⟨by show 2 ≤ sizeLine; decide, [.int i tk, x0], .cons ⟨_, rfl⟩ (.cons ru .nil), ⟨_, hT2, rfl, _, rfl⟩⟩
    have I1 : L2.Inv X pins σ (upd H s.heap.objs.size (.tup [.int (i : Nat), x])) { s with heap := h'', toks := tk + 1 } := I.turnedNew (ch := [e, it]) (fun b ob hb q => (sb.2 b (fun z => hb (by simp [z]))).trans (hk b ob (fun z => hb (by simp [z])) (fun z => hb (by simp [z])) q)) hf (Nat.le_refl _) new
    refine ⟨.ref s.heap.objs.size, _, I1, rfl, ⟨_, x, rfl, I.hok.fresh (Nat.le_refl _), rfl, fun ys hy => by rw [I.tuple_inj hy hq]; exact hx⟩, ⟨⟨x0, ?_⟩, st'.1.at fun o q => (sb.2 it (Ne.symm hne)).trans q, hne⟩, fun b hb => ?_⟩
    · have e1 : ((i + 1 : Nat) : Int) = (i : Int) + 1 := by omega
      rw [e1]
      exact he'
    · have hb' : b < s.heap.objs.size := by rcases (by simpa using hb : b = e ∨ b = it) with rfl | rfl <;> assumption
      rw [upd_ne (Nat.ne_of_lt hb')]
      exact (hf b hb).1
  done := by
    intro X hP hw hK hc i pins s σ H E I hf st hg
    subst hP hw hK
    obtain ⟨⟨old, he⟩, hit, hne⟩ := st
    obtain ⟨xs, hq, hx⟩ := hg
    obtain ⟨its, rv, p, hz⟩ := I.tuple hq
    obtain ⟨f0, f1, f2, f3, f4, f5⟩ := hf it (by simp)
    have hl := rv.length
    have D := Draws.tuple (prog := X.prog) (w := X.w) (A := X.A.in1) (I.ok.hd hc) it a nit its.toArray
    have hn : i = its.toArray.size := by simp; omega
    exact wpAny_pyNext_enum_endD D he ⟨hn ▸ hit, p⟩ fun h' eb => ⟨rfl, I.turned (t' := s.toks) (fun b o hb q => eb b o hb q) f0 f1 f3 f4 f5⟩
  self := fun A i s Q E st h => let ⟨⟨_, he⟩, _⟩ := st; wpAny_pyIter_enum he h

/-- (k, d0), (k + 1, d1), .. -/
def enumD : Int → List D → List D
  | _, [] => []
  | k, d :: r => .tup [.int k, d] :: enumD (k + 1) r
theorem enumD_len : ∀ (k : Int) (ds : List D), (enumD k ds).length = ds.length
  | _, [] => rfl
  | k, _ :: r => by unfold enumD; rw [List.length_cons, List.length_cons, enumD_len]
theorem enumD_get : ∀ (k : Int) (ds : List D) (i : Nat) (d : D), ds[i]? = some d → (enumD k ds)[i]? = some (.tup [.int (k + (i : Nat)), d])
  | _, [], _, _, h => by simp at h
  | k, x :: r, 0, d, h => by
    simp at h
    subst h
    simp [enumD]
  | k, x :: r, i + 1, d, h => by
    have q := enumD_get (k + 1) r i d (by simpa using h)
    unfold enumD
    rw [List.getElem?_cons_succ, q]
    have e : k + 1 + (i : Int) = k + ((i + 1 : Nat) : Int) := by omega
    rw [e]
section
variable {Γ : Gm} {H1 : Hp} {a : Addr} {xs : List V} {ds : List D} {K : PySem.W.Frag}
theorem walkD_enumL (q : FzL H1 a xs) (r : Reps Γ H1 xs ds) : WalkD Γ (Ite K a) H1 (enumD 0 ds) := by
  refine ⟨fun i H hi k => ?_, fun H k => ⟨xs, (q.keep k).sq, by rw [enumD_len, r.length]; exact Nat.le_refl _⟩, fun i H x H' hi k hh hy => ?_⟩
  · rw [enumD_len, ← r.length] at hi
    exact ⟨xs, _, (q.keep k).sq, List.getElem?_eq_getElem hi⟩
  · rw [enumD_len] at hi
    obtain ⟨T, z, rfl, hT, rfl, hz⟩ := hy
    obtain ⟨d, e, rd⟩ := Reps.getV (Reps.keep k r) (hz xs (q.keep k).sq)
    obtain ⟨s, rr⟩ := new_tup (ds := [.int (i : Nat), d]) hh hT (.cons (.int _) (.cons rd .nil))
    exact ⟨s, _, enumD_get 0 ds i d e, by rw [Int.zero_add]; exact rr⟩
theorem walkD_enumT (q : SqT K H1 a xs) (r : Reps Γ H1 xs ds) : WalkD Γ (IteT K a) H1 (enumD 0 ds) := by
  refine ⟨fun i H hi k => ?_, fun H k => ⟨xs, SqT.keep k q, by rw [enumD_len, r.length]⟩, fun i H x H' hi k hh hy => ?_⟩
  · rw [enumD_len, ← r.length] at hi
    exact ⟨xs, _, SqT.keep k q, List.getElem?_eq_getElem hi⟩
  · rw [enumD_len] at hi
    obtain ⟨T, z, rfl, hT, rfl, hz⟩ := hy
    obtain ⟨d, e, rd⟩ := Reps.getV (Reps.keep k r) (hz xs (SqT.keep k q))
    obtain ⟨s, rr⟩ := new_tup (ds := [.int (i : Nat), d]) hh hT (.cons (.int _) (.cons rd .nil))
    exact ⟨s, _, enumD_get 0 ds i d e, by rw [Int.zero_add]; exact rr⟩
end
section
variable {X : Cx} {Φ : Fm} {a : Expr} {sa : Sm} {elts : List Expr} {kk : Nat} {tpos p pos : Pos}
/-- enumerate(e) -/
def iEnumD (a : Sm) : SmI := fun env Q Qx => a env (fun d => seqI d fun ds => Q (enumD 0 ds)) Qx
theorem xenum (hm : X.mg "enumerate" = none) (he : PE X a (tE Φ sa)) (hK : X.K = Φ.g.K := by rfl) (hg : Gl X "enumerate" := by rfl) (hs : starEach [a] X.env = [(false, eval a X.env)] := by rfl) : PI X (.Tuple elts kk tpos) (.Call (.Name "enumerate" p) [a] [] pos) (tI Φ (iEnumD sa)) := by
  refine ⟨fun pins s σ H R I h => ?_⟩
  obtain ⟨env, Qd, Qx, k, h, w, wx⟩ := h
  refine PyProof.Rows.Call_ (ld_blt I hg hm PyProof.Rows.boot_enumerate (PyProof.Rows.callWith_type1 (thn ((pa_cons he pa_nil hs).run pos pins s σ H (fun vs H1 => ∃ v d, vs = [v] ∧ Rep Φ.g H1 v d ∧ seqI d (fun ds => Qd (enumD 0 ds)) ∧ Step Φ.g H H1) I ⟨env, _, Qx, k, h, fun d v H1 q s1 r => ⟨v, d, rfl, r, q, s1⟩, wx⟩) fun us s1 ⟨vs, H1, I1, r1, q1⟩ => ?_) hs rfl))
  obtain ⟨v, d, rfl, rd, q, st⟩ := q1
  cases r1 with
  | cons rv rr =>
    cases rr
    have fin : ∀ {h' : Heap} {J : It} {tn : Nat → Heap → Prop} (hk : ∀ b o, s1.heap.get? b = some o → h'.get? b = some o), R J H1 → Turn X.prog X.w X.K (.Tuple elts kk tpos) J [s1.heap.objs.size + 1, s1.heap.objs.size] (s1.heap.objs.size + 1) tn → tn 0 h' → PIE X pins σ (.Tuple elts kk tpos) R (.ref (s1.heap.objs.size + 1)) { s1 with heap := h' } := fun {h' J tn} hk q T t0 =>
      ⟨_, [s1.heap.objs.size + 1, s1.heap.objs.size], _, _, H1, rfl, I1.kept (t' := s1.toks) hk, T, t0, fun b hb => by
        have hle : s1.heap.objs.size ≤ b := (by simpa using hb : b = s1.heap.objs.size + 1 ∨ b = s1.heap.objs.size).elim (fun z => z ▸ Nat.le_succ _) (fun z => z ▸ Nat.le_refl _)
        exact I1.fpOk hle (I1.hok.fresh hle), q⟩
    cases rd
    case lst b xs ds z r =>
      cases rv
      obtain ⟨its, rv, p', hz⟩ := I1.list z.sq
      exact call_enum (begins_list b its.toArray) p'.isList fun h' he ho hk => wpAny_pyIter_enum he (fin hk (w _ _ H1 q st (walkD_enumL z r)) (turn_enum b _ _) ⟨⟨.none, he⟩, ⟨_, ho, rfl, rfl⟩, Nat.succ_ne_self _⟩)
    case tup b xs ds z r =>
      cases rv
      have z' : SqT X.K H1 b xs := by rw [hK]; exact z
      obtain ⟨its, rv, p', hz⟩ := I1.tuple z'
      have hb : b < s1.heap.objs.size := by obtain ⟨o, e, _⟩ := p'; exact Heap.lt_size e
      exact call_enum (begins_tuple b its.toArray) p' fun h' he ho hk => wpAny_pyIter_enum he (fin hk (w _ _ H1 q st (walkD_enumT z' r)) (turn_enumT b _ _ (Nat.ne_of_lt (Nat.lt_succ_of_lt hb)) (Nat.ne_of_lt hb)) ⟨⟨.none, he⟩, ⟨_, ho, rfl, rfl⟩, Nat.succ_ne_self _⟩)
    all_goals exact q.elim
end
end Mw
end
section
set_option Elab.async false
set_option linter.all false
set_option autoImplicit false
set_option maxRecDepth 100000
set_option maxHeartbeats 1000000
namespace Mw
open PySem PySem.Spec L2
section
variable {prog : Program} {w : World} {A : Around} {E : Value → Shared → Prop} {s : Shared}
/-- a backwards walk put behind a list -/
theorem extend_rev {R : Result → Shared → Prop} {it l S : Addr} {items : Array Value} {res : Value} {c0 : Nat} (hh : A.handled = none) (hit : s.heap.IsRevIter it l ((items.size : Int) - 1)) (hl : s.heap.IsList l items) (hne : l ≠ it) (hSi : S ≠ it) (hSl : S ≠ l) (hn : items.size ≤ sizeLine)
    (hS : s.heap.get? S = some { cls := .type "list", data := .seq #[] c0 })
    (hR : ∀ s' acc c', Moved [S, it] (fun a b => b = a) s s' → s'.heap.get? S = some { cls := .type "list", dict := none, data := .seq acc c', slots := #[] } → ItemsOf (fun i v => items[items.size - 1 - i]? = some v) acc items.size → R (.ok (.ret res)) s') :
    wpAny (model prog w) A.in1 (Builtin.List.listExtendWith (.ref S) (.ref it) res) (fun fin s' => match fin with | .done f => R (.ok f) s' | .again c' => c'.quiet = true ∧ codeAny (model prog w) A c' R s') (fun e s' => R (.error e) s') s := by
  have W := (Walks.listRev (prog := prog) (w := w) (A := A.in1) hh it l hne items).toS
  have hSf : S ∉ [it, l] := by simp only [List.mem_cons, List.not_mem_nil, or_false, not_or]; exact ⟨hSi, hSl⟩
  have hT : s.TypeIs (.ref it) "list_reverseiterator" := hit.typeIs
  have same : Builtin.List.listSameRef (.ref S) (.ref it) = false := by simp [Builtin.List.listSameRef, hSi]
  unfold Builtin.List.listExtendWith
  refine wpAny_bind (wpAny_typeOf hT ?_); rw [if_neg (by rw [same]; decide)]
  refine wpAny_bind (wpAny_pyIter_revIter hit (wpAny_bind (wpAny_holding ?_)))
  unfold Builtin.List.listLengthHint
  refine wpAny_bind (wpAny_specialOf hT RT.nolen_lri ?_)
  show wpAny _ A.in1 (specialOf (Value.ref it) (Str.ofString "__length_hint__") >>= _) _ _ _
  refine wpAny_bind (wpAny_specialOf hT RT.hint_lri ?_)
  generalize hid : ("list_reverseiterator.__length_hint__" : String) = idh; wp_delta
  rw [show splitId idh = some ("list_reverseiterator", "__length_hint__") from by subst hid; decide +kernel]; subst hid
  refine wpAny_bind (wpAny_isInstance (b := true) hT (by rw [isSubtype_type]; kernel_rfl) (wpAny_pure ?_)); rw [if_neg (by decide)]
  refine wpAny_pure ⟨plainId_quiet F.plain_extend_loop _, codeAny_extend_loopS W hn S hSf res items.size 0 s #[] c0 rfl (Nat.zero_le _) ⟨Nat.zero_le _, ?_, hl⟩ hS (ItemsOf.nil _) fun s' acc' c' hm hS' hacc => hR s' acc' c' hm hS' hacc⟩
  rw [show ((items.size : Nat) : Int) - 1 - ((0 : Nat) : Int) = (items.size : Int) - 1 by omega]; exact hit
/-- list(it), it a backwards walk -/
theorem call_list_rev {it l : Addr} {items : Array Value} {Q : Value → Shared → Prop} (hh : A.handled = none) (hit : s.heap.IsRevIter it l ((items.size : Int) - 1)) (hl : s.heap.IsList l items) (hne : l ≠ it) (hn : items.size ≤ sizeLine)
    (hQ : ∀ s' acc c', Moved [s.heap.objs.size, it] (fun a b => b = a) { s with heap := s.heap.push { cls := .type "list", data := .seq #[] } } s' → s'.heap.get? s.heap.objs.size = some { cls := .type "list", dict := none, data := .seq acc c', slots := #[] } → ItemsOf (fun i v => items[items.size - 1 - i]? = some v) acc items.size → Q (.ref s.heap.objs.size) s') :
    wpAny (model prog w) A (call (.type "list") [.ref it]) Q E s := by
  refine callType_codes (Q₁ := fun obj z => obj = .ref s.heap.objs.size ∧ z = { s with heap := s.heap.push { cls := .type "list", data := .seq #[] } }) F.called_list (F.typeCall_list_1 _) F.entry_list_init (code_list_new _ ⟨rfl, rfl⟩) ?_
  rintro obj z ⟨rfl, rfl⟩
  have hS : (s.heap.push { cls := .type "list", data := .seq #[] }).get? s.heap.objs.size = some { cls := .type "list", data := .seq #[] } := Heap.get?_push_size _ rfl
  have hSi : s.heap.objs.size ≠ it := by obtain ⟨_, e, _⟩ := hit; exact Nat.ne_of_gt (Heap.lt_size e)
  have hSl : s.heap.objs.size ≠ l := by obtain ⟨_, e, _⟩ := hl; exact Nat.ne_of_gt (Heap.lt_size e)
  refine ⟨⟨_, hS, rfl⟩, F.args_list_init_2 _ _, ?_⟩
  show wpAny _ A.in1.in1 (do let old ← Builtin.List.listItems (.ref s.heap.objs.size); Builtin.List.listUpdate (.ref s.heap.objs.size) (fun _ => #[]); letGo old.toList.reverse; Builtin.List.listExtendWith (.ref s.heap.objs.size) (.ref it) .none) _ _ _
  refine wpAny_bind ?_; unfold Builtin.List.listItems
  refine (wpAny_bind (wpAny_seqItems hS rfl (wpAny_pure ?_)))
  show wpAny _ A.in1.in1 (updateSeq s.heap.objs.size (fun _ => #[]) >>= fun _ => letGo (#[] : Array Value).toList.reverse >>= fun _ => Builtin.List.listExtendWith (.ref s.heap.objs.size) (.ref it) .none) _ _ _
  refine wpAny_bind (wpAny_updateSeq hS rfl ?_)
  have hS2 := Heap.get?_update_self (Obj.mapSeq (fun _ => (#[] : Array Value))) hS rfl
  have oth : ∀ b o, b ≠ s.heap.objs.size → (s.heap.push { cls := .type "list", data := .seq #[] }).get? b = some o → ((s.heap.push { cls := .type "list", data := .seq #[] }).update s.heap.objs.size (Obj.mapSeq (fun _ => (#[] : Array Value)))).get? b = some o := fun b o nb e => (Heap.get?_update_other _ _ (Ne.symm nb)).trans e
  have up : ∀ b o, s.heap.get? b = some o → b ≠ s.heap.objs.size ∧ (s.heap.push { cls := .type "list", data := .seq #[] }).get? b = some o := fun b o e => ⟨Nat.ne_of_lt (Heap.lt_size e), Heap.get?_push_of_some _ e⟩
  refine wpAny_bind (wpAny_letGo (extend_rev (A := A.in1) hh (hit.at fun o e => oth _ _ (up _ _ e).1 (up _ _ e).2) (hl.at fun o e => oth _ _ (up _ _ e).1 (up _ _ e).2) hne hSi hSl hn hS2 fun s' acc c' hm hS' hacc => ?_))
  exact ⟨rfl, hQ s' acc c' ⟨fun b o hb e => hm.heap b o hb (oth b o (fun h => hb (h ▸ List.mem_cons_self)) e), hm.gens, hm.drawn, hm.os, hm.toks⟩ hS' hacc⟩
end
/-- list(reversed(e)), e a list -/
def vListRev (a : Sm) : Sm := fun env Q Qx => a env (fun d => match d with
  | .lst ds => Q (.lst ds.reverse)
  | _ => False) Qx
section
variable {X : Cx} {Φ : Fm} {a : Expr} {sa : Sm} {p p2 pos pos2 : Pos}
theorem xlistRev (hc : X.calm = true) (hm : X.mg "list" = none) (hm2 : X.mg "reversed" = none) (he : PE X a (tR Φ sa)) (hK : X.K = Φ.g.K := by rfl) (hg : Gl X "list" := by rfl) (hg2 : Gl X "reversed" := by rfl) (hs : starEach [a] X.env = (false, eval a X.env) :: starEach [] X.env := by rfl)
    (hs2 : starEach [.Call (.Name "reversed" p2) [a] [] pos2] X.env = (false, eval (.Call (.Name "reversed" p2) [a] [] pos2) X.env) :: starEach [] X.env := by rfl) : PE X (.Call (.Name "list" p) [.Call (.Name "reversed" p2) [a] [] pos2] [] pos) (tE Φ (vListRev sa)) := by
  refine PE.imp (PE.lk (t := fun σ H Q => tR Φ sa σ H fun v H1 => ∃ (b : Addr) (xs : List V), v = .ref b ∧ SqL X.K H1 b xs ∧ ∀ q, H1 q = none → Q (.ref q) (upd H1 q (.lst xs.reverse))) ⟨fun pins s σ H Q I h => ?_⟩) fun σ H Q h => ?_
  · refine PyProof.Rows.Call_ (ld_blt I hg hm (by rfl) (PyProof.Rows.callWith_type1 (PyProof.Rows.args_cons (PyProof.Rows.Call_ (ld_blt I hg2 hm2 PyProof.Rows.boot_reversed (PyProof.Rows.callWith_type1 (PyProof.Rows.args_cons (thn (he.run pins s σ H _ I h) fun u s1 ⟨v, H1, I1, r1, q1⟩ => PyProof.Rows.args_nil ?_) hs) hs rfl))) hs2) hs2 rfl))
    obtain ⟨b, xs, ev, hq, q⟩ := q1
    subst ev
    obtain rfl : u = Value.ref b := r1
    obtain ⟨its, rv, p', hz⟩ := I1.list hq
    refine call_reversed_list p'.isList (PyProof.Rows.args_nil ?_)
    have I2 : L2.Inv X pins σ H1 { s1 with heap := s1.heap.push (revObj b ((its.toArray.size : Int) - 1)) } := I1.kept (t' := s1.toks) fun b o e => Heap.get?_push_of_some _ e
    obtain ⟨f0, f1, f2, f3, f4, f5⟩ := I1.fpOk (H' := H1) (b := s1.heap.objs.size) (Nat.le_refl _) (I1.hok.fresh (Nat.le_refl _))
    have hl := p'.isList
    have hne : b ≠ s1.heap.objs.size := by obtain ⟨_, e, _⟩ := id hl; exact Nat.ne_of_lt (Heap.lt_size e)
    have hn : its.toArray.size ≤ sizeLine := by rw [List.size_toArray, ← rv.length]; exact hz
    refine call_list_rev (s := { s1 with heap := s1.heap.push (revObj b ((its.toArray.size : Int) - 1)) }) (I1.ok.hd hc) ⟨_, Heap.get?_push_size _ rfl, rfl, rfl⟩ (hl.push _) hne hn fun s' acc c' hm hS hi => ?_
    have hsz : ∀ b o, s1.heap.get? b = some o → b < (s1.heap.push (revObj b ((its.toArray.size : Int) - 1))).objs.size := fun b o e => Heap.lt_size (Heap.get?_push_of_some _ e)
    have vr := RT.vals_rev rv hi
    rw [Moved.eq_with hm]
    refine ⟨.ref (s1.heap.push (revObj b ((its.toArray.size : Int) - 1))).objs.size, _, I2.turnedNew (ob := .lst xs.reverse) (h' := s'.heap) (t' := s'.toks) (ch := [s1.heap.objs.size]) (fun c o nc e => ?_) (fun c hc' => ?_) (Nat.le_refl _) ⟨by rw [List.length_reverse]; exact hz, acc.toList, c', vr, by rw [Array.toArray_toList]; exact hS⟩, rfl, q _ (I2.hok.fresh (Nat.le_refl _))⟩
    · refine hm.heap c o (fun z => ?_) (Heap.get?_push_of_some _ e)
      rcases List.mem_cons.mp z with z | z
      · exact absurd (Heap.lt_size e) (by rw [z]; exact Nat.lt_irrefl _)
      · exact nc z
    · obtain rfl : c = s1.heap.objs.size := by simpa using hc'
      exact ⟨f0, f1, f2, f3, f4, f5⟩
  · obtain ⟨env, Qd, Qx, k, h, w, wx⟩ := h
    refine ⟨env, _, Qx, k, h, fun d v H1 q s1 r => ?_, wx⟩
    cases r <;> try exact q.elim
    case lst b xs ds z r => exact ⟨b, xs, rfl, by rw [hK]; exact z.sq, fun l hl => lk_lst s1.hand hl (Reps.reverse r) fun H' s z => w _ _ _ q (s1.trans s) z⟩
end
end Mw
end
section
set_option Elab.async false
set_option linter.all false
set_option autoImplicit false
set_option maxRecDepth 100000
set_option maxHeartbeats 4000000
namespace Mw
open PySem PySem.Spec L2 PyProof.Rows
/-- a set that was just made -/
abbrev set0 (w : World) : Obj := { cls := .type "set", dict := none, data := .set #[] 0 (.fresh 0 0 (!w.params.followText "set-order")) }
section
variable {P : Program} {w : World} {A : Around} {E : Value → Shared → Prop} {s : Shared}
/-- set(l): what the loop over l makes of the new set -/
theorem call_set_list {l : Addr} {items : Array Value} {Post : Heap → Prop} {Q : Value → Shared → Prop} (hl : s.heap.IsList l items)
    (hU : ∀ (A' : Around) (z : Shared) (I : Addr) (R : Result → Shared → Prop), A'.handled = A.handled → A'.units ≤ A.units + 4 → z.heap.IsListIter I l 0 → z.heap.IsList l items → I ≠ l → I ≠ s.heap.objs.size → z.heap.get? s.heap.objs.size = some (set0 w) → (∀ b o, s.heap.get? b = some o → z.heap.get? b = some o) →
      (∀ z', Moved [s.heap.objs.size, I] (fun a b => b = a) z z' → Post z'.heap → R (.ok (.ret .none)) z') → codeAny (model P w) A' (.builtin "set.update.loop" ⟨[.ref s.heap.objs.size, .ref I], []⟩) R z)
    (h : ∀ (h' : Heap) (tk : Nat), Post h' → (∀ b o, s.heap.get? b = some o → h'.get? b = some o) → Q (.ref s.heap.objs.size) { s with heap := h', toks := tk }) :
    wpAny (model P w) A (call (.type "set") [.ref l]) Q E s := by
  have hS : (s.heap.push (set0 w)).get? s.heap.objs.size = some (set0 w) := Heap.get?_push_size _ rfl
  have hT : Shared.TypeIs { s with heap := s.heap.push (set0 w) } (.ref s.heap.objs.size) "set" := ⟨_, hS, rfl⟩
  obtain ⟨ol, hol, hcl, nl, hdl⟩ := hl
  have hlS : l < s.heap.objs.size := Heap.lt_size hol
  obtain ⟨c, tl, hmro⟩ := F.called_set.mro
  have hmade := F.called_set.made; have hsub := F.called_set.sub
  refine wpAny_call (codeAny_of_tree (show wpAny _ _ (callAny (.type "set") _) _ _ _ from ?_))
  refine wpAny_pure ⟨Code.quiet_builtin _ (by decide +kernel), (codeAny_builtin F.entry_type_call ?_)⟩
  rw [Around.under_plain (weight_type_call_type "set" [.ref l] []) rfl]
  have h1 := F.called_set.notType; have h2 := F.called_set.canCreate; have hct := F.typeCall_set_1 (.ref l)
  repeat (any_goals (first | assumption | wp_step))
  refine codeAny_mono (code_set_led1 (.ref l) (E := E) (Q₁ := fun obj z => obj = .ref s.heap.objs.size ∧ z = { s with heap := s.heap.push (set0 w) }) ⟨rfl, rfl⟩) ?_
  intro r z hr
  match r, hr with
  | .error e, hr => exact hr
  | .ok .next, hr => exact hr.elim
  | .ok .brk, hr => exact hr.elim
  | .ok .cont, hr => exact hr.elim
  | .ok (.ret obj), hr =>
    obtain ⟨rfl, rfl⟩ := hr
    have hli := F.called_set.init.lookup; have hbi := F.called_set.init.bind (.ref s.heap.objs.size)
    repeat (any_goals (first | assumption | wp_step))
    refine codeAny_mono (codeAny_call_builtin (R := wants (fun r y => r = .none ∧ ∃ h' tk, y = { s with heap := h', toks := tk } ∧ Post h' ∧ ∀ b o, s.heap.get? b = some o → h'.get? b = some o) E) F.called_set.init.plain F.entry_set_init (check_set_init_1 hT ?_)) ?_
    · obtain ⟨ocls, odict, odata, oslots⟩ := ol
      dsimp only at hcl hdl
      subst hcl hdl
      have hol' : (s.heap.push (set0 w)).get? l = some { cls := .type "list", dict := odict, data := .seq items nl, slots := oslots } := Heap.get?_push_of_some _ hol
      have hl1 : (s.heap.push (set0 w)).IsList l items := ⟨_, hol', rfl, nl, rfl⟩
      have hsls := F.sub_list_set; have hslf := F.sub_list_frozenset
      have hne : (Value.type "list" == Value.type "dict") = false := by decide
      unfold Builtin.«set.__init__» noKeywords Builtin.Frozenset.updateFrom
      generalize hPI : pyIter = PI
      wp_walk
      subst hPI
      refine wpAny_pyIter_list hl1 (wpAny_bind (wpAny_runValue ?_))
      have hz1 : (s.heap.push (set0 w)).objs.size = s.heap.objs.size + 1 := Heap.size_push ..
      refine hU _ _ (s.heap.push (set0 w)).objs.size _ rfl (by simp [Around.in1]) ⟨_, Heap.get?_push_size _ rfl, rfl, rfl⟩ (hl1.push _) (by rw [hz1]; exact Nat.ne_of_gt (Nat.lt_succ_of_lt hlS)) (by rw [hz1]; exact Nat.succ_ne_self _) (Heap.get?_push_of_some _ hS) (fun b o e => Heap.get?_push_of_some _ (Heap.get?_push_of_some _ e)) ?_
      intro z' hm hP
      rw [Moved.eq_with hm]
      refine wpAny_pure (show wpAny _ _ (ret Value.none) _ _ _ from wpAny_pure ⟨rfl, z'.heap, z'.toks, rfl, hP, fun b o e => ?_⟩)
      have hb0 : b < s.heap.objs.size := Heap.lt_size e
      refine hm.heap b o (fun hb => ?_) (Heap.get?_push_of_some _ (Heap.get?_push_of_some _ e))
      rcases List.mem_cons.mp hb with hb | hb
      · exact Nat.ne_of_lt hb0 hb
      · exact Nat.ne_of_lt (Nat.lt_succ_of_lt hb0) ((List.mem_singleton.mp hb).trans hz1)
    · intro r2 z2 hr2
      match r2, hr2 with
      | .error e, hr2 => exact hr2
      | .ok .next, hr2 => exact hr2.elim
      | .ok .brk, hr2 => exact hr2.elim
      | .ok .cont, hr2 => exact hr2.elim
      | .ok (.ret r), hr2 =>
        obtain ⟨rfl, h', tk, rfl, hP, hk⟩ := hr2
        repeat (any_goals (first | assumption | wp_step))
        exact h _ _ hP hk
end
end Mw
end
section
set_option Elab.async false
set_option linter.all false
set_option autoImplicit false
set_option maxRecDepth 100000
set_option maxHeartbeats 4000000
namespace Mw
open PySem PySem.Spec L2
/-! ### the one ascending list -/
def insU (x : Int) : List Int → List Int
  | [] => [x]
  | y :: r => if x < y then x :: y :: r else if x = y then y :: r else y :: insU x r
def sortU (ns : List Int) : List Int := ns.foldr insU []
theorem insU_mem {x k : Int} : ∀ {l : List Int}, k ∈ insU x l ↔ k = x ∨ k ∈ l
  | [] => by simp [insU]
  | y :: r => by
    unfold insU
    split
    · simp
    · split
      · rename_i h; subst h; simp
      · rw [List.mem_cons, insU_mem, List.mem_cons]
        constructor
        · rintro (h | h | h) <;> simp [h]
        · rintro (h | h | h) <;> simp [h]
theorem insU_asc {x : Int} : ∀ {l : List Int}, l.Pairwise (· < ·) → (insU x l).Pairwise (· < ·)
  | [], _ => by simp [insU]
  | y :: r, h => by
    obtain ⟨h1, h2⟩ := List.pairwise_cons.mp h
    unfold insU
    split
    · rename_i hx
      refine List.pairwise_cons.mpr ⟨fun k hk => ?_, h⟩
      rcases List.mem_cons.mp hk with e | e
      · subst e; exact hx
      · exact Int.lt_trans hx (h1 k e)
    · split
      · exact h
      · rename_i a b
        refine List.pairwise_cons.mpr ⟨fun k hk => ?_, insU_asc h2⟩
        rcases insU_mem.mp hk with e | e
        · subst e; omega
        · exact h1 k e
theorem sortU_mem {k : Int} : ∀ {ns : List Int}, k ∈ sortU ns ↔ k ∈ ns
  | [] => by simp [sortU]
  | n :: ns => by
    show k ∈ insU n (sortU ns) ↔ _
    rw [insU_mem, sortU_mem, List.mem_cons]
theorem sortU_asc : ∀ (ns : List Int), (sortU ns).Pairwise (· < ·)
  | [] => .nil
  | n :: ns => insU_asc (sortU_asc ns)
theorem asc_one : ∀ {l m : List Int}, l.Pairwise (· < ·) → m.Pairwise (· < ·) → (∀ k, k ∈ l ↔ k ∈ m) → l = m
  | [], [], _, _, _ => rfl
  | [], y :: m, _, _, h => absurd ((h y).mpr List.mem_cons_self) List.not_mem_nil
  | x :: l, [], _, _, h => absurd ((h x).mp List.mem_cons_self) List.not_mem_nil
  | x :: l, y :: m, hl, hm, h => by
    obtain ⟨l1, l2⟩ := List.pairwise_cons.mp hl
    obtain ⟨m1, m2⟩ := List.pairwise_cons.mp hm
    have e : x = y := by
      rcases List.mem_cons.mp ((h x).mp List.mem_cons_self) with a | a
      · exact a
      · rcases List.mem_cons.mp ((h y).mpr List.mem_cons_self) with b | b
        · exact b.symm
        · have := m1 x a; have := l1 y b; omega
    subst e
    rw [asc_one l2 m2 fun k => ?_]
    constructor
    · intro hk
      rcases List.mem_cons.mp ((h k).mp (List.mem_cons_of_mem _ hk)) with a | a
      · have := l1 k hk; omega
      · exact a
    · intro hk
      rcases List.mem_cons.mp ((h k).mpr (List.mem_cons_of_mem _ hk)) with a | a
      · have := m1 k hk; omega
      · exact a
theorem insU_len {x : Int} : ∀ {l : List Int}, (insU x l).length ≤ l.length + 1
  | [] => by simp [insU]
  | y :: r => by
    unfold insU
    split
    · simp
    · split
      · simp
      · have := insU_len (x := x) (l := r); simp only [List.length_cons]; omega
theorem sortU_len : ∀ (ns : List Int), (sortU ns).length ≤ ns.length
  | [] => by simp [sortU]
  | n :: ns => by
    have h1 := sortU_len ns
    have h2 := insU_len (x := n) (l := sortU ns)
    show (insU n (sortU ns)).length ≤ ns.length + 1
    omega
/-- a list of ints -/
def D.ints : List D → Option (List Int)
  | [] => some []
  | .int i :: r => (D.ints r).map (i :: ·)
  | _ :: _ => none
theorem D.ints_map : ∀ (ns : List Int), D.ints (ns.map D.int) = some ns
  | [] => rfl
  | n :: ns => by show (D.ints (ns.map D.int)).map _ = _; rw [D.ints_map]; rfl
theorem D.ints_eq : ∀ {ds : List D} {ns : List Int}, D.ints ds = some ns → ds = ns.map D.int
  | [], ns, h => by cases h; rfl
  | d :: r, ns, h => by
    cases d <;> try cases h
    case int i =>
    obtain ⟨ms, e, rfl⟩ := Option.map_eq_some_iff.mp h
    rw [D.ints_eq e]
    rfl
section
variable {X : Cx} {Φ : Fm}
def rSetL (K : PySem.W.Frag) (w : World) : List V → Hp → VK → Prop := fun xs H Q => ∃ (l : Addr) (ns : List Int), xs = [V.ref l] ∧ SqL K H l (ns.map V.int) ∧ ns.length + 1 < scanBound ∧ ∀ p c, H p = none → c ≤ ns.length → Q (.ref p) (upd H p (SetO w p (fun j => decide (j ∈ ns)) c))
theorem cr_setL (hc : X.calm = true) : CallR X (.type "set") (rSetL X.K X.w) := by
  intro pins s σ H vs us Q I r h
  obtain ⟨l, ns, rfl, hq, hb, q⟩ := h
  rw [Vals.ref1 r]
  obtain ⟨its, rv, p', hz⟩ := I.list hq
  have hit := ints_of_vals rv
  have hsz : its.toArray.size = ns.length := by rw [List.size_toArray, ← rv.length, List.length_map]
  refine call_set_list (Post := fun h' => ∃ c, c ≤ ns.length ∧ SetR X.w h' s.heap.objs.size (fun j => decide (j ∈ ns)) c) p'.isList (fun A' z I2 R e1 _ hi hl n1 n2 hS kp hR => ?_) fun h' tk hP kp => ?_
  · have hh : A'.in1.handled = none := e1.trans (I.ok.hd hc)
    have hlS : l < s.heap.objs.size := by obtain ⟨_, e, _⟩ := p'.isList; exact Heap.lt_size e
    refine set_update_ints ((Walks.list hh I2 l n1.symm its.toArray).toS) s.heap.objs.size (by simp only [List.mem_cons, List.not_mem_nil, or_false, not_or]; exact ⟨n2.symm, Nat.ne_of_gt hlS⟩) ns hsz hb (fun i v hv => ?_) (its.toArray.size - 0) 0 z rfl (Nat.zero_le _) ⟨hi, hl⟩ ⟨0, Nat.le_refl 0, setR_new_at hS⟩ fun z' c hm hc' hS' => hR z' hm ⟨c, by rw [← hsz]; exact hc', hS'⟩
    have hv' : its[i]? = some v := by simpa using hv
    have hi' : i < ns.length := by rw [← hsz]; simpa using lt_of_get hv'
    obtain ⟨t, e⟩ := PyProof.Rows.IntsAre.int_at hit i v hv'
    exact ⟨ns[i], t, List.getElem?_eq_getElem hi', by rw [e, List.getD_eq_getElem?_getD, List.getElem?_eq_getElem hi'] <;> rfl⟩
  · obtain ⟨c, hc', R⟩ := hP
    exact ⟨.ref s.heap.objs.size, _, I.laid kp (Nat.le_refl _) (setO_new R), rfl, q _ c (I.hok.fresh (Nat.le_refl _)) hc'⟩
variable {a : Expr} {sa : Sm} {p p2 pos pos2 : Pos}
/-- sorted(set(e)), e a list of few ints -/
def vSortSet (a : Sm) : Sm := fun env Q Qx => a env (fun d => match d with
  | .lst ds => match D.ints ds with
    | some ns => ns.length < 64 ∧ Q (.lst ((sortU ns).map D.int))
    | none => False
  | _ => False) Qx
theorem xsortSet (hc : X.calm = true) (hm : X.mg "sorted" = none) (hm2 : X.mg "set" = none) (he : PE X a (tR Φ sa)) (hK : X.K = Φ.g.K := by rfl) (hg : Gl X "sorted" := by rfl) (hg2 : Gl X "set" := by rfl) (hs : starEach [a] X.env = (false, eval a X.env) :: starEach [] X.env := by rfl)
    (hs2 : starEach [.Call (.Name "set" p2) [a] [] pos2] X.env = (false, eval (.Call (.Name "set" p2) [a] [] pos2) X.env) :: starEach [] X.env := by rfl) : PE X (.Call (.Name "sorted" p) [.Call (.Name "set" p2) [a] [] pos2] [] pos) (tE Φ (vSortSet sa)) := by
  refine PE.imp (PE.lk (pe_callB (cr_sortedSet hc) hg hm (by rfl) (pa_cons (pe_callTy (cr_setL hc) hg2 hm2 (by rfl) (pa_cons he pa_nil hs) (by decide) (by decide) hs rfl) pa_nil hs2) (by decide) (by decide) hs2 rfl)) fun σ H Q h => ?_
  obtain ⟨env, Qd, Qx, k, h, w, wx⟩ := h
  refine ⟨env, _, Qx, k, h, fun d v H1 q s1 r => ?_, wx⟩
  cases r <;> try exact q.elim
  case lst b xs ds z r =>
  dsimp only at q
  cases e : D.ints ds with
  | none => rw [e] at q; exact q.elim
  | some ns =>
    rw [e] at q
    obtain ⟨hl, q⟩ := q
    obtain rfl := D.ints_eq e
    obtain rfl := reps_ints r
    refine ⟨b, ns, rfl, by rw [hK]; exact z.sq, ?_, fun t c nt hc' => ?_⟩
    · unfold scanBound; omega
    · refine ⟨t, _, c, rfl, upd_same, by omega, fun out u hs' hm' _ nu => ?_⟩
      obtain rfl : out = sortU ns := asc_one hs' (sortU_asc ns) fun j => by rw [hm' j, sortU_mem]; simp
      have st := Step.ext (Γ := Φ.g) (upd_keeps (o := SetO X.w t (fun j => decide (j ∈ ns)) c) nt) s1.hand
      exact lk_lst st.hand nu (reps_of_ints _) fun H' s z => w _ _ _ q ((s1.trans st).trans s) z
end
end Mw
end
section
set_option Elab.async false
set_option linter.all false
set_option autoImplicit false
set_option maxRecDepth 100000
set_option maxHeartbeats 4000000
namespace Mw
open PySem PySem.Spec L2
/-! ### an own list is handed on: nobody's from there -/
def frz1 (i : Nat) (env : En) : En := match env[i]? with
  | some (some (.ml ds)) => env.set i (some (.d (.lst ds)))
  | _ => env
def sFz (i : Nat) (s : SmS) : SmS := fun env E => s (frz1 i env) E
section
variable {X : Cx} {Φ : Fm} {st : Stmt} {s t : SmS} {e c : Expr} {body : List Stmt} {sc : SmB} {se sa sb : Sm} {pos pos' : Pos}
theorem xfz (i : Nat) (h : PS X st (tS Φ s)) : PS X st (tS Φ (sFz i s)) := by
  refine ⟨fun pins sh σ H D I q => ?_⟩
  obtain ⟨env, E, k, h2, w⟩ := q
  by_cases hm : ∃ ds, env[i]? = some (some (.ml ds))
  · obtain ⟨ds, hi⟩ := hm
    refine (ok_frz (i := i) h).run pins sh σ H D I ⟨env, E, k, ⟨ds, hi, ?_⟩, w⟩
    unfold sFz frz1 at h2
    rw [hi] at h2
    exact h2
  · refine h.run pins sh σ H D I ⟨env, E, k, ?_, w⟩
    unfold sFz frz1 at h2
    split at h2
    · rename_i ds e; exact absurd ⟨ds, e⟩ hm
    · exact h2

/-! ### targets -/
def gAll : List SmG → List D → En → (En → Prop) → Prop
  | [], [], env, Q => Q env
  | g :: gs, d :: ds, env, Q => g d env fun e => gAll gs ds e Q
  | _, _, _, _ => False
def gTp (gs : List SmG) : SmG := fun d env Q => match d with
  | .tup ds => gAll gs ds env Q
  | _ => False
def tGs (Φ : Fm) (gs : List SmG) : TGs := fun vs σ H Q => ∃ ds env Qe, SOK Φ.c env σ H ∧ Reps Φ.g H vs ds ∧ gAll gs ds env Qe ∧ ∀ env' σ', Qe env' → SOK Φ.c env' σ' H → Q σ' H
theorem PGs.imp {ts : List Expr} {t t' : TGs} (h : PGs X ts t) (i : ∀ vs σ H Q, t' vs σ H Q → t vs σ H Q) : PGs X ts t' := ⟨fun pins s σ H vs us Q I r q => h.run pins s σ H vs us Q I r (i vs σ H Q q)⟩
theorem xgs_nil : PGs X [] (tGs Φ []) := PGs.imp pgs_nil fun vs σ H Q h => by
  obtain ⟨ds, env, Qe, k, r, h, w⟩ := h
  cases ds with
  | nil => cases r; exact ⟨rfl, w env σ h k⟩
  | cons d ds => exact h.elim
theorem xgs_cons {ts : List Expr} {g : SmG} {gs : List SmG} (h1 : PG X e (tG Φ g)) (h2 : PGs X ts (tGs Φ gs)) (hs : (assignEach (e :: ts) X.env).map (·.2) = assign e X.env :: (assignEach ts X.env).map (·.2) := by rfl) : PGs X (e :: ts) (tGs Φ (g :: gs)) := PGs.imp (pgs_cons h1 h2 hs) fun vs σ H Q h => by
  obtain ⟨ds, env, Qe, k, r, h, w⟩ := h
  cases r with
  | nil => exact h.elim
  | cons r rs => exact ⟨_, _, rfl, _, env, _, k, r, h, fun env' σ' q k' => ⟨_, env', Qe, k', rs, q, w⟩⟩
theorem gAll_len : ∀ (gs : List SmG) (ds : List D) (env : En) (Q : En → Prop), gAll gs ds env Q → gs.length = ds.length ∨ ds.length < gs.length ∨ gs.length < ds.length := fun gs ds _ _ _ => by omega
/-- a target of several names; their number is asked of the data -/
def gTn (n : Nat) (gs : List SmG) : SmG := fun d env Q => match d with
  | .tup ds => ds.length = n ∧ gAll gs ds env Q
  | _ => False
theorem xgt {ts : List Expr} {kk n : Nat} {gs : List SmG} (h : PGs X ts (tGs Φ gs)) (hc : X.calm = true) (hK : X.K = Φ.g.K := by rfl) (hn : (assignEach ts X.env).length = n := by rfl) (hst : (assignEach ts X.env).findIdx? (·.1) = none := by rfl) : PG X (.Tuple ts kk pos) (tG Φ (gTn n gs)) :=
  PG.imp (pg_tup hc h hn hst) fun v σ H Q h => by
    obtain ⟨d, env, Qe, k, r, h, w⟩ := h
    cases r <;> try exact h.elim
    case tup a xs ds q r => exact ⟨a, xs, rfl, by rw [hK]; exact q, by rw [r.length]; exact h.1, ds, env, Qe, k, r, h.2, w⟩
theorem xgn (i : Nat) {x : Str} (hN : X.N.Nodup) (hi : X.N[i]? = some x := by rfl) (hx : Loc X.env.scope x := by first | exact .inl rfl | exact .inr rfl) (hf : X.fn x = true ∨ X.env.scope.names.lookup x = some .local := by first | exact .inl rfl | exact .inr rfl) : PG X (.Name x pos) (tG Φ (gN i)) := okg_name hN hi hx hf
/-- targets = e -/
def sAsg (g : SmG) (s : Sm) : SmS := fun env E => s env (fun d => g d env E.nx) (fun x => E.xx x env)
theorem xasg {tg : Expr} {g : SmG} (he : PE X e (tE Φ se)) (hg : PG X tg (tG Φ g)) (hs : swapsWithSole [tg] e pos.line X.env = pure false := by rfl) (hw : swappedStores [tg] e X.env = pure none := by rfl) (h1 : (assignEach [tg] X.env).map (·.2) = [assign tg X.env] := by rfl) :
    PS X (.Assign [tg] e pos) (tS Φ (sAsg g se)) := PS.imp (ps_asg he hg hs hw h1) fun D σ H h => by
  obtain ⟨env, E, k, h, w⟩ := h
  exact ⟨env, _, _, k, h, fun d v H' q s r => ⟨d, env, _, k.step s, r, q, fun env' σ' q' k' => w.nx _ _ _ q' (s.keep k.hand) k'⟩, w.wx k⟩
/-! ### while -/
def sWh (c : SmB) (b : SmS) : SmS := fun env E => ∃ W : Nat → En → Prop, (∃ m, W m env) ∧ ∀ m env, W m env → c env (fun k => if k = true then b env { nx := fun e => ∃ m', m' < m ∧ W m' e, rt := E.rt, bk := E.nx, ct := fun e => ∃ m', m' < m ∧ W m' e, xx := E.xx } else E.nx env) (fun x => E.xx x env)
theorem xwh (po : PassesOwn (model X.prog X.w) X.A X.env X.xe) (hc : PT X c (tB Φ sc)) (hb : PSs X body (tS Φ s)) : PS X (.While c body [] pos) (tS Φ (sWh sc s)) := PS.imp (ps_while po hc hb) fun D σ H h => by
  obtain ⟨env, E, k, ⟨W, ⟨m, w0⟩, turn⟩, w⟩ := h
  refine ⟨fun m σ' H' => ∃ env', SOK Φ.c env' σ' H' ∧ Keep Φ.g H H' ∧ W m env', ⟨m, env, k, Keep.refl H, w0⟩, fun m σ1 H1 hW => ?_⟩
  obtain ⟨env1, k1, kp1, hw⟩ := hW
  have wl := w.later kp1
  refine ⟨env1, _, _, k1, turn m env1 hw, fun b H2 q s2 => ?_, wl.wx k1⟩
  have k2 := k1.step s2
  have kp2 : Keep Φ.g H H2 := kp1.trans (s2.keep k1.hand)
  cases b with
  | false => exact wl.nx _ _ _ q (s2.keep k1.hand) k2
  | true =>
    have wm := w.later kp2
    refine ⟨fun σ' H' => ∃ m', m' < m ∧ ∃ env', SOK Φ.c env' σ' H' ∧ Keep Φ.g H H' ∧ W m' env', fun σ' H' h => h, env1, _, k2, q, ⟨fun e σ' H' h kp' k' => ?_, wm.rt, wm.nx, fun e σ' H' h kp' k' => ?_, wm.x⟩⟩
    · obtain ⟨m', hm, h⟩ := h
      exact ⟨m', hm, e, k', kp2.trans kp', h⟩
    · obtain ⟨m', hm, h⟩ := h
      exact ⟨m', hm, e, k', kp2.trans kp', h⟩
/-! ### x += e, x -= e of ints -/
def sAug (i : Nat) (f : Int → Int → Int) (s : Sm) : SmS := fun env E => match env[i]? with
  | some (some (.d (.int n))) => s env (fun d => match d with
    | .int m => E.nx (env.set i (some (.d (.int (f n m)))))
    | _ => False) (fun x => E.xx x env)
  | _ => False
theorem xaug {op : Operator} {f : Int → Int → Int} (ho : PIp X op (ipI f)) {i : Nat} {x : Str} (hN : X.N.Nodup) (he : PE X e (tE Φ se)) (hi : X.N[i]? = some x := by rfl) (hx : Loc X.env.scope x := by first | exact .inl rfl | exact .inr rfl) (hf : X.fn x = true ∨ X.env.scope.names.lookup x = some .local := by first | exact .inl rfl | exact .inr rfl) :
    PS X (.AugAssign (.Name x pos') op e pos) (tS Φ (sAug i f se)) := PS.imp (ps_aug hN hi hx he ho hf) fun D σ H h => by
  obtain ⟨env, E, k, h, w⟩ := h
  unfold sAug at h
  split at h
  · rename_i n e0
    obtain ⟨v, e1, r⟩ := k.slot i _ e0
    cases (show Rep Φ.g H v (.int n) from r)
    refine ⟨_, e1, env, _, _, k, h, fun d v H1 q s r => ?_, w.wx k⟩
    cases d <;> try exact q.elim
    cases r
    exact ⟨n, _, rfl, rfl, w.nx _ _ _ q (s.keep k.hand) ((k.step s).set (.int _))⟩
  · exact h.elim
theorem xaugA (i : Nat) {x : Str} (hN : X.N.Nodup) (he : PE X e (tE Φ se)) (hi : X.N[i]? = some x := by rfl) (hx : Loc X.env.scope x := by first | exact .inl rfl | exact .inr rfl) (hf : X.fn x = true ∨ X.env.scope.names.lookup x = some .local := by first | exact .inl rfl | exact .inr rfl) :
    PS X (.AugAssign (.Name x pos') .Add e pos) (tS Φ (sAug i (fun a b => a + b) se)) := xaug ip_add hN he hi hx hf
theorem xaugS (i : Nat) {x : Str} (hN : X.N.Nodup) (he : PE X e (tE Φ se)) (hi : X.N[i]? = some x := by rfl) (hx : Loc X.env.scope x := by first | exact .inl rfl | exact .inr rfl) (hf : X.fn x = true ∨ X.env.scope.names.lookup x = some .local := by first | exact .inl rfl | exact .inr rfl) :
    PS X (.AugAssign (.Name x pos') .Sub e pos) (tS Φ (sAug i (fun a b => a - b) se)) := xaug ip_sub hN he hi hx hf
/-! ### l.index(x) -/
def fIndex (d : D) (y : D) (Q : PD) : Prop := match d with
  | .lst ds => (D.lst ds).ok = true ∧ y.ok = true ∧ match ds.findIdx? (fun z => z.eqv y) with
    | some j => Q (.int (j : Nat))
    | none => False
  | _ => False
theorem pys_get : ∀ {ds : List D} {ps : List PyData} {j : Nat} {d : D}, D.pys ds = some ps → ds[j]? = some d → ∃ p, d.py = some p ∧ ps[j]? = some p
  | [], _, _, _, _, h => by simp at h
  | x :: xs, ps, j, d, h, hd => by
    unfold D.pys at h
    cases h1 : D.py x with
    | none => rw [h1] at h; simp at h
    | some q =>
      cases h2 : D.pys xs with
      | none => rw [h1, h2] at h; simp at h
      | some qs =>
        rw [h1, h2] at h
        cases h
        cases j with
        | zero => simp at hd; subst hd; exact ⟨q, h1, by simp⟩
        | succ j =>
          obtain ⟨p, a, b⟩ := pys_get h2 (by simpa using hd)
          exact ⟨p, a, by simpa using b⟩
theorem pys_len : ∀ {ds : List D} {ps : List PyData}, D.pys ds = some ps → ds.length = ps.length
  | [], ps, h => by cases h; rfl
  | x :: xs, ps, h => by
    unfold D.pys at h
    cases h1 : D.py x with
    | none => rw [h1] at h; simp at h
    | some q =>
      cases h2 : D.pys xs with
      | none => rw [h1, h2] at h; simp at h
      | some qs =>
        rw [h1, h2] at h
        cases h
        simp [pys_len h2]
def vIndex (a b : Sm) : Sm := fun env Q Qx => a env (fun d => match d with
  | .lst ds => b env (fun y => fIndex (.lst ds) y Q) Qx
  | _ => False) Qx
theorem xindex {o : Expr} {apos cpos : Pos} (hu : X.A.units + 65 < cLine) (ho : PE X o (tR Φ sa)) (he : PE X e (tR Φ se)) (hK : X.K = Φ.g.K := by rfl) (hbase : attributeBase o "index" X.env (eval o X.env) = eval o X.env := by rfl)
    (hfew : ((backTo cpos (starEach [e] X.env)).all (fun x => !x.1) && (backToKw cpos (keywordEach [] X.env)).all (fun x => x.1.isSome) && decide ([e].length + ([] : List Keyword).length + (if ([] : List Keyword).isEmpty then 0 else 1) < 30)) = true := by rfl)
    (hline : (apos.endLine == cpos.line) = true := by rfl) (hs : starEach [e] X.env = (false, eval e X.env) :: starEach [] X.env := by rfl) (hplain : (backTo cpos (starEach [] X.env)).any (·.1) = false := by rfl) :
    PE X (.Call (.Attribute o "index" apos) [e] [] cpos) (tE Φ (vIndex sa se)) := PE.imp (pe_bm PySem.F.plainAttrs_list PySem.F.slot_list_index PySem.F.type_list_index (mt_indexD hu) ho (pa_cons he pa_nil hs) hbase hfew hline hs hplain) fun σ H Q h => by
  obtain ⟨env, Qd, Qx, k, h, w, wx⟩ := h
  refine ⟨env, _, Qx, k, h, fun d v H1 h1 s1 r1 => ?_, wx⟩
  have r1' := r1
  cases r1 <;> try exact h1.elim
  case lst b xs ds z r =>
  refine ⟨.inl ⟨rfl, xs, by rw [hK]; exact z.sq⟩, env, _, Qx, k.step s1, h1, fun y u H2 h2 s2 r2 => ?_, wx.step s1⟩
  obtain ⟨o1, o2, q⟩ := h2
  obtain ⟨p, e1, sh1⟩ := D.ok_py o1
  obtain ⟨p2, e2, sh2⟩ := D.ok_py o2
  obtain ⟨ps, e3, rfl⟩ := lst_py e1
  have eq1 : ∀ {d : D} {pd : PyData}, d.py = some pd → d.eqv y = PyData.eqv pd p2 := fun {d pd} e => by unfold D.eqv; rw [e, e2]
  cases ej : ds.findIdx? (fun z => z.eqv y) with
  | none => rw [ej] at q; exact q.elim
  | some j =>
    rw [ej] at q
    obtain ⟨hj, h3, h4⟩ := List.findIdx?_eq_some_iff_getElem.mp ej
    obtain ⟨pz, a1, a2⟩ := pys_get e3 (List.getElem?_eq_getElem hj)
    refine ⟨b, u, p2, ps, j, pz, rfl, rfl, by rw [hK]; exact (r1'.step s2 s1.hand).dp e1, by rw [hK]; exact r2.dp e2, sh1, sh2, a2, by rw [← eq1 a1]; exact h3, fun m z' hm hz' => ?_, w _ _ _ q (s1.trans s2) (.int _)⟩
    have hm' : m < ds.length := by omega
    obtain ⟨pm, b1, b2⟩ := pys_get e3 (List.getElem?_eq_getElem hm')
    rw [b2] at hz'
    cases hz'
    rw [← eq1 b1]
    simpa using h4 m hm
end
end Mw
end
section
set_option Elab.async false
set_option linter.all false
set_option autoImplicit false
set_option maxRecDepth 100000
set_option maxHeartbeats 4000000
namespace Mw
open PySem PySem.Spec L2
section
open PySem.W
variable {prog : Program} {w : World} {A : Around} {E : Value → Shared → Prop} {s : Shared} {K : Frag} {x D : Addr} {ox od : Obj}
/-- e.__class__, e an error with a dict of its own -/
theorem kin_classD {Q : Option Value → Shared → Prop} (C : ExcC K D) (X : K.In s.heap) (I : InstAt s.heap x ox D (some od)) (h : Q (some (.ref D)) { s with toks := s.toks + 1 }) : wpAny (model prog w) A (getAttr? (.ref x) "__class__") Q E s := by
  have hf : findObj K D (some od) "__class__" = some (.bind (.builtin "getset_descriptor.__get__") (.builtin "object.__class__")) := findObj_data (by obtain ⟨cd, hc, _⟩ := any_some C.hd; rw [hc]; rfl) C.ha C.hn C.ht
  obtain ⟨hp, g, d, t, os⟩ := s
  have L0 := I.type (M := model prog w); have L1 := looks_findIn (M := model prog w) X C.hg; have L2 := looks_findIn (M := model prog w) X C.hk; have L3 := looks_find (M := model prog w) X I hf
  have sub : Looks (model prog w) hp (isInstance (.ref x) (.type "BaseException")) true := (L0.andThen (looks_subIn X C.hs))
  have z2 : (Value.builtin "BaseException.__getattribute__" == Value.builtin "object.__getattribute__") = false := by decide +kernel
  unfold getAttr? getAttrBy? getAttrBy
  refine (wpAny_bind (wpAny_mkText (wpAny_bind (wpAny_attempt (wpAny_holding (wpAny_bind (L0.at (wpAny_bind (L1.at ?_)))))))))
  show wpAny _ _ (if (onTheHeap (Value.ref D) && Value.builtin "BaseException.__getattribute__" == Value.builtin "object.__getattribute__") = true then _ else _) _ _ _
  rw [z2, Bool.and_false, if_neg Bool.false_ne_true]; unfold getAttrByItsOwn hookBefore
  refine wpAny_bind ?_; rw [if_pos (show onTheHeap (Value.ref D) = true from rfl)]
  refine L2.at (wpAny_bind (wpAny_attempt (wpAny_holding ?_)))
  unfold callGetattribute; rw [show (false && onTheHeap (Value.builtin "BaseException.__getattribute__")) = false from rfl, if_neg Bool.false_ne_true]
  unfold boundAndCalled; rw [PySem.F.excAttr_ValueError.ga.bind (.ref x)]
  refine wpAny_bind (wpAny_pure (show wpAny _ _ (call (.builtin "BaseException.__getattribute__") [.ref x, .str "__class__" t]) _ _ _ from ?_))
  refine (wpAny_call (codeAny_call_builtin PySem.F.excAttr_ValueError.ga.plain PySem.F.entry_bexc_ga ?_))
  refine @check_slot (model prog w) _ _ ⟨hp, g, d, t + 1, os⟩ "BaseException.__getattribute__" "BaseException" "__getattribute__" (.ref x) [.str "__class__" t] [] _ (by decide +kernel) (by decide +kernel) sub (PySem.F.args_bexc_ga (.ref x) (.str "__class__" t)) ?_
  unfold Builtin.«object.__getattribute__»
  refine wpAny_bind ((wpAny_of_eq (a := ((Value.ref x : Value), [Value.str "__class__" t])) (by first | rfl | (simp only [slotArgs]; rfl)) ?_))
  refine (wpAny_bind (wpAny_pure (wpAny_bind (L0.at (wpAny_bind (L3.at ?_))))))
  show wpAny _ _ (holding [Value.builtin "object.__class__"] (call (.builtin "getset_descriptor.__get__") [.builtin "object.__class__", .ref x, .ref D]) >>= ret) _ _ _
  refine wpAny_bind (wpAny_holding (wpAny_call (class_get (s := ⟨hp, g, d, t + 1, os⟩) (ox := ox) (od := some od) X I C.hm (wpAny_pure (show wpAny _ _ (handedOut (.ref D)) _ _ _ from ?_)))))
  rw [handedOut_of (v := .ref D) rfl]
  first | exact wpAny_pure (wpAny_pure h) | exact wpAny_pure h | exact wpAny_pure (wpAny_bind (wpAny_pure (wpAny_pure h)))
theorem kitx_excD (C : ExcC K D) : KitX K (.ref x) (.ref D) (fun h => ∃ ox od, InstAt h x ox D (some od)) where
  ty := fun _ _ _ ⟨_, _, I⟩ => I.type
  it := fun _ _ X _ => by
    obtain ⟨cd, hc, _⟩ := any_some C.hd
    unfold clsIn at hc
    split at hc
    case h_1 c1 d1 e1 f1 ho => exact fun A' Q' E' s' k q => by unfold isType loadHead; exact wpAny_bind (wpAny_loadPart (k _ _ (X _ _ ho)) (wpAny_pure q))
    case h_2 => cases hc
  ne := fun h tp dd its n sl X htp => (handS_kitx_exc (x := x) (ox := ⟨.none, none, .seq #[] 0, #[]⟩) C.hg C.hk C.hs C.hd C.ha C.hn C.ht C.hm).ne h tp dd its n sl X htp
  ca := fun X ⟨_, _, I⟩ k => kin_classD C X I k
end
/-! ### the error classes -/
/-- the number of the base of all error classes; the others stand straight under it -/
abbrev eB : Nat := 100
structure ErU (K : PySem.W.Frag) (cs : Cs) : Prop where
  cd : ∀ c, cs.ke c → ∃ cd, PySem.W.clsIn K (cs c) = some cd ∧ cd.mro = .ref (cs c) :: ((if c = eB then [] else [.ref (cs eB)]) ++ [.type "ValueError", .type "Exception", .type "BaseException", .type "object"])
  tp : ∀ c, cs.ke c → PySem.W.typeIn K (.ref (cs c)) = some (.type "type")
  hd : ∀ c, cs.ke c → PySem.W.hasDictIn K (cs c) = true
  ex : ∀ c, cs.ke c → ExcC K (cs c)
  xf : ∀ c, cs.ke c → XfC K (cs c)
  inj : ∀ c c', cs.ke c → cs.ke c' → cs c = cs c' → c = c'
  base : cs.ke eB
/-- is an error of the class c one of the class h -/
def caught (h c : Nat) : Bool := h == eB || h == c
theorem eru_sub {K : PySem.W.Frag} {cs : Cs} (U : ErU K cs) {c h : Nat} (hc : cs.ke c) (hh : cs.ke h) : PySem.W.subIn K (.ref (cs c)) (.ref (cs h)) = some (caught h c) := by
  obtain ⟨cd, e1, e2⟩ := U.cd c hc
  show (PySem.W.clsIn K (cs c)).bind _ = _
  rw [e1, Option.bind_some, e2]
  unfold caught
  have b0 : ∀ a b, cs.ke a → cs.ke b → (cs a = cs b ↔ a = b) := fun a b h1 h2 => ⟨U.inj a b h1 h2, fun e => by rw [e]⟩
  have i1 := b0 h c hh hc
  have i2 := b0 h eB hh U.base
  by_cases z : c = eB
  · subst z
    by_cases q : h = eB
    · subst q; simp
    · have := mt i1.mp q; simp [q, this]
  · by_cases q : h = c
    · subst q; simp
    · have n1 := mt i1.mp q
      by_cases y : h = eB
      · subst y; simp [z]
      · have n2 := mt i2.mp y; simp [z, q, y, n1, n2]
theorem eru_sub_t {K : PySem.W.Frag} {cs : Cs} (U : ErU K cs) {c : Nat} (hc : cs.ke c) {T : String} (hT : T = "ValueError" ∨ T = "BaseException") : PySem.W.subIn K (.ref (cs c)) (.type T) = some true := by
  obtain ⟨cd, e1, e2⟩ := U.cd c hc
  show (PySem.W.clsIn K (cs c)).bind _ = _
  rw [e1, Option.bind_some, e2]
  rcases hT with rfl | rfl <;> simp
theorem eru_exm {K : PySem.W.Frag} {cs : Cs} (U : ErU K cs) {h : Nat} (hh : cs.ke h) (c : Nat) (hc : cs.ke c) : PySem.W.exmOne K (.ref (cs c)) (.ref (cs h)) = some (caught h c) :=
  PySem.W.exm_ref (eru_sub_t U hh (.inr rfl)) (U.hd h hh) (U.tp h hh) (eru_sub U hc hh)
/-- isinstance(raised, ValueError) -/
theorem eru_kitV {K : PySem.W.Frag} {cs : Cs} (U : ErU K cs) {c : Nat} (hc : cs.ke c) : PySem.W.kitOne K (.ref (cs c)) (.type "ValueError") = some true := by
  unfold PySem.W.kitOne
  rw [if_neg (by simp)]
  unfold PySem.W.kitCls
  exact (if_pos (by decide +kernel)).trans (eru_sub_t U hc (.inl rfl))
theorem eru_kit {K : PySem.W.Frag} {cs : Cs} (U : ErU K cs) {c h : Nat} (hc : cs.ke c) (hh : cs.ke h) : PySem.W.kitOne K (.ref (cs c)) (.ref (cs h)) = some (caught h c) := by
  unfold PySem.W.kitOne
  split
  · rename_i z
    have z : cs c = cs h := by simpa using z
    have e := U.inj c h hc hh z
    subst e
    simp [caught]
  · unfold PySem.W.kitCls
    obtain ⟨cd, e1, _⟩ := U.cd h hh
    exact (if_pos (by rw [e1, U.tp h hh]; rfl)).trans (eru_sub U hc hh)
/-! ### try .. except .. as -/
def sTry (i h : Nat) (body suite : SmS) : SmS := fun env E => body env { nx := E.nx, rt := E.rt, bk := E.bk, ct := E.ct, xx := fun x env' => if caught h x.c = true then suite (env'.set i (some (.xn x))) { nx := bye i E.nx, rt := E.rt, bk := bye i E.bk, ct := bye i E.ct, xx := fun _ _ => False } else E.xx x env' }
section
variable {X : Cx} {Φ : Fm} {body suite : List Stmt} {b₀ : Stmt} {sb ss : SmS} {x n : Str} {c : Value} {i : Nat} {np pos pos' p p2 : Pos} {cs : Cs}
theorem xtry (ec : Nat) (U : ErU X.K cs) (hh : cs.ke ec) (hnow : Φ.c.now = none) (hs : X.stack = X.env :: X.outer) (hf : X.env.frame = some X.env.locals) (hN : X.N.Nodup) (tk : L2N.Takes X Φ.W) (hc : Names X x (.ref (cs ec)))
    (hb : ∀ (W : WX) (pn : List (Addr × Obj)) (xe : Value → Shared → Prop), L2N.Takes (X.tr pn xe) W → PassesOwn (model X.prog X.w) X.A X.env xe → PSs (X.tr pn xe) body (tS ⟨Φ.c, W⟩ sb))
    (hsu : ∀ (a : Addr) (oe : Obj) (cls : Value) (d : Option Addr) (pn : List (Addr × Obj)), L2N.Zn cls d oe → (∃ vs, oe.data = .fields vs) → PSs (X.suite a ((a, oe) :: pn)) (b₀ :: suite) (tS (Φ.hot a cls d) ss))
    (hi : X.N[i]? = some n := by rfl) (hln : X.env.kindOf n = some .local := by rfl) (hΓ : Φ.g.cls = cs.ad := by rfl) (hkE : Φ.g.ke = cs.ke := by rfl) :
    PS X (.Try body [.ExceptHandler (some (.Name x np)) (some n) (b₀ :: suite) pos'] [] [] pos) (tS Φ (sTry i ec sb ss)) := PS.imp (ok_tryAs (caught := fun c => some (caught ec c)) hnow hs hf hN hi hln hc tk (fun k b hk e => by cases e; rw [hΓ]; exact eru_exm U hh k (hkE ▸ hk)) hb hsu) fun D σ H h => by
  obtain ⟨env, E, k, h, w⟩ := h
  refine ⟨env, E, k, ?_, w⟩
  unfold sTry at h
  unfold sTryAs
  have e : (fun (x : Xn) (env' : En) => if caught ec x.c = true then ss (env'.set i (some (.xn x))) { nx := bye i E.nx, rt := E.rt, bk := bye i E.bk, ct := bye i E.ct, xx := fun _ _ => False } else E.xx x env') = fun x env' => ∃ b, some (caught ec x.c) = some b ∧ if b = true then ss (env'.set i (some (.xn x))) { nx := bye i E.nx, rt := E.rt, bk := bye i E.bk, ct := bye i E.ct, xx := fun _ _ => False } else E.xx x env' := by
    funext x env'
    simp
  rw [e] at h
  exact h
/-! ### what the suite asks of the error -/
/-- raised.f -/
def vXn (i : Nat) (f : Str) : Sm := fun env Q _ => match env[i]? with
  | some (some (.xn x)) => match x.fs.lookup f with
    | some v => Q v
    | none => False
  | _ => False
theorem vXn_at {i : Nat} {f : Str} {env : En} {Q : PD} {Qx : PX} (h : vXn i f env Q Qx) : ∃ x v, env[i]? = some (some (.xn x)) ∧ x.fs.lookup f = some v ∧ Q v := by
  unfold vXn at h
  split at h
  · rename_i x e
    split at h
    · rename_i v e2; exact ⟨x, v, e, e2, h⟩
    · exact h.elim
  · exact h.elim
theorem xxf (i : Nat) {f : Str} {a : Addr} {oe : Obj} {cls : Value} {d : Option Addr} {pn : List (Addr × Obj)} (U : ErU X.K cs) (hno : ∀ c, cs.ke c → PySem.W.findIn X.K (.ref (cs c)) f = some none) (hz : Zc cls d oe) (hf : ∃ vs, oe.data = .fields vs) (hΓ : Φ.g.cls = cs.ad := by rfl) (hkE : Φ.g.ke = cs.ke := by rfl)
    (hN : (X.suite a ((a, oe) :: pn)).N[i]? = some n := by rfl) (hv : Vis (X.suite a ((a, oe) :: pn)).env.scope n := by first | exact .inl rfl | exact .inr (.inl rfl) | exact .inr (.inr rfl)) (hd : (n == ("__debug__" : Str)) = false := by decide) (hcd : (n == ("__classdict__" : Str)) = false := by decide) (hb : attributeBase (.Name n np) f X.env (eval (.Name n np) X.env) = eval (.Name n np) X.env := by rfl) :
    PE (X.suite a ((a, oe) :: pn)) (.Attribute (.Name n np) f pos) (tE (Φ.hot a cls d) (vXn i f)) := by
  refine ⟨fun pins s σ H Q I h => ?_⟩
  obtain ⟨env, Qd, Qx, kk, h, w, _⟩ := h
  obtain ⟨x, v, e1, el, h⟩ := vXn_at h
  obtain ⟨u, h1, a', t, dd, e4, rfl, et, d', vs, e5, e6, r⟩ := kk.slot i _ e1
  have e4 : some (a, cls, d) = some (a', t, dd) := e4
  cases e4
  have q : cs.ke x.c := hkE ▸ et.2
  obtain ⟨y, hy, ry⟩ := r f v el
  exact (pe_xf (U.xf x.c q) (hno x.c q) hz hf (pe_var hN hv hd hcd) hb).run pins s σ H Q I ⟨.ref a, h1, rfl, by rw [et.1]; exact congrArg (fun z => Value.ref (z x.c)) hΓ, d', vs, y, e5, e6, hy, w _ _ H h (Step.refl kk.hand) ry⟩
/-- isinstance(raised, C) -/
def vXis (i : Nat) (f : Nat → Bool) : Sm := fun env Q _ => match env[i]? with
  | some (some (.xn x)) => Q (.bl (f x.c))
  | _ => False
theorem xxis {b : Expr} {cv : V} {u : Value} {f : Nat → Bool} {a : Addr} {oe : Obj} {cls : Value} {d : Option Addr} {pn : List (Addr × Obj)} (U : ErU X.K cs) (hm : X.mg "isinstance" = none) (hz : Zc cls d oe) (hf : ∃ vs, oe.data = .fields vs) (hcb : PE (X.suite a ((a, oe) :: pn)) b (tC cv)) (hcv : ∀ z, RelV cv z → z = u)
    (hk : ∀ c, cs.ke c → PySem.W.kitOne X.K (.ref (cs c)) u = some (f c)) (hΓ : Φ.g.cls = cs.ad) (hkE : Φ.g.ke = cs.ke) (hN : (X.suite a ((a, oe) :: pn)).N[i]? = some n) (hv : Vis (X.suite a ((a, oe) :: pn)).env.scope n) (hd : (n == ("__debug__" : Str)) = false) (hcd : (n == ("__classdict__" : Str)) = false) (hg : Gl X "isinstance")
    (hst : starEach [.Name n np, b] X.env = (false, eval (.Name n np) X.env) :: starEach [b] X.env) (hst2 : starEach [b] X.env = [(false, eval b X.env)]) (hpl : (backTo pos (starEach [b] X.env)).any (·.1) = false) :
    PE (X.suite a ((a, oe) :: pn)) (.Call (.Name "isinstance" p) [.Name n np, b] [] pos) (tE (Φ.hot a cls d) (vXis i f)) := by
  refine ⟨fun pins s σ H Q I h => ?_⟩
  obtain ⟨env, Qd, Qx, kk, h, w, _⟩ := h
  unfold vXis at h
  split at h
  case h_2 => exact h.elim
  case h_1 x e1 =>
  obtain ⟨u0, h1, a', t, dd, e4, rfl, et, d', vs, e5, e6, r⟩ := kk.slot i _ e1
  have e4 : some (a, cls, d) = some (a', t, dd) := e4
  cases e4
  have q' : cs.ke x.c := hkE ▸ et.2
  subst e5
  have hcr : CallR (X.suite a ((a, oe) :: pn)) (.builtin "isinstance") (fun xs H Q => xs = [.ref a, cv] ∧ H d' = some (.xd vs) ∧ Q (.bl (f x.c)) H) := by
    intro pins s σ H xs us Q I r h
    obtain ⟨rfl, hd', q⟩ := h
    cases r with
    | cons rx rr =>
      cases rr with
      | cons rt rr =>
        cases rr
        cases rx
        have ec := hcv _ rt
        subst ec
        obtain ⟨hget, _⟩ := I.pin (a, oe) (List.mem_append.mpr (.inl List.mem_cons_self))
        obtain ⟨fv, hfv⟩ := hf
        obtain ⟨mA, hns, _⟩ : ObjOk X.prog X.w H s.heap d' (.xd vs) := I.hok d' _ hd'
        obtain ⟨od, ho, _⟩ := lookIn_ns hns
        have et2 : cls = .ref (cs x.c) := by rw [et.1]; exact congrArg (fun z => Value.ref (z x.c)) hΓ
        have J : PySem.W.InstAt s.heap a oe (cs x.c) (some od) := ⟨hget, by rw [hz.1, et2], by unfold PySem.W.notCls; rw [hfv], by rw [hz.2]; exact ho⟩
        exact PySem.W.kia_one (kitx_excD (U.ex x.c q')) I.kIn ⟨_, _, J⟩ (hk x.c q') (fun z => nomatch z) fun tk => ⟨.bl (f x.c), H, I.kept (t' := tk) fun _ _ z => z, rfl, q⟩
  exact (pe_callB hcr hg hm PyProof.Rows.boot_isinstance (pa_cons (pe_var hN hv hd hcd) (pa_cons hcb pa_nil hst2) hst) (by decide) (by decide) hst hpl).run pins s σ H Q I ⟨.ref a, h1, rfl, e6, w _ _ H h (Step.refl kk.hand) (.bl _)⟩
theorem xxisC (i hc : Nat) {a : Addr} {oe : Obj} {cls : Value} {d : Option Addr} {pn : List (Addr × Obj)} (U : ErU X.K cs) (hh : cs.ke hc) (hm : X.mg "isinstance" = none) (hmx : X.mg x = some (.ref (cs hc))) (hz : Zc cls d oe) (hf : ∃ vs, oe.data = .fields vs) (hΓ : Φ.g.cls = cs.ad := by rfl) (hkE : Φ.g.ke = cs.ke := by rfl) (hN : (X.suite a ((a, oe) :: pn)).N[i]? = some n := by rfl) (hv : Vis (X.suite a ((a, oe) :: pn)).env.scope n := by first | exact .inl rfl | exact .inr (.inl rfl) | exact .inr (.inr rfl)) (hd : (n == ("__debug__" : Str)) = false := by decide) (hcd : (n == ("__classdict__" : Str)) = false := by decide) (hg : Gl X "isinstance" := by rfl) (hgx : Gl X x := by rfl) (hdx : (x == ("__debug__" : Str)) = false := by decide)
    (hst : starEach [.Name n np, .Name x p2] X.env = (false, eval (.Name n np) X.env) :: starEach [.Name x p2] X.env := by rfl) (hst2 : starEach [.Name x p2] X.env = [(false, eval (.Name x p2) X.env)] := by rfl) (hpl : (backTo pos (starEach [.Name x p2] X.env)).any (·.1) = false := by rfl) :
    PE (X.suite a ((a, oe) :: pn)) (.Call (.Name "isinstance" p) [.Name n np, .Name x p2] [] pos) (tE (Φ.hot a cls d) (vXis i (caught hc))) :=
  xxis (cv := .ref (cs hc)) (u := .ref (cs hc)) U hm hz hf (pe_glob (v := .ref (cs hc)) hgx hmx rfl hdx) (fun z r => r) (fun c h1 => eru_kit U h1 hh) hΓ hkE hN hv hd hcd hg hst hst2 hpl
theorem xxisV (i : Nat) {a : Addr} {oe : Obj} {cls : Value} {d : Option Addr} {pn : List (Addr × Obj)} (U : ErU X.K cs) (hm : X.mg "isinstance" = none) (hmx : X.mg "ValueError" = none) (hz : Zc cls d oe) (hf : ∃ vs, oe.data = .fields vs) (hΓ : Φ.g.cls = cs.ad := by rfl) (hkE : Φ.g.ke = cs.ke := by rfl) (hN : (X.suite a ((a, oe) :: pn)).N[i]? = some n := by rfl) (hv : Vis (X.suite a ((a, oe) :: pn)).env.scope n := by first | exact .inl rfl | exact .inr (.inl rfl) | exact .inr (.inr rfl)) (hd : (n == ("__debug__" : Str)) = false := by decide) (hcd : (n == ("__classdict__" : Str)) = false := by decide) (hg : Gl X "isinstance" := by rfl) (hgx : Gl X "ValueError" := by rfl)
    (hst : starEach [.Name n np, .Name "ValueError" p2] X.env = (false, eval (.Name n np) X.env) :: starEach [.Name "ValueError" p2] X.env := by rfl) (hst2 : starEach [.Name "ValueError" p2] X.env = [(false, eval (.Name "ValueError" p2) X.env)] := by rfl) (hpl : (backTo pos (starEach [.Name "ValueError" p2] X.env)).any (·.1) = false := by rfl) :
    PE (X.suite a ((a, oe) :: pn)) (.Call (.Name "isinstance" p) [.Name n np, .Name "ValueError" p2] [] pos) (tE (Φ.hot a cls d) (vXis i (fun _ => true))) :=
  xxis (cv := .ty "ValueError") (u := .type "ValueError") U hm hz hf (pe_bltn (v := .ty "ValueError") hgx hmx PyProof.Rows.Boot.«ValueError» rfl) (fun z r => r) (fun c h1 => eru_kitV U h1) hΓ hkE hN hv hd hcd hg hst hst2 hpl
end
end Mw
end
section
set_option Elab.async false
set_option linter.all false
set_option autoImplicit false
set_option maxRecDepth 100000
set_option maxHeartbeats 4000000
namespace Mw
open PySem PySem.Spec L2
open PyProof.Rows (envOfC)
theorem wipe_set {σ : L2.St} {i : Nat} {v : Option V} : ∀ {vs : List Nat}, i ∈ vs → L2.wipe (σ.set i v) vs = L2.wipe σ vs
  | [], h => absurd h List.not_mem_nil
  | u :: vs, h => by
    rw [L2.wipe.eq_2, L2.wipe.eq_2]
    by_cases e : i ∈ vs
    · rw [wipe_set e]
    · have eu : i = u := (List.mem_cons.mp h).resolve_right e
      subst eu
      have key : ∀ ws : List Nat, i ∉ ws → L2.wipe (σ.set i v) ws = (L2.wipe σ ws).set i v := by
        intro ws
        induction ws with
        | nil => intro _; rw [L2.wipe.eq_1, L2.wipe.eq_1]
        | cons w ws ih =>
          intro hw
          have h1 : i ≠ w := fun z => hw (z ▸ List.mem_cons_self)
          rw [L2.wipe.eq_2, L2.wipe.eq_2, ih fun z => hw (List.mem_cons_of_mem _ z), List.set_comm _ _ h1]
      rw [key vs e, List.set_set]
section
variable {X : Cx} {Φ : Fm} {e tg iter elt : Expr} {pos pos' p : Pos} {se sa : Sm} {sb : SmB}
/-! ### targets within a comprehension -/
theorem wgn (i : Nat) (vs : List Nat) {x : Str} (hN : X.N.Nodup) (hm : i ∈ vs := by decide) (hi : X.N[i]? = some x := by rfl) (hx : Loc X.env.scope x := by first | exact .inl rfl | exact .inr rfl) (hf : X.fn x = true ∨ X.env.scope.names.lookup x = some .local := by first | exact .inl rfl | exact .inr rfl) : PG X (.Name x pos) (tGw Φ vs (gN i)) :=
  PG.imp (pg_name hN hi hx hf) fun v σ H Q h => by
    obtain ⟨d, env, Qe, k, r, h, w⟩ := h
    exact w _ _ h (k.set r) (wipe_set hm)
def tGsw (Φ : Fm) (vs : List Nat) (gs : List SmG) : TGs := fun us σ H Q => ∃ ds env Qe, SOK Φ.c env σ H ∧ Reps Φ.g H us ds ∧ gAll gs ds env Qe ∧ ∀ env' σ', Qe env' → SOK Φ.c env' σ' H → L2.wipe σ' vs = L2.wipe σ vs → Q σ' H
theorem wgs_nil {vs : List Nat} : PGs X [] (tGsw Φ vs []) := PGs.imp pgs_nil fun us σ H Q h => by
  obtain ⟨ds, env, Qe, k, r, h, w⟩ := h
  cases ds with
  | nil => cases r; exact ⟨rfl, w env σ h k rfl⟩
  | cons d ds => exact h.elim
theorem wgs_cons {vs : List Nat} {ts : List Expr} {g : SmG} {gs : List SmG} (h1 : PG X e (tGw Φ vs g)) (h2 : PGs X ts (tGsw Φ vs gs)) (hs : (assignEach (e :: ts) X.env).map (·.2) = assign e X.env :: (assignEach ts X.env).map (·.2) := by rfl) : PGs X (e :: ts) (tGsw Φ vs (g :: gs)) := PGs.imp (pgs_cons h1 h2 hs) fun us σ H Q h => by
  obtain ⟨ds, env, Qe, k, r, h, w⟩ := h
  cases r with
  | nil => exact h.elim
  | cons r rs => exact ⟨_, _, rfl, _, env, _, k, r, h, fun env' σ' q k' ew => ⟨_, env', Qe, k', rs, q, fun env2 σ2 q2 k2 ew2 => w env2 σ2 q2 k2 (ew2.trans ew)⟩⟩
theorem wgt {vs : List Nat} {ts : List Expr} {kk n : Nat} {gs : List SmG} (h : PGs X ts (tGsw Φ vs gs)) (hc : X.calm = true) (hK : X.K = Φ.g.K := by rfl) (hn : (assignEach ts X.env).length = n := by rfl) (hst : (assignEach ts X.env).findIdx? (·.1) = none := by rfl) : PG X (.Tuple ts kk pos) (tGw Φ vs (gTn n gs)) :=
  PG.imp (pg_tup hc h hn hst) fun v σ H Q h => by
    obtain ⟨d, env, Qe, k, r, h, w⟩ := h
    cases r <;> try exact h.elim
    case tup a xs ds q r => exact ⟨a, xs, rfl, by rw [hK]; exact q, by rw [r.length]; exact h.1, ds, env, Qe, k, r, h.2, w⟩
/-! ### tests behind if -/
theorem xts_nil : PTs X [] (tB Φ bTrue) := okts_nil
theorem xts_one {c : Expr} (h : PT X c (tB Φ sb)) : PTs X [c] (tB Φ sb) := pts_one h
/-! ### a comprehension as a value -/
theorem xlc {ifs : List Expr} {scope : Scope} (own : List (Str × Nat)) {s : SmI} {g : SmG} {cnd : SmB} {e : Sm} (hc : X.calm = true) (hN : X.N.Nodup) (hi : PI X tg iter (tI Φ s)) (ok : blkC X.N X.env.scope scope own = true)
    (hg : ∀ (s : Shared) (H : Hp) (C : Addr) (cl : List (Str × Addr)) (fp : List Addr), PG (X.blk s H scope (compEnvC scope cl C X.env) fp) tg (tGw Φ.no (own.map (·.2)) g))
    (ht : ∀ (s : Shared) (H : Hp) (C : Addr) (cl : List (Str × Addr)) (fp : List Addr), PTs (X.blk s H scope (compEnvC scope cl C X.env) fp) ifs (tB Φ.no cnd))
    (he : ∀ (s : Shared) (H : Hp) (C : Addr) (cl : List (Str × Addr)) (fp : List Addr), PE (X.blk s H scope (compEnvC scope cl C X.env) fp) elt (tE Φ.no e))
    (hf : ∀ x : Value, foldedSetIterable iter X.env x = pure x := by intro _; rfl) : PE X (elt.ListComp [{ target := tg, iter := iter, ifs := ifs, is_async := 0 }] scope pos) (tE Φ (vLock (vLcL s (own.map (·.2)) g cnd e))) :=
  ok_lock (ok_lcL rfl hc hN hi (blkOk_by ok) hg ht he hf)
/-- name = [..] -/
theorem xsetLc (i : Nat) {y : Str} {ifs : List Expr} {scope : Scope} (own : List (Str × Nat)) {s : SmI} {g : SmG} {cnd : SmB} {e : Sm} (hc : X.calm = true) (hN : X.N.Nodup) (hi : PI X tg iter (tI Φ s)) (ok : blkC X.N X.env.scope scope own = true)
    (hg : ∀ (s : Shared) (H : Hp) (C : Addr) (cl : List (Str × Addr)) (fp : List Addr), PG (X.blk s H scope (compEnvC scope cl C X.env) fp) tg (tGw Φ.no (own.map (·.2)) g))
    (ht : ∀ (s : Shared) (H : Hp) (C : Addr) (cl : List (Str × Addr)) (fp : List Addr), PTs (X.blk s H scope (compEnvC scope cl C X.env) fp) ifs (tB Φ.no cnd))
    (he : ∀ (s : Shared) (H : Hp) (C : Addr) (cl : List (Str × Addr)) (fp : List Addr), PE (X.blk s H scope (compEnvC scope cl C X.env) fp) elt (tE Φ.no e))
    (hy : X.N[i]? = some y := by rfl) (hyl : X.env.scope.names.lookup y = some .local := by rfl) (hsw : swapsWith (.ListComp elt [⟨tg, iter, ifs, 0⟩] scope pos) (some (.Name y p)) pos'.line X.env = pure true := by exact sw_true rfl rfl rfl (by decide +kernel))
    (hf : ∀ x : Value, foldedSetIterable iter X.env x = pure x := by intro _; rfl) : PS X (.Assign [.Name y p] (elt.ListComp [{ target := tg, iter := iter, ifs := ifs, is_async := 0 }] scope pos) pos') (tS Φ (sSetM i (vLcL s (own.map (·.2)) g cnd e))) :=
  PS.imp (ps_setLc hc hN hy hyl hsw hi (blkOk_by ok) hg ht he hf) fun D σ H h => by
    obtain ⟨env, E, k, h, w⟩ := h
    exact lcL_imp ⟨env, _, _, k, h, fun ds p xs H1 q s hp r => w.nx _ _ _ q ((s.keep k.hand).trans (Keep.new hp)) ((k.step s).setM hp r), w.wx k⟩
/-! ### statements by short words -/
theorem xset (i : Nat) {x : Str} (hN : X.N.Nodup) (he : PE X e (tE Φ se)) (hi : X.N[i]? = some x := by rfl) (hx : Loc X.env.scope x := by first | exact .inl rfl | exact .inr rfl) (hs : swapsWith e (some (.Name x p)) pos.line X.env = pure false := by rfl) (hf : X.fn x = true ∨ X.env.scope.names.lookup x = some .local := by first | exact .inl rfl | exact .inr rfl) :
    PS X (.Assign [.Name x p] e pos) (tS Φ (sSet i se)) := ok_set hN hi hx he hs hf
theorem xsetM (i : Nat) {x : Str} {sl : SmL} (hN : X.N.Nodup) (he : PE X e (tN Φ sl)) (hi : X.N[i]? = some x := by rfl) (hx : Loc X.env.scope x := by first | exact .inl rfl | exact .inr rfl) (hs : swapsWith e (some (.Name x p)) pos.line X.env = pure false := by rfl) (hf : X.fn x = true ∨ X.env.scope.names.lookup x = some .local := by first | exact .inl rfl | exact .inr rfl) :
    PS X (.Assign [.Name x p] e pos) (tS Φ (sSetM i sl)) := ok_setM hN hi hx he hs hf
/-- [..], the name's own -/
def nLst (ss : Sms) : SmL := fun env Q Qx => ss env (fun ds => ds.length ≤ sizeLine ∧ Q ds) Qx
theorem xnl {es : List Expr} {ss : Sms} (h : PA X es (tA Φ ss)) : PE X (.List es pos) (tN Φ (nLst ss)) := ok_newl h
theorem xnlist (hm : X.mg "list" = none) (ha : PE X e (tR Φ sa)) (hK : X.K = Φ.g.K := by rfl) (hg : Gl X "list" := by rfl) (hs : starEach [e] X.env = [(false, eval e X.env)] := by rfl) (hpl : (backTo pos (starEach ([] : List Expr) X.env)).any (·.1) = false := by rfl) : PE X (.Call (.Name "list" p) [e] [] pos) (tN Φ (nList sa)) := ok_newlist hK hg hm (by rfl) ha hs hpl
def sAppN (i : Nat) (s : Sm) : SmS := fun env E => match env[i]? with
  | some (some (.ml ds)) => ds.length < sizeLine ∧ s env (fun d => E.nx (env.set i (some (.ml (ds ++ [d]))))) (fun x => E.xx x env)
  | _ => False
theorem xapp (i : Nat) {x : Str} {p1 apos cpos : Pos} (he : PE X e (tE Φ se)) (hN : X.N[i]? = some x := by rfl) (hv : Vis X.env.scope x := by first | exact .inl rfl | exact .inr (.inl rfl) | exact .inr (.inr rfl)) (hd : (x == ("__debug__" : Str)) = false := by decide) (hcd : (x == ("__classdict__" : Str)) = false := by decide) (hst : starEach [e] X.env = [(false, eval e X.env)] := by rfl)
    (hb : attributeBase (.Name x p1) "append" X.env (eval (.Name x p1) X.env) = eval (.Name x p1) X.env := by rfl)
    (hfew : ((backTo cpos (starEach [e] X.env)).all (fun x => !x.1) && (backToKw cpos (keywordEach [] X.env)).all (fun x => x.1.isSome) && decide ([e].length + ([] : List Keyword).length + (if ([] : List Keyword).isEmpty then 0 else 1) < 30)) = true := by rfl)
    (hline : (apos.endLine == cpos.line) = true := by rfl) (hsw : swapsWith (.Call (.Attribute (.Name x p1) "append" apos) [e] [] cpos) none pos.line X.env = pure false := by rfl) :
    PS X (.Expr (.Call (.Attribute (.Name x p1) "append" apos) [e] [] cpos) pos) (tS Φ (sAppN i se)) := PS.sem (ok_app hN hv hd hcd he hst hb hfew hline hsw) fun env E h => by
  unfold sAppN at h
  split at h
  · rename_i ds e0; exact ⟨ds, e0, h⟩
  · exact h.elim
def sSetAt (i : Nat) (si se : Sm) : SmS := fun env E => match env[i]? with
  | some (some (.ml ds)) => se env (fun d => si env (fun z => match z with
    | .int n => match ixN ds.length n with
      | some j => E.nx (env.set i (some (.ml (ds.set j d))))
      | none => False
    | _ => False) (fun x => E.xx x env)) (fun x => E.xx x env)
  | _ => False
theorem xifS {c : Expr} {a b : List Stmt} {s t : SmS} (hc : PT X c (tB Φ sb)) (ha : PSs X a (tS Φ s)) (hb : PSs X b (tS Φ t)) : PS X (.If c a b pos) (tS Φ (sIf sb s t)) := ok_ifS hc ha hb
theorem xret (he : PE X e (tE Φ se)) : PS X (.Return (some e) pos) (tS Φ (sRet se)) := ok_ret he
theorem xdrop (he : PE X e (tE Φ se)) (hs : swapsWith e none pos.line X.env = pure false := by rfl) : PS X (.Expr e pos) (tS Φ (sDrop se)) := ok_drop he hs
theorem xfor {body : List Stmt} {s : SmI} {g : SmG} {b : SmS} (po : PassesOwn (model X.prog X.w) X.A X.env X.xe) (hc : X.calm = true) (hi : PI X tg iter (tI Φ s)) (hg : PG X tg (tG Φ g)) (hb : PSs X body (tS Φ b)) (hf : ∀ x : Value, foldedSetIterable iter X.env x = pure x := by intro _; rfl) : PS X (.For tg iter body [] pos) (tS Φ (sFor s g b)) := ok_for po hc hi hg hb hf
/-! ### expressions by short words -/
theorem xi {i : Int} {j : Nat} : PE X (.Constant (.int i) j pos) (tE Φ (vCon (.int i))) := ok_int
theorem xb {i : Bool} {j : Nat} : PE X (.Constant (.bool i) j pos) (tE Φ (vCon (.bl i))) := ok_bl
theorem xo {j : Nat} : PE X (.Constant .none j pos) (tE Φ (vCon .non)) := ok_non
theorem xs {x : Str} {j : Nat} : PE X (.Constant (.str x) j pos) (tE Φ (vCon (.str x))) := ok_str
theorem rd {s : Sm} (h : PE X e (tE Φ s)) : PE X e (tR Φ s) := PE.rd h
theorem xix {a b : Expr} {sb : Sm} (ha : PE X a (tR Φ sa)) (hb : PE X b (tR Φ sb)) (hx : PlainIx b := by exact fun _ _ => rfl) (hK : X.K = Φ.g.K := by rfl) : PE X (.Subscript a b pos) (tE Φ (vBin fIx2 sa sb)) := ok_sub_ix hK ha hb hx
theorem xsl {a : Expr} {lo hi : Option Expr} {sl sh : SmO} {p2 : Pos} (he : PE X a (tR Φ sa)) (hl : PO X lo (tO Φ sl)) (hu : PO X hi (tO Φ sh)) (hK : X.K = Φ.g.K := by rfl) : PE X (.Subscript a (.Slice lo hi none p2) pos) (tE Φ (vSl sa sl sh)) := ok_slice hK he hl hu
theorem xadd {a b : Expr} {sb : Sm} (ha : PE X a (tR Φ sa)) (hb : PE X b (tR Φ sb)) (hK : X.K = Φ.g.K := by rfl) : PE X (.BinOp a .Add b pos) (tE Φ (vBin fAdd sa sb)) := ok_add hK ha hb
theorem xlist (hm : X.mg "list" = none) (ha : PE X e (tR Φ sa)) (hK : X.K = Φ.g.K := by rfl) (hg : Gl X "list" := by rfl) (hs : starEach [e] X.env = [(false, eval e X.env)] := by rfl) (hpl : (backTo pos (starEach ([] : List Expr) X.env)).any (·.1) = false := by rfl) : PE X (.Call (.Name "list" p) [e] [] pos) (tE Φ (vLock (nList sa))) := ok_lock (ok_newlist hK hg hm (by rfl) ha hs hpl)
def vTuple (a : Sm) : Sm := fun env Q Qx => a env (fun d => fTuple [d] Q) Qx
theorem xtuple (hm : X.mg "tuple" = none) (ha : PE X e (tR Φ sa)) (hK : X.K = Φ.g.K := by rfl) (hg : Gl X "tuple" := by rfl) (hs : starEach [e] X.env = (false, eval e X.env) :: starEach [] X.env := by rfl) : PE X (.Call (.Name "tuple" p) [e] [] pos) (tE Φ (vFn fTuple (vCons sa vNil))) := ok_fn (pe_callTy call_tuple_of hg hm (by rfl) (okr_cons ha okr_nil hs) (by decide) (by decide) hs rfl) (sv_tuple hK)
theorem xlen (hm : X.mg "len" = none) (ha : PE X e (tR Φ sa)) (hK : X.K = Φ.g.K := by rfl) (hg : Gl X "len" := by rfl) (hs : starEach [e] X.env = (false, eval e X.env) :: starEach [] X.env := by rfl) : PE X (.Call (.Name "len" p) [e] [] pos) (tE Φ (vFn fLen (vCons sa vNil))) := ok_fn (pe_callB call_len hg hm PySem.boot_len (okr_cons ha okr_nil hs) (by decide) (by decide) hs rfl) (sv_len hK)
theorem xint (hm : X.mg "int" = none) (ha : PE X e (tR Φ sa)) (hg : Gl X "int" := by rfl) (hs : starEach [e] X.env = (false, eval e X.env) :: starEach [] X.env := by rfl) : PE X (.Call (.Name "int" p) [e] [] pos) (tE Φ (vFn fInt (vCons sa vNil))) := ok_fn (pe_callTy call_int1 hg hm (by rfl) (okr_cons ha okr_nil hs) (by decide) (by decide) hs rfl) sv_int1
theorem xabs (hm : X.mg "abs" = none) (ha : PE X e (tR Φ sa)) (hg : Gl X "abs" := by rfl) (hs : starEach [e] X.env = (false, eval e X.env) :: starEach [] X.env := by rfl) : PE X (.Call (.Name "abs" p) [e] [] pos) (tE Φ (vFn fAbs (vCons sa vNil))) := ok_fn (pe_callB call_abs hg hm (by rfl) (okr_cons ha okr_nil hs) (by decide) (by decide) hs rfl) sv_abs
theorem xrepr (hm : X.mg "repr" = none) (hgd : X.A.guards = some []) (hu : X.A.units + 70 < cLine) (ha : PE X e (tR Φ sa)) (hK : X.K = Φ.g.K := by rfl) (hg : Gl X "repr" := by rfl) (hs : starEach [e] X.env = (false, eval e X.env) :: starEach [] X.env := by rfl) : PE X (.Call (.Name "repr" p) [e] [] pos) (tE Φ (vFn fRepr (vCons sa vNil))) := ok_fn (pe_callB (cr_repr hK hgd hu) hg hm (by rfl) (okr_cons ha okr_nil hs) (by decide) (by decide) hs rfl) sv_repr
/-- range(n) -/
theorem xrng (hm : X.mg "range" = none) (ha : PE X e (tE Φ sa)) (hg : Gl X "range" := by rfl) (hs : starEach [e] X.env = [(false, eval e X.env)] := by rfl) (hs2 : starEach [e] X.env = (false, eval e X.env) :: starEach [] X.env := by rfl) : PI X tg (.Call (.Name "range" p) [e] [] pos) (tI Φ (iRng (vCons sa vNil))) := oki_rng hg hm (oka_cons ha oka_nil hs2) hs
theorem xseq (he : PE X e (tE Φ sa)) (hK : X.K = Φ.g.K := by rfl) : PI X tg e (tI Φ (iSeq sa)) := oki_seq hK he
end
end Mw
end
section
set_option Elab.async false
set_option linter.all false
set_option autoImplicit false
set_option maxRecDepth 100000
set_option maxHeartbeats 4000000
namespace Mw
open PySem PySem.Spec L2
open PyProof.Rows (envOfC)
/-! ### list(range(..)), tuple(range(..)) -/
def rgD (a b : Int) : List D := (List.range (b - a).toNat).map fun i => .int (a + (i : Nat))
theorem reps_rg {Γ : Gm} {H : Hp} (a b : Int) : Reps Γ H (rgV a b) (rgD a b) := by
  unfold rgV rgD
  generalize List.range (b - a).toNat = l
  induction l with
  | nil => exact .nil
  | cons x r ih => exact .cons (.int _) ih
abbrev SmR := En → (Int → Int → Prop) → PX → Prop
def r1 (s : Sm) : SmR := fun env Q Qx => s env (fun d => match d with
  | .int n => Q 0 n
  | _ => False) Qx
def r2 (s t : Sm) : SmR := fun env Q Qx => s env (fun d => match d with
  | .int n => t env (fun e => match e with
    | .int m => Q n m
    | _ => False) Qx
  | _ => False) Qx
def tRg (Φ : Fm) (s : SmR) : St → Hp → (Int → Int → Hp → Prop) → Prop := fun σ H Q => ∃ env Qd Qx, SOK Φ.c env σ H ∧ s env Qd Qx ∧ (∀ a b H', Qd a b → Step Φ.g H H' → Q a b H') ∧ WX1 Φ σ H Qx
section
variable {X : Cx} {Φ : Fm} {a b e : Expr} {sa sb : Sm} {s : SmR} {p pos : Pos}
theorem PRg.imp {t t' : St → Hp → (Int → Int → Hp → Prop) → Prop} (h : PRg X e t) (i : ∀ σ H Q, t' σ H Q → t σ H Q) : PRg X e t' := fun pins s σ H Q I q => h pins s σ H Q I (i σ H Q q)
theorem xr1 (hm : X.mg "range" = none) (ha : PE X a (tE Φ sa)) (hg : Gl X "range" := by rfl) (na : starEach [a] X.env = (false, eval a X.env) :: starEach [] X.env := by rfl) : PRg X (.Call (.Name "range" p) [a] [] pos) (tRg Φ (r1 sa)) := PRg.imp (prg_1 hg hm ha na) fun σ H Q h => by
  obtain ⟨env, Qd, Qx, k, h, w, wx⟩ := h
  refine ⟨env, _, Qx, k, h, fun d v H1 q s1 r => ?_, wx⟩
  cases d <;> try exact q.elim
  cases r
  exact ⟨_, rfl, w _ _ _ q s1⟩
theorem xr2 (hm : X.mg "range" = none) (ha : PE X a (tE Φ sa)) (hb : PE X b (tE Φ sb)) (hg : Gl X "range" := by rfl) (na : starEach [a, b] X.env = (false, eval a X.env) :: starEach [b] X.env := by rfl) (nb : starEach [b] X.env = (false, eval b X.env) :: starEach [] X.env := by rfl) (hpl : (backTo pos (starEach [b] X.env)).any (·.1) = false := by rfl) : PRg X (.Call (.Name "range" p) [a, b] [] pos) (tRg Φ (r2 sa sb)) := PRg.imp (prg_2 hg hm ha hb na nb hpl) fun σ H Q h => by
  obtain ⟨env, Qd, Qx, k, h, w, wx⟩ := h
  refine ⟨env, _, Qx, k, h, fun d v H1 q s1 r => ?_, wx⟩
  cases d <;> try exact q.elim
  cases r
  refine ⟨env, _, Qx, k.step s1, q, fun d v H2 q s2 r => ?_, wx.step s1⟩
  cases d <;> try exact q.elim
  cases r
  exact ⟨_, _, rfl, rfl, w _ _ _ q (s1.trans s2)⟩
def vLRg (s : SmR) : Sm := fun env Q Qx => s env (fun a b => RgOk a b ∧ Q (.lst (rgD a b))) Qx
def vTRg (s : SmR) : Sm := fun env Q Qx => s env (fun a b => RgOk a b ∧ Q (.tup (rgD a b))) Qx
theorem xlRg (hc : X.calm = true) (hm : X.mg "list" = none) (he : PRg X e (tRg Φ s)) (hg : Gl X "list" := by rfl) (na : starEach [e] X.env = (false, eval e X.env) :: starEach [] X.env := by rfl) : PE X (.Call (.Name "list" p) [e] [] pos) (tE Φ (vLRg s)) := PE.imp (PE.lk (pe_listRg hc hg hm he na)) fun σ H Q h => by
  obtain ⟨env, Qd, Qx, k, h, w, wx⟩ := h
  exact ⟨env, _, Qx, k, h, fun a b H1 q s1 => ⟨q.1, fun l hl => lk_lst s1.hand hl (reps_rg a b) fun H' s z => w _ _ _ q.2 (s1.trans s) z⟩, wx⟩
theorem xtRg (hc : X.calm = true) (hm : X.mg "tuple" = none) (he : PRg X e (tRg Φ s)) (hg : Gl X "tuple" := by rfl) (na : starEach [e] X.env = (false, eval e X.env) :: starEach [] X.env := by rfl) : PE X (.Call (.Name "tuple" p) [e] [] pos) (tE Φ (vTRg s)) := PE.imp (pe_tupRg hc hg hm he na) fun σ H Q h => by
  obtain ⟨env, Qd, Qx, k, h, w, wx⟩ := h
  refine ⟨env, _, Qx, k, h, fun a b H1 q s1 => ⟨q.1, fun l hl => ?_⟩, wx⟩
  obtain ⟨st, z⟩ := new_tup s1.hand hl (reps_rg a b)
  exact w _ _ _ q.2 (s1.trans st) z
end
/-! ### defs by their readings alone -/
/-- what a def makes: its reading -/
def clD (N : List Str) (s : SmS) : Cl := fun ds Q Qx => s (env0 N ds) (seD Q Qx)
def clI (N : List Str) (c : Nat) (s : SmS) : ClI := fun ds Q Qx => s (envI N c ds) (seI c Q Qx)
section
variable {P : Program} {w : World} {K : PySem.W.Frag} {mg : Str → Option Value} {base : Heap} {k n : Nat} {f : Addr} {fd : FuncData} {x qual : Str} {st : Stmt} {N ps : List Str} {s : SmS} {dvs : List V} {wd : Wd} {cs : Cs} {c : Nat}
abbrev FnD (K : PySem.W.Frag) (x qual : Str) (st : Stmt) (dvs : List V) (f : Addr) (fd : FuncData) : Prop := FunD K x qual (defArgs st) (defBody st) (defScope st) dvs [] f fd
/-- where a def's body is read -/
abbrev XF (P : Program) (w : World) (K : PySem.W.Frag) (mg : Str → Option Value) (base : Heap) (N : List Str) (qual : Str) (st : Stmt) (f : Addr) (cdv : Value) (A : Around) (outer : List PySem.Env) (s0 : Shared) (H : Hp) (E : XK) : Cx := XX P w K mg base N qual (defScope st) f cdv A outer s0 H E
theorem fngV (F : FnD K x qual st dvs f fd) (S : FnScope N ps (defScope st)) (hn : ps.length = n)
    (hb : ∀ (ix : Ix) (H H1 : Hp) (A : Around) (outer : List PySem.Env) (s0 : Shared) (E : XK) (cdv : Value), (A.deeper (envOfC qual (defScope st) s0.heap.objs.size f cdv)).guards = some [] → Room k (A.deeper (envOfC qual (defScope st) s0.heap.objs.size f cdv)) →
      L2N.Takes (XF P w K mg base N qual st f cdv A outer s0 H1 E) (WE E) → PassesOwn (model P w) (XF P w K mg base N qual st f cdv A outer s0 H1 E).A (XF P w K mg base N qual st f cdv A outer s0 H1 E).env (XF P w K mg base N qual st f cdv A outer s0 H1 E).xe →
      PSs (XF P w K mg base N qual st f cdv A outer s0 H1 E) (defBody st) (tS (FmOf (GmX K wd cs ix) H (WE E)) s)) : FnG P w K mg base (k + 1) f fd ps (spD (GmX K wd cs) (clD N s) n) := by
  obtain ⟨oc, od, dV, kV, doc, pm, an, cdv, ct, osl, rfl, lk, hcd, _, _⟩ := F.ex
  refine fng_of lk hcd S (fun vs H Q E h => by rw [hn]; exact h.1) fun A outer sh H vs Q E hg hr h => ?_
  obtain ⟨hl, hd, ds, Qd, Qx, hh, r, hcl, hq, hx⟩ := h
  refine ⟨_, hb hd H H A outer sh E cdv (guards_deeper hg) hr (L2N.takes_of rfl rfl rfl rfl) (passes_of rfl), ?_⟩
  refine ⟨_, seD Qd Qx, sok_start rfl hh r, hcl, ⟨fun env σ H' q _ k => ?_, fun d v H' q _ st rv => hq d v H' q st rv, fun _ _ _ q => q.elim, fun _ _ _ q => q.elim, fun xx env t dd σ H' q _ k xr => hx xx t dd H' q k.st xr⟩⟩
  exact hq .non .non H' q k.st .non
theorem fngW (hkn : cs.kn c) (F : FnD K x qual st dvs f fd) (S : FnScope N ps (defScope st)) (hn : ps.length = n + 1)
    (hb : ∀ (ix : Ix) (H H1 : Hp) (A : Around) (outer : List PySem.Env) (s0 : Shared) (E : XK) (cdv : Value), (A.deeper (envOfC qual (defScope st) s0.heap.objs.size f cdv)).guards = some [] → Room k (A.deeper (envOfC qual (defScope st) s0.heap.objs.size f cdv)) →
      L2N.Takes (XF P w K mg base N qual st f cdv A outer s0 H1 E) (WE E) → PassesOwn (model P w) (XF P w K mg base N qual st f cdv A outer s0 H1 E).A (XF P w K mg base N qual st f cdv A outer s0 H1 E).env (XF P w K mg base N qual st f cdv A outer s0 H1 E).xe →
      PSs (XF P w K mg base N qual st f cdv A outer s0 H1 E) (defBody st) (tS (FmOf (GmX K wd cs ix) H (WE E)) s)) : FnG P w K mg base (k + 1) f fd ps (spI (GmX K wd cs) c (clI N c s) n) := by
  exact fngI hkn F S hn (fun i H A outer s0 H0 E cdv => hb i H H0 A outer s0 E cdv) fun ds Qd Qx _ h => h
theorem paired_drop {α β : Type} {R : α → β → Prop} : ∀ {xs : List α} {ys : List β}, Paired R xs ys → ∀ j : Nat, Paired R (xs.drop j) (ys.drop j)
  | _, _, .nil, j => by rw [List.drop_nil, List.drop_nil]; exact .nil
  | _, _, .cons r t, 0 => .cons r t
  | _, _, .cons _ t, j + 1 => paired_drop t j
/-- bundled by name -/
theorem cal_mk {cl : Cl} {dfl : List D} {ps : List Str} (F : FnG P w K mg base k f fd ps (spD (GmX K wd cs) cl n)) (hm : mg x = some (.ref f)) (hk : PySem.W.keepIn K (.ref f) = true) (hd : Paired (RepK K) dvs dfl) (hb : ∀ j, j ≤ dvs.length → ∃ dus, Vals (dvs.drop j) dus ∧ Binds K fd ps dus) : Cal P w K mg base wd cs x k n cl dfl :=
  ⟨f, fd, ps, F, hm, hk, fun j hj => by
    obtain ⟨dus, v, b⟩ := hb j (by rw [Paired.length hd]; exact hj)
    exact ⟨dvs.drop j, dus, b, v, paired_drop hd j⟩⟩
end
end Mw
end
section
set_option Elab.async false
set_option linter.all false
set_option autoImplicit false
set_option maxRecDepth 100000
set_option maxHeartbeats 4000000
namespace Mw
open PySem PySem.Spec L2
open PyProof.Rows (envOfC)
section
variable {K : PySem.W.Frag} {C : Addr} {f1 f2 p1 p2 : Str} {vs : List V} {H : Hp} {Q : VK} {E : XK}
theorem sp_len {ks : List Str} (vs : List V) (H : Hp) (Q : VK) (E : XK) (h : spXInit C ks vs H Q E) : vs.length = ks.length + 1 := by
  obtain ⟨a, xs, rfl, hl, _⟩ := h
  simp [hl]
theorem rd_err1 (T : OexC K C) (n1 : PySem.W.findIn K (.ref C) f1 = some none) (h : spXInit C [f1] vs H Q E) : tOst K f1 (tVar 0) (tVar 1) { nx := fun _ H' => Q .non H', rt := Q } (L2.start ["self", p1] vs) H := by
  obtain ⟨a, xs, rfl, hl, ha, q⟩ := h
  obtain ⟨x, rfl⟩ : ∃ x, xs = [x] := by
    match xs, hl with
    | [x], _ => exact ⟨x, rfl⟩
  refine ⟨x, rfl, .ref a, rfl, a, C, rfl, T, n1, .inl ⟨ha, fun dx ndx nda => ?_⟩⟩
  refine q dx _ ndx nda (fun b n m => ?_) upd_same ?_
  · rw [upd_ne n, upd_ne m]
  · rw [upd_ne nda]
    exact upd_same
theorem rd_err2 (T : OexC K C) (n1 : PySem.W.findIn K (.ref C) f1 = some none) (n2 : PySem.W.findIn K (.ref C) f2 = some none) (h : spXInit C [f1, f2] vs H Q E) : tSeq (tOst K f1 (tVar 0) (tVar 1)) (tOst K f2 (tVar 0) (tVar 2)) { nx := fun _ H' => Q .non H', rt := Q } (L2.start ["self", p1, p2] vs) H := by
  obtain ⟨a, xs, rfl, hl, ha, q⟩ := h
  obtain ⟨x, y, rfl⟩ : ∃ x y, xs = [x, y] := by
    match xs, hl with
    | [x, y], _ => exact ⟨x, y, rfl⟩
  refine ⟨x, rfl, .ref a, rfl, a, C, rfl, T, n1, .inl ⟨ha, fun dx ndx nda => ?_⟩⟩
  refine ⟨y, rfl, .ref a, rfl, a, C, rfl, T, n2, .inr ⟨dx, [(f1, x)], upd_same, ?_, Nat.le_of_ble_eq_true rfl, ?_⟩⟩
  · rw [upd_ne nda]
    exact upd_same
  · refine q dx _ ndx nda (fun b n m => ?_) ?_ upd_same
    · rw [upd_ne m, upd_ne n, upd_ne m]
    · rw [upd_ne nda.symm]
      exact upd_same
end
section
variable {X : Cx} {Φ : Fm} {e : Expr} {se : Sm} {pos pos' np : Pos} {cs : Cs}
/-- self.f = e -/
def sSetFN (i c : Nat) (ff : Str) (s : Sm) : SmS := fun env E => match env[i]? with
  | some (some (.mi c' fs)) => c' = c ∧ solo i env = true ∧ fs.length < 1000 ∧ s env (fun d => E.nx (env.set i (some (.mi c (putD ff d fs))))) (fun x => E.xx x env)
  | _ => False
theorem xsetF (i c : Nat) {n ff : Str} (F : Fld X.K cs [c] ff) (he : PE X e (tE Φ se)) (hΓ : Φ.g.cls = cs.ad := by rfl) (hN : X.N[i]? = some n := by rfl) (hv : Vis X.env.scope n := by first | exact .inl rfl | exact .inr (.inl rfl) | exact .inr (.inr rfl)) (hd : (n == ("__debug__" : Str)) = false := by decide) (hcd : (n == ("__classdict__" : Str)) = false := by decide)
    (hs : swapsWith e (some (.Attribute (.Name n np) ff pos')) pos.line X.env = pure false := by rfl) : PS X (.Assign [.Attribute (.Name n np) ff pos'] e pos) (tS Φ (sSetFN i c ff se)) :=
  PS.sem (ok_setF (c := c) (C := cs c) (fun _ => rfl) hN hv hd hcd (by rw [hΓ]; exact (F.ok c List.mem_cons_self).1) (by rw [hΓ]; exact (F.ok c List.mem_cons_self).2) he hs) fun env E h => by
    unfold sSetFN at h
    split at h
    · rename_i c' fs e0
      obtain ⟨rfl, h1, h2, h⟩ := h
      exact ⟨fun c2 fs2 e2 => by rw [e0] at e2; cases e2; rfl, c', fs, e0, h1, h2, h⟩
    · exact h.elim
/-- self.f, self in the making -/
def vFldN (i c : Nat) (ff : Str) : Sm := fun env Q _ => match env[i]? with
  | some (some (.mi c' fs)) => c' = c ∧ match fs.lookup ff with
    | some v => Q v
    | none => False
  | _ => False
theorem xfldS (i c : Nat) {n ff : Str} (F : Fld X.K cs [c] ff) (hΓ : Φ.g.cls = cs.ad := by rfl) (hN : X.N[i]? = some n := by rfl) (hv : Vis X.env.scope n := by first | exact .inl rfl | exact .inr (.inl rfl) | exact .inr (.inr rfl)) (hd : (n == ("__debug__" : Str)) = false := by decide) (hcd : (n == ("__classdict__" : Str)) = false := by decide)
    (hb : attributeBase (.Name n np) ff X.env (eval (.Name n np) X.env) = eval (.Name n np) X.env := by rfl) : PE X (.Attribute (.Name n np) ff pos) (tE Φ (vFldN i c ff)) :=
  PE.sem (ok_fldS (c := c) hN hv hd hcd (by rw [hΓ]; exact (F.ok c List.mem_cons_self).1) (by rw [hΓ]; exact (F.ok c List.mem_cons_self).2) hb) fun env Q Qx h => by
    unfold vFldN at h
    split at h
    · rename_i c' fs e0
      obtain ⟨rfl, h⟩ := h
      split at h
      · rename_i v e1; exact ⟨fs, v, e0, e1, h⟩
      · exact h.elim
    · exact h.elim
/-- slices' bounds -/
def oSomeN (s : Sm) : SmO := fun env Q Qx => s env (fun d => match d with
  | .int i => Q (some i)
  | _ => False) Qx
theorem xos (h : PE X e (tR Φ se)) : PO X (some e) (tO Φ (oSomeN se)) := PO.imp (po_some h) fun σ H Q h => by
  obtain ⟨env, Qd, Qx, k, h, w, wx⟩ := h
  refine ⟨env, _, Qx, k, h, fun d v H' hq s r => ?_, wx⟩
  cases d <;> try exact hq.elim
  cases r
  exact ⟨_, rfl, w _ H' hq s⟩
theorem xon : PO X none (tO Φ oNone) := oko_none
theorem xLt {a b : Expr} {sa sb : Sm} (ha : PE X a (tR Φ sa)) (hb : PE X b (tR Φ sb)) : PE X (.Compare a [.Lt] [b] pos) (tE Φ (vBin fLt sa sb)) := ok_lt ha hb
theorem xLe {a b : Expr} {sa sb : Sm} (ha : PE X a (tR Φ sa)) (hb : PE X b (tR Φ sb)) : PE X (.Compare a [.LtE] [b] pos) (tE Φ (vBin fLe sa sb)) := ok_le ha hb
theorem xGt {a b : Expr} {sa sb : Sm} (ha : PE X a (tR Φ sa)) (hb : PE X b (tR Φ sb)) : PE X (.Compare a [.Gt] [b] pos) (tE Φ (vBin fGt sa sb)) := ok_gt ha hb
theorem xGe {a b : Expr} {sa sb : Sm} (ha : PE X a (tR Φ sa)) (hb : PE X b (tR Φ sb)) : PE X (.Compare a [.GtE] [b] pos) (tE Φ (vBin fGe sa sb)) := ok_ge ha hb
theorem xIs {a b : Expr} {sa sb : Sm} (ha : PE X a (tR Φ sa)) (hb : PE X b (tR Φ sb)) : PE X (.Compare a [.Is] [b] pos) (tE Φ (vBin fIs sa sb)) := ok_is ha hb
theorem xIsN {a b : Expr} {sa sb : Sm} (ha : PE X a (tR Φ sa)) (hb : PE X b (tR Φ sb)) : PE X (.Compare a [.IsNot] [b] pos) (tE Φ (vBin fIsNot sa sb)) := ok_isnot ha hb
theorem xsub {a b : Expr} {sa sb : Sm} (ha : PE X a (tR Φ sa)) (hb : PE X b (tR Φ sb)) : PE X (.BinOp a .Sub b pos) (tE Φ (vBin fSub sa sb)) := ok_sub ha hb
theorem xfd {a b : Expr} {sa sb : Sm} (ha : PE X a (tR Φ sa)) (hb : PE X b (tR Φ sb)) : PE X (.BinOp a .FloorDiv b pos) (tE Φ (vBin fFdiv sa sb)) := ok_fdiv ha hb
theorem xmd {a b : Expr} {sa sb : Sm} (ha : PE X a (tR Φ sa)) (hb : PE X b (tR Φ sb)) : PE X (.BinOp a .Mod b pos) (tE Φ (vBin fMod sa sb)) := ok_mod ha hb
theorem xpw {a b : Expr} {sa sb : Sm} (ha : PE X a (tR Φ sa)) (hb : PE X b (tR Φ sb)) : PE X (.BinOp a .Pow b pos) (tE Φ (vBin fPow sa sb)) := ok_pow ha hb
def fMulN : D → D → PD → Prop
  | .int i, .int j, Q => CMul i j ∧ Q (.int (i * j))
  | _, _, _ => False
theorem fMulN_int : ∀ d e Q, fMulN d e Q → ∃ i j, d = .int i ∧ e = .int j ∧ CMul i j ∧ Q (.int (i * j)) := fun d e Q h => by
  cases d <;> cases e <;> first | exact ⟨_, _, rfl, rfl, h⟩ | exact h.elim
theorem xml {a b : Expr} {sa sb : Sm} (ha : PE X a (tR Φ sa)) (hb : PE X b (tR Φ sb)) : PE X (.BinOp a .Mult b pos) (tE Φ (vBin fMulN sa sb)) := ok_bin op_mul (sv_int (fun i j H => .int _) fMulN_int) ha hb
theorem xneg {a : Expr} {sa : Sm} (ha : PE X a (tR Φ sa)) : PE X (.UnaryOp .USub a pos) (tE Φ (vUn fNeg sa)) := ok_neg ha
theorem xif {a b c : Expr} {sa sb : Sm} {t : SmB} (hc : PT X c (tB Φ t)) (ha : PE X a (tE Φ sa)) (hb : PE X b (tE Φ sb)) : PE X (.IfExp c a b pos) (tE Φ (vIf t sa sb)) := ok_if hc ha hb
theorem xtup {es : List Expr} {ss : Sms} {x1 : Nat} (h : PA X es (tA Φ ss)) : PE X (.Tuple es x1 pos) (tE Φ (vTup ss)) := ok_tup h
theorem xlst {es : List Expr} {ss : Sms} (h : PA X es (tA Φ ss)) : PE X (.List es pos) (tE Φ (vLst ss)) := ok_lst h
theorem an : PA X [] (tA Φ vNil) := oka_nil
theorem tnot {a : Expr} {s : SmB} (h : PT X a (tB Φ s)) : PT X (.UnaryOp .Not a pos) (tB Φ (bNot s)) := okt_not h
theorem tand1 {a : Expr} {t : SmB} (h : PT X a (tB Φ t)) : PW X (.BoolOp .And [a] pos) (tB Φ t) := pw_and1 h
theorem tor1 {a : Expr} {t : SmB} (h : PT X a (tB Φ t)) : PW X (.BoolOp .Or [a] pos) (tB Φ t) := pw_or1 h
theorem tand {a b : Expr} {rest : List Expr} {s t : SmB} (ha : PT X a (tB Φ s)) (hb : PW X (.BoolOp .And (b :: rest) pos) (tB Φ t)) : PW X (.BoolOp .And (a :: b :: rest) pos) (tB Φ (bAnd s t)) := okw_and ha hb
theorem tor {a b : Expr} {rest : List Expr} {s t : SmB} (ha : PT X a (tB Φ s)) (hb : PW X (.BoolOp .Or (b :: rest) pos) (tB Φ t)) : PW X (.BoolOp .Or (a :: b :: rest) pos) (tB Φ (bOr s t)) := okw_or ha hb
theorem xone {op : BoolOp} {a : Expr} {sa : Sm} (h : PE X a (tE Φ sa)) : PE X (.BoolOp op [a] pos) (tE Φ sa) := ok_one h
theorem PW.toT {e : Expr} {t : TT} (h : PW X e t) : PT X e t := h.pt
end
end Mw
end
section
set_option Elab.async false
set_option linter.all false
set_option autoImplicit false
set_option maxRecDepth 100000
set_option maxHeartbeats 4000000
namespace Mw
open PySem PySem.Spec L2
open PyProof.Rows (envOfC)
/-- never reached -/
def vNo : Sm := fun _ _ _ => False
def sNo : SmS := fun _ _ => False
section
variable {X : Cx} {Φ : Fm}
theorem xno {e : Expr} : PE X e (tE Φ vNo) := ⟨fun pins s σ H Q I h => by obtain ⟨_, _, _, _, h, _⟩ := h; exact h.elim⟩
theorem tno {e : Expr} : PT X e (tB Φ (bT vNo)) := ⟨fun pins s σ H Q I h => by obtain ⟨_, _, _, _, h, _⟩ := h; exact h.elim⟩
theorem yno {st : Stmt} : PS X st (tS Φ sNo) := ⟨fun pins s σ H D I h => by obtain ⟨_, _, _, h, _⟩ := h; exact h.elim⟩
end
structure CalH (P : Program) (w : World) (K : PySem.W.Frag) (mg : Str → Option Value) (base : Heap) (wd : Wd) (cs : Cs) (x : Str) (k n : Nat) (cl : Cl) : Prop where
  ex : ∃ f fd ps, L2H.FnH P w K mg base (L2N.CX P w) k f fd ps (spD (GmX K wd cs) cl n) ∧ mg x = some (.ref f) ∧ PySem.W.keepIn K (.ref f) = true ∧ Binds K fd ps []
theorem hotC {X : Cx} {a : Addr} {oe : Obj} {cls : Value} {d : Option Addr} {pn : List (Addr × Obj)} (hz : L2N.Zn cls d oe) (hf : ∃ vs, oe.data = .fields vs) : L2H.HotC (X.suite a ((a, oe) :: pn)) :=
  let ⟨vs, e⟩ := hf
  ⟨(a, oe), ⟨rfl, vs, e, hz.2.2 vs e⟩, List.mem_cons_self⟩
section
variable {X : Cx} {Φ : Fm} {wd : Wd} {cs : Cs} {ix : Ix} {x : Str} {k n : Nat} {cl : Cl} {p pos : Pos} {e : Expr} {es : List Expr} {ss : Sms}
theorem xcallH (C : CalH X.prog X.w X.K X.mg X.base wd cs x k n cl) (tk : L2N.Takes X Φ.W) (hr : L2H.RoomH k X.A) (hc : L2H.HotC X) (ha : PA X (e :: es) (tA Φ ss)) (hΓ : Φ.g = GmX X.K wd cs ix := by rfl) (hg : Gl X x := by rfl) (hdb : (x == ("__debug__" : Str)) = false := by decide)
    (he : starEach (e :: es) X.env = (false, eval e X.env) :: starEach es X.env := by rfl) (hpl : (backTo pos (starEach es X.env)).any (·.1) = false := by rfl) : PE X (.Call (.Name x p) (e :: es) [] pos) (tE Φ (vCallN n cl [] ss)) := by
  obtain ⟨f, fd, ps, F, hm, hk, hb⟩ := C.ex
  refine PE.imp (L2H.pe_callH F hr hc hg hm hk hb (fun σ => L2N.passAt tk σ) ha hdb he hpl) fun σ H Q h => ?_
  obtain ⟨env, Qd, Qx, kk, h, w, wx⟩ := h
  refine ⟨env, _, Qx, kk, h, fun ds vs H1 h1 s1 r1 => ?_, wx⟩
  rw [List.append_nil] at h1
  refine ⟨by rw [r1.length]; exact h1.1, ix, ds, Qd, Qx, by rw [← hΓ]; exact s1.hand, by rw [← hΓ]; exact r1, h1.2, fun d v H' q s r => ?_, fun xx t dd H' q s r => ?_⟩
  · rw [← hΓ] at s r
    exact w d v H' q (s1.trans s) r
  · rw [← hΓ] at s r
    exact wx.x xx t dd H' q (s1.trans s) r
end
section
variable {P : Program} {w : World} {K : PySem.W.Frag} {mg : Str → Option Value} {base : Heap} {k n : Nat} {f : Addr} {fd : FuncData} {x qual : Str} {st : Stmt} {N ps : List Str} {s : SmS} {dvs : List V} {wd : Wd} {cs : Cs}
abbrev XH (P : Program) (w : World) (K : PySem.W.Frag) (mg : Str → Option Value) (base : Heap) (N : List Str) (qual : Str) (st : Stmt) (f : Addr) (cdv : Value) (A : Around) (outer : List PySem.Env) (s0 : Shared) (H : Hp) (E : XK) (p : Addr × Obj) : Cx := L2H.cxH (L2N.CX P w) P w K mg base N qual (defScope st) f cdv A outer s0 H E p
theorem fngH (F : FnD K x qual st dvs f fd) (S : FnScope N ps (defScope st)) (hn : ps.length = n)
    (hb : ∀ (ix : Ix) (H H1 : Hp) (A : Around) (outer : List PySem.Env) (s0 : Shared) (E : XK) (cdv : Value) (p : Addr × Obj), L2H.Hot1 A p → L2H.RoomH k (A.deeper (envOfC qual (defScope st) s0.heap.objs.size f cdv)) →
      L2N.Takes (XH P w K mg base N qual st f cdv A outer s0 H1 E p) (WE E) → PassesOwn (model P w) (XH P w K mg base N qual st f cdv A outer s0 H1 E p).A (XH P w K mg base N qual st f cdv A outer s0 H1 E p).env (XH P w K mg base N qual st f cdv A outer s0 H1 E p).xe →
      PSs (XH P w K mg base N qual st f cdv A outer s0 H1 E p) (defBody st) (tS (FmOf (GmX K wd cs ix) H (WE E)) s)) : L2H.FnH P w K mg base (L2N.CX P w) (k + 1) f fd ps (spD (GmX K wd cs) (clD N s) n) := by
  obtain ⟨oc, od, dV, kV, doc, pm, an, cdv, ct, osl, rfl, lk, hcd, _, _⟩ := F.ex
  refine L2H.fn_ofH lk hcd S (fun vs H Q E h => by rw [hn]; exact h.1) fun A outer sh H vs Q E p hot hr h => ?_
  obtain ⟨hl, hd, ds, Qd, Qx, hh, r, hcl, hq, hx⟩ := h
  refine ⟨_, hb hd H H A outer sh E cdv p hot hr (L2N.takes_of rfl rfl rfl rfl) (passes_of rfl), ?_⟩
  refine ⟨_, seD Qd Qx, sok_start rfl hh r, hcl, ⟨fun env σ H' q _ k => ?_, fun d v H' q _ st rv => hq d v H' q st rv, fun _ _ _ q => q.elim, fun _ _ _ q => q.elim, fun xx env t dd σ H' q _ k xr => hx xx t dd H' q k.st xr⟩⟩
  exact hq .non .non H' q k.st .non
end
end Mw
end
section
set_option Elab.async false
set_option linter.all false
set_option autoImplicit false
set_option maxRecDepth 100000
set_option maxHeartbeats 4000000
namespace Rd0
open PySem PySem.Spec L2 Mw
open PyProof.Rows (envOfC)
/-- a draw: any whole number below many -/
def clDraw : Cl := fun ds Q _ => match ds with
  | [.hand, .int m] => (0 < m ∧ m < 1073741824) ∧ ∀ v, 0 ≤ v → v < m → Q (.int v)
  | _ => False
section
variable {X : Cx} {Φ : Fm}
theorem tNeS {a b : Expr} {sa sb : Sm} {pos : Pos} (ha : PE X a (tR Φ sa)) (hb : PE X b (tR Φ sb)) : PT X (.Compare a [.NotEq] [b] pos) (tB Φ (bC fNeS sa sb)) := xc op_ne sv_neS ha hb (nomark _)
theorem pssNo {sts : List Stmt} : PSs X sts (tS Φ sNo) := ⟨fun pins s σ H D I h => by obtain ⟨_, _, _, h, _⟩ := h; exact h.elim⟩
theorem units65 {k : Nat} {A : Around} (hr : Room k A) : A.units + 65 < cLine := by have := hr.un; omega
theorem units70 {k : Nat} {A : Around} (hr : Room k A) : A.units + 70 < cLine := by have := hr.un; omega
theorem units65H {k : Nat} {A : Around} (hr : L2H.RoomH k A) : A.units + 65 < cLine := by have := hr.un; omega
theorem xg_int {x : Str} {pos : Pos} {n : Int} (hm : ∃ t, X.mg x = some (.int n t)) (hg : Gl X x := by rfl) (hd : (x == ("__debug__" : Str)) = false := by decide) : PE X (.Name x pos) (tE Φ (vCon (.int n))) :=
  let ⟨t, e⟩ := hm; xg (v := .int n) e ⟨t, rfl⟩ (.int n) hg hd
theorem xg_str {x : Str} {pos : Pos} {n : Str} (hm : ∃ t, X.mg x = some (.str n t)) (hg : Gl X x := by rfl) (hd : (x == ("__debug__" : Str)) = false := by decide) : PE X (.Name x pos) (tE Φ (vCon (.str n))) :=
  let ⟨t, e⟩ := hm; xg (v := .str n) e ⟨t, rfl⟩ (.str n) hg hd
end
section
variable {P : Program} {w : World} {K : PySem.W.Frag} {mg : Str → Option Value} {base : Heap} {k n : Nat} {f : Addr} {fd : FuncData} {x qual m : Str} {st : Stmt} {ps : List Str} {dvs : List V} {wd : Wd} {cs : Cs} {c : Nat}
theorem bndN (F : FnD K x qual st [] f fd) (h : ∀ (kV doc pm : Value) (an : Option Addr) (cdv ct : Value) (us : List Value), us.length = ps.length → bindArgs (PySem.W.fnOf x qual (defArgs st) (defBody st) (defScope st) .none kV doc pm an cdv ct) ⟨us, []⟩ = pure (ps.zip us)) : Binds K fd ps [] := F.bindsN h
theorem bnd0 (F : FnD K x qual st [] f fd) (h : ∀ (kV doc pm : Value) (an : Option Addr) (cdv ct : Value) (us : List Value), us.length = ps.length → bindArgs (PySem.W.fnOf x qual (defArgs st) (defBody st) (defScope st) .none kV doc pm an cdv ct) ⟨us, []⟩ = pure (ps.zip us)) :
    ∀ j, j ≤ ([] : List V).length → ∃ dus, Vals (([] : List V).drop j) dus ∧ Binds K fd ps dus := fun j _ => ⟨[], by rw [List.drop_nil]; exact .nil, F.bindsN h⟩
theorem met_mk {cl : Cl} {dfl : List D} {ps : List Str} (F : FnG P w K mg base k f fd ps (spD (GmX K wd cs) cl n)) (cc : Cls K (cs c)) (me : Meth K (cs c) m f) (hd : Paired (RepK K) dvs dfl) (hb : ∀ j, j ≤ dvs.length → ∃ dus, Vals (dvs.drop j) dus ∧ Binds K fd ps dus) : Met P w K mg base wd cs c m k n cl dfl :=
  ⟨f, fd, ps, F, cc, me, fun j hj => by
    obtain ⟨dus, v, b⟩ := hb j (by rw [Paired.length hd]; exact hj)
    exact ⟨dvs.drop j, dus, b, v, paired_drop hd j⟩⟩
end
section
variable {X : Cx} {Φ : Fm} {wd : Wd} {cs : Cs} {ix : Ix} {x m : Str} {k n c : Nat} {cl : Cl} {dfl dfl' : List D} {p pos apos : Pos} {e o : Expr} {es : List Expr} {ss : Sms} {sa : Sm}
theorem ycall (C : Cal X.prog X.w X.K X.mg X.base wd cs x k n cl dfl) (j : Nat) (hj : j ≤ dfl.length) (tk : L2N.Takes X Φ.W) (hgd : X.A.guards = some []) (hr : Room k X.A) (ha : PA X (e :: es) (tA Φ ss)) (hdf : dfl.drop j = dfl' := by rfl) (hΓ : Φ.g = GmX X.K wd cs ix := by rfl) (hg : Gl X x := by rfl) (hdb : (x == ("__debug__" : Str)) = false := by decide)
    (he : starEach (e :: es) X.env = (false, eval e X.env) :: starEach es X.env := by rfl) (hpl : (backTo pos (starEach es X.env)).any (·.1) = false := by rfl) : PE X (.Call (.Name x p) (e :: es) [] pos) (tE Φ (vCallN n cl dfl' ss)) := by
  subst hdf
  exact xcall C j hj tk hgd hr ha hΓ hg hdb he hpl
theorem ymeth {pl : Sem Bool} (C : Met X.prog X.w X.K X.mg X.base wd cs c m k n cl dfl) (j : Nat) (hj : j ≤ dfl.length) (tk : L2N.Takes X Φ.W) (hgd : X.A.guards = some []) (hr : Room k X.A) (he : PE X o (tE Φ sa)) (ha : PA X (e :: es) (tA Φ ss)) (hdf : dfl.drop j = dfl' := by rfl) (hΓ : Φ.g = GmX X.K wd cs ix := by rfl)
    (hst : starEach (e :: es) X.env = (false, eval e X.env) :: starEach es X.env := by rfl) (hpl : (backTo pos (starEach es X.env)).any (·.1) = false := by rfl)
    (ht : eval (.Call (.Attribute o m apos) (e :: es) [] pos) X.env = (do
        let ov ← eval o X.env
        standAt apos.atName
        let (g, fst) ← holding [ov] (getMethod ov m pl)
        callWith pos g fst (backTo pos (starEach (e :: es) X.env)) (backToKw pos (keywordEach [] X.env))) := by rfl) :
    PE X (.Call (.Attribute o m apos) (e :: es) [] pos) (tE Φ (vMethN c n m cl dfl' sa ss)) := by
  subst hdf
  exact xmeth (pl := pl) C j hj tk hgd hr he ha hΓ hst hpl ht
end
/-! ### the law's hand -/
def wordH (_ : List Int) (i _ _ : Int) : Prop := 0 ≤ i
/-- the hand's parts at a heap -/
def Hd (hd c : Addr) (ns : List Int) (i r t : Int) (H : Hp) : Prop := H hd = some (.lst [.ref c, .int i, .int r, .int t]) ∧ FzL H c (ns.map V.int)
section
variable {hd c : Addr} {ns : List Int} {i r t i' r' t' : Int} {H H0 : Hp}
theorem Hd.put (h : Hd hd c ns i r t H) : Hd hd c ns i' r' t' (upd H hd (.lst [.ref c, .int i', .int r', .int t'])) := by
  obtain ⟨h1, o, h2⟩ := h
  refine ⟨upd_same, o, ?_⟩
  rw [upd_ne]
  · exact h2
  · intro z
    subst z
    rw [h1] at h2
    cases h2
theorem Hd.step (h : Hd hd c ns i r t H) (s : ∀ b u, b ≠ hd → H0 b = some u → H b = some u) : ∀ b u, b ≠ hd → H0 b = some u → upd H hd (.lst [.ref c, .int i', .int r', .int t']) b = some u := fun b u n e => by
  rw [upd_ne n]
  exact s b u n e
theorem Hd.seq {K : PySem.W.Frag} (h : Hd hd c ns i r t H) : SqL K H hd [.ref c, .int i, .int r, .int t] := .inl (.inl h.1)
end
section
variable {P : Program} {w : World} {K : PySem.W.Frag} {mg : Str → Option Value} {base : Heap} {cs : Cs} {k : Nat} {f : Addr} {fd : FuncData} {ps : List Str} {sp : Sp}
/-- a def that raises nothing -/
theorem fng0 (F : FnOk P w K mg base CX0 k f fd ps sp) : FnG P w K mg base k f fd ps sp :=
  ⟨F.len, fun A outer s H args us vs Q E _ hr e b v h => codeAny_mono (F.run A outer s H args us vs Q E hr e b v h) fun r s' z => by
    cases r with
    | error e => exact (show False from z).elim
    | ok fl => cases fl <;> exact z⟩
/-- a draw: any whole number below many -/
def spDraw (K : PySem.W.Frag) (cs : Cs) : Sp := fun vs H Q _ => ∃ (ix : Ix) (m : Int), vs = [.ref ix.hd, .int m] ∧ 0 < m ∧ m < 1073741824 ∧ HandAt (GmX K wordH cs ix) H ∧ ∀ v H', 0 ≤ v → v < m → Step (GmX K wordH cs ix) H H' → Q (.int v) H'
theorem draw_of (vs : List V) (H : Hp) (Q : VK) (E : XK) (h : spD (GmX K wordH cs) clDraw 2 vs H Q E) : spDraw K cs vs H Q E := by
  obtain ⟨hl, ix, ds, Qd, Qx, hh, r, hc, hq, hx⟩ := h
  unfold clDraw at hc
  split at hc
  · obtain ⟨⟨m0, m1⟩, hc⟩ := hc
    cases r with
    | cons r1 r => cases r with
      | cons r2 r => cases r; cases r1; cases r2; exact ⟨ix, _, rfl, m0, m1, hh, fun v H' a b st => hq _ _ H' (hc v a b) st (.int v)⟩
  · exact hc.elim
def noIx (hd : Addr) : Ix := ⟨hd, fun _ => False, fun _ => False⟩
def spHand (K : PySem.W.Frag) (cs : Cs) : Sp := fun vs H Q _ => ∃ (a : Addr) (ns : List Int), vs = [.ref a] ∧ SqL K H a (ns.map V.int) ∧ ns.length ≤ 1000 ∧ ∀ hd H', H hd = none → (∀ b u, H b = some u → H' b = some u) → HandAt (GmX K wordH cs (noIx hd)) H' → Q (.ref hd) H'
end
end Rd0
end
section
set_option Elab.async false
set_option linter.all false
set_option autoImplicit false
set_option maxRecDepth 100000
set_option maxHeartbeats 4000000
namespace Rd
open PySem PySem.Spec L2 Mw Rd0
def sm_is_whole : SmS := (sSeq (sIf (bOr (bT (vUn (fIsT "bool") (vR 0))) (bNot (bT (vUn (fIsT "int") (vR 0))))) (sRet (vCon (.bl false))) sSkip) (sSeq (sIf (bAnd (bC fIsNot (vR 1) (vCon .non)) (bC fLt (vR 0) (vR 1))) (sRet (vCon (.bl false))) sSkip) (sRet (vOrT (vBin fIs (vR 2) (vCon .non)) (vBin fLe (vR 0) (vR 2))))))
def cl_is_whole : Cl := clD ["thing", "low", "high"] sm_is_whole
def sm_is_sequence : SmS := (sRet (vOrT (vUn (fIsT "list") (vR 0)) (vUn (fIsT "tuple") (vR 0))))
def cl_is_sequence : Cl := clD ["thing"] sm_is_sequence
def sm_u_ascending_values : SmS := (sSeq (sSet 1 (vUn fNeg (vCon (.int 1)))) (sSeq (sFor (iSeq (vN 0)) (gN 2) (sSeq (sIf (bOr (bNot (bT (vCallN 3 cl_is_whole [] (vCons (vN 2) (vCons (vCon (.int 0)) (vCons (vCon (.int 1000000000)) vNil)))))) (bC fLe (vR 2) (vR 1))) (sRet (vCon (.bl false))) sSkip) (sSet 1 (vN 2)))) (sRet (vCon (.bl true)))))
def cl_u_ascending_values : Cl := clD ["things", "last", "thing"] sm_u_ascending_values
def sm_Sorts___init__ : SmS := (sSeq (sIf (bOr (bNot (bT (vCallN 1 cl_is_sequence [] (vCons (vN 1) vNil)))) (bOr (bC fGt (vFn fLen (vCons (vR 1) vNil)) (vCon (.int 8))) (bNot (bT (vCallN 1 cl_u_ascending_values [] (vCons (vN 1) vNil)))))) (sRaiseN 110 ["what"] (vCons (vCon (.str "named")) vNil)) sSkip) (sSeq (sIf (bNot (bT (vCallN 3 cl_is_whole [] (vCons (vN 2) (vCons (vCon (.int 1)) (vCons (vCon (.int 6)) vNil)))))) (sRaiseN 110 ["what"] (vCons (vCon (.str "modulus")) vNil)) sSkip) (sSeq (sSetFN 0 0 "named" (vFn fTuple (vCons (vR 1) vNil))) (sSetFN 0 0 "modulus" (vN 2)))))
def cl_Sorts___init__ : ClI := clI ["self", "named", "modulus"] 0 sm_Sorts___init__
def sm_Sorts___eq__ : SmS := (sRet (vAndT (vUn (fIsC 0) (vR 1)) (vAndT (vBin fEq (vUn (fFldN [0] "named") (vN 0)) (vUn (fFldN [0] "named") (vN 1))) (vBin fEq (vUn (fFldN [0] "modulus") (vN 0)) (vUn (fFldN [0] "modulus") (vN 1))))))
def cl_Sorts___eq__ : Cl := clD ["self", "other"] sm_Sorts___eq__
def sm_Sorts_many : SmS := (sRet (vBin fAdd (vFn fLen (vCons (vUn (fFldN [0] "named") (vN 0)) vNil)) (vUn (fFldN [0] "modulus") (vN 0))))
def cl_Sorts_many : Cl := clD ["self"] sm_Sorts_many
def sm_Sorts_sort_of : SmS := (sSeq (sIf (bNot (bT (vCallN 3 cl_is_whole [] (vCons (vN 1) (vCons (vCon (.int 0)) (vCons (vCon (.int 1000000000)) vNil)))))) (sRaiseN 111 ["value"] (vCons (vN 1) vNil)) sSkip) (sSeq (sFor (iEnumD (vUn (fFldN [0] "named") (vN 0))) (gTn 2 [(gN 2), (gN 3)]) (sIf (bC fEq (vR 3) (vR 1)) (sRet (vN 2)) sSkip)) (sRet (vBin fAdd (vFn fLen (vCons (vUn (fFldN [0] "named") (vN 0)) vNil)) (vBin fMod (vR 1) (vUn (fFldN [0] "modulus") (vN 0)))))))
def cl_Sorts_sort_of : Cl := clD ["self", "value", "at", "known"] sm_Sorts_sort_of
def sm_Sorts_kind_of : SmS := (sRet (vTup (vCons (vBin fIx2 (vR 1) (vCon (.int 0))) (vCons (vFn fTuple (vCons (vLock (vLcL (iSeq (vBin fIx2 (vR 1) (vCon (.int 1)))) [2] (gN 2) bTrue (vMethN 0 2 "sort_of" cl_Sorts_sort_of [] (vN 0) (vCons (vN 2) vNil)))) vNil)) vNil))))
def cl_Sorts_kind_of : Cl := clD ["self", "row", "value"] sm_Sorts_kind_of
def sm_Sorts_value_of : SmS := (sSeq (sIf (bNot (bT (vCallN 3 cl_is_whole [] (vCons (vN 1) (vCons (vCon (.int 0)) (vCons (vBin fSub (vPropN 0 cl_Sorts_many (vN 0)) (vCon (.int 1))) vNil)))))) (sRaiseN 112 ["number"] (vCons (vN 1) vNil)) sSkip) (sSeq (sIf (bC fLt (vR 1) (vFn fLen (vCons (vUn (fFldN [0] "named") (vN 0)) vNil))) (sSeq (sIf (bOr (bC fGt (vR 2) (vCon (.int 0))) (bC fIn (vBin fIx2 (vUn (fFldN [0] "named") (vN 0)) (vR 1)) (vR 3))) (sRet (vCon .non)) sSkip) (sRet (vBin fIx2 (vUn (fFldN [0] "named") (vN 0)) (vR 1)))) sSkip) (sSeq (sSet 4 (vBin fSub (vR 1) (vFn fLen (vCons (vUn (fFldN [0] "named") (vN 0)) vNil)))) (sSeq (sSet 5 (vN 2)) (sWh (bT (vCon (.bl true))) (sSeq (sIf (bAnd (bC fNotIn2 (vR 4) (vUn (fFldN [0] "named") (vN 0))) (bC fNotIn2 (vR 4) (vR 3))) (sSeq (sIf (bC fEq (vR 5) (vCon (.int 0))) (sRet (vN 4)) sSkip) (sAug 5 (fun a b => a - b) (vCon (.int 1)))) sSkip) (sAug 4 (fun a b => a + b) (vUn (fFldN [0] "modulus") (vN 0)))))))))
def cl_Sorts_value_of : Cl := clD ["self", "sort", "number", "avoided", "value", "left"] sm_Sorts_value_of
def sm_u_law_exact (rec : Cl) : SmS := (sSeq (sIf (bT (vUn (fIsT "tuple") (vR 1))) (sSeq (sIf (bOr (bNot (bT (vUn (fIsT "tuple") (vR 0)))) (bC fNe (vFn fLen (vCons (vR 0) vNil)) (vFn fLen (vCons (vR 1) vNil)))) (sRet (vCon (.bl false))) sSkip) (sRet (vBin fEq (vLock (vLcL (iRng (vCons (vFn fLen (vCons (vR 1) vNil)) vNil)) [2] (gN 2) (bNot (bT (vCallN 2 rec [] (vCons (vBin fIx2 (vR 0) (vR 2)) (vCons (vBin fIx2 (vR 1) (vR 2)) vNil))))) (vN 2))) (vLst vNil)))) sSkip) (sSeq (sIf (bC fIs (vR 1) (vCon .non)) (sRet (vBin fIs (vR 0) (vCon .non))) sSkip) (sSeq (sIf (bT (vUn (fIsT "bool") (vR 1))) (sRet (vIf (bT (vR 1)) (vBin fIs (vR 0) (vCon (.bl true))) (vBin fIs (vR 0) (vCon (.bl false))))) sSkip) (sSeq (sIf (bT (vUn (fIsT "str") (vR 1))) (sRet (vAndT (vUn (fIsT "str") (vR 0)) (vBin fEq (vR 0) (vR 1)))) sSkip) (sRet (vAndT (vUn (fIsT "int") (vR 0)) (vAndT (vNotT (vUn (fIsT "bool") (vR 0))) (vBin fEq (vR 0) (vR 1)))))))))
def cl_u_law_exact : Nat → Cl
  | 0 => fun _ _ _ => False
  | n + 1 => clD ["_law_told", "_law_due", "_law_k"] (sm_u_law_exact (cl_u_law_exact n))
def smH_u_law_exact : SmS := (sSeq (sIf (bT (vUn (fIsT "tuple") (vR 1))) (sSeq (sIf (bOr (bNot (bT (vUn (fIsT "tuple") (vR 0)))) (bC fNe (vFn fLen (vCons (vR 0) vNil)) (vFn fLen (vCons (vR 1) vNil)))) (sRet (vCon (.bl false))) sSkip) (sRet (vBin fEq vNo (vLst vNil)))) sSkip) (sSeq (sIf (bC fIs (vR 1) (vCon .non)) (sRet (vBin fIs (vR 0) (vCon .non))) sSkip) (sSeq (sIf (bT (vUn (fIsT "bool") (vR 1))) (sRet (vIf (bT (vR 1)) (vBin fIs (vR 0) (vCon (.bl true))) (vBin fIs (vR 0) (vCon (.bl false))))) sSkip) (sSeq (sIf (bT (vUn (fIsT "str") (vR 1))) (sRet (vAndT (vUn (fIsT "str") (vR 0)) (vBin fEq (vR 0) (vR 1)))) sSkip) (sRet (vAndT (vUn (fIsT "int") (vR 0)) (vAndT (vNotT (vUn (fIsT "bool") (vR 0))) (vBin fEq (vR 0) (vR 1)))))))))
def clH_u_law_exact : Cl := clD ["_law_told", "_law_due", "_law_k"] smH_u_law_exact
def sm_u_law_take : SmS := (sRet (vIf (bC fEq (vCallN 2 clDraw [] (vCons (vN 0) (vCons (vCon (.int 2)) vNil))) (vCon (.int 0))) (vLock (nList (vR 1))) (vFn fTuple (vCons (vR 1) vNil))))
def cl_u_law_take : Cl := clD ["_law_hand_here", "_law_rows"] sm_u_law_take
def sm_u_law_value : SmS := (sSeq (sSet 1 (vCallN 2 clDraw [] (vCons (vN 0) (vCons (vCon (.int 8)) vNil)))) (sSeq (sIf (bC fLt (vR 1) (vCon (.int 5))) (sRet (vCallN 2 clDraw [] (vCons (vN 0) (vCons (vCon (.int 6)) vNil)))) sSkip) (sSeq (sIf (bC fEq (vR 1) (vCon (.int 5))) (sRet (vCallN 2 clDraw [] (vCons (vN 0) (vCons (vCon (.int 40)) vNil)))) sSkip) (sRet (vIf (bC fEq (vR 1) (vCon (.int 6))) (vCallN 2 clDraw [] (vCons (vN 0) (vCons (vBin fAdd (vBin fPow (vCon (.int 10)) (vCon (.int 9))) (vCon (.int 1))) vNil))) (vBin fSub (vBin fPow (vCon (.int 10)) (vCon (.int 9))) (vCallN 2 clDraw [] (vCons (vN 0) (vCons (vCon (.int 3)) vNil)))))))))
def cl_u_law_value : Cl := clD ["_law_hand_here", "_law_way"] sm_u_law_value
def sm_u_law_named : SmS := (sSeq (sSetM 3 (nLst vNil)) (sSeq (sFor (iRng (vCons (vCallN 2 clDraw [] (vCons (vN 0) (vCons (vBin fAdd (vR 1) (vCon (.int 1))) vNil))) vNil)) (gN 4) (sAppN 3 (vIf (bAnd (bT (vR 2)) (bC fEq (vCallN 2 clDraw [] (vCons (vN 0) (vCons (vCon (.int 2)) vNil))) (vCon (.int 0)))) (vBin fIx2 (vR 2) (vCallN 2 clDraw [] (vCons (vN 0) (vCons (vFn fLen (vCons (vR 2) vNil)) vNil)))) (vCallN 1 cl_u_law_value [] (vCons (vN 0) vNil))))) (sRet (vSortSet (vR 3)))))
def cl_u_law_named : Cl := clD ["_law_hand_here", "_law_most", "_law_pool", "_law_told", "_law_k"] sm_u_law_named
def sm_u_law_sort : SmS := (sRet (vIf (bC fIn (vR 2) (vR 0)) (vIndex (vR 0) (vR 2)) (vBin fAdd (vFn fLen (vCons (vR 0) vNil)) (vBin fMod (vFn fInt (vCons (vR 2) vNil)) (vR 1)))))
def cl_u_law_sort : Cl := clD ["_law_named_here", "_law_modulus", "_law_value_here"] sm_u_law_sort
def sm_u_law_kind : SmS := (sRet (vTup (vCons (vBin fIx2 (vR 2) (vCon (.int 0))) (vCons (vFn fTuple (vCons (vLock (vLcL (iSeq (vBin fIx2 (vR 2) (vCon (.int 1)))) [3] (gN 3) bTrue (vCallN 3 cl_u_law_sort [] (vCons (vN 0) (vCons (vN 1) (vCons (vN 3) vNil)))))) vNil)) vNil))))
def cl_u_law_kind : Cl := clD ["_law_named_here", "_law_modulus", "_law_row", "_law_value_here"] sm_u_law_kind
def sm_u_law_made : SmS := (sTry 3 110 (sSeq (sSet 2 (vMakeN 0 2 cl_Sorts___init__ (vCons (vN 0) (vCons (vN 1) vNil)))) (sRet (vTup (vCons (vCon (.str "made")) (vCons (vUn (fFldN [0] "named") (vN 2)) (vCons (vUn (fFldN [0] "modulus") (vN 2)) (vCons (vPropN 0 cl_Sorts_many (vN 2)) vNil))))))) (sRet (vTup (vCons (vCon (.str "bad")) (vCons (vXn 3 "what") vNil)))))
def cl_u_law_made : Cl := clD ["_law_named_here", "_law_modulus", "_law_made_here", "raised"] sm_u_law_made
def sm_u_law_odd_named : SmS := (sSeq (sSet 2 (vCallN 2 clDraw [] (vCons (vN 0) (vCons (vCon (.int 10)) vNil)))) (sSeq (sIf (bC fLt (vR 2) (vCon (.int 4))) (sRet (vBin fIx2 (vLst (vCons (vCon .non) (vCons (vCon (.int 7)) (vCons (vCon (.str "12")) (vCons (vLRg (r1 (vCon (.int 9)))) vNil))))) (vR 2))) sSkip) (sSeq (sIf (bC fLt (vR 2) (vCon (.int 8))) (sSeq (sSet 3 (vBin fIx2 (vLst (vCons (vBin fSub (vUn fNeg (vCon (.int 1))) (vCallN 2 clDraw [] (vCons (vN 0) (vCons (vCon (.int 9)) vNil)))) (vCons (vBin fAdd (vBin fAdd (vBin fPow (vCon (.int 10)) (vCon (.int 9))) (vCon (.int 1))) (vCallN 2 clDraw [] (vCons (vN 0) (vCons (vCon (.int 9)) vNil)))) (vCons (vCon .non) (vCons (vCon (.str "3")) vNil))))) (vBin fSub (vR 2) (vCon (.int 4))))) (sSeq (sSet 4 (vCallN 2 clDraw [] (vCons (vN 0) (vCons (vBin fAdd (vFn fLen (vCons (vR 1) vNil)) (vCon (.int 1))) vNil)))) (sRet (vIf (bC fLt (vR 4) (vCon (.int 8))) (vSl (vBin fAdd (vBin fAdd (vSl (vR 1) oNone (oSomeN (vR 4))) (vLst (vCons (vN 3) vNil))) (vSl (vR 1) (oSomeN (vR 4)) oNone)) oNone (oSomeN (vCon (.int 8)))) (vLst (vCons (vN 3) vNil)))))) sSkip) (sSeq (sIf (bC fEq (vR 2) (vCon (.int 8))) (sRet (vIf (bT (vR 1)) (vSl (vBin fAdd (vSl (vR 1) oNone (oSomeN (vCon (.int 1)))) (vR 1)) oNone (oSomeN (vCon (.int 8)))) (vLst (vCons (vCon (.int 4)) (vCons (vCon (.int 4)) vNil))))) sSkip) (sRet (vIf (bC fGt (vFn fLen (vCons (vR 1) vNil)) (vCon (.int 1))) (vListRev (vR 1)) (vTup (vCons (vCon (.int 5)) (vCons (vCon (.int 3)) vNil)))))))))
def cl_u_law_odd_named : Cl := clD ["_law_hand_here", "_law_named_here", "_law_way", "_law_odd", "_law_at"] sm_u_law_odd_named
def sm_u_law_refused : SmS := (sSeq (sSet 3 (vBin fIx2 (vLst (vCons (vCon (.int 0)) (vCons (vCon (.int 7)) (vCons (vUn fNeg (vCon (.int 1))) (vCons (vCon (.bl true)) (vCons (vCon .non) (vCons (vCon (.str "2")) (vCons (vTup (vCons (vCon (.int 3)) vNil)) (vCons (vBin fPow (vCon (.int 10)) (vCon (.int 30))) (vCons (vBin fAdd (vCon (.int 7)) (vCallN 2 clDraw [] (vCons (vN 0) (vCons (vCon (.int 90)) vNil)))) vNil)))))))))) (vCallN 2 clDraw [] (vCons (vN 0) (vCons (vCon (.int 9)) vNil))))) (sSeq (sSet 4 (vCallN 2 cl_u_law_odd_named [] (vCons (vN 0) (vCons (vN 1) vNil)))) (sSeq (sIf (bOr (bNot (bT (vCallN 2 (cl_u_law_exact 4) [] (vCons (vCallN 2 cl_u_law_made [] (vCons (vN 4) (vCons (vN 2) vNil))) (vCons (vTup (vCons (vCon (.str "bad")) (vCons (vCon (.str "named")) vNil))) vNil))))) (bNot (bT (vCallN 2 (cl_u_law_exact 4) [] (vCons (vCallN 2 cl_u_law_made [] (vCons (vN 4) (vCons (vN 3) vNil))) (vCons (vTup (vCons (vCon (.str "bad")) (vCons (vCon (.str "named")) vNil))) vNil)))))) (sRet (vCon (.bl false))) sSkip) (sSeq (sIf (bNot (bT (vCallN 2 (cl_u_law_exact 4) [] (vCons (vCallN 2 cl_u_law_made [] (vCons (vN 1) (vCons (vN 3) vNil))) (vCons (vTup (vCons (vCon (.str "bad")) (vCons (vCon (.str "modulus")) vNil))) vNil))))) (sRet (vCon (.bl false))) sSkip) (sTry 5 100 (sSeq (sDrop (vMakeN 0 2 cl_Sorts___init__ (vCons (vN 1) (vCons (vN 3) vNil)))) (sRet (vCon (.bl false)))) (sRet (vAndT (vXis 5 (caught 110)) (vAndT (vXis 5 fun _ => true) (vNotT (vXis 5 (caught 112)))))))))))
def cl_u_law_refused : Cl := clD ["_law_hand_here", "_law_named_here", "_law_modulus", "_law_odd", "_law_wrong", "raised"] sm_u_law_refused
def sm_u_law_sort_asked : SmS := (sTry 2 111 (sRet (vMethN 0 2 "sort_of" cl_Sorts_sort_of [] (vN 0) (vCons (vN 1) vNil))) (sRet (vTup (vCons (vCon (.str "no value")) (vCons (vXn 2 "value") vNil)))))
def cl_u_law_sort_asked : Cl := clD ["_law_sorts", "_law_value_here", "raised"] sm_u_law_sort_asked
def sm_u_law_some_value : SmS := (sSeq (sSet 2 (vCallN 2 clDraw [] (vCons (vN 0) (vCons (vCon (.int 4)) vNil)))) (sSeq (sIf (bAnd (bT (vR 1)) (bC fLt (vR 2) (vCon (.int 2)))) (sSeq (sSet 3 (vBin fAdd (vBin fIx2 (vR 1) (vCallN 2 clDraw [] (vCons (vN 0) (vCons (vFn fLen (vCons (vR 1) vNil)) vNil)))) (vBin fMulN (vR 2) (vBin fSub (vCallN 2 clDraw [] (vCons (vN 0) (vCons (vCon (.int 15)) vNil))) (vCon (.int 7)))))) (sRet (vIf (bCh fLe fLe (vCon (.int 0)) (vR 3) (vBin fPow (vCon (.int 10)) (vCon (.int 9)))) (vN 3) (vCon (.int 0))))) sSkip) (sRet (vCallN 1 cl_u_law_value [] (vCons (vN 0) vNil)))))
def cl_u_law_some_value : Cl := clD ["_law_hand_here", "_law_named_here", "_law_way", "_law_value_here"] sm_u_law_some_value
def sm_u_law_values_sorted : SmS := (sSeq (sSetM 4 (vLcL (iRng (vCons (vCon (.int 8)) vNil)) [5] (gN 5) bTrue (vCallN 2 cl_u_law_some_value [] (vCons (vN 0) (vCons (vN 2) vNil))))) (sSeq (sFor (iSeq (vBin fAdd (vR 4) (vLst (vCons (vCon (.int 0)) (vCons (vBin fPow (vCon (.int 10)) (vCon (.int 9))) vNil))))) (gN 6) (sIf (bNot (bT (vCallN 2 (cl_u_law_exact 4) [] (vCons (vMethN 0 2 "sort_of" cl_Sorts_sort_of [] (vN 1) (vCons (vN 6) vNil)) (vCons (vCallN 3 cl_u_law_sort [] (vCons (vN 2) (vCons (vN 3) (vCons (vN 6) vNil)))) vNil))))) (sRet (vCon (.bl false))) sSkip)) (sSeq (sFor (iRng (vCons (vCon (.int 3)) vNil)) (gN 5) (sSeq (sSet 7 (vTup (vCons (vCallN 2 clDraw [] (vCons (vN 0) (vCons (vCon (.int 6)) vNil))) (vCons (vFn fTuple (vCons (vSl (vR 4) (oSomeN (vR 5)) (oSomeN (vBin fAdd (vBin fMulN (vCon (.int 2)) (vR 5)) (vCon (.int 1))))) vNil)) vNil)))) (sIf (bNot (bT (vCallN 2 (cl_u_law_exact 4) [] (vCons (vMethN 0 2 "kind_of" cl_Sorts_kind_of [] (vN 1) (vCons (vN 7) vNil)) (vCons (vCallN 3 cl_u_law_kind [] (vCons (vN 2) (vCons (vN 3) (vCons (vN 7) vNil)))) vNil))))) (sRet (vCon (.bl false))) sSkip))) (sSeq (sFor (iSeq (vLst (vCons (vUn fNeg (vCon (.int 1))) (vCons (vBin fAdd (vBin fPow (vCon (.int 10)) (vCon (.int 9))) (vCon (.int 1))) (vCons (vBin fSub (vUn fNeg (vCon (.int 1))) (vCallN 2 clDraw [] (vCons (vN 0) (vCons (vBin fPow (vCon (.int 10)) (vCon (.int 9))) vNil)))) (vCons (vCon .non) (vCons (vCon (.bl true)) (vCons (vCon (.str "1")) (vCons (vTup (vCons (vCon (.int 1)) vNil)) vNil))))))))) (gN 8) (sIf (bNot (bT (vCallN 2 (cl_u_law_exact 4) [] (vCons (vCallN 2 cl_u_law_sort_asked [] (vCons (vN 1) (vCons (vN 8) vNil))) (vCons (vTup (vCons (vCon (.str "no value")) (vCons (vN 8) vNil))) vNil))))) (sRet (vCon (.bl false))) sSkip)) (sRet (vCon (.bl true)))))))
def cl_u_law_values_sorted : Cl := clD ["_law_hand_here", "_law_sorts", "_law_named_here", "_law_modulus", "_law_values", "_law_k", "_law_value_here", "_law_row", "_law_odd"] sm_u_law_values_sorted
def sm_u_law_due_value : SmS := (sSeq (sIf (bC fLt (vR 2) (vFn fLen (vCons (vR 0) vNil))) (sRet (vIf (bAnd (bC fEq (vR 3) (vCon (.int 0))) (bC fNotIn2 (vBin fIx2 (vR 0) (vR 2)) (vR 4))) (vBin fIx2 (vR 0) (vR 2)) (vCon .non))) sSkip) (sSeq (sSet 5 (vBin fSub (vR 2) (vFn fLen (vCons (vR 0) vNil)))) (sSeq (sSet 6 (vN 3)) (sSeq (sFor (iRng (vCons (vCon (.int 140)) vNil)) (gN 7) (sSeq (sIf (bAnd (bC fNotIn2 (vR 5) (vR 0)) (bC fNotIn2 (vR 5) (vR 4))) (sSeq (sIf (bC fEq (vR 6) (vCon (.int 0))) (sRet (vN 5)) sSkip) (sSet 6 (vBin fSub (vR 6) (vCon (.int 1))))) sSkip) (sSet 5 (vBin fAdd (vR 5) (vR 1))))) (sRet (vCon .non))))))
def cl_u_law_due_value : Cl := clD ["_law_named_here", "_law_modulus", "_law_sort_here", "_law_number", "_law_avoided", "_law_value_here", "_law_left", "_law_k"] sm_u_law_due_value
def sm_u_law_numbered : SmS := (sSeq (sFor (iRng (vCons (vCon (.int 6)) vNil)) (gN 4) (sSeq (sSet 5 (vCallN 2 clDraw [] (vCons (vN 0) (vCons (vBin fAdd (vFn fLen (vCons (vR 2) vNil)) (vR 3)) vNil)))) (sSeq (sSet 6 (vIf (bC fEq (vCallN 2 clDraw [] (vCons (vN 0) (vCons (vCon (.int 4)) vNil))) (vCon (.int 0))) (vCallN 2 clDraw [] (vCons (vN 0) (vCons (vCon (.int 100)) vNil))) (vCallN 2 clDraw [] (vCons (vN 0) (vCons (vCon (.int 3)) vNil))))) (sSeq (sSetM 7 (nLst vNil)) (sSeq (sFor (iRng (vCons (vCallN 2 clDraw [] (vCons (vN 0) (vCons (vCon (.int 7)) vNil))) vNil)) (gN 8) (sSeq (sSet 9 (vBin fAdd (vBin fMulN (vCallN 2 clDraw [] (vCons (vN 0) (vCons (vCon (.int 6)) vNil))) (vR 3)) (vIf (bC fGe (vR 5) (vFn fLen (vCons (vR 2) vNil))) (vBin fSub (vR 5) (vFn fLen (vCons (vR 2) vNil))) (vCon (.int 0))))) (sAppN 7 (vIf (bC fEq (vCallN 2 clDraw [] (vCons (vN 0) (vCons (vCon (.int 2)) vNil))) (vCon (.int 0))) (vN 9) (vCallN 2 cl_u_law_some_value [] (vCons (vN 0) (vCons (vN 2) vNil))))))) (sSeq (sFz 7 (sSet 10 (vCallN 5 cl_u_law_due_value [] (vCons (vN 2) (vCons (vN 3) (vCons (vN 5) (vCons (vN 6) (vCons (vN 7) vNil)))))))) (sSeq (sFz 7 (sIf (bNot (bT (vCallN 2 (cl_u_law_exact 4) [] (vCons (vMethN 0 4 "value_of" cl_Sorts_value_of [] (vN 1) (vCons (vN 5) (vCons (vN 6) (vCons (vCallN 2 cl_u_law_take [] (vCons (vN 0) (vCons (vN 7) vNil))) vNil)))) (vCons (vN 10) vNil))))) (sRet (vCon (.bl false))) sSkip)) (sSeq (sIf (bAnd (bC fIsNot (vR 10) (vCon .non)) (bNot (bT (vCallN 2 (cl_u_law_exact 4) [] (vCons (vMethN 0 2 "sort_of" cl_Sorts_sort_of [] (vN 1) (vCons (vN 10) vNil)) (vCons (vN 5) vNil)))))) (sRet (vCon (.bl false))) sSkip) (sIf (bNot (bT (vCallN 2 (cl_u_law_exact 4) [] (vCons (vMethN 0 4 "value_of" cl_Sorts_value_of [(.tup [])] (vN 1) (vCons (vN 5) (vCons (vN 6) vNil))) (vCons (vCallN 5 cl_u_law_due_value [] (vCons (vN 2) (vCons (vN 3) (vCons (vN 5) (vCons (vN 6) (vCons (vLst vNil) vNil)))))) vNil))))) (sRet (vCon (.bl false))) sSkip))))))))) (sSeq (sFor (iSeq (vLst (vCons (vUn fNeg (vCon (.int 1))) (vCons (vBin fAdd (vFn fLen (vCons (vR 2) vNil)) (vR 3)) (vCons (vBin fAdd (vBin fAdd (vFn fLen (vCons (vR 2) vNil)) (vR 3)) (vCallN 2 clDraw [] (vCons (vN 0) (vCons (vCon (.int 50)) vNil)))) (vCons (vCon .non) (vCons (vCon (.bl true)) (vCons (vCon (.str "0")) vNil)))))))) (gN 11) (sTry 12 112 (sSeq (sDrop (vMethN 0 4 "value_of" cl_Sorts_value_of [] (vN 1) (vCons (vN 11) (vCons (vCon (.int 0)) (vCons (vTup vNil) vNil))))) (sRet (vCon (.bl false)))) (sIf (bOr (bNot (bT (vCallN 2 clH_u_law_exact [] (vCons (vXn 12 "number") (vCons (vN 11) vNil))))) (bOr (bT (vXis 12 (caught 113))) (bT (vXis 12 (caught 110))))) (sRet (vCon (.bl false))) sSkip))) (sRet (vCon (.bl true)))))
def cl_u_law_numbered : Cl := clD ["_law_hand_here", "_law_sorts", "_law_named_here", "_law_modulus", "_law_k", "_law_sort_here", "_law_number", "_law_avoided", "_law_j", "_law_near", "_law_due", "_law_odd", "raised"] sm_u_law_numbered
def ownE : Nat → Option Cl
  | 0 => some cl_Sorts___eq__
  | _ => none
def sm_u_law_equal : SmS := (sSeq (sIf (bOr (bNot (bC (fEqG ownE) (vMakeN 0 2 cl_Sorts___init__ (vCons (vFn fTuple (vCons (vR 2) vNil)) (vCons (vN 3) vNil))) (vN 1))) (bNot (bC (fEqG ownE) (vN 1) (vMakeN 0 2 cl_Sorts___init__ (vCons (vLock (nList (vR 2))) (vCons (vN 3) vNil)))))) (sRet (vCon (.bl false))) sSkip) (sSeq (sSet 4 (vIf (bT (vR 2)) (vSl (vR 2) oNone (oSomeN (vUn fNeg (vCon (.int 1))))) (vLst (vCons (vCallN 1 cl_u_law_value [] (vCons (vN 0) vNil)) vNil)))) (sSeq (sIf (bOr (bC (fEqG ownE) (vMakeN 0 2 cl_Sorts___init__ (vCons (vN 4) (vCons (vN 3) vNil))) (vN 1)) (bC (fEqG ownE) (vMakeN 0 2 cl_Sorts___init__ (vCons (vN 2) (vCons (vBin fAdd (vBin fMod (vR 3) (vCon (.int 6))) (vCon (.int 1))) vNil))) (vN 1))) (sRet (vCon (.bl false))) sSkip) (sRet (vAndT (vNotT (vBin (fEqG ownE) (vN 1) (vTup (vCons (vFn fTuple (vCons (vR 2) vNil)) (vCons (vN 3) vNil))))) (vNotT (vBin (fEqG ownE) (vN 1) (vCon .non))))))))
def cl_u_law_equal : Cl := clD ["_law_hand_here", "_law_sorts", "_law_named_here", "_law_modulus", "_law_other"] sm_u_law_equal
def sm_law : SmS := (sSeq (sFor (iRng (vCons (vCon (.int 2)) vNil)) (gN 2) (sSeq (sSet 3 (vCallN 3 cl_u_law_named [] (vCons (vN 1) (vCons (vCon (.int 8)) (vCons (vLst vNil) vNil))))) (sSeq (sSet 4 (vBin fAdd (vCon (.int 1)) (vCallN 2 clDraw [] (vCons (vN 1) (vCons (vCon (.int 6)) vNil))))) (sSeq (sSet 5 (vCallN 2 cl_u_law_take [] (vCons (vN 1) (vCons (vN 3) vNil)))) (sSeq (sSet 6 (vFn fRepr (vCons (vR 5) vNil))) (sSeq (sIf (bNot (bT (vCallN 2 (cl_u_law_exact 4) [] (vCons (vCallN 2 cl_u_law_made [] (vCons (vN 5) (vCons (vN 4) vNil))) (vCons (vTup (vCons (vCon (.str "made")) (vCons (vFn fTuple (vCons (vR 3) vNil)) (vCons (vN 4) (vCons (vBin fAdd (vFn fLen (vCons (vR 3) vNil)) (vR 4)) vNil))))) vNil))))) (sRet (vCon (.bl false))) sSkip) (sSeq (sSet 7 (vMakeN 0 2 cl_Sorts___init__ (vCons (vN 5) (vCons (vN 4) vNil)))) (sSeq (sIf (bOr (bNot (bT (vCallN 4 cl_u_law_equal [] (vCons (vN 1) (vCons (vN 7) (vCons (vN 3) (vCons (vN 4) vNil))))))) (bNot (bT (vCallN 3 cl_u_law_refused [] (vCons (vN 1) (vCons (vN 3) (vCons (vN 4) vNil))))))) (sRet (vCon (.bl false))) sSkip) (sSeq (sIf (bOr (bNot (bT (vCallN 4 cl_u_law_values_sorted [] (vCons (vN 1) (vCons (vN 7) (vCons (vN 3) (vCons (vN 4) vNil))))))) (bNot (bT (vCallN 4 cl_u_law_numbered [] (vCons (vN 1) (vCons (vN 7) (vCons (vN 3) (vCons (vN 4) vNil)))))))) (sRet (vCon (.bl false))) sSkip) (sIf (bOr (bC fNeS (vFn fRepr (vCons (vR 5) vNil)) (vR 6)) (bNot (bT (vCallN 2 (cl_u_law_exact 4) [] (vCons (vTup (vCons (vUn (fFldN [0] "named") (vN 7)) (vCons (vUn (fFldN [0] "modulus") (vN 7)) vNil))) (vCons (vTup (vCons (vFn fTuple (vCons (vR 3) vNil)) (vCons (vN 4) vNil))) vNil)))))) (sRet (vCon (.bl false))) sSkip)))))))))) (sSeq (sSet 8 (vTRg (r2 (vCon (.int 1)) (vCon (.int 9))))) (sRet (vAndT (vCallN 2 (cl_u_law_exact 4) [] (vCons (vCallN 2 cl_u_law_made [] (vCons (vN 8) (vCons (vCon (.int 6)) vNil))) (vCons (vTup (vCons (vCon (.str "made")) (vCons (vN 8) (vCons (vCon (.int 6)) (vCons (vCon (.int 14)) vNil))))) vNil))) (vCallN 2 (cl_u_law_exact 4) [] (vCons (vCallN 2 cl_u_law_made [] (vCons (vLst vNil) (vCons (vCon (.int 1)) vNil))) (vCons (vTup (vCons (vCon (.str "made")) (vCons (vTup vNil) (vCons (vCon (.int 1)) (vCons (vCon (.int 1)) vNil))))) vNil)))))))
end Rd
end
section
set_option Elab.async false
set_option linter.all false
set_option autoImplicit false
set_option maxRecDepth 100000
set_option maxHeartbeats 4000000
namespace Rd
open PySem PySem.Spec L2 Mw
def topS (i : Nat) : Stmt := PySem.Challenge.pw_meetwhere_k08_sorts_made_and_values_numb.main.body.getD i (.Pass ⟨0, 0, 0, 0⟩)
end Rd
end
section
set_option Elab.async false
set_option linter.all false
set_option autoImplicit false
set_option maxRecDepth 100000
set_option maxHeartbeats 4000000
namespace Rd0
open PySem PySem.Spec L2 Mw
open PyProof.Rows (envOfC)
/-- where the classes stand: by their numbers -/
def csOf (l : List (Nat × Addr)) (kn ke : List Nat) : Cs := ⟨fun c => (l.lookup c).getD 0, fun c => c ∈ kn, fun c => c ∈ ke⟩
theorem all_nil {p : Nat → Prop} : ∀ c ∈ ([] : List Nat), p c := fun _ h => (List.not_mem_nil h).elim
theorem all_cons {p : Nat → Prop} {a : Nat} {l : List Nat} (h : p a) (t : ∀ c ∈ l, p c) : ∀ c ∈ a :: l, p c := fun c hc => (List.mem_cons.mp hc).elim (fun e => e ▸ h) (t c)
/-- an own class of data -/
structure CF (K : PySem.W.Frag) (mg : Str → Option Value) (n : Str) (C : Addr) : Prop where
  g : mg n = some (.ref C)
  ty : TyC K C
  cl : ∃ cd, PySem.W.clsIn K C = some cd ∧ cd.mro = [.ref C, .type "object"] ∧ cd.name = n
  tp : PySem.W.typeIn K (.ref C) = some (.type "type")
/-- an own class of errors, rest: the own classes behind it -/
structure EF (K : PySem.W.Frag) (mg : Str → Option Value) (n : Str) (C : Addr) (rest : List Value) : Prop where
  g : mg n = some (.ref C)
  cl : ∃ cd, PySem.W.clsIn K C = some cd ∧ cd.mro = .ref C :: (rest ++ PySem.HandSPX.veTail) ∧ cd.name = n
  tp : PySem.W.typeIn K (.ref C) = some (.type "type")
  hd : PySem.W.hasDictIn K C = true
  ex : ExcC K C
  xf : XfC K C
section
variable {R : Prop} {K : PySem.W.Frag} {h : Heap} {mg : Str → Option Value} {cs : Cs}
theorem non_cont (X : K.In h) (G : h.Ns mainGlobals mg) {x : Str} (a : PySem.W.nsIn K mainGlobals x = some none) (k : mg x = none → R) : R := k (PySem.W.mg_none_of X G a)
theorem val_cont (X : K.In h) (G : h.Ns mainGlobals mg) {x : Str} {n : Int} {t : Tok} (a : PySem.W.nsIn K mainGlobals x = some (some (.int n t))) (k : (∃ t, mg x = some (.int n t)) → R) : R := k ⟨t, PySem.W.mg_of X G a⟩
theorem vals_cont (X : K.In h) (G : h.Ns mainGlobals mg) {x : Str} {n : Str} {t : Tok} (a : PySem.W.nsIn K mainGlobals x = some (some (.str n t))) (k : (∃ t, mg x = some (.str n t)) → R) : R := k ⟨t, PySem.W.mg_of X G a⟩
theorem glo_cont (X : K.In h) (G : h.Ns mainGlobals mg) {x : Str} {f : Addr} (a : PySem.W.nsIn K mainGlobals x = some (some (.ref f))) (k : mg x = some (.ref f) → R) : R := k (PySem.W.mg_of X G a)
structure Lnk (f : Addr) : Prop where
  t : True
theorem lk_cf {n : Str} {C : Addr} (_ : CF K mg n C) : Lnk C := ⟨trivial⟩
theorem lk_ef {n : Str} {C : Addr} {r : List Value} (_ : EF K mg n C r) : Lnk C := ⟨trivial⟩
theorem lk_glo {y : Str} {f : Addr} (_ : mg y = some (.ref f)) : Lnk f := ⟨trivial⟩
theorem lk_mk {C f : Addr} (_ : Mk K C f) : Lnk f := ⟨trivial⟩
theorem lk_fin {C f : Addr} {m : Str} (_ : PySem.W.findIn K (.ref C) m = some (some (.ref f))) : Lnk f := ⟨trivial⟩
theorem lk_me {C f : Addr} {m : Str} (_ : Meth K C m f) : Lnk f := ⟨trivial⟩
theorem lk_po {C f p : Addr} {m : Str} (_ : PropOf K C m p f) : Lnk f := ⟨trivial⟩
theorem lk_d {x qual : Str} {st : Stmt} {f T : Addr} {fd : FuncData} (_ : FnD K x qual st [.ref T] f fd) : Lnk T := ⟨trivial⟩
theorem na_cont {C : Addr} {m : Str} (X : K.In h) (_ : Lnk C) (a : PySem.W.findIn K (.ref C) m = some none) (k : NoAttr K C m → R) : R := k a
theorem nof_cont {C : Addr} {m : Str} (X : K.In h) (_ : Lnk C) (a : PySem.W.findIn K (.ref C) m = some none) (k : PySem.W.findIn K (.ref C) m = some none → R) : R := k a
theorem fin_cont {C f : Addr} {m : Str} (X : K.In h) (_ : Lnk C) (a : PySem.W.findIn K (.ref C) m = some (some (.ref f))) (k : PySem.W.findIn K (.ref C) m = some (some (.ref f)) → R) : R := k a
theorem tyf_cont {f : Addr} (X : K.In h) (_ : Lnk f) (a : PySem.W.typeIn K (.ref f) = some (.type "function")) (k : PySem.W.typeIn K (.ref f) = some (.type "function") → R) : R := k a
theorem isf_cont {f : Addr} (X : K.In h) (_ : Lnk f) (a : PySem.W.isFn K (.ref f) = true) (k : PySem.W.isFn K (.ref f) = true → R) : R := k a
theorem rT_cont {a : Addr} {o : Obj} {its : Array Value} {n : Nat} (X : K.In h) (_ : Lnk a) (l : K.lookup a = some o) (c : o.cls = .type "tuple") (e : o.data = .seq its n) (z : its = #[]) (k : RepK K (.ref a) (.tup []) → R) : R := k (repK_nil l c e z)
theorem mk_cont {C f : Addr} (X : K.In h) (_ : Lnk C) (a : PySem.W.makesIn K C = true) (b : PySem.W.findIn K (.ref C) "__init__" = some (some (.ref f))) (c : PySem.W.isFn K (.ref f) = true) (d : PySem.W.keepIn K (.ref C) = true) (k : Mk K C f → R) : R := k ⟨a, b, c, d⟩
theorem meth_cont {C f : Addr} {m : Str} (X : K.In h) (_ : Lnk C) (a : PySem.W.findIn K (.ref C) m = some (some (.ref f))) (b : PySem.W.isFn K (.ref f) = true) (c : PySem.W.keepIn K (.ref f) = true) (k : Meth K C m f → R) : R := k ⟨a, b, c⟩
theorem prop_cont {C f p : Addr} {m : Str} {r : List Value} (X : K.In h) (_ : Lnk C) (a : PySem.W.findIn K (.ref C) m = some (some (.ref p))) (b : PySem.W.specialIn K (.ref p) "__get__" = some (some (.builtin "property.__get__"))) (c : PySem.W.takesIn K (.ref p) = some true) (d : PySem.W.recIn K p "property" = some (.ref f :: r)) (k : PropOf K C m p f → R) : R := k ⟨a, b, c, r, d⟩
theorem fnd_cont {x qual : Str} {st : Stmt} {f : Addr} {oc : Value} {od an : Option Addr} {osl : Array (Option Value)} {kV doc pm cdv ct : Value} (X : K.In h) (_ : Lnk f)
    (l : K.lookup f = some ⟨oc, od, .func (PySem.W.fnOf x qual (defArgs st) (defBody st) (defScope st) .none kV doc pm an cdv ct), osl⟩) (c : PySem.W.codeIn K cdv qual = true) (p : PySem.W.keepIn K (.ref f) = true)
    (k : FnD K x qual st [] f (PySem.W.fnOf x qual (defArgs st) (defBody st) (defScope st) .none kV doc pm an cdv ct) → R) : R := k ⟨⟨oc, od, .none, kV, doc, pm, an, cdv, ct, osl, rfl, l, c, .inl ⟨rfl, rfl⟩, .inl rfl⟩, p⟩
theorem fndd_cont {x qual : Str} {st : Stmt} {f : Addr} {oc : Value} {od an : Option Addr} {osl : Array (Option Value)} {kV doc pm cdv ct : Value} {dvs : List V} {T : Addr} {o : Obj} {its : Array Value} {n : Nat} (X : K.In h) (_ : Lnk f)
    (l : K.lookup f = some ⟨oc, od, .func (PySem.W.fnOf x qual (defArgs st) (defBody st) (defScope st) (.ref T) kV doc pm an cdv ct), osl⟩) (c : PySem.W.codeIn K cdv qual = true) (p : PySem.W.keepIn K (.ref f) = true)
    (lT : K.lookup T = some o) (oT : o.data = .seq its n) (hd : dvs ≠ []) (v : Vals dvs its.toList)
    (k : FnD K x qual st dvs f (PySem.W.fnOf x qual (defArgs st) (defBody st) (defScope st) (.ref T) kV doc pm an cdv ct) → R) : R := k ⟨⟨oc, od, .ref T, kV, doc, pm, an, cdv, ct, osl, rfl, l, c, .inr ⟨hd, T, o, its.toList, n, rfl, lT, oT, v⟩, .inl rfl⟩, p⟩
theorem fndT_cont {x qual : Str} {st : Stmt} {f : Addr} {oc : Value} {od an : Option Addr} {osl : Array (Option Value)} {kV doc pm cdv ct : Value} {T a : Addr} {o : Obj} {n : Nat} (X : K.In h) (_ : Lnk f)
    (l : K.lookup f = some ⟨oc, od, .func (PySem.W.fnOf x qual (defArgs st) (defBody st) (defScope st) (.ref T) kV doc pm an cdv ct), osl⟩) (c : PySem.W.codeIn K cdv qual = true) (p : PySem.W.keepIn K (.ref f) = true)
    (lT : K.lookup T = some o) (oT : o.data = .seq #[.ref a] n)
    (k : FnD K x qual st [.ref a] f (PySem.W.fnOf x qual (defArgs st) (defBody st) (defScope st) (.ref T) kV doc pm an cdv ct) → R) : R := fndd_cont (dvs := [.ref a]) X ⟨trivial⟩ l c p lT oT (List.cons_ne_nil _ _) (.cons (rfl : RelV (.ref a) (.ref a)) .nil) k
theorem cls_cont (X : K.In h) (G : h.Ns mainGlobals mg)
    (sb : PySem.W.specialIn K (.builtin "object.__class__") "__get__" = some (some (.builtin "getset_descriptor.__get__"))) (sc : PySem.W.takesIn K (.builtin "object.__class__") = some true)
    {n : Str} {C : Addr} (aC : PySem.W.nsIn K mainGlobals n = some (some (.ref C)))
    {q : Str} {N : Addr} {bs : List Value} {hdct : Bool} {sn : List Str} {sub : List Value} {ab : Bool} {col : Option Bool} {dd : Option Addr} {k0 k1 k2 k3 k5 : Option Value} {newId : String}
    (kC : K.lookup C = some (excClassObj n q C N bs [.type "object"] hdct sn sub ab col dd k0 k1 k2 k3 k5 newId))
    (pg : PySem.W.plainGet K C Str.empty = true) (hd : PySem.W.hasDictIn K C = true) (po : PySem.W.plainOver K C = true) (sa : PySem.W.findIn K (.ref C) "__setattr__" = some (some (.builtin "object.__setattr__")))
    (fc : PySem.W.findIn K (.ref C) "__class__" = some (some (.builtin "object.__class__"))) (k : CF K mg n C → R) : R := by
  have hc : PySem.W.clsIn K C = some { name := n, bases := bs, mro := Value.ref C :: [.type "object"], ns := N, qualname := q, hasDict := hdct, slotNames := sn, subclasses := sub, abstract := ab, collection := col } := by
    unfold PySem.W.clsIn
    rw [kC]
  have mo : PySem.W.mroIn K C (.type "object") = some true := by
    unfold PySem.W.mroIn
    rw [hc]
    simp
  exact k ⟨PySem.W.mg_of X G aC, ⟨⟨pg, hd, po, sa⟩, fc, sb, sc, mo⟩, ⟨_, hc, rfl, rfl⟩, by show Option.map (fun o : Obj => o.cls) (K.lookup C) = _; rw [kC]; rfl⟩
theorem err_cont (X : K.In h) (G : h.Ns mainGlobals mg)
    (sb : PySem.W.specialIn K (.builtin "object.__class__") "__get__" = some (some (.builtin "getset_descriptor.__get__"))) (sc : PySem.W.takesIn K (.builtin "object.__class__") = some true)
    {n : Str} {C : Addr} {rest bm : List Value} (aC : PySem.W.nsIn K mainGlobals n = some (some (.ref C)))
    {q : Str} {N : Addr} {bs : List Value} {hdct : Bool} {sn : List Str} {sub : List Value} {ab : Bool} {col : Option Bool} {dd : Option Addr} {k0 k1 k2 k3 k5 : Option Value} {newId : String}
    (kC : K.lookup C = some (excClassObj n q C N bs bm hdct sn sub ab col dd k0 k1 k2 k3 k5 newId)) (eb : bm = rest ++ PySem.HandSPX.veTail)
    (hd : PySem.W.hasDictIn K C = true) (hg : PySem.W.findIn K (.ref C) "__getattribute__" = some (some (.builtin "BaseException.__getattribute__"))) (hk : PySem.W.findIn K (.ref C) "__getattr__" = some none)
    (hs : PySem.W.subIn K (.ref C) (.type "BaseException") = some true) (fc : PySem.W.findIn K (.ref C) "__class__" = some (some (.builtin "object.__class__"))) (k : EF K mg n C rest → R) : R := by
  subst eb
  have hc : PySem.W.clsIn K C = some { name := n, bases := bs, mro := Value.ref C :: (rest ++ PySem.HandSPX.veTail), ns := N, qualname := q, hasDict := hdct, slotNames := sn, subclasses := sub, abstract := ab, collection := col } := by
    unfold PySem.W.clsIn
    rw [kC]
  have mo : PySem.W.mroIn K C (.type "object") = some true := by
    unfold PySem.W.mroIn
    rw [hc]
    simp
  exact k ⟨PySem.W.mg_of X G aC, ⟨_, hc, rfl, rfl⟩, by show Option.map (fun o : Obj => o.cls) (K.lookup C) = _; rw [kC]; rfl, hd, ⟨hg, hk, hs, hd, fc, sb, sc, mo⟩, ⟨hg, hk, hs, hd⟩⟩
/-- an error class with an own __init__ -/
theorem oex_cont {C : Addr} {n : Str} {q : Str} {N : Addr} {bs bm : List Value} {sn : List Str} {sub : List Value} {ab : Bool} {col : Option Bool} {dd : Option Addr} {k0 k1 k2 k3 k5 : Option Value} (X : K.In h) (_ : Lnk C)
    (kC : K.lookup C = some (excClassObj n q C N bs bm true sn sub ab col dd k0 k1 k2 k3 k5 "ValueError.__new__")) (vb : PySem.HandSPX.refsVE bm = true)
    (sa : PySem.W.findIn K (.ref C) "__setattr__" = some (some (.builtin "object.__setattr__"))) (exC : PySem.W.subIn K (.ref C) (.type "BaseException") = some true) (tyC : PySem.W.typeIn K (.ref C) = some (.type "type")) (kp : PySem.W.keepIn K (.ref C) = true)
    (k : OexC K C → R) : R := k ⟨⟨n, q, N, bs, bm, sn, sub, ab, col, dd, k0, k1, k2, k3, k5, kC, vb⟩, sa, exC, tyC, kp⟩
theorem two_cont (X : K.In h) (sb : PySem.W.specialIn K (.builtin "object.__class__") "__get__" = some (some (.builtin "getset_descriptor.__get__"))) (sc : PySem.W.takesIn K (.builtin "object.__class__") = some true)
    (k : (PySem.W.specialIn K (.builtin "object.__class__") "__get__" = some (some (.builtin "getset_descriptor.__get__"))) → (PySem.W.takesIn K (.builtin "object.__class__") = some true) → R) : R := k sb sc
theorem fact {p : Prop} (h : p) (k : p → R) : R := k h
theorem fact2 {p q : Prop} (h : p) (i : q) (k : p → q → R) : R := k h i
end
section
variable {K : PySem.W.Frag} {mg : Str → Option Value} {l : List (Nat × Addr)} {kn ke : List Nat} {nm : Nat → Str}
theorem inj_of {ds : List Nat} {cs : Nat → Addr} (h : ∀ c ∈ ds, ∃ cd, PySem.W.clsIn K (cs c) = some cd ∧ cd.name = nm c) (hn : (ds.all fun c => ds.all fun c' => !(nm c == nm c') || c == c') = true) (c c' : Nat) (hc : c ∈ ds) (hc' : c' ∈ ds) (e : cs c = cs c') : c = c' := by
  obtain ⟨cd, e1, e2⟩ := h c hc
  obtain ⟨cd', e3, e4⟩ := h c' hc'
  rw [e, e3] at e1
  cases e1
  have z := (List.all_eq_true.mp ((List.all_eq_true.mp hn) c hc)) c' hc'
  rw [← e2, ← e4] at z
  simpa using z
/-- what there is of a class of data -/
def UF (K : PySem.W.Frag) (nm : Nat → Str) (cs : Nat → Addr) (c : Nat) : Prop := TyC K (cs c) ∧ (∃ cd, PySem.W.clsIn K (cs c) = some cd ∧ cd.mro = [.ref (cs c), .type "object"] ∧ cd.name = nm c) ∧ PySem.W.typeIn K (.ref (cs c)) = some (.type "type")
theorem CF.u {n : Str} {C : Addr} {cs : Nat → Addr} {c : Nat} (h : CF K mg n C) (e : cs c = C) (e2 : nm c = n) : UF K nm cs c := by
  subst e e2
  exact ⟨h.ty, h.cl, h.tp⟩
theorem uni_mk {cs : Cs} {ds : List Nat} (hk : ∀ c, cs.kn c → c ∈ ds) (h : ∀ c ∈ ds, UF K nm cs.ad c) (hn : (ds.all fun c => ds.all fun c' => !(nm c == nm c') || c == c') = true) : Uni K cs :=
  ⟨fun c hc => (h c (hk c hc)).1, fun c hc => let ⟨cd, a, b, _⟩ := (h c (hk c hc)).2.1; ⟨cd, a, b⟩, fun c hc => (h c (hk c hc)).2.2, fun c c' hc hc' e => inj_of (cs := cs.ad) (fun c hc => let ⟨cd, a, _, b⟩ := (h c hc).2.1; ⟨cd, a, b⟩) hn c c' (hk c hc) (hk c' hc') e⟩
def XF1 (K : PySem.W.Frag) (nm : Nat → Str) (cs : Nat → Addr) (c : Nat) : Prop := (∃ cd, PySem.W.clsIn K (cs c) = some cd ∧ cd.mro = .ref (cs c) :: ((if c = eB then [] else [.ref (cs eB)]) ++ PySem.HandSPX.veTail) ∧ cd.name = nm c) ∧ PySem.W.typeIn K (.ref (cs c)) = some (.type "type") ∧ PySem.W.hasDictIn K (cs c) = true ∧ ExcC K (cs c) ∧ XfC K (cs c)
theorem EF.u {n : Str} {C : Addr} {rest : List Value} {cs : Nat → Addr} {c : Nat} (h : EF K mg n C rest) (e : cs c = C) (e2 : nm c = n) (e3 : (if c = eB then [] else [.ref (cs eB)]) = rest) : XF1 K nm cs c := by
  subst e e2 e3
  exact ⟨h.cl, h.tp, h.hd, h.ex, h.xf⟩
theorem eru_mk {cs : Cs} {ds : List Nat} (hk : ∀ c, cs.ke c → c ∈ ds) (hb : cs.ke eB) (h : ∀ c ∈ ds, XF1 K nm cs.ad c) (hn : (ds.all fun c => ds.all fun c' => !(nm c == nm c') || c == c') = true) : ErU K cs where
  cd c hc := let ⟨cd, a, b, _⟩ := (h c (hk c hc)).1; ⟨cd, a, b⟩
  tp c hc := (h c (hk c hc)).2.1
  hd c hc := (h c (hk c hc)).2.2.1
  ex c hc := (h c (hk c hc)).2.2.2.1
  xf c hc := (h c (hk c hc)).2.2.2.2
  inj c c' hc hc' e := inj_of (cs := cs.ad) (fun c hc => let ⟨cd, a, _, b⟩ := (h c hc).1; ⟨cd, a, b⟩) hn c c' (hk c hc) (hk c' hc') e
  base := hb
end
/-! ### the law -/
theorem own_lift {P : Program} {w : World} {K : PySem.W.Frag} {mg : Str → Option Value} {base : Heap} {wd : Wd} {cs : Cs} {c k k' : Nat} {cl : Cl} (h : k ≤ k') (o : OwnE P w K mg base wd cs c k cl) : OwnE P w K mg base wd cs c k' cl :=
  let ⟨f, fd, F, a, b, c, d⟩ := o.ex
  ⟨f, fd, F.mono h, a, b, c, d⟩
def spLaw (K : PySem.W.Frag) : Sp := fun vs H Q _ => ∃ (a : Addr) (ns : List Int), vs = [.ref a] ∧ SqL K H a (ns.map V.int) ∧ ns.length ≤ 63 ∧ ∀ H', Q (.bl true) H'
theorem sok_none {cc : Cm} {H : Hp} {σ : L2.St} {n : Nat} (hc : cc.H0 = H) (hh : HandAt cc.g H) (hl : σ.length = n) : SOK cc (List.replicate n none) σ H := by
  have no : ∀ (i : Nat) (l : L), (List.replicate n (none : Option L))[i]? ≠ some (some l) := fun i l e => by
    rw [List.getElem?_replicate] at e
    split at e <;> cases e
  exact ⟨hh, fun b u _ e => by rw [← hc]; exact e, by rw [hl, List.length_replicate], fun i l e => (no i l e).elim, fun i j p ds es _ e => (no i _ e).elim⟩
/-- the law's slots behind its first statement -/
def envL (n : Nat) : En := none :: some (.d .hand) :: List.replicate n none
section
variable {P : Program} {w : World} {K : PySem.W.Frag} {mg : Str → Option Value} {base : Heap} {cs : Cs} {k : Nat} {f : Addr} {fd : FuncData} {N : List Str} {st : Stmt}
theorem law_mk {n : Nat} {s : SmS} {s0 : Stmt} (F : FnD K "law" "law" st [] f fd) (S : FnScope N ["_law_script"] (defScope st)) (hb : defBody st = s0 :: (defBody st).tail) (hN : N.length = n + 2)
    (h1 : ∀ (A : Around) (outer : List PySem.Env) (sh : Shared) (H H1 : Hp) (E : XK) (cdv : Value), Room k (A.deeper (envOfC "law" (defScope st) sh.heap.objs.size f cdv)) → PS (XF P w K mg base N "law" st f cdv A outer sh H1 E) s0 (tAsg (tCall (spHand K cs) [] E0 (tCons (tVar 0) tNil)) (gName 1)))
    (h2 : ∀ (ix : Ix) (A : Around) (outer : List PySem.Env) (sh : Shared) (H H1 : Hp) (E : XK) (cdv : Value), (A.deeper (envOfC "law" (defScope st) sh.heap.objs.size f cdv)).guards = some [] → Room k (A.deeper (envOfC "law" (defScope st) sh.heap.objs.size f cdv)) →
      L2N.Takes (XF P w K mg base N "law" st f cdv A outer sh H1 E) (WE E) → PassesOwn (model P w) (XF P w K mg base N "law" st f cdv A outer sh H1 E).A (XF P w K mg base N "law" st f cdv A outer sh H1 E).env (XF P w K mg base N "law" st f cdv A outer sh H1 E).xe →
      PSs (XF P w K mg base N "law" st f cdv A outer sh H1 E) (defBody st).tail (tS (FmOf (GmX K wordH cs ix) H (WE E)) s))
    (plain : s (envL n) (seD (fun d => d = .bl true) (fun _ => False))) : FnG P w K mg base (k + 1) f fd ["_law_script"] (spLaw K) := by
  obtain ⟨oc, od, dV, kV, doc, pm, an, cdv, ct, osl, rfl, lk, hcd, _, _⟩ := F.ex
  refine fng_of lk hcd S (fun vs H Q E h => ?_) fun A outer sh H vs Q E hg hr h => ?_
  · obtain ⟨a, ns, rfl, _⟩ := h
    rfl
  · obtain ⟨a, ns, rfl, hS, hl, q⟩ := h
    have body : PSs (XF P w K mg base N "law" st f cdv A outer sh H E) (s0 :: (defBody st).tail) _ := pss_cons (h1 A outer sh H H E cdv hr) (PSs.ex (α := Addr × Hp) fun i => h2 (noIx i.1) A outer sh i.2 H E cdv (guards_deeper hg) hr (L2N.takes_of rfl rfl rfl rfl) (passes_of rfl))
    rw [← hb] at body
    refine ⟨_, body, ?_⟩
    refine ⟨.ref a, rfl, a, ns, rfl, hS, Nat.le_trans hl (by decide), fun hd H' nh sm hh => ⟨(hd, H'), envL n, seD (fun d => d = .bl true) (fun _ => False), ?_, plain, ?_⟩⟩
    · have e : envL n = (List.replicate (n + 2) (none : Option L)).set 1 (some (.d .hand)) := by
        show _ = none :: (none :: List.replicate n none).set 0 _
        rfl
      rw [e]
      exact SOK.set (i := 1) (v := .ref hd) (d := .hand) (sok_none (n := n + 2) (σ := L2.start N [.ref a]) rfl hh (by simp [L2.start, hN])) .hand
    · refine ⟨fun env σ H2 qq _ k => ?_, fun d v H2 qq _ st rv => ?_, fun _ _ _ qq => qq.elim, fun _ _ _ qq => qq.elim, fun xx env t dd σ H2 qq _ k xr => qq.elim⟩
      · exact absurd (show D.non = .bl true from qq) (by simp)
      · have qq : d = .bl true := qq
        subst qq
        cases rv
        exact q H2
theorem lawWalk {l : PySem.W.OpenLaw} {q : Program} {loose : List Str} {XP : (Str → Option Value) → Heap → Prop} {YP : World → Heap → Prop} {d : DefRec} {K : Params → PySem.W.Frag} (k : Nat) (hr : Room k callerA) (hn : l.most = some 63) (hdf : d.params.defaults = [])
    (hY : ∀ (w : World) (h : Heap), YP w h → (K w.params).In h)
    (F : ∀ (w : World) (mg : Str → Option Value) (fa : Addr) (h : Heap), (K w.params).In h → h.Ns mainGlobals mg → mg d.name = some (.ref fa) →
      ∃ fd : FuncData, (∀ (s : Shared) (u : Value), BindsTo s fd { pos := [u] } [("_law_script", u)]) ∧ ∀ base : Heap, (K w.params).In base → base.Ns mainGlobals mg → FnG l.prog w (K w.params) mg base k fa fd ["_law_script"] (spLaw (K w.params))) :
    PySem.W.WalkO q loose XP YP l.row.toRowW d [] (fun f vs => PySem.call f vs) :=
  Mw.walk_ofG (n := 63) (k := k) (x := "_law_script") (sp := fun w => spLaw (K w.params)) hn (by rw [sizeLine_eq]; decide) hdf hr hY F (fun _ _ a ns hl _ hS => ⟨a, ns, rfl, hS, hl, fun _ => rfl⟩)
end
end Rd0
end
section
set_option Elab.async false
set_option linter.all false
set_option autoImplicit false
set_option maxRecDepth 100000
set_option maxHeartbeats 2000000
namespace Rd
open PySem PySem.Spec L2 Mw Rd0
open PyProof.Rows (envOfC)
abbrev sMix : Stmt := topS 14
abbrev sHand : Stmt := topS 15
abbrev sDraw : Stmt := topS 16
section
variable {P : Program} {w : World} {K : PySem.W.Frag} {mg : Str → Option Value} {base : Heap} {cs : Cs}
theorem scMix : FnScope ["_law_number", "_law_turn", "_law_once", "_law_twice"] ["_law_number", "_law_turn"] (defScope sMix) := ⟨rfl, rfl, rfl, by decide +kernel, rfl, by decide +kernel, by decide +kernel⟩
def spMix : Sp := fun vs H Q _ => ∃ a b : Int, vs = [.int a, .int b] ∧ ∀ v : Int, Q (.int v) H
theorem ok_mix {f : Addr} {fd : FuncData} (F : FnD K "_law_mix" "_law_mix" sMix [] f fd) (mi : mg "int" = none) : FnOk P w K mg base CX0 1 f fd ["_law_number", "_law_turn"] spMix := by
  refine F.ok scMix (fun vs H Q E h => ?_) (fun cdv A outer s H vs Q E hr h => ?_)
  · obtain ⟨a, b, rfl, _⟩ := h; rfl
  · obtain ⟨a, b, rfl, q⟩ := h
    refine ⟨_, PSs.nox (pss_cons (ps_set (i := 2) scMix.nd rfl (.inl rfl) (pe_op op_mod (pe_callTy call_int1 (by rfl) mi (by rfl) (pa_cons (pe_op op_add (pe_op op_add (pe_op op_mul (pv 0) pe_int) (pe_op op_mul (pv 1) pe_int)) pe_int) pa_nil)) pe_int))
      (pss_cons (ps_set (i := 3) scMix.nd rfl (.inl rfl) (pe_op op_mod (pe_callTy call_int1 (by rfl) mi (by rfl) (pa_cons (pe_op op_add (pe_op op_add (pe_op op_mul (pv 2) (pv 2)) (pe_op op_mul (pe_op op_fdiv (pv 2) pe_int) pe_int)) (pe_op op_mul (pv 1) pe_int)) pa_nil)) pe_int))
      (pss_one (ps_ret (pe_op op_fdiv (pe_op op_mod (pe_callTy call_int1 (by rfl) mi (by rfl) (pa_cons (pe_op op_add (pe_op op_fdiv (pe_op op_mul (pv 3) (pv 3)) pe_int) (pv 2)) pa_nil)) pe_int) pe_int))))), ?_⟩
    have small : ∀ {x m : Int}, 0 < m → m < 2 ^ 64 → -2 ^ 64 < x % m ∧ x % m < 2 ^ 64 := fun {x m} h1 h2 => by
      have a1 := Int.emod_nonneg x (Int.ne_of_gt h1)
      have a2 := Int.emod_lt_of_pos x h1
      omega
    refine ⟨.int a, rfl, a, 48271, rfl, rfl, .inr ⟨by decide, by decide⟩, .int b, rfl, b, 16807, rfl, rfl, .inr ⟨by decide, by decide⟩, _, _, rfl, rfl, _, _, rfl, rfl, .inl ⟨_, rfl, _, _, rfl, rfl, (by decide : (0 : Int) < 2147483647), ?_⟩⟩
    refine ⟨_, rfl, _, rfl, _, _, rfl, rfl, .inl (small (by decide) (by decide)), ?_⟩
    refine ⟨_, rfl, _, _, rfl, rfl, ⟨by decide, by decide⟩, _, 40692, rfl, rfl, .inr ⟨by decide, by decide⟩, _, _, rfl, rfl, ?_⟩
    refine ⟨.int b, rfl, b, 69621, rfl, rfl, .inr ⟨by decide, by decide⟩, _, _, rfl, rfl, .inl ⟨_, rfl, _, _, rfl, rfl, (by decide : (0 : Int) < 2147483399), ?_⟩⟩
    refine ⟨_, rfl, _, rfl, _, _, rfl, rfl, .inl (small (by decide) (by decide)), _, _, rfl, rfl, ⟨by decide, by decide⟩, ?_⟩
    refine ⟨_, rfl, _, _, rfl, rfl, .inl ⟨_, rfl, _, _, rfl, rfl, (by decide : (0 : Int) < 2147483563), _, _, rfl, rfl, ⟨by decide, by decide⟩, ?_⟩⟩
    exact q _
theorem scDraw : FnScope ["_law_hand_here", "_law_many", "_law_cell", "_law_rest"] ["_law_hand_here", "_law_many"] (defScope sDraw) := ⟨rfl, rfl, rfl, by decide +kernel, rfl, by decide +kernel, by decide +kernel⟩
theorem ok_draw {f fM : Addr} {fd fdM : FuncData} (F : FnD K "_law_draw" "_law_draw" sDraw [] f fd) (GM : FnOk P w K mg base CX0 1 fM fdM ["_law_number", "_law_turn"] spMix) (gM : mg "_law_mix" = some (.ref fM)) (kM : PySem.W.keepIn K (.ref fM) = true) (bM : Binds K fdM ["_law_number", "_law_turn"] []) (mi : mg "int" = none) (ml : mg "len" = none) :
    FnOk P w K mg base CX0 2 f fd ["_law_hand_here", "_law_many"] (spDraw K cs) := by
  refine F.ok scDraw (fun vs H Q E h => ?_) (fun cdv A outer s H vs Q E hr h => ?_)
  · obtain ⟨ix, m, rfl, _⟩ := h; rfl
  · obtain ⟨ix, m, rfl, m0, m1, hh, q⟩ := h
    obtain ⟨⟨c, ns, i, r, t, e1, e2, w0⟩, rw0⟩ := hh
    have h0 : Hd ix.hd c ns i r t H := ⟨e1, e2⟩
    have vb : ∀ x : Int, 0 ≤ x % m ∧ x % m < m := fun x => ⟨Int.emod_nonneg x (Int.ne_of_gt m0), Int.emod_lt_of_pos x m0⟩
    have fin : ∀ {H1 : Hp} {i' r' t' : Int}, Hd ix.hd c ns i' r' t' H1 → 0 ≤ i' → (∀ b u, b ≠ ix.hd → H b = some u → H1 b = some u) → Step (GmX K wordH cs ix) H H1 := fun {H1 i' r' t'} h1 wi sm => ⟨sm, ⟨⟨c, ns, i', r', t', h1.1, h1.2, wi⟩, fun b hb => by
      by_cases e : b = ix.hd
      · rw [e, h1.1]; exact Option.some_ne_none _
      · obtain ⟨u, hu⟩ := Option.ne_none_iff_exists'.mp (rw0 b hb)
        rw [sm b u e hu]; exact Option.some_ne_none _⟩⟩
    obtain ⟨t2, p2, q2⟩ : ∃ t2, PSs ((cxOf CX0 P w K mg base ["_law_hand_here", "_law_many", "_law_cell", "_law_rest"] "_law_draw" (defScope sDraw) f cdv A outer s H E).nox) (defBody sDraw).tail t2 ∧
        ∀ (H1 : Hp) (i' r' t' : Int) (v2 : Option V), Hd ix.hd c ns i' r' t' H1 → 0 ≤ i' → (∀ b u, b ≠ ix.hd → H b = some u → H1 b = some u) → t2 { nx := fun x H' => Q V.non H', rt := Q } [some (.ref ix.hd), some (.int m), v2, none] H1 := by
      refine ⟨_, pss_cons (ps_if (pt_cmpR op_gt (pe_ix ix_list (pv 0) pe_int (fun _ _ => rfl)) pe_int (nomark _))
        (pss_cons (ps_set (i := 3) scDraw.nd rfl (.inl rfl) (pe_ix ix_list (pv 0) pe_int (fun _ _ => rfl)))
        (pss_cons (ps_asg (pe_op op_fdiv (pv 3) (pv 1)) (pg_sub (pv 0) pe_int set_list))
        (pss_one (ps_ret (pe_op op_mod (pe_callTy call_int1 (by rfl) mi (by rfl) (pa_cons (pv 3) pa_nil)) (pv 1)))))) pss_nil)
        (pss_cons (ps_asg (pe_op op_mod (pe_callTy call_int1 (by rfl) mi (by rfl) (pa_cons (pe_op op_add (pe_ix ix_list (pv 0) pe_int (fun _ _ => rfl)) pe_int) pa_nil)) pe_int) (pg_sub (pv 0) pe_int set_list))
        (pss_one (ps_ret (pe_op op_mod (pe_callTy call_int1 (by rfl) mi (by rfl) (pa_cons (pe_call GM (hr.mono (by decide)) (by rfl) gM kM bM .nil pass0 (pa_cons (pe_ix ix_list (pv 0) pe_int (fun _ _ => rfl)) (pa_cons (pe_ix ix_list (pv 0) pe_int (fun _ _ => rfl)) pa_nil))) pa_nil)) (pv 1))))), ?_⟩
      intro H1 i' r' t' v2 h1 wi sm
      refine ⟨.ref ix.hd, rfl, ix.hd, _, 2, .int r', rfl, rfl, h1.seq, atI_nat (j := 2) rfl, _, _, rfl, rfl, _, rfl, ?_⟩
      refine ite2 (fun e => ?_) (fun e => ?_)
      · have h2 := h1.put (i' := i') (r' := r' / m) (t' := t')
        refine ⟨.ref ix.hd, rfl, ix.hd, _, 2, .int r', rfl, rfl, h1.seq, atI_nat (j := 2) rfl, ?_⟩
        refine ⟨_, rfl, .int m, rfl, _, _, rfl, rfl, ⟨m0, m1⟩, .ref ix.hd, rfl, ix.hd, _, 2, 2, rfl, rfl, h1.1, rfl, ?_⟩
        refine ⟨_, rfl, .inl ⟨_, rfl, .int m, rfl, _, _, rfl, rfl, m0, ?_⟩⟩
        exact q _ _ (vb _).1 (vb _).2 (fin h2 wi (h1.step sm))
      · have h2 := h1.put (i' := i') (r' := r') (t' := (t' + 1) % 2147483629)
        refine ⟨.ref ix.hd, rfl, ix.hd, _, 3, .int t', rfl, rfl, h1.seq, atI_nat (j := 3) rfl, _, _, rfl, rfl, .inl ⟨_, rfl, _, _, rfl, rfl, (by decide : (0 : Int) < 2147483629), .ref ix.hd, rfl, ix.hd, _, 3, 3, rfl, rfl, h1.1, rfl, ?_⟩⟩
        refine ⟨.ref ix.hd, rfl, ix.hd, _, 3, .int _, rfl, rfl, h2.seq, atI_nat (j := 3) rfl, .ref ix.hd, rfl, ix.hd, _, 1, .int i', rfl, rfl, h2.seq, atI_nat (j := 1) rfl, _, _, rfl, fun v => .inl ⟨_, rfl, .int m, rfl, _, _, rfl, rfl, m0, ?_⟩⟩
        exact q _ _ (vb _).1 (vb _).2 (fin h2 wi (h1.step sm))
    refine ⟨_, PSs.nox (pss_cons (ps_if ((pw_and (pt_cmpR op_eq (pe_ix ix_list (pv 0) pe_int (fun _ _ => rfl)) pe_int (nomark _)) (pw_and1 (pt_cmpR op_lt (pe_ix ix_list (pv 0) pe_int (fun _ _ => rfl)) (pe_callB call_len_seq (by rfl) ml PySem.boot_len (pa_cons (pe_ix ix_list (pv 0) pe_int (fun _ _ => rfl)) pa_nil)) (nomark _)))).pt)
        (pss_cons (ps_set (i := 2) scDraw.nd rfl (.inl rfl) (pe_ix ix_list (pe_ix ix_list (pv 0) pe_int (fun _ _ => rfl)) (pe_ix ix_list (pv 0) pe_int (fun _ _ => rfl)) (fun _ _ => rfl)))
        (pss_cons (ps_asg (pe_op op_add (pe_ix ix_list (pv 0) pe_int (fun _ _ => rfl)) pe_int) (pg_sub (pv 0) pe_int set_list))
        (pss_cons (ps_if (pt_cmpR op_lt (pv 2) (pe_op op_pow pe_int pe_int) (nomark _))
          (pss_one (ps_ret (pe_op op_mod (pe_callTy call_int1 (by rfl) mi (by rfl) (pa_cons (pe_call GM (hr.mono (by decide)) (by rfl) gM kM bM .nil pass0 (pa_cons (pe_op op_mod (pe_callTy call_int1 (by rfl) mi (by rfl) (pa_cons (pv 2) pa_nil)) pe_int) (pa_cons (pe_ix ix_list (pv 0) pe_int (fun _ _ => rfl)) pa_nil))) pa_nil)) (pv 1)))) pss_nil)
        (pss_one (ps_asg (pv 2) (pg_sub (pv 0) pe_int set_list)))))) pss_nil) p2), ?_⟩
    refine ⟨.ref ix.hd, rfl, ix.hd, _, 2, .int r, rfl, rfl, h0.seq, atI_nat (j := 2) rfl, rfl, _, rfl, ite2 (fun ea => ?_) (fun ea => ?_)⟩
    · refine ⟨.ref ix.hd, rfl, ix.hd, _, 1, .int i, rfl, rfl, h0.seq, atI_nat (j := 1) rfl, .ref ix.hd, rfl, ix.hd, _, 0, .ref c, rfl, rfl, h0.seq, atI_nat (j := 0) rfl, c, _, rfl, .inl e2.sq, _, _, rfl, rfl, _, rfl, ite2 (fun eb => ?_) (fun eb => ?_)⟩
      · have hl : i < (ns.map V.int).length := of_decide_eq_true eb
        rw [List.length_map] at hl
        have w0' : 0 ≤ i := w0
        obtain ⟨j, ej⟩ : ∃ j : Nat, i = (j : Int) := ⟨i.toNat, by omega⟩
        have hin : j < ns.length := by omega
        obtain ⟨x, hx⟩ : ∃ x, ns[j]? = some x := ⟨_, List.getElem?_eq_getElem hin⟩
        have at1 : atI (ns.map V.int) i = some (.int x) := by
          rw [ej]
          refine atI_nat (j := j) ?_
          rw [List.getElem?_map, hx]
          rfl
        have h2 := h0.put (i' := i + 1) (r' := r) (t' := t)
        have wi : 0 ≤ i + 1 := by omega
        refine ⟨.ref ix.hd, rfl, ix.hd, _, 0, .ref c, rfl, rfl, h0.seq, atI_nat (j := 0) rfl, .ref ix.hd, rfl, ix.hd, _, 1, .int i, rfl, rfl, h0.seq, atI_nat (j := 1) rfl, c, _, i, _, rfl, rfl, e2.sq, at1, ?_⟩
        refine ⟨.ref ix.hd, rfl, ix.hd, _, 1, .int i, rfl, rfl, h0.seq, atI_nat (j := 1) rfl, _, _, rfl, rfl, .ref ix.hd, rfl, ix.hd, _, 1, 1, rfl, rfl, h0.1, rfl, ?_⟩
        refine ⟨_, rfl, _, _, rfl, rfl, ⟨by decide, by decide, by decide⟩, _, _, rfl, rfl, _, rfl, ite2 (fun ec => ?_) (fun ec => ?_)⟩
        · refine ⟨_, rfl, .inl ⟨_, rfl, _, _, rfl, rfl, (by decide : (0 : Int) < 2147483647), .ref ix.hd, rfl, ix.hd, _, 1, .int (i + 1), rfl, rfl, h2.seq, atI_nat (j := 1) rfl, _, _, rfl, fun v => .inl ⟨_, rfl, .int m, rfl, _, _, rfl, rfl, m0, ?_⟩⟩⟩
          exact q _ _ (vb _).1 (vb _).2 (fin h2 wi (h0.step (fun b u _ e => e)))
        · have h3 := h2.put (i' := i + 1) (r' := x) (t' := t)
          refine ⟨_, rfl, .ref ix.hd, rfl, ix.hd, _, 2, 2, rfl, rfl, h2.1, rfl, ?_⟩
          exact q2 _ _ _ _ _ h3 wi (h2.step (h0.step (fun b u _ e => e)))
      · exact q2 _ _ _ _ _ h0 w0 (fun b u _ e => e)
    · exact q2 _ _ _ _ _ h0 w0 (fun b u _ e => e)
/-- a draw, told over data -/
theorem cal_draw {f fM : Addr} {fd fdM : FuncData} (F : FnD K "_law_draw" "_law_draw" sDraw [] f fd) (g : mg "_law_draw" = some (.ref f)) (FM : FnD K "_law_mix" "_law_mix" sMix [] fM fdM) (gM : mg "_law_mix" = some (.ref fM)) (mi : mg "int" = none) (ml : mg "len" = none) : Cal P w K mg base wordH cs "_law_draw" 2 2 clDraw [] :=
  cal_mk (ps := ["_law_hand_here", "_law_many"]) (FnG.imp (fng0 (ok_draw (cs := cs) F (ok_mix FM mi) gM FM.kp (bndN FM fun _ _ _ _ _ _ us hl => match us, hl with | [_, _], _ => rfl) mi ml)) draw_of) g F.kp .nil (bnd0 F fun _ _ _ _ _ _ us hl => match us, hl with | [_, _], _ => rfl)
theorem scHand : FnScope ["_law_script", "_law_total", "_law_k", "_law_cell"] ["_law_script"] (defScope sHand) := ⟨rfl, rfl, rfl, by decide +kernel, rfl, by decide +kernel, by decide +kernel⟩
theorem ok_hand {f : Addr} {fd : FuncData} (F : FnD K "_law_hand" "_law_hand" sHand [] f fd) (mi : mg "int" = none) (ma : mg "abs" = none) (me : mg "enumerate" = none) : FnOk P w K mg base CX0 1 f fd ["_law_script"] (spHand K cs) := by
  refine F.ok scHand (fun vs H Q E h => ?_) (fun cdv A outer s H vs Q E hr h => ?_)
  · obtain ⟨a, ns, rfl, _⟩ := h; rfl
  · obtain ⟨a, ns, rfl, hS, hlen, q⟩ := h
    refine ⟨_, PSs.nox (pss_cons (ps_set (i := 1) scHand.nd rfl (.inl rfl) pe_int)
      (pss_cons (ps_for PassesOwn.never rfl (pi_enum rfl me (pa_cons (pv 0) pa_nil)) (pg_tup (n := 2) rfl (pgs_cons (pg_name (i := 2) scHand.nd rfl (.inl rfl)) (pgs_cons (pg_name (i := 3) scHand.nd rfl (.inl rfl)) pgs_nil)))
        (pss_one (ps_set (i := 1) scHand.nd rfl (.inl rfl) (pe_op op_mod (pe_callTy call_int1 (by rfl) mi (by rfl) (pa_cons (pe_op op_add (pe_op op_mul (pv 1) pe_int) (pe_op op_mul (pe_callTy call_int1 (by rfl) mi (by rfl) (pa_cons (pv 3) pa_nil)) (pe_op op_add (pv 2) pe_int))) pa_nil)) pe_int))))
      (pss_one (ps_ret (pe_lst (pa_cons (PE.lk (pe_lc (own := [("_law_cell", 3)]) (g := gName 3) rfl scHand.nd (pi_list (pv 0)) (blkOk_by (own := [("_law_cell", 3)]) (N := ["_law_script", "_law_total", "_law_k", "_law_cell"]) (sc := defScope sHand) (by decide +kernel)) (fun _ _ _ _ _ => pg_name (i := 3) scHand.nd rfl (.inl rfl)) (fun _ _ _ _ _ => pts_nil)
          (fun _ _ _ _ _ => pe_callB call_abs (by rfl) ma (by rfl) (pa_cons (pe_callTy call_int1 (by rfl) mi (by rfl) (pa_cons (pv 3) pa_nil)) pa_nil)))) (pa_cons pe_int (pa_cons pe_int (pa_cons (pv 1) pa_nil))))))))), ?_⟩
    have keepS : ∀ {H1 : Hp}, (∀ b u, H b = some u → H1 b = some u) → SqL K H1 a (ns.map V.int) := fun {H1} sm => by
      rcases hS with (h | ⟨o, h⟩) | h
      · exact .inl (.inl (sm _ _ h))
      · exact .inl (.inr ⟨o, sm _ _ h⟩)
      · exact .inr h
    refine ⟨.ref a, rfl, a, _, rfl, hS, for_it (walk_enum (K := K) (a := a) (xs := ns.map V.int)) (fun i σ H' => ∃ (t : Int) (v2 v3 : Option V), σ = [some (.ref a), some (.int t), v2, v3] ∧ ∀ b u, H b = some u → H' b = some u)
      ⟨0, none, none, rfl, fun b u e => e⟩ (fun i σ H' _ ⟨_, _, _, _, sm⟩ => keepS sm) ?_ ?_⟩
    · rintro i y σ H1 H' hi ⟨t, v2, v3, rfl, sm⟩ ⟨T, x, z, rfl, nT, rfl, ex, ez⟩
      cases ex
      have ez : (ns.map V.int)[i]? = some z := ez
      obtain ⟨n, hn, rfl⟩ : ∃ n, ns[i]? = some n ∧ z = V.int n := by
        rw [List.getElem?_map] at ez
        cases e : ns[i]? with
        | none => rw [e] at ez; cases ez
        | some n => rw [e] at ez; exact ⟨n, rfl, (Option.some.inj ez).symm⟩
      have hil : i < ns.length := lt_of_get hn
      refine ⟨T, _, rfl, .inl (.inl upd_same), rfl, _, _, rfl, _, _, rfl, rfl, ?_⟩
      refine ⟨_, rfl, t, 37, rfl, rfl, .inr ⟨by decide, by decide⟩, _, rfl, .inl ⟨n, rfl, _, rfl, _, _, rfl, rfl, _, _, rfl, rfl, .inr ⟨by omega, by omega⟩, _, _, rfl, rfl, .inl ⟨_, rfl, _, _, rfl, rfl, (by decide : (0 : Int) < 2147483629), ?_⟩⟩⟩
      exact ⟨_, _, _, rfl, fun b u e => by rw [upd_ne (fun q => by subst q; rw [sm _ _ e] at nT; cases nT)]; exact sm b u e⟩
    · rintro σ H' ⟨t, v2, v3, rfl, sm⟩
      refine ⟨.ref a, rfl, a, rfl, ⟨_, keepS sm⟩, fun D nD => ?_⟩
      have nDH : H D = none := by
        cases e : H D with
        | none => rfl
        | some u => have z := sm D u e; rw [nD] at z; cases z
      have smD : ∀ (v : HO) b u, H b = some u → upd H' D v b = some u := fun v b u e => by
        rw [upd_ne (fun q => by subst q; rw [nDH] at e; cases e)]
        exact sm b u e
      refine lc_list (K := K) (a := a) (xs := ns.map V.int) (fun i H2 => ∃ ms : List Int, H2 = upd H' D (.lst (ms.map V.int)) ∧ ms.length = i) ⟨[], rfl, rfl⟩ (fun i H2 _ ⟨ms, e, _⟩ => by subst e; exact keepS (smD _)) ?_ ?_
      · rintro i y H2 hi ⟨ms, rfl, hl⟩
        obtain ⟨n, hn, rfl⟩ : ∃ n, ns[i]? = some n ∧ y = V.int n := by
          rw [List.getElem?_map] at hi
          cases e : ns[i]? with
          | none => rw [e] at hi; cases hi
          | some n => rw [e] at hi; exact ⟨n, rfl, (Option.some.inj hi).symm⟩
        have hil : i < ns.length := lt_of_get hn
        refine ⟨rfl, ?_⟩
        refine ⟨_, rfl, .inl ⟨n, rfl, n, rfl, _, upd_same, ?_, ms ++ [if n < 0 then -n else n], ?_, by simp [hl]⟩⟩
        · rw [List.length_map, hl]
          exact Nat.lt_of_lt_of_le (Nat.lt_of_lt_of_le hil hlen) (by rw [sizeLine_eq]; decide)
        · rw [L2.upd_upd, List.map_append]; rfl
      · rintro H2 ⟨ms, rfl, hl⟩
        refine .inr ⟨D, _, rfl, upd_same, trivial, fun o => ?_⟩
        rw [L2.upd_upd]
        refine ⟨.int t, rfl, (by show 4 ≤ sizeLine; rw [sizeLine_eq]; decide), fun hd nhd => ?_⟩
        have nhc : D ≠ hd := fun z => by
          subst z
          rw [upd_same] at nhd
          cases nhd
        have nH : H hd = none := by
          cases e : H hd with
          | none => rfl
          | some u => have z := smD (.frz o (.lst (ms.map V.int))) hd u e; rw [nhd] at z; cases z
        refine q hd _ nH (fun b u e => ?_) ⟨⟨D, ms, 0, 0, t, upd_same, ⟨o, ?_⟩, Int.le_refl 0⟩, fun b hb => hb.elim⟩
        · rw [upd_ne (ne_of_none (smD (.frz o (.lst (ms.map V.int))) b u e) nhd)]
          exact smD _ b u e
        · rw [upd_ne nhc]
          exact upd_same
end
end Rd
end
section
set_option Elab.async false
set_option linter.all false
set_option autoImplicit false
set_option maxRecDepth 100000
set_option maxHeartbeats 4000000
namespace Rd
open PySem PySem.Spec L2 Mw Rd0
open PyProof.Rows (envOfC)
section
variable {P : Program} {w : World} {K : PySem.W.Frag} {mg : Str → Option Value} {base : Heap} {wd : Wd} {cs : Cs}
theorem sc_is_whole : FnScope ["thing", "low", "high"] ["thing", "low", "high"] (defScope (topS 7)) := ⟨rfl, rfl, rfl, by decide +kernel, rfl, by decide +kernel, by decide +kernel⟩
theorem cal_is_whole {f : Addr} {fd : FuncData} (F : FnD K "is_whole" "is_whole" (topS 7) [.non, .non] f fd) (g : mg "is_whole" = some (.ref f)) (U : Uni K cs) (m_isinstance : mg "isinstance" = none) (m_bool : mg "bool" = none) (m_int : mg "int" = none) : Cal P w K mg base wd cs "is_whole" 1 3 cl_is_whole [.non, .non] :=
  cal_mk (fngV (k := 0) F sc_is_whole rfl fun ix H H1 A outer s0 E cdv hgd hr tk po => have hu65 := units65 hr; have hu70 := units70 hr; (oks_cons (xifS (PW.toT (tor (xt rfl (rd (xisT U m_isinstance m_bool (xr 0)))) (tor1 (tnot (xt rfl (rd (xisT U m_isinstance m_int (xr 0)))))))) (oks_one (xret xb)) oks_nil) (oks_cons (xifS (PW.toT (tand (tIsN (xr 1) (rd xo)) (tand1 (tLt (xr 0) (xr 1))))) (oks_one (xret xb)) oks_nil) (oks_one (xret (xor rfl (xIs (xr 2) (rd xo)) (xone (xLe (xr 0) (xr 2))))))))) g F.kp (.cons RepC.non.k (.cons RepC.non.k .nil)) (fun j hj => match j, hj with | 0, _ => F.binds1 1 0 (List.cons_ne_nil _ _) rfl (fun _ _ _ _ _ _ _ us its hl hi => match us, hl, its, hi with | [_], _, [_, _], _ => ⟨_, rfl, rfl⟩) | 1, _ => F.binds1 2 1 (List.cons_ne_nil _ _) rfl (fun _ _ _ _ _ _ _ us its hl hi => match us, hl, its, hi with | [_, _], _, [_, _], _ => ⟨_, rfl, rfl⟩) | 2, _ => F.binds1 3 2 (List.cons_ne_nil _ _) rfl (fun _ _ _ _ _ _ _ us its hl hi => match us, hl, its, hi with | [_, _, _], _, [_, _], _ => ⟨_, rfl, rfl⟩) | (_ + 3), h => absurd h (by simp))
theorem sc_is_sequence : FnScope ["thing"] ["thing"] (defScope (topS 8)) := ⟨rfl, rfl, rfl, by decide +kernel, rfl, by decide +kernel, by decide +kernel⟩
theorem cal_is_sequence {f : Addr} {fd : FuncData} (F : FnD K "is_sequence" "is_sequence" (topS 8) [] f fd) (g : mg "is_sequence" = some (.ref f)) (U : Uni K cs) (m_isinstance : mg "isinstance" = none) (m_list : mg "list" = none) (m_tuple : mg "tuple" = none) : Cal P w K mg base wd cs "is_sequence" 1 1 cl_is_sequence [] :=
  cal_mk (fngV (k := 0) F sc_is_sequence rfl fun ix H H1 A outer s0 E cdv hgd hr tk po => have hu65 := units65 hr; have hu70 := units70 hr; (oks_one (xret (xor rfl (xisT U m_isinstance m_list (xr 0)) (xone (xisT U m_isinstance m_tuple (xr 0))))))) g F.kp .nil (bnd0 F fun _ _ _ _ _ _ us hl => match us, hl with | [_], _ => rfl)
theorem sc_u_ascending_values : FnScope ["things", "last", "thing"] ["things"] (defScope (topS 11)) := ⟨rfl, rfl, rfl, by decide +kernel, rfl, by decide +kernel, by decide +kernel⟩
theorem cal_u_ascending_values {f : Addr} {fd : FuncData} (F : FnD K "_ascending_values" "_ascending_values" (topS 11) [] f fd) (g : mg "_ascending_values" = some (.ref f)) (C_is_whole : Cal P w K mg base wd cs "is_whole" 1 3 cl_is_whole [.non, .non]) (g_HIGHEST : ∃ t, mg "HIGHEST" = some (.int 1000000000 t)) : Cal P w K mg base wd cs "_ascending_values" 2 1 cl_u_ascending_values [] :=
  cal_mk (fngV (k := 1) F sc_u_ascending_values rfl fun ix H H1 A outer s0 E cdv hgd hr tk po => have hu65 := units65 hr; have hu70 := units70 hr; (oks_cons (xset 1 sc_u_ascending_values.nd (xneg (rd xi))) (oks_cons (xfor po rfl (xseq (xn 0)) (xgn 2 sc_u_ascending_values.nd) (oks_cons (xifS (PW.toT (tor (tnot (xt rfl (rd (ycall C_is_whole 2 (by decide) tk hgd (hr.mono (by decide : 1 ≤ _)) (ac (xn 2) (ac xi (ac (xg_int g_HIGHEST) an))))))) (tor1 (tLe (xr 2) (xr 1))))) (oks_one (xret xb)) oks_nil) (oks_one (xset 1 sc_u_ascending_values.nd (xn 2))))) (oks_one (xret xb))))) g F.kp .nil (bnd0 F fun _ _ _ _ _ _ us hl => match us, hl with | [_], _ => rfl)
theorem sc_Sorts___init__ : FnScope ["self", "named", "modulus"] ["self", "named", "modulus"] (defScope (inClass (topS 12) 0)) := ⟨rfl, rfl, rfl, by decide +kernel, rfl, by decide +kernel, by decide +kernel⟩
theorem mak_Sorts {f : Addr} {fd : FuncData} (F : FnD K "__init__" "Sorts.__init__" (inClass (topS 12) 0) [] f fd) (m : Mk K (cs 0) f) (g : mg "Sorts" = some (.ref (cs 0))) (k_Sorts : cs.kn 0) (F_modulus_Sorts : Fld K cs [0] "modulus") (F_named_Sorts : Fld K cs [0] "named") (m_tuple : mg "tuple" = none) (C_is_whole : Cal P w K mg base wd cs "is_whole" 1 3 cl_is_whole [.non, .non]) (E_BadSorts : Err P w K mg base cs 110 "BadSorts" 1 ["what"]) (C_is_sequence : Cal P w K mg base wd cs "is_sequence" 1 1 cl_is_sequence []) (m_len : mg "len" = none) (C_u_ascending_values : Cal P w K mg base wd cs "_ascending_values" 2 1 cl_u_ascending_values []) : Mak P w K mg base wd cs 0 "Sorts" 3 2 cl_Sorts___init__ :=
  ⟨f, fd, _, (fngW (k := 2) k_Sorts F sc_Sorts___init__ rfl fun ix H H1 A outer s0 E cdv hgd hr tk po => have hu65 := units65 hr; have hu70 := units70 hr; (oks_cons (xifS (PW.toT (tor (tnot (xt rfl (rd (ycall C_is_sequence 0 (by decide) tk hgd (hr.mono (by decide : 1 ≤ _)) (ac (xn 1) an))))) (tor (tGt (rd (xlen m_len (xr 1))) (rd xi)) (tor1 (tnot (xt rfl (rd (ycall C_u_ascending_values 0 (by decide) tk hgd (hr.mono (by decide : 2 ≤ _)) (ac (xn 1) an))))))))) (oks_one (xraise E_BadSorts (by decide) rfl tk (hr.mono (by decide : 2 ≤ _)) (ac xs an))) oks_nil) (oks_cons (xifS (tnot (xt rfl (rd (ycall C_is_whole 2 (by decide) tk hgd (hr.mono (by decide : 1 ≤ _)) (ac (xn 2) (ac xi (ac xi an))))))) (oks_one (xraise E_BadSorts (by decide) rfl tk (hr.mono (by decide : 2 ≤ _)) (ac xs an))) oks_nil) (oks_cons (xsetF 0 0 F_named_Sorts (xtuple m_tuple (xr 1))) (oks_one (xsetF 0 0 F_modulus_Sorts (xn 2))))))), m, g, bndN F fun _ _ _ _ _ _ us hl => match us, hl with | [_, _, _], _ => rfl⟩
theorem sc_Sorts___eq__ : FnScope ["self", "other"] ["self", "other"] (defScope (inClass (topS 12) 1)) := ⟨rfl, rfl, rfl, by decide +kernel, rfl, by decide +kernel, by decide +kernel⟩
theorem own_Sorts {f : Addr} {fd : FuncData} (F : FnD K "__eq__" "Sorts.__eq__" (inClass (topS 12) 1) [] f fd) (fe : PySem.W.findIn K (.ref (cs 0)) "__eq__" = some (some (.ref f))) (ie : PySem.W.isFn K (.ref f) = true) (kn : cs.kn 0) (U : Uni K cs) (g_Sorts : mg "Sorts" = some (.ref (cs 0))) (k_Sorts : cs.kn 0) (m_isinstance : mg "isinstance" = none) (F_named_Sorts : Fld K cs [0] "named") (F_modulus_Sorts : Fld K cs [0] "modulus") : OwnE P w K mg base wd cs 0 1 cl_Sorts___eq__ :=
  ⟨f, fd, (fngV (k := 0) F sc_Sorts___eq__ rfl fun ix H H1 A outer s0 E cdv hgd hr tk po => have hu65 := units65 hr; have hu70 := units70 hr; (oks_one (xret (xand rfl (xisC U 0 m_isinstance g_Sorts k_Sorts (xr 1)) (xand rfl (xEq hu65 (rd (xfld F_named_Sorts (xn 0))) (rd (xfld F_named_Sorts (xn 1)))) (xone (xEq hu65 (rd (xfld F_modulus_Sorts (xn 0))) (rd (xfld F_modulus_Sorts (xn 1)))))))))), fe, ie, bndN F fun _ _ _ _ _ _ us hl => match us, hl with | [_, _], _ => rfl, kn⟩
theorem sc_Sorts_many : FnScope ["self"] ["self"] (defScope (inClass (topS 12) 2)) := ⟨rfl, rfl, rfl, by decide +kernel, rfl, by decide +kernel, by decide +kernel⟩
theorem prp_Sorts_many {f : Addr} {fd : FuncData} (F : FnD K "many" "Sorts.many" (inClass (topS 12) 2) [] f fd) (cc : Cls K (cs 0)) {p : Addr} (po : PropOf K (cs 0) "many" p f) (F_named_Sorts : Fld K cs [0] "named") (m_len : mg "len" = none) (F_modulus_Sorts : Fld K cs [0] "modulus") : Prp P w K mg base wd cs 0 "many" 1 cl_Sorts_many :=
  ⟨f, fd, _, p, (fngV (k := 0) F sc_Sorts_many rfl fun ix H H1 A outer s0 E cdv hgd hr tk po => have hu65 := units65 hr; have hu70 := units70 hr; (oks_one (xret (xadd (rd (xlen m_len (rd (xfld F_named_Sorts (xn 0))))) (rd (xfld F_modulus_Sorts (xn 0))))))), cc, po, bndN F fun _ _ _ _ _ _ us hl => match us, hl with | [_], _ => rfl⟩
end
end Rd
end
section
set_option Elab.async false
set_option linter.all false
set_option autoImplicit false
set_option maxRecDepth 100000
set_option maxHeartbeats 4000000
namespace Rd
open PySem PySem.Spec L2 Mw Rd0
open PyProof.Rows (envOfC)
section
variable {P : Program} {w : World} {K : PySem.W.Frag} {mg : Str → Option Value} {base : Heap} {wd : Wd} {cs : Cs}
theorem sc_Sorts_sort_of : FnScope ["self", "value", "at", "known"] ["self", "value"] (defScope (inClass (topS 12) 3)) := ⟨rfl, rfl, rfl, by decide +kernel, rfl, by decide +kernel, by decide +kernel⟩
theorem met_Sorts_sort_of {f : Addr} {fd : FuncData} (F : FnD K "sort_of" "Sorts.sort_of" (inClass (topS 12) 3) [] f fd) (cc : Cls K (cs 0)) (me : Meth K (cs 0) "sort_of" f) (F_named_Sorts : Fld K cs [0] "named") (m_len : mg "len" = none) (F_modulus_Sorts : Fld K cs [0] "modulus") (m_enumerate : mg "enumerate" = none) (C_is_whole : Cal P w K mg base wd cs "is_whole" 1 3 cl_is_whole [.non, .non]) (g_HIGHEST : ∃ t, mg "HIGHEST" = some (.int 1000000000 t)) (E_BadValue : Err P w K mg base cs 111 "BadValue" 1 ["value"]) : Met P w K mg base wd cs 0 "sort_of" 3 2 cl_Sorts_sort_of [] :=
  met_mk (fngV (k := 2) F sc_Sorts_sort_of rfl fun ix H H1 A outer s0 E cdv hgd hr tk po => have hu65 := units65 hr; have hu70 := units70 hr; (oks_cons (xifS (tnot (xt rfl (rd (ycall C_is_whole 2 (by decide) tk hgd (hr.mono (by decide : 1 ≤ _)) (ac (xn 1) (ac xi (ac (xg_int g_HIGHEST) an))))))) (oks_one (xraise E_BadValue (by decide) rfl tk (hr.mono (by decide : 2 ≤ _)) (ac (xn 1) an))) oks_nil) (oks_cons (xfor po rfl (xenum m_enumerate (xfld F_named_Sorts (xn 0))) (xgt (n := 2) (xgs_cons (xgn 2 sc_Sorts_sort_of.nd) (xgs_cons (xgn 3 sc_Sorts_sort_of.nd) xgs_nil)) rfl) (oks_one (xifS (tEq hu65 (xr 3) (xr 1)) (oks_one (xret (xn 2))) oks_nil))) (oks_one (xret (xadd (rd (xlen m_len (rd (xfld F_named_Sorts (xn 0))))) (rd (xmd (xr 1) (rd (xfld F_modulus_Sorts (xn 0))))))))))) cc me .nil (bnd0 F fun _ _ _ _ _ _ us hl => match us, hl with | [_, _], _ => rfl)
theorem sc_Sorts_kind_of : FnScope ["self", "row", "value"] ["self", "row"] (defScope (inClass (topS 12) 4)) := ⟨rfl, rfl, rfl, by decide +kernel, rfl, by decide +kernel, by decide +kernel⟩
theorem met_Sorts_kind_of {f : Addr} {fd : FuncData} (F : FnD K "kind_of" "Sorts.kind_of" (inClass (topS 12) 4) [] f fd) (cc : Cls K (cs 0)) (me : Meth K (cs 0) "kind_of" f) (T_Sorts_sort_of : Met P w K mg base wd cs 0 "sort_of" 3 2 cl_Sorts_sort_of []) (m_tuple : mg "tuple" = none) : Met P w K mg base wd cs 0 "kind_of" 4 2 cl_Sorts_kind_of [] :=
  met_mk (fngV (k := 3) F sc_Sorts_kind_of rfl fun ix H H1 A outer s0 E cdv hgd hr tk po => have hu65 := units65 hr; have hu70 := units70 hr; (oks_one (xret (xtup (ac (xix (xr 1) (rd xi)) (ac (xtuple m_tuple (rd (xlc [("value", 2)] rfl sc_Sorts_kind_of.nd (xseq (xix (xr 1) (rd xi))) (show blkC ["self", "row", "value"] (defScope (inClass (topS 12) 4)) _ _ = true from by decide +kernel) (fun _ _ _ _ _ => (wgn 2 _ sc_Sorts_kind_of.nd)) (fun _ _ _ _ _ => xts_nil) (fun _ _ _ _ _ => (ymeth T_Sorts_sort_of 0 (by decide) takesN hgd (hr.mono (by decide : 3 ≤ _)) (xn 0) (ac (xn 2) an)))))) an)))))) cc me .nil (bnd0 F fun _ _ _ _ _ _ us hl => match us, hl with | [_, _], _ => rfl)
theorem sc_Sorts_value_of : FnScope ["self", "sort", "number", "avoided", "value", "left"] ["self", "sort", "number", "avoided"] (defScope (inClass (topS 12) 5)) := ⟨rfl, rfl, rfl, by decide +kernel, rfl, by decide +kernel, by decide +kernel⟩
theorem met_Sorts_value_of {f : Addr} {fd : FuncData} {dT : Addr} (rT : RepK K (.ref dT) (.tup [])) (F : FnD K "value_of" "Sorts.value_of" (inClass (topS 12) 5) [.ref dT] f fd) (cc : Cls K (cs 0)) (me : Meth K (cs 0) "value_of" f) (F_modulus_Sorts : Fld K cs [0] "modulus") (F_named_Sorts : Fld K cs [0] "named") (m_len : mg "len" = none) (C_is_whole : Cal P w K mg base wd cs "is_whole" 1 3 cl_is_whole [.non, .non]) (P_Sorts_many : Prp P w K mg base wd cs 0 "many" 1 cl_Sorts_many) (E_NoSort : Err P w K mg base cs 112 "NoSort" 1 ["number"]) : Met P w K mg base wd cs 0 "value_of" 3 4 cl_Sorts_value_of [(.tup [])] :=
  met_mk (fngV (k := 2) F sc_Sorts_value_of rfl fun ix H H1 A outer s0 E cdv hgd hr tk po => have hu65 := units65 hr; have hu70 := units70 hr; (oks_cons (xifS (tnot (xt rfl (rd (ycall C_is_whole 2 (by decide) tk hgd (hr.mono (by decide : 1 ≤ _)) (ac (xn 1) (ac xi (ac (xsub (rd (xprop P_Sorts_many hgd (hr.mono (by decide : 2 ≤ _)) (xn 0))) (rd xi)) an))))))) (oks_one (xraise E_NoSort (by decide) rfl tk (hr.mono (by decide : 2 ≤ _)) (ac (xn 1) an))) oks_nil) (oks_cons (xifS (tLt (xr 1) (rd (xlen m_len (rd (xfld F_named_Sorts (xn 0)))))) (oks_cons (xifS (PW.toT (tor (tGt (xr 2) (rd xi)) (tor1 (tIn hu65 (rd (xix (rd (xfld F_named_Sorts (xn 0))) (xr 1))) (xr 3))))) (oks_one (xret xo)) oks_nil) (oks_one (xret (xix (rd (xfld F_named_Sorts (xn 0))) (xr 1))))) oks_nil) (oks_cons (xset 4 sc_Sorts_value_of.nd (xsub (xr 1) (rd (xlen m_len (rd (xfld F_named_Sorts (xn 0))))))) (oks_cons (xset 5 sc_Sorts_value_of.nd (xn 2)) (oks_one (xwh po (xt rfl (rd xb)) (oks_cons (xifS (PW.toT (tand (tNotIn hu65 (xr 4) (rd (xfld F_named_Sorts (xn 0)))) (tand1 (tNotIn hu65 (xr 4) (xr 3))))) (oks_cons (xifS (tEq hu65 (xr 5) (rd xi)) (oks_one (xret (xn 4))) oks_nil) (oks_one (xaugS 5 sc_Sorts_value_of.nd xi))) oks_nil) (oks_one (xaugA 4 sc_Sorts_value_of.nd (xfld F_modulus_Sorts (xn 0)))))))))))) cc me (.cons rT .nil) (fun j hj => match j, hj with | 0, _ => F.binds1 3 0 (List.cons_ne_nil _ _) rfl (fun _ _ _ _ _ _ _ us its hl hi => match us, hl, its, hi with | [_, _, _], _, [_], _ => ⟨_, rfl, rfl⟩) | 1, _ => F.binds1 4 1 (List.cons_ne_nil _ _) rfl (fun _ _ _ _ _ _ _ us its hl hi => match us, hl, its, hi with | [_, _, _, _], _, [_], _ => ⟨_, rfl, rfl⟩) | (_ + 2), h => absurd h (by simp))
theorem sc_u_law_exact : FnScope ["_law_told", "_law_due", "_law_k"] ["_law_told", "_law_due"] (defScope (topS 17)) := ⟨rfl, rfl, rfl, by decide +kernel, rfl, by decide +kernel, by decide +kernel⟩
theorem calH_u_law_exact {f : Addr} {fd : FuncData} (F : FnD K "_law_exact" "_law_exact" (topS 17) [] f fd) (g : mg "_law_exact" = some (.ref f)) (U : Uni K cs) (m_isinstance : mg "isinstance" = none) (m_int : mg "int" = none) (m_bool : mg "bool" = none) (m_str : mg "str" = none) (m_tuple : mg "tuple" = none) (m_len : mg "len" = none) : CalH P w K mg base wd cs "_law_exact" 1 2 clH_u_law_exact :=
  ⟨f, fd, _, fngH (k := 0) F sc_u_law_exact rfl fun ix H H1 A outer s0 E cdv p hot hr tk po => have hu65 := units65H hr; (oks_cons (xifS (xt rfl (rd (xisT U m_isinstance m_tuple (xr 1)))) (oks_cons (xifS (PW.toT (tor (tnot (xt rfl (rd (xisT U m_isinstance m_tuple (xr 0))))) (tor1 (tNe hu65 (rd (xlen m_len (xr 0))) (rd (xlen m_len (xr 1))))))) (oks_one (xret xb)) oks_nil) (oks_one (xret (xEq hu65 (rd xno) (rd (xlst an)))))) oks_nil) (oks_cons (xifS (tIs (xr 1) (rd xo)) (oks_one (xret (xIs (xr 0) (rd xo)))) oks_nil) (oks_cons (xifS (xt rfl (rd (xisT U m_isinstance m_bool (xr 1)))) (oks_one (xret (xif (xt rfl (xr 1)) (xIs (xr 0) (rd xb)) (xIs (xr 0) (rd xb))))) oks_nil) (oks_cons (xifS (xt rfl (rd (xisT U m_isinstance m_str (xr 1)))) (oks_one (xret (xand rfl (xisT U m_isinstance m_str (xr 0)) (xone (xEq hu65 (xr 0) (xr 1)))))) oks_nil) (oks_one (xret (xand rfl (xisT U m_isinstance m_int (xr 0)) (xand rfl (xnot rfl (rd (xisT U m_isinstance m_bool (xr 0)))) (xone (xEq hu65 (xr 0) (xr 1))))))))))), g, F.kp, bndN F fun _ _ _ _ _ _ us hl => match us, hl with | [_, _], _ => rfl⟩
theorem cal0_u_law_exact {f : Addr} {fd : FuncData} (F : FnD K "_law_exact" "_law_exact" (topS 17) [] f fd) (g : mg "_law_exact" = some (.ref f)) : Cal P w K mg base wd cs "_law_exact" 1 2 (cl_u_law_exact 0) [] :=
  cal_mk (cl := cl_u_law_exact 0) (fngV (s := sNo) (k := 0) F sc_u_law_exact rfl fun ix H H1 A outer s0 E cdv hgd hr tk po => pssNo) g F.kp .nil (bnd0 F fun _ _ _ _ _ _ us hl => match us, hl with | [_, _], _ => rfl)
theorem calS_u_law_exact {f : Addr} {fd : FuncData} (F : FnD K "_law_exact" "_law_exact" (topS 17) [] f fd) (g : mg "_law_exact" = some (.ref f)) (U : Uni K cs) (m_isinstance : mg "isinstance" = none) (m_int : mg "int" = none) (m_bool : mg "bool" = none) (m_str : mg "str" = none) (m_tuple : mg "tuple" = none) (m_len : mg "len" = none) (m_range : mg "range" = none) {k d : Nat} (C_rec : Cal P w K mg base wd cs "_law_exact" k 2 (cl_u_law_exact d) []) : Cal P w K mg base wd cs "_law_exact" (k + 1) 2 (cl_u_law_exact (d + 1)) [] :=
  cal_mk (cl := cl_u_law_exact (d + 1)) (fngV (k := k) F sc_u_law_exact rfl fun ix H H1 A outer s0 E cdv hgd hr tk po => have hu65 := units65 hr; have hu70 := units70 hr; (oks_cons (xifS (xt rfl (rd (xisT U m_isinstance m_tuple (xr 1)))) (oks_cons (xifS (PW.toT (tor (tnot (xt rfl (rd (xisT U m_isinstance m_tuple (xr 0))))) (tor1 (tNe hu65 (rd (xlen m_len (xr 0))) (rd (xlen m_len (xr 1))))))) (oks_one (xret xb)) oks_nil) (oks_one (xret (xEq hu65 (rd (xlc [("_law_k", 2)] rfl sc_u_law_exact.nd (xrng m_range (xlen m_len (xr 1))) (show blkC ["_law_told", "_law_due", "_law_k"] (defScope (topS 17)) _ _ = true from by decide +kernel) (fun _ _ _ _ _ => (wgn 2 _ sc_u_law_exact.nd)) (fun _ _ _ _ _ => (xts_one (tnot (xt rfl (rd (ycall C_rec 0 (by decide) takesN hgd (hr.mono (Nat.le_refl _)) (ac (xix (xr 0) (xr 2)) (ac (xix (xr 1) (xr 2)) an)))))))) (fun _ _ _ _ _ => (xn 2)))) (rd (xlst an)))))) oks_nil) (oks_cons (xifS (tIs (xr 1) (rd xo)) (oks_one (xret (xIs (xr 0) (rd xo)))) oks_nil) (oks_cons (xifS (xt rfl (rd (xisT U m_isinstance m_bool (xr 1)))) (oks_one (xret (xif (xt rfl (xr 1)) (xIs (xr 0) (rd xb)) (xIs (xr 0) (rd xb))))) oks_nil) (oks_cons (xifS (xt rfl (rd (xisT U m_isinstance m_str (xr 1)))) (oks_one (xret (xand rfl (xisT U m_isinstance m_str (xr 0)) (xone (xEq hu65 (xr 0) (xr 1)))))) oks_nil) (oks_one (xret (xand rfl (xisT U m_isinstance m_int (xr 0)) (xand rfl (xnot rfl (rd (xisT U m_isinstance m_bool (xr 0)))) (xone (xEq hu65 (xr 0) (xr 1)))))))))))) g F.kp .nil (bnd0 F fun _ _ _ _ _ _ us hl => match us, hl with | [_, _], _ => rfl)
theorem cal_u_law_exact {f : Addr} {fd : FuncData} (F : FnD K "_law_exact" "_law_exact" (topS 17) [] f fd) (g : mg "_law_exact" = some (.ref f)) (U : Uni K cs) (m_isinstance : mg "isinstance" = none) (m_int : mg "int" = none) (m_bool : mg "bool" = none) (m_str : mg "str" = none) (m_tuple : mg "tuple" = none) (m_len : mg "len" = none) (m_range : mg "range" = none) : ∀ d, Cal P w K mg base wd cs "_law_exact" (d + 1) 2 (cl_u_law_exact d) []
  | 0 => cal0_u_law_exact F g
  | d + 1 => calS_u_law_exact F g U m_isinstance m_int m_bool m_str m_tuple m_len m_range (cal_u_law_exact F g U m_isinstance m_int m_bool m_str m_tuple m_len m_range d)
theorem sc_u_law_take : FnScope ["_law_hand_here", "_law_rows"] ["_law_hand_here", "_law_rows"] (defScope (topS 18)) := ⟨rfl, rfl, rfl, by decide +kernel, rfl, by decide +kernel, by decide +kernel⟩
end
end Rd
end
section
set_option Elab.async false
set_option linter.all false
set_option autoImplicit false
set_option maxRecDepth 100000
set_option maxHeartbeats 4000000
namespace Rd
open PySem PySem.Spec L2 Mw Rd0
open PyProof.Rows (envOfC)
section
variable {P : Program} {w : World} {K : PySem.W.Frag} {mg : Str → Option Value} {base : Heap} {wd : Wd} {cs : Cs}
theorem cal_u_law_take {f : Addr} {fd : FuncData} (F : FnD K "_law_take" "_law_take" (topS 18) [] f fd) (g : mg "_law_take" = some (.ref f)) (C_u_law_draw : Cal P w K mg base wd cs "_law_draw" 2 2 clDraw []) (m_list : mg "list" = none) (m_tuple : mg "tuple" = none) : Cal P w K mg base wd cs "_law_take" 3 2 cl_u_law_take [] :=
  cal_mk (fngV (k := 2) F sc_u_law_take rfl fun ix H H1 A outer s0 E cdv hgd hr tk po => have hu65 := units65 hr; have hu70 := units70 hr; (oks_one (xret (xif (tEq hu65 (rd (ycall C_u_law_draw 0 (by decide) tk hgd (hr.mono (by decide : 2 ≤ _)) (ac (xn 0) (ac xi an)))) (rd xi)) (xlist m_list (xr 1)) (xtuple m_tuple (xr 1)))))) g F.kp .nil (bnd0 F fun _ _ _ _ _ _ us hl => match us, hl with | [_, _], _ => rfl)
theorem sc_u_law_value : FnScope ["_law_hand_here", "_law_way"] ["_law_hand_here"] (defScope (topS 19)) := ⟨rfl, rfl, rfl, by decide +kernel, rfl, by decide +kernel, by decide +kernel⟩
theorem cal_u_law_value {f : Addr} {fd : FuncData} (F : FnD K "_law_value" "_law_value" (topS 19) [] f fd) (g : mg "_law_value" = some (.ref f)) (C_u_law_draw : Cal P w K mg base wd cs "_law_draw" 2 2 clDraw []) : Cal P w K mg base wd cs "_law_value" 3 1 cl_u_law_value [] :=
  cal_mk (fngV (k := 2) F sc_u_law_value rfl fun ix H H1 A outer s0 E cdv hgd hr tk po => have hu65 := units65 hr; have hu70 := units70 hr; (oks_cons (xset 1 sc_u_law_value.nd (ycall C_u_law_draw 0 (by decide) tk hgd (hr.mono (by decide : 2 ≤ _)) (ac (xn 0) (ac xi an)))) (oks_cons (xifS (tLt (xr 1) (rd xi)) (oks_one (xret (ycall C_u_law_draw 0 (by decide) tk hgd (hr.mono (by decide : 2 ≤ _)) (ac (xn 0) (ac xi an))))) oks_nil) (oks_cons (xifS (tEq hu65 (xr 1) (rd xi)) (oks_one (xret (ycall C_u_law_draw 0 (by decide) tk hgd (hr.mono (by decide : 2 ≤ _)) (ac (xn 0) (ac xi an))))) oks_nil) (oks_one (xret (xif (tEq hu65 (xr 1) (rd xi)) (ycall C_u_law_draw 0 (by decide) tk hgd (hr.mono (by decide : 2 ≤ _)) (ac (xn 0) (ac (xadd (rd (xpw (rd xi) (rd xi))) (rd xi)) an))) (xsub (rd (xpw (rd xi) (rd xi))) (rd (ycall C_u_law_draw 0 (by decide) tk hgd (hr.mono (by decide : 2 ≤ _)) (ac (xn 0) (ac xi an)))))))))))) g F.kp .nil (bnd0 F fun _ _ _ _ _ _ us hl => match us, hl with | [_], _ => rfl)
theorem sc_u_law_named : FnScope ["_law_hand_here", "_law_most", "_law_pool", "_law_told", "_law_k"] ["_law_hand_here", "_law_most", "_law_pool"] (defScope (topS 20)) := ⟨rfl, rfl, rfl, by decide +kernel, rfl, by decide +kernel, by decide +kernel⟩
theorem cal_u_law_named {f : Addr} {fd : FuncData} (F : FnD K "_law_named" "_law_named" (topS 20) [] f fd) (g : mg "_law_named" = some (.ref f)) (m_sorted : mg "sorted" = none) (m_set : mg "set" = none) (C_u_law_draw : Cal P w K mg base wd cs "_law_draw" 2 2 clDraw []) (m_range : mg "range" = none) (m_len : mg "len" = none) (C_u_law_value : Cal P w K mg base wd cs "_law_value" 3 1 cl_u_law_value []) : Cal P w K mg base wd cs "_law_named" 4 3 cl_u_law_named [] :=
  cal_mk (fngV (k := 3) F sc_u_law_named rfl fun ix H H1 A outer s0 E cdv hgd hr tk po => have hu65 := units65 hr; have hu70 := units70 hr; (oks_cons (xsetM 3 sc_u_law_named.nd (xnl an)) (oks_cons (xfor po rfl (xrng m_range (ycall C_u_law_draw 0 (by decide) tk hgd (hr.mono (by decide : 2 ≤ _)) (ac (xn 0) (ac (xadd (xr 1) (rd xi)) an)))) (xgn 4 sc_u_law_named.nd) (oks_one (xapp 3 (xif (PW.toT (tand (xt rfl (xr 2)) (tand1 (tEq hu65 (rd (ycall C_u_law_draw 0 (by decide) tk hgd (hr.mono (by decide : 2 ≤ _)) (ac (xn 0) (ac xi an)))) (rd xi))))) (xix (xr 2) (rd (ycall C_u_law_draw 0 (by decide) tk hgd (hr.mono (by decide : 2 ≤ _)) (ac (xn 0) (ac (xlen m_len (xr 2)) an))))) (ycall C_u_law_value 0 (by decide) tk hgd (hr.mono (by decide : 3 ≤ _)) (ac (xn 0) an)))))) (oks_one (xret (xsortSet rfl m_sorted m_set (xr 3))))))) g F.kp .nil (bnd0 F fun _ _ _ _ _ _ us hl => match us, hl with | [_, _, _], _ => rfl)
theorem sc_u_law_sort : FnScope ["_law_named_here", "_law_modulus", "_law_value_here"] ["_law_named_here", "_law_modulus", "_law_value_here"] (defScope (topS 21)) := ⟨rfl, rfl, rfl, by decide +kernel, rfl, by decide +kernel, by decide +kernel⟩
theorem cal_u_law_sort {f : Addr} {fd : FuncData} (F : FnD K "_law_sort" "_law_sort" (topS 21) [] f fd) (g : mg "_law_sort" = some (.ref f)) (m_len : mg "len" = none) (m_int : mg "int" = none) : Cal P w K mg base wd cs "_law_sort" 1 3 cl_u_law_sort [] :=
  cal_mk (fngV (k := 0) F sc_u_law_sort rfl fun ix H H1 A outer s0 E cdv hgd hr tk po => have hu65 := units65 hr; have hu70 := units70 hr; (oks_one (xret (xif (tIn hu65 (xr 2) (xr 0)) (xindex hu65 (xr 0) (xr 2)) (xadd (rd (xlen m_len (xr 0))) (rd (xmd (rd (xint m_int (xr 2))) (xr 1)))))))) g F.kp .nil (bnd0 F fun _ _ _ _ _ _ us hl => match us, hl with | [_, _, _], _ => rfl)
theorem sc_u_law_kind : FnScope ["_law_named_here", "_law_modulus", "_law_row", "_law_value_here"] ["_law_named_here", "_law_modulus", "_law_row"] (defScope (topS 22)) := ⟨rfl, rfl, rfl, by decide +kernel, rfl, by decide +kernel, by decide +kernel⟩
theorem cal_u_law_kind {f : Addr} {fd : FuncData} (F : FnD K "_law_kind" "_law_kind" (topS 22) [] f fd) (g : mg "_law_kind" = some (.ref f)) (C_u_law_sort : Cal P w K mg base wd cs "_law_sort" 1 3 cl_u_law_sort []) (m_tuple : mg "tuple" = none) : Cal P w K mg base wd cs "_law_kind" 2 3 cl_u_law_kind [] :=
  cal_mk (fngV (k := 1) F sc_u_law_kind rfl fun ix H H1 A outer s0 E cdv hgd hr tk po => have hu65 := units65 hr; have hu70 := units70 hr; (oks_one (xret (xtup (ac (xix (xr 2) (rd xi)) (ac (xtuple m_tuple (rd (xlc [("_law_value_here", 3)] rfl sc_u_law_kind.nd (xseq (xix (xr 2) (rd xi))) (show blkC ["_law_named_here", "_law_modulus", "_law_row", "_law_value_here"] (defScope (topS 22)) _ _ = true from by decide +kernel) (fun _ _ _ _ _ => (wgn 3 _ sc_u_law_kind.nd)) (fun _ _ _ _ _ => xts_nil) (fun _ _ _ _ _ => (ycall C_u_law_sort 0 (by decide) takesN hgd (hr.mono (by decide : 1 ≤ _)) (ac (xn 0) (ac (xn 1) (ac (xn 3) an)))))))) an)))))) g F.kp .nil (bnd0 F fun _ _ _ _ _ _ us hl => match us, hl with | [_, _, _], _ => rfl)
theorem sc_u_law_made : FnScope ["_law_named_here", "_law_modulus", "_law_made_here", "raised"] ["_law_named_here", "_law_modulus"] (defScope (topS 23)) := ⟨rfl, rfl, rfl, by decide +kernel, rfl, by decide +kernel, by decide +kernel⟩
theorem cal_u_law_made {f : Addr} {fd : FuncData} (F : FnD K "_law_made" "_law_made" (topS 23) [] f fd) (g : mg "_law_made" = some (.ref f)) (g_BadSorts : mg "BadSorts" = some (.ref (cs 110))) (k_BadSorts : cs.ke 110) (EU : ErU K cs) (P_Sorts_many : Prp P w K mg base wd cs 0 "many" 1 cl_Sorts_many) (F_modulus_Sorts : Fld K cs [0] "modulus") (F_named_Sorts : Fld K cs [0] "named") (M_Sorts : Mak P w K mg base wd cs 0 "Sorts" 3 2 cl_Sorts___init__) (nx_what : ∀ c, cs.ke c → PySem.W.findIn K (.ref (cs c)) "what" = some none) : Cal P w K mg base wd cs "_law_made" 5 2 cl_u_law_made [] :=
  cal_mk (fngV (k := 4) F sc_u_law_made rfl fun ix H H1 A outer s0 E cdv hgd hr tk po => have hu65 := units65 hr; have hu70 := units70 hr; (oks_one (xtry 110 EU k_BadSorts rfl rfl rfl sc_u_law_made.nd tk ⟨by rfl, by decide, .inl g_BadSorts⟩ (fun W pn xe tk2 po2 => (oks_cons (xset 2 sc_u_law_made.nd (xmake M_Sorts tk2 hgd (hr.mono (by decide : 4 ≤ _)) (ac (xn 0) (ac (xn 1) an)))) (oks_one (xret (xtup (ac xs (ac (xfld F_named_Sorts (xn 2)) (ac (xfld F_modulus_Sorts (xn 2)) (ac (xprop P_Sorts_many hgd (hr.mono (by decide : 2 ≤ _)) (xn 2)) an))))))))) (fun a oe cls d pn hz hf => (oks_one (xret (xtup (ac xs (ac (xxf 3 EU nx_what hz.zc hf) an))))))))) g F.kp .nil (bnd0 F fun _ _ _ _ _ _ us hl => match us, hl with | [_, _], _ => rfl)
theorem sc_u_law_odd_named : FnScope ["_law_hand_here", "_law_named_here", "_law_way", "_law_odd", "_law_at"] ["_law_hand_here", "_law_named_here"] (defScope (topS 24)) := ⟨rfl, rfl, rfl, by decide +kernel, rfl, by decide +kernel, by decide +kernel⟩
end
end Rd
end
section
set_option Elab.async false
set_option linter.all false
set_option autoImplicit false
set_option maxRecDepth 100000
set_option maxHeartbeats 4000000
namespace Rd
open PySem PySem.Spec L2 Mw Rd0
open PyProof.Rows (envOfC)
section
variable {P : Program} {w : World} {K : PySem.W.Frag} {mg : Str → Option Value} {base : Heap} {wd : Wd} {cs : Cs}
theorem cal_u_law_odd_named {f : Addr} {fd : FuncData} (F : FnD K "_law_odd_named" "_law_odd_named" (topS 24) [] f fd) (g : mg "_law_odd_named" = some (.ref f)) (m_len : mg "len" = none) (m_list : mg "list" = none) (m_reversed : mg "reversed" = none) (C_u_law_draw : Cal P w K mg base wd cs "_law_draw" 2 2 clDraw []) (m_range : mg "range" = none) : Cal P w K mg base wd cs "_law_odd_named" 3 2 cl_u_law_odd_named [] :=
  cal_mk (fngV (k := 2) F sc_u_law_odd_named rfl fun ix H H1 A outer s0 E cdv hgd hr tk po => have hu65 := units65 hr; have hu70 := units70 hr; (oks_cons (xset 2 sc_u_law_odd_named.nd (ycall C_u_law_draw 0 (by decide) tk hgd (hr.mono (by decide : 2 ≤ _)) (ac (xn 0) (ac xi an)))) (oks_cons (xifS (tLt (xr 2) (rd xi)) (oks_one (xret (xix (rd (xlst (ac xo (ac xi (ac xs (ac (xlRg rfl m_list (xr1 m_range xi)) an)))))) (xr 2)))) oks_nil) (oks_cons (xifS (tLt (xr 2) (rd xi)) (oks_cons (xset 3 sc_u_law_odd_named.nd (xix (rd (xlst (ac (xsub (rd (xneg (rd xi))) (rd (ycall C_u_law_draw 0 (by decide) tk hgd (hr.mono (by decide : 2 ≤ _)) (ac (xn 0) (ac xi an))))) (ac (xadd (rd (xadd (rd (xpw (rd xi) (rd xi))) (rd xi))) (rd (ycall C_u_law_draw 0 (by decide) tk hgd (hr.mono (by decide : 2 ≤ _)) (ac (xn 0) (ac xi an))))) (ac xo (ac xs an)))))) (rd (xsub (xr 2) (rd xi))))) (oks_cons (xset 4 sc_u_law_odd_named.nd (ycall C_u_law_draw 0 (by decide) tk hgd (hr.mono (by decide : 2 ≤ _)) (ac (xn 0) (ac (xadd (rd (xlen m_len (xr 1))) (rd xi)) an)))) (oks_one (xret (xif (tLt (xr 4) (rd xi)) (xsl (rd (xadd (rd (xadd (rd (xsl (xr 1) xon (xos (xr 4)))) (rd (xlst (ac (xn 3) an))))) (rd (xsl (xr 1) (xos (xr 4)) xon)))) xon (xos (rd xi))) (xlst (ac (xn 3) an))))))) oks_nil) (oks_cons (xifS (tEq hu65 (xr 2) (rd xi)) (oks_one (xret (xif (xt rfl (xr 1)) (xsl (rd (xadd (rd (xsl (xr 1) xon (xos (rd xi)))) (xr 1))) xon (xos (rd xi))) (xlst (ac xi (ac xi an)))))) oks_nil) (oks_one (xret (xif (tGt (rd (xlen m_len (xr 1))) (rd xi)) (xlistRev rfl m_list m_reversed (xr 1)) (xtup (ac xi (ac xi an))))))))))) g F.kp .nil (bnd0 F fun _ _ _ _ _ _ us hl => match us, hl with | [_, _], _ => rfl)
theorem sc_u_law_refused : FnScope ["_law_hand_here", "_law_named_here", "_law_modulus", "_law_odd", "_law_wrong", "raised"] ["_law_hand_here", "_law_named_here", "_law_modulus"] (defScope (topS 25)) := ⟨rfl, rfl, rfl, by decide +kernel, rfl, by decide +kernel, by decide +kernel⟩
theorem cal_u_law_refused {f : Addr} {fd : FuncData} (F : FnD K "_law_refused" "_law_refused" (topS 25) [] f fd) (g : mg "_law_refused" = some (.ref f)) (g_DealError : mg "DealError" = some (.ref (cs 100))) (k_DealError : cs.ke 100) (EU : ErU K cs) (M_Sorts : Mak P w K mg base wd cs 0 "Sorts" 3 2 cl_Sorts___init__) (g_BadSorts : mg "BadSorts" = some (.ref (cs 110))) (k_BadSorts : cs.ke 110) (m_isinstance : mg "isinstance" = none) (m_ValueError : mg "ValueError" = none) (g_NoSort : mg "NoSort" = some (.ref (cs 112))) (k_NoSort : cs.ke 112) (C_u_law_exact : Cal P w K mg base wd cs "_law_exact" 5 2 (cl_u_law_exact 4) []) (C_u_law_made : Cal P w K mg base wd cs "_law_made" 5 2 cl_u_law_made []) (C_u_law_odd_named : Cal P w K mg base wd cs "_law_odd_named" 3 2 cl_u_law_odd_named []) (C_u_law_draw : Cal P w K mg base wd cs "_law_draw" 2 2 clDraw []) : Cal P w K mg base wd cs "_law_refused" 6 3 cl_u_law_refused [] :=
  cal_mk (fngV (k := 5) F sc_u_law_refused rfl fun ix H H1 A outer s0 E cdv hgd hr tk po => have hu65 := units65 hr; have hu70 := units70 hr; (oks_cons (xset 3 sc_u_law_refused.nd (xix (rd (xlst (ac xi (ac xi (ac (xneg (rd xi)) (ac xb (ac xo (ac xs (ac (xtup (ac xi an)) (ac (xpw (rd xi) (rd xi)) (ac (xadd (rd xi) (rd (ycall C_u_law_draw 0 (by decide) tk hgd (hr.mono (by decide : 2 ≤ _)) (ac (xn 0) (ac xi an))))) an))))))))))) (rd (ycall C_u_law_draw 0 (by decide) tk hgd (hr.mono (by decide : 2 ≤ _)) (ac (xn 0) (ac xi an)))))) (oks_cons (xset 4 sc_u_law_refused.nd (ycall C_u_law_odd_named 0 (by decide) tk hgd (hr.mono (by decide : 3 ≤ _)) (ac (xn 0) (ac (xn 1) an)))) (oks_cons (xifS (PW.toT (tor (tnot (xt rfl (rd (ycall C_u_law_exact 0 (by decide) tk hgd (hr.mono (by decide : 5 ≤ _)) (ac (ycall C_u_law_made 0 (by decide) tk hgd (hr.mono (by decide : 5 ≤ _)) (ac (xn 4) (ac (xn 2) an))) (ac (xtup (ac xs (ac xs an))) an)))))) (tor1 (tnot (xt rfl (rd (ycall C_u_law_exact 0 (by decide) tk hgd (hr.mono (by decide : 5 ≤ _)) (ac (ycall C_u_law_made 0 (by decide) tk hgd (hr.mono (by decide : 5 ≤ _)) (ac (xn 4) (ac (xn 3) an))) (ac (xtup (ac xs (ac xs an))) an))))))))) (oks_one (xret xb)) oks_nil) (oks_cons (xifS (tnot (xt rfl (rd (ycall C_u_law_exact 0 (by decide) tk hgd (hr.mono (by decide : 5 ≤ _)) (ac (ycall C_u_law_made 0 (by decide) tk hgd (hr.mono (by decide : 5 ≤ _)) (ac (xn 1) (ac (xn 3) an))) (ac (xtup (ac xs (ac xs an))) an)))))) (oks_one (xret xb)) oks_nil) (oks_one (xtry 100 EU k_DealError rfl rfl rfl sc_u_law_refused.nd tk ⟨by rfl, by decide, .inl g_DealError⟩ (fun W pn xe tk2 po2 => (oks_cons (xdrop (xmake M_Sorts tk2 hgd (hr.mono (by decide : 4 ≤ _)) (ac (xn 1) (ac (xn 3) an)))) (oks_one (xret xb)))) (fun a oe cls d pn hz hf => (oks_one (xret (xand rfl (xxisC 5 110 EU k_BadSorts m_isinstance g_BadSorts hz.zc hf) (xand rfl (xxisV 5 EU m_isinstance m_ValueError hz.zc hf) (xone (xnot rfl (rd (xxisC 5 112 EU k_NoSort m_isinstance g_NoSort hz.zc hf)))))))))))))))) g F.kp .nil (bnd0 F fun _ _ _ _ _ _ us hl => match us, hl with | [_, _, _], _ => rfl)
theorem sc_u_law_sort_asked : FnScope ["_law_sorts", "_law_value_here", "raised"] ["_law_sorts", "_law_value_here"] (defScope (topS 26)) := ⟨rfl, rfl, rfl, by decide +kernel, rfl, by decide +kernel, by decide +kernel⟩
theorem cal_u_law_sort_asked {f : Addr} {fd : FuncData} (F : FnD K "_law_sort_asked" "_law_sort_asked" (topS 26) [] f fd) (g : mg "_law_sort_asked" = some (.ref f)) (g_BadValue : mg "BadValue" = some (.ref (cs 111))) (k_BadValue : cs.ke 111) (EU : ErU K cs) (T_Sorts_sort_of : Met P w K mg base wd cs 0 "sort_of" 3 2 cl_Sorts_sort_of []) (nx_value : ∀ c, cs.ke c → PySem.W.findIn K (.ref (cs c)) "value" = some none) : Cal P w K mg base wd cs "_law_sort_asked" 4 2 cl_u_law_sort_asked [] :=
  cal_mk (fngV (k := 3) F sc_u_law_sort_asked rfl fun ix H H1 A outer s0 E cdv hgd hr tk po => have hu65 := units65 hr; have hu70 := units70 hr; (oks_one (xtry 111 EU k_BadValue rfl rfl rfl sc_u_law_sort_asked.nd tk ⟨by rfl, by decide, .inl g_BadValue⟩ (fun W pn xe tk2 po2 => (oks_one (xret (ymeth T_Sorts_sort_of 0 (by decide) tk2 hgd (hr.mono (by decide : 3 ≤ _)) (xn 0) (ac (xn 1) an))))) (fun a oe cls d pn hz hf => (oks_one (xret (xtup (ac xs (ac (xxf 2 EU nx_value hz.zc hf) an))))))))) g F.kp .nil (bnd0 F fun _ _ _ _ _ _ us hl => match us, hl with | [_, _], _ => rfl)
theorem sc_u_law_some_value : FnScope ["_law_hand_here", "_law_named_here", "_law_way", "_law_value_here"] ["_law_hand_here", "_law_named_here"] (defScope (topS 27)) := ⟨rfl, rfl, rfl, by decide +kernel, rfl, by decide +kernel, by decide +kernel⟩
theorem cal_u_law_some_value {f : Addr} {fd : FuncData} (F : FnD K "_law_some_value" "_law_some_value" (topS 27) [] f fd) (g : mg "_law_some_value" = some (.ref f)) (C_u_law_value : Cal P w K mg base wd cs "_law_value" 3 1 cl_u_law_value []) (C_u_law_draw : Cal P w K mg base wd cs "_law_draw" 2 2 clDraw []) (m_len : mg "len" = none) : Cal P w K mg base wd cs "_law_some_value" 4 2 cl_u_law_some_value [] :=
  cal_mk (fngV (k := 3) F sc_u_law_some_value rfl fun ix H H1 A outer s0 E cdv hgd hr tk po => have hu65 := units65 hr; have hu70 := units70 hr; (oks_cons (xset 2 sc_u_law_some_value.nd (ycall C_u_law_draw 0 (by decide) tk hgd (hr.mono (by decide : 2 ≤ _)) (ac (xn 0) (ac xi an)))) (oks_cons (xifS (PW.toT (tand (xt rfl (xr 1)) (tand1 (tLt (xr 2) (rd xi))))) (oks_cons (xset 3 sc_u_law_some_value.nd (xadd (rd (xix (xr 1) (rd (ycall C_u_law_draw 0 (by decide) tk hgd (hr.mono (by decide : 2 ≤ _)) (ac (xn 0) (ac (xlen m_len (xr 1)) an)))))) (rd (xml (xr 2) (rd (xsub (rd (ycall C_u_law_draw 0 (by decide) tk hgd (hr.mono (by decide : 2 ≤ _)) (ac (xn 0) (ac xi an)))) (rd xi))))))) (oks_one (xret (xif (tLeLe (rd xi) (xr 3) (rd (xpw (rd xi) (rd xi)))) (xn 3) xi)))) oks_nil) (oks_one (xret (ycall C_u_law_value 0 (by decide) tk hgd (hr.mono (by decide : 3 ≤ _)) (ac (xn 0) an))))))) g F.kp .nil (bnd0 F fun _ _ _ _ _ _ us hl => match us, hl with | [_, _], _ => rfl)
theorem sc_u_law_values_sorted : FnScope ["_law_hand_here", "_law_sorts", "_law_named_here", "_law_modulus", "_law_values", "_law_k", "_law_value_here", "_law_row", "_law_odd"] ["_law_hand_here", "_law_sorts", "_law_named_here", "_law_modulus"] (defScope (topS 28)) := ⟨rfl, rfl, rfl, by decide +kernel, rfl, by decide +kernel, by decide +kernel⟩
theorem cal_u_law_values_sorted {f : Addr} {fd : FuncData} (F : FnD K "_law_values_sorted" "_law_values_sorted" (topS 28) [] f fd) (g : mg "_law_values_sorted" = some (.ref f)) (C_u_law_draw : Cal P w K mg base wd cs "_law_draw" 2 2 clDraw []) (C_u_law_exact : Cal P w K mg base wd cs "_law_exact" 5 2 (cl_u_law_exact 4) []) (C_u_law_sort_asked : Cal P w K mg base wd cs "_law_sort_asked" 4 2 cl_u_law_sort_asked []) (m_range : mg "range" = none) (C_u_law_kind : Cal P w K mg base wd cs "_law_kind" 2 3 cl_u_law_kind []) (T_Sorts_kind_of : Met P w K mg base wd cs 0 "kind_of" 4 2 cl_Sorts_kind_of []) (m_tuple : mg "tuple" = none) (C_u_law_sort : Cal P w K mg base wd cs "_law_sort" 1 3 cl_u_law_sort []) (T_Sorts_sort_of : Met P w K mg base wd cs 0 "sort_of" 3 2 cl_Sorts_sort_of []) (C_u_law_some_value : Cal P w K mg base wd cs "_law_some_value" 4 2 cl_u_law_some_value []) : Cal P w K mg base wd cs "_law_values_sorted" 6 4 cl_u_law_values_sorted [] :=
  cal_mk (fngV (k := 5) F sc_u_law_values_sorted rfl fun ix H H1 A outer s0 E cdv hgd hr tk po => have hu65 := units65 hr; have hu70 := units70 hr; (oks_cons (xsetLc 4 [("_law_k", 5)] rfl sc_u_law_values_sorted.nd (xrng m_range xi) (show blkC ["_law_hand_here", "_law_sorts", "_law_named_here", "_law_modulus", "_law_values", "_law_k", "_law_value_here", "_law_row", "_law_odd"] (defScope (topS 28)) _ _ = true from by decide +kernel) (fun _ _ _ _ _ => (wgn 5 _ sc_u_law_values_sorted.nd)) (fun _ _ _ _ _ => xts_nil) (fun _ _ _ _ _ => (ycall C_u_law_some_value 0 (by decide) takesN hgd (hr.mono (by decide : 4 ≤ _)) (ac (xn 0) (ac (xn 2) an))))) (oks_cons (xfor po rfl (xseq (xadd (xr 4) (rd (xlst (ac xi (ac (xpw (rd xi) (rd xi)) an)))))) (xgn 6 sc_u_law_values_sorted.nd) (oks_one (xifS (tnot (xt rfl (rd (ycall C_u_law_exact 0 (by decide) tk hgd (hr.mono (by decide : 5 ≤ _)) (ac (ymeth T_Sorts_sort_of 0 (by decide) tk hgd (hr.mono (by decide : 3 ≤ _)) (xn 1) (ac (xn 6) an)) (ac (ycall C_u_law_sort 0 (by decide) tk hgd (hr.mono (by decide : 1 ≤ _)) (ac (xn 2) (ac (xn 3) (ac (xn 6) an)))) an)))))) (oks_one (xret xb)) oks_nil))) (oks_cons (xfor po rfl (xrng m_range xi) (xgn 5 sc_u_law_values_sorted.nd) (oks_cons (xset 7 sc_u_law_values_sorted.nd (xtup (ac (ycall C_u_law_draw 0 (by decide) tk hgd (hr.mono (by decide : 2 ≤ _)) (ac (xn 0) (ac xi an))) (ac (xtuple m_tuple (rd (xsl (xr 4) (xos (xr 5)) (xos (rd (xadd (rd (xml (rd xi) (xr 5))) (rd xi))))))) an)))) (oks_one (xifS (tnot (xt rfl (rd (ycall C_u_law_exact 0 (by decide) tk hgd (hr.mono (by decide : 5 ≤ _)) (ac (ymeth T_Sorts_kind_of 0 (by decide) tk hgd (hr.mono (by decide : 4 ≤ _)) (xn 1) (ac (xn 7) an)) (ac (ycall C_u_law_kind 0 (by decide) tk hgd (hr.mono (by decide : 2 ≤ _)) (ac (xn 2) (ac (xn 3) (ac (xn 7) an)))) an)))))) (oks_one (xret xb)) oks_nil)))) (oks_cons (xfor po rfl (xseq (xlst (ac (xneg (rd xi)) (ac (xadd (rd (xpw (rd xi) (rd xi))) (rd xi)) (ac (xsub (rd (xneg (rd xi))) (rd (ycall C_u_law_draw 0 (by decide) tk hgd (hr.mono (by decide : 2 ≤ _)) (ac (xn 0) (ac (xpw (rd xi) (rd xi)) an))))) (ac xo (ac xb (ac xs (ac (xtup (ac xi an)) an))))))))) (xgn 8 sc_u_law_values_sorted.nd) (oks_one (xifS (tnot (xt rfl (rd (ycall C_u_law_exact 0 (by decide) tk hgd (hr.mono (by decide : 5 ≤ _)) (ac (ycall C_u_law_sort_asked 0 (by decide) tk hgd (hr.mono (by decide : 4 ≤ _)) (ac (xn 1) (ac (xn 8) an))) (ac (xtup (ac xs (ac (xn 8) an))) an)))))) (oks_one (xret xb)) oks_nil))) (oks_one (xret xb))))))) g F.kp .nil (bnd0 F fun _ _ _ _ _ _ us hl => match us, hl with | [_, _, _, _], _ => rfl)
theorem sc_u_law_due_value : FnScope ["_law_named_here", "_law_modulus", "_law_sort_here", "_law_number", "_law_avoided", "_law_value_here", "_law_left", "_law_k"] ["_law_named_here", "_law_modulus", "_law_sort_here", "_law_number", "_law_avoided"] (defScope (topS 29)) := ⟨rfl, rfl, rfl, by decide +kernel, rfl, by decide +kernel, by decide +kernel⟩
theorem cal_u_law_due_value {f : Addr} {fd : FuncData} (F : FnD K "_law_due_value" "_law_due_value" (topS 29) [] f fd) (g : mg "_law_due_value" = some (.ref f)) (m_range : mg "range" = none) (m_len : mg "len" = none) : Cal P w K mg base wd cs "_law_due_value" 1 5 cl_u_law_due_value [] :=
  cal_mk (fngV (k := 0) F sc_u_law_due_value rfl fun ix H H1 A outer s0 E cdv hgd hr tk po => have hu65 := units65 hr; have hu70 := units70 hr; (oks_cons (xifS (tLt (xr 2) (rd (xlen m_len (xr 0)))) (oks_one (xret (xif (PW.toT (tand (tEq hu65 (xr 3) (rd xi)) (tand1 (tNotIn hu65 (rd (xix (xr 0) (xr 2))) (xr 4))))) (xix (xr 0) (xr 2)) xo))) oks_nil) (oks_cons (xset 5 sc_u_law_due_value.nd (xsub (xr 2) (rd (xlen m_len (xr 0))))) (oks_cons (xset 6 sc_u_law_due_value.nd (xn 3)) (oks_cons (xfor po rfl (xrng m_range xi) (xgn 7 sc_u_law_due_value.nd) (oks_cons (xifS (PW.toT (tand (tNotIn hu65 (xr 5) (xr 0)) (tand1 (tNotIn hu65 (xr 5) (xr 4))))) (oks_cons (xifS (tEq hu65 (xr 6) (rd xi)) (oks_one (xret (xn 5))) oks_nil) (oks_one (xset 6 sc_u_law_due_value.nd (xsub (xr 6) (rd xi))))) oks_nil) (oks_one (xset 5 sc_u_law_due_value.nd (xadd (xr 5) (xr 1)))))) (oks_one (xret xo))))))) g F.kp .nil (bnd0 F fun _ _ _ _ _ _ us hl => match us, hl with | [_, _, _, _, _], _ => rfl)
theorem sc_u_law_numbered : FnScope ["_law_hand_here", "_law_sorts", "_law_named_here", "_law_modulus", "_law_k", "_law_sort_here", "_law_number", "_law_avoided", "_law_j", "_law_near", "_law_due", "_law_odd", "raised"] ["_law_hand_here", "_law_sorts", "_law_named_here", "_law_modulus"] (defScope (topS 30)) := ⟨rfl, rfl, rfl, by decide +kernel, rfl, by decide +kernel, by decide +kernel⟩
end
end Rd
end
section
set_option Elab.async false
set_option linter.all false
set_option autoImplicit false
set_option maxRecDepth 100000
set_option maxHeartbeats 4000000
namespace Rd
open PySem PySem.Spec L2 Mw Rd0
open PyProof.Rows (envOfC)
section
variable {P : Program} {w : World} {K : PySem.W.Frag} {mg : Str → Option Value} {base : Heap} {wd : Wd} {cs : Cs}
theorem cal_u_law_numbered {f : Addr} {fd : FuncData} (F : FnD K "_law_numbered" "_law_numbered" (topS 30) [] f fd) (g : mg "_law_numbered" = some (.ref f)) (m_len : mg "len" = none) (C_u_law_draw : Cal P w K mg base wd cs "_law_draw" 2 2 clDraw []) (g_NoSort : mg "NoSort" = some (.ref (cs 112))) (k_NoSort : cs.ke 112) (EU : ErU K cs) (T_Sorts_value_of : Met P w K mg base wd cs 0 "value_of" 3 4 cl_Sorts_value_of [(.tup [])]) (H_u_law_exact : CalH P w K mg base wd cs "_law_exact" 1 2 clH_u_law_exact) (nx_number : ∀ c, cs.ke c → PySem.W.findIn K (.ref (cs c)) "number" = some none) (g_BadTold : mg "BadTold" = some (.ref (cs 113))) (k_BadTold : cs.ke 113) (m_isinstance : mg "isinstance" = none) (g_BadSorts : mg "BadSorts" = some (.ref (cs 110))) (k_BadSorts : cs.ke 110) (m_range : mg "range" = none) (C_u_law_exact : Cal P w K mg base wd cs "_law_exact" 5 2 (cl_u_law_exact 4) []) (C_u_law_due_value : Cal P w K mg base wd cs "_law_due_value" 1 5 cl_u_law_due_value []) (T_Sorts_sort_of : Met P w K mg base wd cs 0 "sort_of" 3 2 cl_Sorts_sort_of []) (C_u_law_take : Cal P w K mg base wd cs "_law_take" 3 2 cl_u_law_take []) (C_u_law_some_value : Cal P w K mg base wd cs "_law_some_value" 4 2 cl_u_law_some_value []) : Cal P w K mg base wd cs "_law_numbered" 6 4 cl_u_law_numbered [] :=
  cal_mk (fngV (k := 5) F sc_u_law_numbered rfl fun ix H H1 A outer s0 E cdv hgd hr tk po => have hu65 := units65 hr; have hu70 := units70 hr; (oks_cons (xfor po rfl (xrng m_range xi) (xgn 4 sc_u_law_numbered.nd) (oks_cons (xset 5 sc_u_law_numbered.nd (ycall C_u_law_draw 0 (by decide) tk hgd (hr.mono (by decide : 2 ≤ _)) (ac (xn 0) (ac (xadd (rd (xlen m_len (xr 2))) (xr 3)) an)))) (oks_cons (xset 6 sc_u_law_numbered.nd (xif (tEq hu65 (rd (ycall C_u_law_draw 0 (by decide) tk hgd (hr.mono (by decide : 2 ≤ _)) (ac (xn 0) (ac xi an)))) (rd xi)) (ycall C_u_law_draw 0 (by decide) tk hgd (hr.mono (by decide : 2 ≤ _)) (ac (xn 0) (ac xi an))) (ycall C_u_law_draw 0 (by decide) tk hgd (hr.mono (by decide : 2 ≤ _)) (ac (xn 0) (ac xi an))))) (oks_cons (xsetM 7 sc_u_law_numbered.nd (xnl an)) (oks_cons (xfor po rfl (xrng m_range (ycall C_u_law_draw 0 (by decide) tk hgd (hr.mono (by decide : 2 ≤ _)) (ac (xn 0) (ac xi an)))) (xgn 8 sc_u_law_numbered.nd) (oks_cons (xset 9 sc_u_law_numbered.nd (xadd (rd (xml (rd (ycall C_u_law_draw 0 (by decide) tk hgd (hr.mono (by decide : 2 ≤ _)) (ac (xn 0) (ac xi an)))) (xr 3))) (rd (xif (tGe (xr 5) (rd (xlen m_len (xr 2)))) (xsub (xr 5) (rd (xlen m_len (xr 2)))) xi)))) (oks_one (xapp 7 (xif (tEq hu65 (rd (ycall C_u_law_draw 0 (by decide) tk hgd (hr.mono (by decide : 2 ≤ _)) (ac (xn 0) (ac xi an)))) (rd xi)) (xn 9) (ycall C_u_law_some_value 0 (by decide) tk hgd (hr.mono (by decide : 4 ≤ _)) (ac (xn 0) (ac (xn 2) an)))))))) (oks_cons (xfz 7 (xset 10 sc_u_law_numbered.nd (ycall C_u_law_due_value 0 (by decide) tk hgd (hr.mono (by decide : 1 ≤ _)) (ac (xn 2) (ac (xn 3) (ac (xn 5) (ac (xn 6) (ac (xn 7) an)))))))) (oks_cons (xfz 7 (xifS (tnot (xt rfl (rd (ycall C_u_law_exact 0 (by decide) tk hgd (hr.mono (by decide : 5 ≤ _)) (ac (ymeth T_Sorts_value_of 1 (by decide) tk hgd (hr.mono (by decide : 3 ≤ _)) (xn 1) (ac (xn 5) (ac (xn 6) (ac (ycall C_u_law_take 0 (by decide) tk hgd (hr.mono (by decide : 3 ≤ _)) (ac (xn 0) (ac (xn 7) an))) an)))) (ac (xn 10) an)))))) (oks_one (xret xb)) oks_nil)) (oks_cons (xifS (PW.toT (tand (tIsN (xr 10) (rd xo)) (tand1 (tnot (xt rfl (rd (ycall C_u_law_exact 0 (by decide) tk hgd (hr.mono (by decide : 5 ≤ _)) (ac (ymeth T_Sorts_sort_of 0 (by decide) tk hgd (hr.mono (by decide : 3 ≤ _)) (xn 1) (ac (xn 10) an)) (ac (xn 5) an))))))))) (oks_one (xret xb)) oks_nil) (oks_one (xifS (tnot (xt rfl (rd (ycall C_u_law_exact 0 (by decide) tk hgd (hr.mono (by decide : 5 ≤ _)) (ac (ymeth T_Sorts_value_of 0 (by decide) tk hgd (hr.mono (by decide : 3 ≤ _)) (xn 1) (ac (xn 5) (ac (xn 6) an))) (ac (ycall C_u_law_due_value 0 (by decide) tk hgd (hr.mono (by decide : 1 ≤ _)) (ac (xn 2) (ac (xn 3) (ac (xn 5) (ac (xn 6) (ac (xlst an) an)))))) an)))))) (oks_one (xret xb)) oks_nil)))))))))) (oks_cons (xfor po rfl (xseq (xlst (ac (xneg (rd xi)) (ac (xadd (rd (xlen m_len (xr 2))) (xr 3)) (ac (xadd (rd (xadd (rd (xlen m_len (xr 2))) (xr 3))) (rd (ycall C_u_law_draw 0 (by decide) tk hgd (hr.mono (by decide : 2 ≤ _)) (ac (xn 0) (ac xi an))))) (ac xo (ac xb (ac xs an)))))))) (xgn 11 sc_u_law_numbered.nd) (oks_one (xtry 112 EU k_NoSort rfl rfl rfl sc_u_law_numbered.nd tk ⟨by rfl, by decide, .inl g_NoSort⟩ (fun W pn xe tk2 po2 => (oks_cons (xdrop (ymeth T_Sorts_value_of 1 (by decide) tk2 hgd (hr.mono (by decide : 3 ≤ _)) (xn 1) (ac (xn 11) (ac xi (ac (xtup an) an))))) (oks_one (xret xb)))) (fun a oe cls d pn hz hf => (oks_one (xifS (PW.toT (tor (tnot (xt rfl (rd (xcallH H_u_law_exact takesN (L2H.roomH_mark (hr.mono (by decide : 1 ≤ _)) _) (hotC hz hf) (ac (xxf 12 EU nx_number hz.zc hf) (ac (xn 11) an)))))) (tor (xt rfl (rd (xxisC 12 113 EU k_BadTold m_isinstance g_BadTold hz.zc hf))) (tor1 (xt rfl (rd (xxisC 12 110 EU k_BadSorts m_isinstance g_BadSorts hz.zc hf))))))) (oks_one (xret xb)) oks_nil)))))) (oks_one (xret xb))))) g F.kp .nil (bnd0 F fun _ _ _ _ _ _ us hl => match us, hl with | [_, _, _, _], _ => rfl)
theorem sc_u_law_equal : FnScope ["_law_hand_here", "_law_sorts", "_law_named_here", "_law_modulus", "_law_other"] ["_law_hand_here", "_law_sorts", "_law_named_here", "_law_modulus"] (defScope (topS 31)) := ⟨rfl, rfl, rfl, by decide +kernel, rfl, by decide +kernel, by decide +kernel⟩
theorem cal_u_law_equal {f : Addr} {fd : FuncData} (F : FnD K "_law_equal" "_law_equal" (topS 31) [] f fd) (g : mg "_law_equal" = some (.ref f)) (m_tuple : mg "tuple" = none) (U : Uni K cs) (hown : ∀ c cl, ownE c = some cl → OwnE P w K mg base wd cs c 1 cl) (M_Sorts : Mak P w K mg base wd cs 0 "Sorts" 3 2 cl_Sorts___init__) (C_u_law_value : Cal P w K mg base wd cs "_law_value" 3 1 cl_u_law_value []) (m_list : mg "list" = none) : Cal P w K mg base wd cs "_law_equal" 5 4 cl_u_law_equal [] :=
  cal_mk (fngV (k := 4) F sc_u_law_equal rfl fun ix H H1 A outer s0 E cdv hgd hr tk po => have hu65 := units65 hr; have hu70 := units70 hr; (oks_cons (xifS (PW.toT (tor (tnot (tEqG U 1 hown tk hgd (hr.mono (by decide : 1 ≤ _)) (xmake M_Sorts tk hgd (hr.mono (by decide : 4 ≤ _)) (ac (xtuple m_tuple (xr 2)) (ac (xn 3) an))) (xn 1))) (tor1 (tnot (tEqG U 1 hown tk hgd (hr.mono (by decide : 1 ≤ _)) (xn 1) (xmake M_Sorts tk hgd (hr.mono (by decide : 4 ≤ _)) (ac (xlist m_list (xr 2)) (ac (xn 3) an)))))))) (oks_one (xret xb)) oks_nil) (oks_cons (xset 4 sc_u_law_equal.nd (xif (xt rfl (xr 2)) (xsl (xr 2) xon (xos (rd (xneg (rd xi))))) (xlst (ac (ycall C_u_law_value 0 (by decide) tk hgd (hr.mono (by decide : 3 ≤ _)) (ac (xn 0) an)) an)))) (oks_cons (xifS (PW.toT (tor (tEqG U 1 hown tk hgd (hr.mono (by decide : 1 ≤ _)) (xmake M_Sorts tk hgd (hr.mono (by decide : 4 ≤ _)) (ac (xn 4) (ac (xn 3) an))) (xn 1)) (tor1 (tEqG U 1 hown tk hgd (hr.mono (by decide : 1 ≤ _)) (xmake M_Sorts tk hgd (hr.mono (by decide : 4 ≤ _)) (ac (xn 2) (ac (xadd (rd (xmd (xr 3) (rd xi))) (rd xi)) an))) (xn 1))))) (oks_one (xret xb)) oks_nil) (oks_one (xret (xand rfl (xnot rfl (rd (xEqG U 1 hown tk hgd (hr.mono (by decide : 1 ≤ _)) (xn 1) (xtup (ac (xtuple m_tuple (xr 2)) (ac (xn 3) an)))))) (xone (xnot rfl (rd (xEqG U 1 hown tk hgd (hr.mono (by decide : 1 ≤ _)) (xn 1) xo))))))))))) g F.kp .nil (bnd0 F fun _ _ _ _ _ _ us hl => match us, hl with | [_, _, _, _], _ => rfl)
end
end Rd
end
section
set_option Elab.async false
set_option linter.all false
set_option autoImplicit false
set_option maxRecDepth 100000
set_option maxHeartbeats 4000000
namespace Rd
open PySem Mw Rd0
/-- is it a whole number from lo to hi -/
def whole (lo hi : Int) : D → Bool
  | .int n => decide (lo ≤ n) && decide (n ≤ hi)
  | _ => false
theorem is_whole_ok {d : D} {lo hi : Int} {Q : PD} {Qx : PX} (h : Q (.bl (whole lo hi d))) : cl_is_whole [d, .int lo, .int hi] Q Qx := by
  cases d <;> simp only [clD, clI, env0, envI, seD, seI, sSeq, sIf, sRet, sRetN, sSkip, sSet, sSetM, sDrop, sFz, frz1, sFor, sAppN, sAug, sTry, sRaiseN, sSetFN, sBreak, sCont, sAsg, bOr, bAnd, bNot, bT, bC, bCh, bTrue, vUn, vBin, vFn, vCon, vNil, vCons, vN, vR, vTup, vLst, vIf, vAndT, vOrT, vNotT, vCallN, vMethN, vPropN, vMakeN, vLock, vLcL, vSl, vIndex, vXn, vXis, vSortSet, vListRev, vLRg, vTRg, vFldN, r1, r2, oNone, oSomeN, nLst, nList, iSeq, iRng, iEnumD, gN, gTn, gAll, setNones, fIsT, fIsC, fFldN, fAdd, fSub, fMulN, fMod, fNeg, fLt, fLe, fGt, fGe, fIs, fIsNot, fLen, fTuple, fInt, fIx2, fSl, seqI, isT, isC, D.tru, D.isNon, caught, bye, noXn, List.map_cons, List.map_nil, List.length_cons, List.length_nil, List.replicate, List.nil_append, List.cons_append, List.append_nil, List.append_assoc, List.set_cons_zero, List.set_cons_succ, List.getElem?_cons_zero, List.getElem?_cons_succ, List.lookup, Nat.reduceAdd, Nat.reduceSub, Nat.reduceEqDiff, Bool.false_eq_true, if_true, if_false, Bool.not_false, Bool.not_true, reduceIte, ite_true, ite_false, true_and, and_true, String.reduceBEq, Bool.or_false, Bool.false_or, Bool.or_true, Bool.true_or, Bool.and_true, Bool.true_and, Bool.and_false, Bool.false_and, cl_is_whole, sm_is_whole] <;> first | exact h | skip
  rename_i n
  by_cases h1 : n < lo
  · rw [if_pos (decide_eq_true h1)]
    have e : whole lo hi (.int n) = false := by simp [whole]; omega
    rw [e] at h; exact h
  · rw [if_neg (by simpa using h1)]
    have e : whole lo hi (.int n) = decide (n ≤ hi) := by simp [whole]; omega
    rw [e] at h; exact h
theorem is_sequence_ok {d : D} {Q : PD} {Qx : PX} (h : Q (.bl (isT "list" d || isT "tuple" d))) : cl_is_sequence [d] Q Qx := by
  cases d <;> simp only [clD, clI, env0, envI, seD, seI, sSeq, sIf, sRet, sRetN, sSkip, sSet, sSetM, sDrop, sFz, frz1, sFor, sAppN, sAug, sTry, sRaiseN, sSetFN, sBreak, sCont, sAsg, bOr, bAnd, bNot, bT, bC, bCh, bTrue, vUn, vBin, vFn, vCon, vNil, vCons, vN, vR, vTup, vLst, vIf, vAndT, vOrT, vNotT, vCallN, vMethN, vPropN, vMakeN, vLock, vLcL, vSl, vIndex, vXn, vXis, vSortSet, vListRev, vLRg, vTRg, vFldN, r1, r2, oNone, oSomeN, nLst, nList, iSeq, iRng, iEnumD, gN, gTn, gAll, setNones, fIsT, fIsC, fFldN, fAdd, fSub, fMulN, fMod, fNeg, fLt, fLe, fGt, fGe, fIs, fIsNot, fLen, fTuple, fInt, fIx2, fSl, seqI, isT, isC, D.tru, D.isNon, caught, bye, noXn, List.map_cons, List.map_nil, List.length_cons, List.length_nil, List.replicate, List.nil_append, List.cons_append, List.append_nil, List.append_assoc, List.set_cons_zero, List.set_cons_succ, List.getElem?_cons_zero, List.getElem?_cons_succ, List.lookup, Nat.reduceAdd, Nat.reduceSub, Nat.reduceEqDiff, Bool.false_eq_true, if_true, if_false, Bool.not_false, Bool.not_true, reduceIte, ite_true, ite_false, true_and, and_true, String.reduceBEq, Bool.or_false, Bool.false_or, Bool.or_true, Bool.true_or, Bool.and_true, Bool.true_and, Bool.and_false, Bool.false_and, cl_is_sequence, sm_is_sequence] <;> exact h
def HI : Int := 1000000000
/-- strictly ascending whole numbers above last -/
def ascV : Int → List D → Bool
  | _, [] => true
  | last, .int n :: r => (decide (0 ≤ n) && decide (n ≤ HI)) && (decide (last < n) && ascV n r)
  | _, _ :: _ => false
def itemsOf : D → Option (List D)
  | .lst ds => some ds
  | .tup ds => some ds
  | _ => none
theorem asc_loop {a : D} {Q : PD} : ∀ (ds : List D) (last : Int) (c : Option L) (E : SE), E.rt = Q → (E.nx = fun _ => Q (.bl true)) → Q (.bl (ascV last ds)) →
    forD (gN 2) (sSeq (sIf (bOr (bNot (bT (vCallN 3 cl_is_whole [] (vCons (vN 2) (vCons (vCon (.int 0)) (vCons (vCon (.int 1000000000)) vNil)))))) (bC fLe (vR 2) (vR 1))) (sRet (vCon (.bl false))) sSkip) (sSet 1 (vN 2))) ds [some (.d a), some (.d (.int last)), c] E
  | [], last, c, E, e1, e2, h => by
    unfold forD
    rw [e2]; exact h
  | d :: r, last, c, E, e1, e2, h => by
    unfold forD
    simp only [clD, clI, env0, envI, seD, seI, sSeq, sIf, sRet, sRetN, sSkip, sSet, sSetM, sDrop, sFz, frz1, sFor, sAppN, sAug, sTry, sRaiseN, sSetFN, sBreak, sCont, sAsg, bOr, bAnd, bNot, bT, bC, bCh, bTrue, vUn, vBin, vFn, vCon, vNil, vCons, vN, vR, vTup, vLst, vIf, vAndT, vOrT, vNotT, vCallN, vMethN, vPropN, vMakeN, vLock, vLcL, vSl, vIndex, vXn, vXis, vSortSet, vListRev, vLRg, vTRg, vFldN, r1, r2, oNone, oSomeN, nLst, nList, iSeq, iRng, iEnumD, gN, gTn, gAll, setNones, fIsT, fIsC, fFldN, fAdd, fSub, fMulN, fMod, fNeg, fLt, fLe, fGt, fGe, fIs, fIsNot, fLen, fTuple, fInt, fIx2, fSl, seqI, isT, isC, D.tru, D.isNon, caught, bye, noXn, List.map_cons, List.map_nil, List.length_cons, List.length_nil, List.replicate, List.nil_append, List.cons_append, List.append_nil, List.append_assoc, List.set_cons_zero, List.set_cons_succ, List.getElem?_cons_zero, List.getElem?_cons_succ, List.lookup, Nat.reduceAdd, Nat.reduceSub, Nat.reduceEqDiff, Bool.false_eq_true, if_true, if_false, Bool.not_false, Bool.not_true, reduceIte, ite_true, ite_false, true_and, and_true, String.reduceBEq, Bool.or_false, Bool.false_or, Bool.or_true, Bool.true_or, Bool.and_true, Bool.true_and, Bool.and_false, Bool.false_and]
    refine is_whole_ok ?_
    simp only [clD, clI, env0, envI, seD, seI, sSeq, sIf, sRet, sRetN, sSkip, sSet, sSetM, sDrop, sFz, frz1, sFor, sAppN, sAug, sTry, sRaiseN, sSetFN, sBreak, sCont, sAsg, bOr, bAnd, bNot, bT, bC, bCh, bTrue, vUn, vBin, vFn, vCon, vNil, vCons, vN, vR, vTup, vLst, vIf, vAndT, vOrT, vNotT, vCallN, vMethN, vPropN, vMakeN, vLock, vLcL, vSl, vIndex, vXn, vXis, vSortSet, vListRev, vLRg, vTRg, vFldN, r1, r2, oNone, oSomeN, nLst, nList, iSeq, iRng, iEnumD, gN, gTn, gAll, setNones, fIsT, fIsC, fFldN, fAdd, fSub, fMulN, fMod, fNeg, fLt, fLe, fGt, fGe, fIs, fIsNot, fLen, fTuple, fInt, fIx2, fSl, seqI, isT, isC, D.tru, D.isNon, caught, bye, noXn, List.map_cons, List.map_nil, List.length_cons, List.length_nil, List.replicate, List.nil_append, List.cons_append, List.append_nil, List.append_assoc, List.set_cons_zero, List.set_cons_succ, List.getElem?_cons_zero, List.getElem?_cons_succ, List.lookup, Nat.reduceAdd, Nat.reduceSub, Nat.reduceEqDiff, Bool.false_eq_true, if_true, if_false, Bool.not_false, Bool.not_true, reduceIte, ite_true, ite_false, true_and, and_true, String.reduceBEq, Bool.or_false, Bool.false_or, Bool.or_true, Bool.true_or, Bool.and_true, Bool.true_and, Bool.and_false, Bool.false_and]
    cases d <;> simp only [whole, Bool.not_false, if_true] <;> first | (rw [e1]; exact h) | skip
    rename_i n
    by_cases h1 : 0 ≤ n ∧ n ≤ 1000000000
    · simp only [h1.1, h1.2, decide_true, Bool.and_self, Bool.not_true, Bool.false_eq_true, if_false, fLe]
      by_cases h2 : n ≤ last
      · rw [if_pos (decide_eq_true h2), e1]
        have z : ascV last (.int n :: r) = false := by simp [ascV]; intros; omega
        rw [z] at h; exact h
      · rw [if_neg (by simpa using h2)]
        have z : ascV last (.int n :: r) = ascV n r := by
          have e3 : last < n := by omega
          have e4 : n ≤ HI := h1.2
          simp [ascV, h1.1, e4, e3]
        rw [z] at h
        exact asc_loop r n _ E e1 e2 h
    · have z : (decide (0 ≤ n) && decide (n ≤ 1000000000)) = false := by simp; omega
      have z2 : ascV last (.int n :: r) = false := by
        have : (decide (0 ≤ n) && decide (n ≤ HI)) = false := z
        simp [ascV, this]
      rw [z2] at h
      simp only [whole, z, Bool.not_false, if_true, e1]
      exact h
theorem asc_ok {d : D} {ds : List D} {Q : PD} {Qx : PX} (hd : itemsOf d = some ds) (h : Q (.bl (ascV (-1) ds))) : cl_u_ascending_values [d] Q Qx := by
  cases d <;> simp only [itemsOf, Option.some.injEq] at hd <;> first | cases hd | skip
  all_goals
    simp only [clD, clI, env0, envI, seD, seI, sSeq, sIf, sRet, sRetN, sSkip, sSet, sSetM, sDrop, sFz, frz1, sFor, sAppN, sAug, sTry, sRaiseN, sSetFN, sBreak, sCont, sAsg, bOr, bAnd, bNot, bT, bC, bCh, bTrue, vUn, vBin, vFn, vCon, vNil, vCons, vN, vR, vTup, vLst, vIf, vAndT, vOrT, vNotT, vCallN, vMethN, vPropN, vMakeN, vLock, vLcL, vSl, vIndex, vXn, vXis, vSortSet, vListRev, vLRg, vTRg, vFldN, r1, r2, oNone, oSomeN, nLst, nList, iSeq, iRng, iEnumD, gN, gTn, gAll, setNones, fIsT, fIsC, fFldN, fAdd, fSub, fMulN, fMod, fNeg, fLt, fLe, fGt, fGe, fIs, fIsNot, fLen, fTuple, fInt, fIx2, fSl, seqI, isT, isC, D.tru, D.isNon, caught, bye, noXn, List.map_cons, List.map_nil, List.length_cons, List.length_nil, List.replicate, List.nil_append, List.cons_append, List.append_nil, List.append_assoc, List.set_cons_zero, List.set_cons_succ, List.getElem?_cons_zero, List.getElem?_cons_succ, List.lookup, Nat.reduceAdd, Nat.reduceSub, Nat.reduceEqDiff, Bool.false_eq_true, if_true, if_false, Bool.not_false, Bool.not_true, reduceIte, ite_true, ite_false, true_and, and_true, String.reduceBEq, Bool.or_false, Bool.false_or, Bool.or_true, Bool.true_or, Bool.and_true, Bool.true_and, Bool.and_false, Bool.false_and, cl_u_ascending_values, sm_u_ascending_values]
    exact asc_loop (Q := Q) _ (-1) _ _ rfl rfl h
def namedOk (d : D) : Bool := match itemsOf d with
  | some ds => decide (ds.length ≤ 8) && ascV (-1) ds
  | none => false
def modOk (d : D) : Bool := whole 1 6 d
def fldS (ds : List D) (m : D) : List (Str × D) := [("named", .tup ds), ("modulus", m)]
def namX : Xn := ⟨110, [("what", .str "named")]⟩
def modX : Xn := ⟨110, [("what", .str "modulus")]⟩
theorem init_seq {b : D} {ds : List D} {a : D} (ha : a = .lst ds ∨ a = .tup ds) {Q : List (Str × D) → Prop} {Qx : PX} (h : if (decide (ds.length ≤ 8) && ascV (-1) ds) = true then (if modOk b = true then Q (fldS ds b) else Qx modX) else Qx namX) : cl_Sorts___init__ [a, b] Q Qx := by
  have hi : itemsOf a = some ds := by rcases ha with rfl | rfl <;> rfl
  have h1 : (8 : Int) < (ds.length : Int) ↔ ¬ ds.length ≤ 8 := by omega
  rcases ha with rfl | rfl
  all_goals
    simp only [clD, clI, env0, envI, seD, seI, sSeq, sIf, sRet, sRetN, sSkip, sSet, sSetM, sDrop, sFz, frz1, sFor, sAppN, sAug, sTry, sRaiseN, sSetFN, sBreak, sCont, sAsg, bOr, bAnd, bNot, bT, bC, bCh, bTrue, vUn, vBin, vFn, vCon, vNil, vCons, vN, vR, vTup, vLst, vIf, vAndT, vOrT, vNotT, vCallN, vMethN, vPropN, vMakeN, vLock, vLcL, vSl, vIndex, vXn, vXis, vSortSet, vListRev, vLRg, vTRg, vFldN, r1, r2, oNone, oSomeN, nLst, nList, iSeq, iRng, iEnumD, gN, gTn, gAll, setNones, fIsT, fIsC, fFldN, fAdd, fSub, fMulN, fMod, fNeg, fLt, fLe, fGt, fGe, fIs, fIsNot, fLen, fTuple, fInt, fIx2, fSl, seqI, isT, isC, D.tru, D.isNon, caught, bye, noXn, List.map_cons, List.map_nil, List.length_cons, List.length_nil, List.replicate, List.nil_append, List.cons_append, List.append_nil, List.append_assoc, List.set_cons_zero, List.set_cons_succ, List.getElem?_cons_zero, List.getElem?_cons_succ, List.lookup, Nat.reduceAdd, Nat.reduceSub, Nat.reduceEqDiff, Bool.false_eq_true, if_true, if_false, Bool.not_false, Bool.not_true, reduceIte, ite_true, ite_false, true_and, and_true, String.reduceBEq, Bool.or_false, Bool.false_or, Bool.or_true, Bool.true_or, Bool.and_true, Bool.true_and, Bool.and_false, Bool.false_and, cl_Sorts___init__, sm_Sorts___init__]
    refine is_sequence_ok ?_
    simp only [clD, clI, env0, envI, seD, seI, sSeq, sIf, sRet, sRetN, sSkip, sSet, sSetM, sDrop, sFz, frz1, sFor, sAppN, sAug, sTry, sRaiseN, sSetFN, sBreak, sCont, sAsg, bOr, bAnd, bNot, bT, bC, bCh, bTrue, vUn, vBin, vFn, vCon, vNil, vCons, vN, vR, vTup, vLst, vIf, vAndT, vOrT, vNotT, vCallN, vMethN, vPropN, vMakeN, vLock, vLcL, vSl, vIndex, vXn, vXis, vSortSet, vListRev, vLRg, vTRg, vFldN, r1, r2, oNone, oSomeN, nLst, nList, iSeq, iRng, iEnumD, gN, gTn, gAll, setNones, fIsT, fIsC, fFldN, fAdd, fSub, fMulN, fMod, fNeg, fLt, fLe, fGt, fGe, fIs, fIsNot, fLen, fTuple, fInt, fIx2, fSl, seqI, isT, isC, D.tru, D.isNon, caught, bye, noXn, List.map_cons, List.map_nil, List.length_cons, List.length_nil, List.replicate, List.nil_append, List.cons_append, List.append_nil, List.append_assoc, List.set_cons_zero, List.set_cons_succ, List.getElem?_cons_zero, List.getElem?_cons_succ, List.lookup, Nat.reduceAdd, Nat.reduceSub, Nat.reduceEqDiff, Bool.false_eq_true, if_true, if_false, Bool.not_false, Bool.not_true, reduceIte, ite_true, ite_false, true_and, and_true, String.reduceBEq, Bool.or_false, Bool.false_or, Bool.or_true, Bool.true_or, Bool.and_true, Bool.true_and, Bool.and_false, Bool.false_and]
    by_cases h2 : ds.length ≤ 8
    · have h3 : ¬ (8 : Int) < (ds.length : Int) := by omega
      simp only [h3, decide_false, Bool.false_eq_true, if_false]
      refine asc_ok hi ?_
      simp only [h2, decide_true, Bool.true_and] at h
      cases h4 : ascV (-1) ds with
      | false =>
        rw [h4] at h
        exact h
      | true =>
        rw [h4] at h
        refine is_whole_ok ?_
        cases h5 : whole 1 6 b with
        | false =>
          have h5' : modOk b = false := h5
          rw [h5'] at h
          exact h
        | true =>
          have h5' : modOk b = true := h5
          rw [h5'] at h
          exact ⟨rfl, by decide, rfl, by show (1 : Nat) < 1000; decide, _, rfl, h⟩
    · have h3 : (8 : Int) < (ds.length : Int) := by omega
      simp only [h3, decide_true, if_true]
      simp only [h2, decide_false, Bool.false_and, Bool.false_eq_true, if_false] at h
      exact h
theorem init_non {a b : D} (ha : itemsOf a = none) (hh : a ≠ .hand) {Q : List (Str × D) → Prop} {Qx : PX} (h : Qx namX) : cl_Sorts___init__ [a, b] Q Qx := by
  cases a <;> first | exact (hh rfl).elim | (exfalso; cases ha; done) | skip
  all_goals
    simp only [clD, clI, env0, envI, seD, seI, sSeq, sIf, sRet, sRetN, sSkip, sSet, sSetM, sDrop, sFz, frz1, sFor, sAppN, sAug, sTry, sRaiseN, sSetFN, sBreak, sCont, sAsg, bOr, bAnd, bNot, bT, bC, bCh, bTrue, vUn, vBin, vFn, vCon, vNil, vCons, vN, vR, vTup, vLst, vIf, vAndT, vOrT, vNotT, vCallN, vMethN, vPropN, vMakeN, vLock, vLcL, vSl, vIndex, vXn, vXis, vSortSet, vListRev, vLRg, vTRg, vFldN, r1, r2, oNone, oSomeN, nLst, nList, iSeq, iRng, iEnumD, gN, gTn, gAll, setNones, fIsT, fIsC, fFldN, fAdd, fSub, fMulN, fMod, fNeg, fLt, fLe, fGt, fGe, fIs, fIsNot, fLen, fTuple, fInt, fIx2, fSl, seqI, isT, isC, D.tru, D.isNon, caught, bye, noXn, List.map_cons, List.map_nil, List.length_cons, List.length_nil, List.replicate, List.nil_append, List.cons_append, List.append_nil, List.append_assoc, List.set_cons_zero, List.set_cons_succ, List.getElem?_cons_zero, List.getElem?_cons_succ, List.lookup, Nat.reduceAdd, Nat.reduceSub, Nat.reduceEqDiff, Bool.false_eq_true, if_true, if_false, Bool.not_false, Bool.not_true, reduceIte, ite_true, ite_false, true_and, and_true, String.reduceBEq, Bool.or_false, Bool.false_or, Bool.or_true, Bool.true_or, Bool.and_true, Bool.true_and, Bool.and_false, Bool.false_and, cl_Sorts___init__, sm_Sorts___init__]
    refine is_sequence_ok ?_
    simp only [clD, clI, env0, envI, seD, seI, sSeq, sIf, sRet, sRetN, sSkip, sSet, sSetM, sDrop, sFz, frz1, sFor, sAppN, sAug, sTry, sRaiseN, sSetFN, sBreak, sCont, sAsg, bOr, bAnd, bNot, bT, bC, bCh, bTrue, vUn, vBin, vFn, vCon, vNil, vCons, vN, vR, vTup, vLst, vIf, vAndT, vOrT, vNotT, vCallN, vMethN, vPropN, vMakeN, vLock, vLcL, vSl, vIndex, vXn, vXis, vSortSet, vListRev, vLRg, vTRg, vFldN, r1, r2, oNone, oSomeN, nLst, nList, iSeq, iRng, iEnumD, gN, gTn, gAll, setNones, fIsT, fIsC, fFldN, fAdd, fSub, fMulN, fMod, fNeg, fLt, fLe, fGt, fGe, fIs, fIsNot, fLen, fTuple, fInt, fIx2, fSl, seqI, isT, isC, D.tru, D.isNon, caught, bye, noXn, List.map_cons, List.map_nil, List.length_cons, List.length_nil, List.replicate, List.nil_append, List.cons_append, List.append_nil, List.append_assoc, List.set_cons_zero, List.set_cons_succ, List.getElem?_cons_zero, List.getElem?_cons_succ, List.lookup, Nat.reduceAdd, Nat.reduceSub, Nat.reduceEqDiff, Bool.false_eq_true, if_true, if_false, Bool.not_false, Bool.not_true, reduceIte, ite_true, ite_false, true_and, and_true, String.reduceBEq, Bool.or_false, Bool.false_or, Bool.or_true, Bool.true_or, Bool.and_true, Bool.true_and, Bool.and_false, Bool.false_and]
    exact h
theorem init_ok {a b : D} (hh : a ≠ .hand) {Q : List (Str × D) → Prop} {Qx : PX} (h : if namedOk a = true then (if modOk b = true then Q (fldS ((itemsOf a).getD []) b) else Qx modX) else Qx namX) : cl_Sorts___init__ [a, b] Q Qx := by
  cases hi : itemsOf a with
  | none =>
    simp only [namedOk, hi, Bool.false_eq_true, if_false] at h
    exact init_non hi hh h
  | some ds =>
    simp only [namedOk, hi, Option.getD_some] at h
    exact init_seq (by cases a <;> simp [itemsOf] at hi <;> subst hi <;> simp) h
/-- an instance of Sorts -/
def dS (ds : List D) (m : D) : D := .ins 0 (fldS ds m)
def iL (xs : List Int) : List D := xs.map D.int
theorem fld_n (ds : List D) (m : D) : (fldS ds m).lookup ("named" : Str) = some (.tup ds) := rfl
theorem fld_m (ds : List D) (m : D) : (fldS ds m).lookup ("modulus" : Str) = some m := rfl
theorem fld_many (ds : List D) (m : D) : (fldS ds m).lookup ("many" : Str) = none := rfl
theorem fld_sort_of (ds : List D) (m : D) : (fldS ds m).lookup ("sort_of" : Str) = none := rfl
theorem fld_kind_of (ds : List D) (m : D) : (fldS ds m).lookup ("kind_of" : Str) = none := rfl
theorem fld_value_of (ds : List D) (m : D) : (fldS ds m).lookup ("value_of" : Str) = none := rfl
theorem in00 : (0 : Nat) ∈ [0] := List.mem_cons_self
theorem many_ok {ds : List D} {m : Int} {Q : PD} {Qx : PX} (h : Q (.int (ds.length + m))) : cl_Sorts_many [dS ds (.int m)] Q Qx := by
  simp only [clD, clI, env0, envI, seD, seI, sSeq, sIf, sRet, sRetN, sSkip, sSet, sSetM, sDrop, sFz, frz1, sFor, sAppN, sAug, sTry, sRaiseN, sSetFN, sBreak, sCont, sAsg, bOr, bAnd, bNot, bT, bC, bCh, bTrue, vUn, vBin, vFn, vCon, vNil, vCons, vN, vR, vTup, vLst, vIf, vAndT, vOrT, vNotT, vCallN, vMethN, vPropN, vMakeN, vLock, vLcL, vSl, vIndex, vXn, vXis, vSortSet, vListRev, vLRg, vTRg, vFldN, r1, r2, oNone, oSomeN, nLst, nList, iSeq, iRng, iEnumD, gN, gTn, gAll, setNones, fIsT, fIsC, fFldN, fAdd, fSub, fMulN, fMod, fNeg, fLt, fLe, fGt, fGe, fIs, fIsNot, fLen, fTuple, fInt, fIx2, fSl, seqI, isT, isC, D.tru, D.isNon, caught, bye, noXn, List.map_cons, List.map_nil, List.length_cons, List.length_nil, List.replicate, List.nil_append, List.cons_append, List.append_nil, List.append_assoc, List.set_cons_zero, List.set_cons_succ, List.getElem?_cons_zero, List.getElem?_cons_succ, List.lookup, Nat.reduceAdd, Nat.reduceSub, Nat.reduceEqDiff, Bool.false_eq_true, if_true, if_false, Bool.not_false, Bool.not_true, reduceIte, ite_true, ite_false, true_and, and_true, String.reduceBEq, Bool.or_false, Bool.false_or, Bool.or_true, Bool.true_or, Bool.and_true, Bool.true_and, Bool.and_false, Bool.false_and, cl_Sorts_many, sm_Sorts_many, dS, fld_n, fld_m, in00]
  exact h
/-! ### numbers of values -/
def sortOf (xs : List Int) (m v : Int) : Int := match xs.findIdx? (· == v) with
  | some i => (i : Nat)
  | none => xs.length + v % m
theorem py_int (i : Int) : (D.int i).py = some (.int i) := rfl
theorem eqv_int (i j : Int) : (D.int i).eqv (D.int j) = (i == j) := by
  show PyData.eqv (.int i) (.int j) = _
  unfold PyData.eqv
  rfl
theorem ok_int (i : Int) : (D.int i).ok = true := rfl
end Rd
end
section
set_option Elab.async false
set_option linter.all false
set_option autoImplicit false
set_option maxRecDepth 100000
set_option maxHeartbeats 4000000
namespace Rd
open PySem Mw Rd0
theorem pys_iL : ∀ xs : List Int, D.pys (iL xs) = some (xs.map PyData.int)
  | [] => rfl
  | x :: xs => by
    have h := pys_iL xs
    show D.pys (D.int x :: iL xs) = _
    unfold D.pys
    rw [py_int, h]
    rfl
theorem canLay_iL : ∀ xs : List Int, PyData.canLayAll0 (xs.map PyData.int) = true
  | [] => by simp [PyData.canLayAll0]
  | x :: xs => by simp [PyData.canLayAll0, PyData.canLay0, canLay_iL xs]
theorem depth_iL : ∀ xs : List Int, PyData.depthAll (xs.map PyData.int) = 0
  | [] => by simp [PyData.depthAll]
  | x :: xs => by simp [PyData.depthAll, PyData.depth, depth_iL xs]
theorem py_lst (xs : List Int) : (D.lst (iL xs)).py = some (.list (xs.map PyData.int)) := by
  show (D.pys (iL xs)).map PyData.list = _
  rw [pys_iL]; rfl
theorem py_tup (xs : List Int) : (D.tup (iL xs)).py = some (.tuple (xs.map PyData.int)) := by
  show (D.pys (iL xs)).map PyData.tuple = _
  rw [pys_iL]; rfl
theorem ok_lst (xs : List Int) : (D.lst (iL xs)).ok = true := by
  unfold D.ok
  rw [py_lst]
  simp [SeqAt.shaped, PyData.canLay0, canLay_iL, PyData.depth, depth_iL]
theorem ok_tup (xs : List Int) : (D.tup (iL xs)).ok = true := by
  unfold D.ok
  rw [py_tup]
  simp [SeqAt.shaped, PyData.canLay0, canLay_iL, PyData.depth, depth_iL]
theorem eqvAll_iL : ∀ xs ys : List Int, PyData.eqvAll (xs.map PyData.int) (ys.map PyData.int) = decide (xs = ys)
  | [], [] => by simp [PyData.eqvAll]
  | [], y :: ys => by simp [PyData.eqvAll]
  | x :: xs, [] => by simp [PyData.eqvAll]
  | x :: xs, y :: ys => by
    simp only [List.map_cons, PyData.eqvAll, PyData.eqv, eqvAll_iL xs ys]
    by_cases h1 : x = y <;> by_cases h2 : xs = ys <;> simp [h1, h2]
theorem eqv_lst (xs ys : List Int) : (D.lst (iL xs)).eqv (.lst (iL ys)) = decide (xs = ys) := by
  unfold D.eqv
  rw [py_lst, py_lst]
  simp only [PyData.eqv, eqvAll_iL]
theorem eqv_tup (xs ys : List Int) : (D.tup (iL xs)).eqv (.tup (iL ys)) = decide (xs = ys) := by
  unfold D.eqv
  rw [py_tup, py_tup]
  simp only [PyData.eqv, eqvAll_iL]
theorem isIn_iL (v : Int) (xs : List Int) : (D.int v).isIn (iL xs) = decide (v ∈ xs) := by
  unfold D.isIn iL
  rw [List.any_map]
  induction xs with
  | nil => rfl
  | cons x xs ih =>
    rw [List.any_cons, ih]
    show ((D.int x).eqv (.int v) || _) = _
    rw [eqv_int]
    by_cases h : x = v
    · subst h; simp
    · have h' : ¬ v = x := fun e => h e.symm
      have e : (x == v) = false := by simpa using h
      rw [e]
      simp [h']
theorem find_iL (v : Int) (xs : List Int) : (iL xs).findIdx? (fun z => z.eqv (.int v)) = xs.findIdx? (· == v) := by
  unfold iL
  rw [List.findIdx?_map]
  rfl
theorem fIn_lst {v : Int} {xs : List Int} {Q : PD} (h : Q (.bl (decide (v ∈ xs)))) : fIn (.int v) (.lst (iL xs)) Q := ⟨rfl, ok_lst xs, by rw [isIn_iL]; exact h⟩
theorem fIn_tup {v : Int} {xs : List Int} {Q : PD} (h : Q (.bl (decide (v ∈ xs)))) : fIn (.int v) (.tup (iL xs)) Q := ⟨rfl, ok_tup xs, by rw [isIn_iL]; exact h⟩
theorem fNotIn_lst {v : Int} {xs : List Int} {Q : PD} (h : Q (.bl (!decide (v ∈ xs)))) : fNotIn2 (.int v) (.lst (iL xs)) Q := ⟨rfl, ok_lst xs, by rw [isIn_iL]; exact h⟩
theorem fNotIn_tup {v : Int} {xs : List Int} {Q : PD} (h : Q (.bl (!decide (v ∈ xs)))) : fNotIn2 (.int v) (.tup (iL xs)) Q := ⟨rfl, ok_tup xs, by rw [isIn_iL]; exact h⟩
theorem fEq_int {a b : Int} {Q : PD} (h : Q (.bl (decide (a = b)))) : fEq (.int a) (.int b) Q := ⟨rfl, rfl, by
  rw [eqv_int]
  have e : (a == b) = decide (a = b) := by by_cases h : a = b <;> simp [h]
  rw [e]; exact h⟩
theorem fEq_tup {xs ys : List Int} {Q : PD} (h : Q (.bl (decide (xs = ys)))) : fEq (.tup (iL xs)) (.tup (iL ys)) Q := ⟨ok_tup xs, ok_tup ys, by rw [eqv_tup]; exact h⟩
theorem iL_len (xs : List Int) : (iL xs).length = xs.length := by simp [iL]
/-- strictly ascending from last on, not above HI -/
def Asc : Int → List Int → Prop
  | _, [] => True
  | last, n :: r => (0 ≤ n ∧ n ≤ HI ∧ last < n) ∧ Asc n r
theorem ascV_iff : ∀ (xs : List Int) (last : Int), ascV last (iL xs) = true ↔ Asc last xs
  | [], _ => by simp [iL, ascV, Asc]
  | n :: r, last => by
    show ascV last (D.int n :: iL r) = true ↔ _
    simp only [ascV, Asc, Bool.and_eq_true, decide_eq_true_eq, ascV_iff r n]
    constructor
    · rintro ⟨⟨a, b⟩, c, d⟩; exact ⟨⟨a, b, c⟩, d⟩
    · rintro ⟨⟨a, b, c⟩, d⟩; exact ⟨⟨a, b⟩, c, d⟩
/-! ### sort_of, _law_sort -/
theorem sort_of_bad {ds : List D} {m d : D} {Q : PD} {Qx : PX} (h1 : whole 0 HI d = false) (h : Qx ⟨111, [("value", d)]⟩) : cl_Sorts_sort_of [dS ds m, d] Q Qx := by
  simp only [clD, clI, env0, envI, seD, seI, sSeq, sIf, sRet, sRetN, sSkip, sSet, sSetM, sDrop, sFz, frz1, sFor, sAppN, sAug, sTry, sRaiseN, sSetFN, sBreak, sCont, sAsg, bOr, bAnd, bNot, bT, bC, bCh, bTrue, vUn, vBin, vFn, vCon, vNil, vCons, vN, vR, vTup, vLst, vIf, vAndT, vOrT, vNotT, vCallN, vMethN, vPropN, vMakeN, vLock, vLcL, vSl, vIndex, vXn, vXis, vSortSet, vListRev, vLRg, vTRg, vFldN, r1, r2, oNone, oSomeN, nLst, nList, iSeq, iRng, iEnumD, gN, gTn, gAll, setNones, fIsT, fIsC, fFldN, fAdd, fSub, fMulN, fMod, fNeg, fLt, fLe, fGt, fGe, fIs, fIsNot, fLen, fTuple, fInt, fIx2, fSl, seqI, isT, isC, D.tru, D.isNon, caught, bye, noXn, List.map_cons, List.map_nil, List.length_cons, List.length_nil, List.replicate, List.nil_append, List.cons_append, List.append_nil, List.append_assoc, List.set_cons_zero, List.set_cons_succ, List.getElem?_cons_zero, List.getElem?_cons_succ, List.lookup, Nat.reduceAdd, Nat.reduceSub, Nat.reduceEqDiff, Bool.false_eq_true, if_true, if_false, Bool.not_false, Bool.not_true, reduceIte, ite_true, ite_false, true_and, and_true, String.reduceBEq, Bool.or_false, Bool.false_or, Bool.or_true, Bool.true_or, Bool.and_true, Bool.true_and, Bool.and_false, Bool.false_and, cl_Sorts_sort_of, sm_Sorts_sort_of, dS]
  refine is_whole_ok ?_
  have h1' : whole 0 1000000000 d = false := h1
  simp only [clD, clI, env0, envI, seD, seI, sSeq, sIf, sRet, sRetN, sSkip, sSet, sSetM, sDrop, sFz, frz1, sFor, sAppN, sAug, sTry, sRaiseN, sSetFN, sBreak, sCont, sAsg, bOr, bAnd, bNot, bT, bC, bCh, bTrue, vUn, vBin, vFn, vCon, vNil, vCons, vN, vR, vTup, vLst, vIf, vAndT, vOrT, vNotT, vCallN, vMethN, vPropN, vMakeN, vLock, vLcL, vSl, vIndex, vXn, vXis, vSortSet, vListRev, vLRg, vTRg, vFldN, r1, r2, oNone, oSomeN, nLst, nList, iSeq, iRng, iEnumD, gN, gTn, gAll, setNones, fIsT, fIsC, fFldN, fAdd, fSub, fMulN, fMod, fNeg, fLt, fLe, fGt, fGe, fIs, fIsNot, fLen, fTuple, fInt, fIx2, fSl, seqI, isT, isC, D.tru, D.isNon, caught, bye, noXn, List.map_cons, List.map_nil, List.length_cons, List.length_nil, List.replicate, List.nil_append, List.cons_append, List.append_nil, List.append_assoc, List.set_cons_zero, List.set_cons_succ, List.getElem?_cons_zero, List.getElem?_cons_succ, List.lookup, Nat.reduceAdd, Nat.reduceSub, Nat.reduceEqDiff, Bool.false_eq_true, if_true, if_false, Bool.not_false, Bool.not_true, reduceIte, ite_true, ite_false, true_and, and_true, String.reduceBEq, Bool.or_false, Bool.false_or, Bool.or_true, Bool.true_or, Bool.and_true, Bool.true_and, Bool.and_false, Bool.false_and, h1']
  exact h
theorem sort_loop {s dv : D} {v : Int} {Q : PD} : ∀ (xs : List Int) (k : Int) (c1 c2 : Option L) (E : SE), E.rt = Q →
    (match xs.findIdx? (· == v) with
      | some i => Q (.int (k + (i : Nat)))
      | none => ∀ c1 c2, E.nx [some (.d s), some (.d (.int v)), c1, c2]) →
    forD (gTn 2 [gN 2, gN 3]) (sIf (bC fEq (vR 3) (vR 1)) (sRet (vN 2)) sSkip) (enumD k (iL xs)) [some (.d s), some (.d (.int v)), c1, c2] E
  | [], k, c1, c2, E, e1, h => by
    show forD _ _ [] _ _
    unfold forD
    exact h c1 c2
  | x :: xs, k, c1, c2, E, e1, h => by
    show forD _ _ (.tup [.int k, .int x] :: enumD (k + 1) (iL xs)) _ _
    unfold forD
    simp only [clD, clI, env0, envI, seD, seI, sSeq, sIf, sRet, sRetN, sSkip, sSet, sSetM, sDrop, sFz, frz1, sFor, sAppN, sAug, sTry, sRaiseN, sSetFN, sBreak, sCont, sAsg, bOr, bAnd, bNot, bT, bC, bCh, bTrue, vUn, vBin, vFn, vCon, vNil, vCons, vN, vR, vTup, vLst, vIf, vAndT, vOrT, vNotT, vCallN, vMethN, vPropN, vMakeN, vLock, vLcL, vSl, vIndex, vXn, vXis, vSortSet, vListRev, vLRg, vTRg, vFldN, r1, r2, oNone, oSomeN, nLst, nList, iSeq, iRng, iEnumD, gN, gTn, gAll, setNones, fIsT, fIsC, fFldN, fAdd, fSub, fMulN, fMod, fNeg, fLt, fLe, fGt, fGe, fIs, fIsNot, fLen, fTuple, fInt, fIx2, fSl, seqI, isT, isC, D.tru, D.isNon, caught, bye, noXn, List.map_cons, List.map_nil, List.length_cons, List.length_nil, List.replicate, List.nil_append, List.cons_append, List.append_nil, List.append_assoc, List.set_cons_zero, List.set_cons_succ, List.getElem?_cons_zero, List.getElem?_cons_succ, List.lookup, Nat.reduceAdd, Nat.reduceSub, Nat.reduceEqDiff, Bool.false_eq_true, if_true, if_false, Bool.not_false, Bool.not_true, reduceIte, ite_true, ite_false, true_and, and_true, String.reduceBEq, Bool.or_false, Bool.false_or, Bool.or_true, Bool.true_or, Bool.and_true, Bool.true_and, Bool.and_false, Bool.false_and]
    refine fEq_int ?_
    simp only [clD, clI, env0, envI, seD, seI, sSeq, sIf, sRet, sRetN, sSkip, sSet, sSetM, sDrop, sFz, frz1, sFor, sAppN, sAug, sTry, sRaiseN, sSetFN, sBreak, sCont, sAsg, bOr, bAnd, bNot, bT, bC, bCh, bTrue, vUn, vBin, vFn, vCon, vNil, vCons, vN, vR, vTup, vLst, vIf, vAndT, vOrT, vNotT, vCallN, vMethN, vPropN, vMakeN, vLock, vLcL, vSl, vIndex, vXn, vXis, vSortSet, vListRev, vLRg, vTRg, vFldN, r1, r2, oNone, oSomeN, nLst, nList, iSeq, iRng, iEnumD, gN, gTn, gAll, setNones, fIsT, fIsC, fFldN, fAdd, fSub, fMulN, fMod, fNeg, fLt, fLe, fGt, fGe, fIs, fIsNot, fLen, fTuple, fInt, fIx2, fSl, seqI, isT, isC, D.tru, D.isNon, caught, bye, noXn, List.map_cons, List.map_nil, List.length_cons, List.length_nil, List.replicate, List.nil_append, List.cons_append, List.append_nil, List.append_assoc, List.set_cons_zero, List.set_cons_succ, List.getElem?_cons_zero, List.getElem?_cons_succ, List.lookup, Nat.reduceAdd, Nat.reduceSub, Nat.reduceEqDiff, Bool.false_eq_true, if_true, if_false, Bool.not_false, Bool.not_true, reduceIte, ite_true, ite_false, true_and, and_true, String.reduceBEq, Bool.or_false, Bool.false_or, Bool.or_true, Bool.true_or, Bool.and_true, Bool.true_and, Bool.and_false, Bool.false_and]
    by_cases hx : x = v
    · subst hx
      simp only [decide_true, if_true, e1]
      have z : (x :: xs).findIdx? (· == x) = some 0 := by simp [List.findIdx?_cons]
      rw [z] at h
      simpa using h
    · simp only [hx, decide_false, Bool.false_eq_true, if_false]
      refine sort_loop (dv := dv) xs (k + 1) _ _ E e1 ?_
      have hb : (x == v) = false := by simpa using hx
      have z : (x :: xs).findIdx? (· == v) = (xs.findIdx? (· == v)).map (· + 1) := by
        rw [List.findIdx?_cons]; simp [hb]
      rw [z] at h
      cases e : xs.findIdx? (· == v) with
      | none => rw [e] at h; exact h
      | some i =>
        rw [e] at h
        have e2 : k + 1 + (i : Int) = k + ((i + 1 : Nat) : Int) := by omega
        show Q (.int (k + 1 + (i : Nat)))
        rw [e2]
        exact h
theorem sort_of_ok {xs : List Int} {m v : Int} {Q : PD} {Qx : PX} (hm : 0 < m) (h0 : 0 ≤ v) (h1 : v ≤ HI) (h : Q (.int (sortOf xs m v))) : cl_Sorts_sort_of [dS (iL xs) (.int m), .int v] Q Qx := by
  simp only [clD, clI, env0, envI, seD, seI, sSeq, sIf, sRet, sRetN, sSkip, sSet, sSetM, sDrop, sFz, frz1, sFor, sAppN, sAug, sTry, sRaiseN, sSetFN, sBreak, sCont, sAsg, bOr, bAnd, bNot, bT, bC, bCh, bTrue, vUn, vBin, vFn, vCon, vNil, vCons, vN, vR, vTup, vLst, vIf, vAndT, vOrT, vNotT, vCallN, vMethN, vPropN, vMakeN, vLock, vLcL, vSl, vIndex, vXn, vXis, vSortSet, vListRev, vLRg, vTRg, vFldN, r1, r2, oNone, oSomeN, nLst, nList, iSeq, iRng, iEnumD, gN, gTn, gAll, setNones, fIsT, fIsC, fFldN, fAdd, fSub, fMulN, fMod, fNeg, fLt, fLe, fGt, fGe, fIs, fIsNot, fLen, fTuple, fInt, fIx2, fSl, seqI, isT, isC, D.tru, D.isNon, caught, bye, noXn, List.map_cons, List.map_nil, List.length_cons, List.length_nil, List.replicate, List.nil_append, List.cons_append, List.append_nil, List.append_assoc, List.set_cons_zero, List.set_cons_succ, List.getElem?_cons_zero, List.getElem?_cons_succ, List.lookup, Nat.reduceAdd, Nat.reduceSub, Nat.reduceEqDiff, Bool.false_eq_true, if_true, if_false, Bool.not_false, Bool.not_true, reduceIte, ite_true, ite_false, true_and, and_true, String.reduceBEq, Bool.or_false, Bool.false_or, Bool.or_true, Bool.true_or, Bool.and_true, Bool.true_and, Bool.and_false, Bool.false_and, cl_Sorts_sort_of, sm_Sorts_sort_of, dS, fld_n, fld_m, in00]
  refine is_whole_ok ?_
  have h2 : whole 0 1000000000 (.int v) = true := by
    have : v ≤ 1000000000 := h1
    simp [whole, h0, this]
  simp only [clD, clI, env0, envI, seD, seI, sSeq, sIf, sRet, sRetN, sSkip, sSet, sSetM, sDrop, sFz, frz1, sFor, sAppN, sAug, sTry, sRaiseN, sSetFN, sBreak, sCont, sAsg, bOr, bAnd, bNot, bT, bC, bCh, bTrue, vUn, vBin, vFn, vCon, vNil, vCons, vN, vR, vTup, vLst, vIf, vAndT, vOrT, vNotT, vCallN, vMethN, vPropN, vMakeN, vLock, vLcL, vSl, vIndex, vXn, vXis, vSortSet, vListRev, vLRg, vTRg, vFldN, r1, r2, oNone, oSomeN, nLst, nList, iSeq, iRng, iEnumD, gN, gTn, gAll, setNones, fIsT, fIsC, fFldN, fAdd, fSub, fMulN, fMod, fNeg, fLt, fLe, fGt, fGe, fIs, fIsNot, fLen, fTuple, fInt, fIx2, fSl, seqI, isT, isC, D.tru, D.isNon, caught, bye, noXn, List.map_cons, List.map_nil, List.length_cons, List.length_nil, List.replicate, List.nil_append, List.cons_append, List.append_nil, List.append_assoc, List.set_cons_zero, List.set_cons_succ, List.getElem?_cons_zero, List.getElem?_cons_succ, List.lookup, Nat.reduceAdd, Nat.reduceSub, Nat.reduceEqDiff, Bool.false_eq_true, if_true, if_false, Bool.not_false, Bool.not_true, reduceIte, ite_true, ite_false, true_and, and_true, String.reduceBEq, Bool.or_false, Bool.false_or, Bool.or_true, Bool.true_or, Bool.and_true, Bool.true_and, Bool.and_false, Bool.false_and, h2]
  refine sort_loop (dv := .non) (Q := Q) xs 0 none none _ rfl ?_
  unfold sortOf at h
  cases e : xs.findIdx? (· == v) with
  | some i =>
    rw [e] at h
    show Q (.int (0 + (i : Nat)))
    rw [Int.zero_add]
    exact h
  | none =>
    rw [e] at h
    intro c1 c2
    simp only [clD, clI, env0, envI, seD, seI, sSeq, sIf, sRet, sRetN, sSkip, sSet, sSetM, sDrop, sFz, frz1, sFor, sAppN, sAug, sTry, sRaiseN, sSetFN, sBreak, sCont, sAsg, bOr, bAnd, bNot, bT, bC, bCh, bTrue, vUn, vBin, vFn, vCon, vNil, vCons, vN, vR, vTup, vLst, vIf, vAndT, vOrT, vNotT, vCallN, vMethN, vPropN, vMakeN, vLock, vLcL, vSl, vIndex, vXn, vXis, vSortSet, vListRev, vLRg, vTRg, vFldN, r1, r2, oNone, oSomeN, nLst, nList, iSeq, iRng, iEnumD, gN, gTn, gAll, setNones, fIsT, fIsC, fFldN, fAdd, fSub, fMulN, fMod, fNeg, fLt, fLe, fGt, fGe, fIs, fIsNot, fLen, fTuple, fInt, fIx2, fSl, seqI, isT, isC, D.tru, D.isNon, caught, bye, noXn, List.map_cons, List.map_nil, List.length_cons, List.length_nil, List.replicate, List.nil_append, List.cons_append, List.append_nil, List.append_assoc, List.set_cons_zero, List.set_cons_succ, List.getElem?_cons_zero, List.getElem?_cons_succ, List.lookup, Nat.reduceAdd, Nat.reduceSub, Nat.reduceEqDiff, Bool.false_eq_true, if_true, if_false, Bool.not_false, Bool.not_true, reduceIte, ite_true, ite_false, true_and, and_true, String.reduceBEq, Bool.or_false, Bool.false_or, Bool.or_true, Bool.true_or, Bool.and_true, Bool.true_and, Bool.and_false, Bool.false_and, fld_n, fld_m, in00]
    refine ⟨hm, ?_⟩
    rw [iL_len]
    exact h
theorem law_sort_ok {xs : List Int} {m v : Int} {Q : PD} {Qx : PX} (hm : 0 < m) (h : Q (.int (sortOf xs m v))) : cl_u_law_sort [.lst (iL xs), .int m, .int v] Q Qx := by
  simp only [clD, clI, env0, envI, seD, seI, sSeq, sIf, sRet, sRetN, sSkip, sSet, sSetM, sDrop, sFz, frz1, sFor, sAppN, sAug, sTry, sRaiseN, sSetFN, sBreak, sCont, sAsg, bOr, bAnd, bNot, bT, bC, bCh, bTrue, vUn, vBin, vFn, vCon, vNil, vCons, vN, vR, vTup, vLst, vIf, vAndT, vOrT, vNotT, vCallN, vMethN, vPropN, vMakeN, vLock, vLcL, vSl, vIndex, vXn, vXis, vSortSet, vListRev, vLRg, vTRg, vFldN, r1, r2, oNone, oSomeN, nLst, nList, iSeq, iRng, iEnumD, gN, gTn, gAll, setNones, fIsT, fIsC, fFldN, fAdd, fSub, fMulN, fMod, fNeg, fLt, fLe, fGt, fGe, fIs, fIsNot, fLen, fTuple, fInt, fIx2, fSl, seqI, isT, isC, D.tru, D.isNon, caught, bye, noXn, List.map_cons, List.map_nil, List.length_cons, List.length_nil, List.replicate, List.nil_append, List.cons_append, List.append_nil, List.append_assoc, List.set_cons_zero, List.set_cons_succ, List.getElem?_cons_zero, List.getElem?_cons_succ, List.lookup, Nat.reduceAdd, Nat.reduceSub, Nat.reduceEqDiff, Bool.false_eq_true, if_true, if_false, Bool.not_false, Bool.not_true, reduceIte, ite_true, ite_false, true_and, and_true, String.reduceBEq, Bool.or_false, Bool.false_or, Bool.or_true, Bool.true_or, Bool.and_true, Bool.true_and, Bool.and_false, Bool.false_and, cl_u_law_sort, sm_u_law_sort]
  refine fIn_lst ?_
  simp only [clD, clI, env0, envI, seD, seI, sSeq, sIf, sRet, sRetN, sSkip, sSet, sSetM, sDrop, sFz, frz1, sFor, sAppN, sAug, sTry, sRaiseN, sSetFN, sBreak, sCont, sAsg, bOr, bAnd, bNot, bT, bC, bCh, bTrue, vUn, vBin, vFn, vCon, vNil, vCons, vN, vR, vTup, vLst, vIf, vAndT, vOrT, vNotT, vCallN, vMethN, vPropN, vMakeN, vLock, vLcL, vSl, vIndex, vXn, vXis, vSortSet, vListRev, vLRg, vTRg, vFldN, r1, r2, oNone, oSomeN, nLst, nList, iSeq, iRng, iEnumD, gN, gTn, gAll, setNones, fIsT, fIsC, fFldN, fAdd, fSub, fMulN, fMod, fNeg, fLt, fLe, fGt, fGe, fIs, fIsNot, fLen, fTuple, fInt, fIx2, fSl, seqI, isT, isC, D.tru, D.isNon, caught, bye, noXn, List.map_cons, List.map_nil, List.length_cons, List.length_nil, List.replicate, List.nil_append, List.cons_append, List.append_nil, List.append_assoc, List.set_cons_zero, List.set_cons_succ, List.getElem?_cons_zero, List.getElem?_cons_succ, List.lookup, Nat.reduceAdd, Nat.reduceSub, Nat.reduceEqDiff, Bool.false_eq_true, if_true, if_false, Bool.not_false, Bool.not_true, reduceIte, ite_true, ite_false, true_and, and_true, String.reduceBEq, Bool.or_false, Bool.false_or, Bool.or_true, Bool.true_or, Bool.and_true, Bool.true_and, Bool.and_false, Bool.false_and]
  unfold sortOf at h
  by_cases hv : v ∈ xs
  · simp only [hv, decide_true, if_true, fIndex]
    refine ⟨ok_lst xs, rfl, ?_⟩
    rw [find_iL]
    cases e : xs.findIdx? (· == v) with
    | some i => rw [e] at h; exact h
    | none =>
      rw [List.findIdx?_eq_none_iff] at e
      have := e v hv
      simp at this
  · simp only [hv, decide_false, Bool.false_eq_true, if_false]
    have e : xs.findIdx? (· == v) = none := by
      rw [List.findIdx?_eq_none_iff]
      intro x hx
      have : x ≠ v := fun z => hv (z ▸ hx)
      simpa using this
    rw [e] at h
    rw [iL_len]
    exact ⟨hm, h⟩
end Rd
end
section
set_option Elab.async false
set_option linter.all false
set_option autoImplicit false
set_option maxRecDepth 100000
set_option maxHeartbeats 4000000
namespace Rd
open PySem Mw Rd0
/-- plain things, less than n deep -/
def plN : Nat → D → Bool
  | 0, _ => false
  | _ + 1, .non => true
  | _ + 1, .bl _ => true
  | _ + 1, .int _ => true
  | _ + 1, .str s => (D.str s).ok
  | n + 1, .tup ds => decide (ds.length ≤ 1000) && ds.all (plN n)
  | _ + 1, _ => false
theorem lc_none {cnd : SmB} {e : Sm} {env : En} {Q : List D → Prop} {i : Nat} : ∀ (ds : List D) (acc : List D), (∀ d ∈ ds, ∀ K : Bool → Prop, K false → cnd (env.set i (some (.d d))) K (fun _ => False)) → Q acc → lcD (gN i) cnd e env ds acc Q
  | [], acc, h, q => q
  | d :: r, acc, h, q => by
    unfold lcD
    show cnd (env.set i (some (.d d))) _ _
    refine h d List.mem_cons_self _ ?_
    show lcD _ _ _ _ r acc Q
    exact lc_none r acc (fun x hx => h x (List.mem_cons_of_mem _ hx)) q
theorem eqv_str (s : Str) : (D.str s).eqv (.str s) = true := by
  show PyData.eqv (.str s) (.str s) = true
  simp [PyData.eqv]
theorem rng_mem {n : Nat} {d : D} (h : d ∈ rngD 0 n) : ∃ j : Nat, j < n ∧ d = .int (j : Nat) := by
  obtain ⟨j, hj, e⟩ := List.getElem_of_mem h
  obtain ⟨h1, h2⟩ := rng_get (List.getElem?_eq_getElem hj |>.trans (by rw [e]))
  exact ⟨j, h1, h2⟩
theorem atI_of {ds : List D} {j : Nat} (h : j < ds.length) : ∃ d ∈ ds, L2.atI ds (j : Int) = some d := ⟨ds[j], List.getElem_mem h, L2.atI_nat (List.getElem?_eq_getElem h)⟩
theorem exact_refl : ∀ (n : Nat) (d : D) {Q : PD} {Qx : PX}, plN n d = true → Q (.bl true) → cl_u_law_exact n [d, d] Q Qx
  | 0, d, Q, Qx, h, q => by simp [plN] at h
  | n + 1, d, Q, Qx, h, q => by
    show clD _ (sm_u_law_exact (cl_u_law_exact n)) [d, d] Q Qx
    cases d <;> first | exact (Bool.false_ne_true h).elim | skip
    case non => simp only [clD, clI, env0, envI, seD, seI, sSeq, sIf, sRet, sRetN, sSkip, sSet, sSetM, sDrop, sFz, frz1, sFor, sAppN, sAug, sTry, sRaiseN, sSetFN, sBreak, sCont, sAsg, bOr, bAnd, bNot, bT, bC, bCh, bTrue, vUn, vBin, vFn, vCon, vNil, vCons, vN, vR, vTup, vLst, vIf, vAndT, vOrT, vNotT, vCallN, vMethN, vPropN, vMakeN, vLock, vLcL, vSl, vIndex, vXn, vXis, vSortSet, vListRev, vLRg, vTRg, vFldN, r1, r2, oNone, oSomeN, nLst, nList, iSeq, iRng, iEnumD, gN, gTn, gAll, setNones, fIsT, fIsC, fFldN, fAdd, fSub, fMulN, fMod, fNeg, fLt, fLe, fGt, fGe, fIs, fIsNot, fLen, fTuple, fInt, fIx2, fSl, seqI, isT, isC, D.tru, D.isNon, caught, bye, noXn, List.map_cons, List.map_nil, List.length_cons, List.length_nil, List.replicate, List.nil_append, List.cons_append, List.append_nil, List.append_assoc, List.set_cons_zero, List.set_cons_succ, List.getElem?_cons_zero, List.getElem?_cons_succ, List.lookup, Nat.reduceAdd, Nat.reduceSub, Nat.reduceEqDiff, Bool.false_eq_true, if_true, if_false, Bool.not_false, Bool.not_true, reduceIte, ite_true, ite_false, true_and, and_true, String.reduceBEq, Bool.or_false, Bool.false_or, Bool.or_true, Bool.true_or, Bool.and_true, Bool.true_and, Bool.and_false, Bool.false_and, sm_u_law_exact]; exact q
    case bl b => cases b <;> (simp only [clD, clI, env0, envI, seD, seI, sSeq, sIf, sRet, sRetN, sSkip, sSet, sSetM, sDrop, sFz, frz1, sFor, sAppN, sAug, sTry, sRaiseN, sSetFN, sBreak, sCont, sAsg, bOr, bAnd, bNot, bT, bC, bCh, bTrue, vUn, vBin, vFn, vCon, vNil, vCons, vN, vR, vTup, vLst, vIf, vAndT, vOrT, vNotT, vCallN, vMethN, vPropN, vMakeN, vLock, vLcL, vSl, vIndex, vXn, vXis, vSortSet, vListRev, vLRg, vTRg, vFldN, r1, r2, oNone, oSomeN, nLst, nList, iSeq, iRng, iEnumD, gN, gTn, gAll, setNones, fIsT, fIsC, fFldN, fAdd, fSub, fMulN, fMod, fNeg, fLt, fLe, fGt, fGe, fIs, fIsNot, fLen, fTuple, fInt, fIx2, fSl, seqI, isT, isC, D.tru, D.isNon, caught, bye, noXn, List.map_cons, List.map_nil, List.length_cons, List.length_nil, List.replicate, List.nil_append, List.cons_append, List.append_nil, List.append_assoc, List.set_cons_zero, List.set_cons_succ, List.getElem?_cons_zero, List.getElem?_cons_succ, List.lookup, Nat.reduceAdd, Nat.reduceSub, Nat.reduceEqDiff, Bool.false_eq_true, if_true, if_false, Bool.not_false, Bool.not_true, reduceIte, ite_true, ite_false, true_and, and_true, String.reduceBEq, Bool.or_false, Bool.false_or, Bool.or_true, Bool.true_or, Bool.and_true, Bool.true_and, Bool.and_false, Bool.false_and, sm_u_law_exact]; exact q)
    case int i =>
      simp only [clD, clI, env0, envI, seD, seI, sSeq, sIf, sRet, sRetN, sSkip, sSet, sSetM, sDrop, sFz, frz1, sFor, sAppN, sAug, sTry, sRaiseN, sSetFN, sBreak, sCont, sAsg, bOr, bAnd, bNot, bT, bC, bCh, bTrue, vUn, vBin, vFn, vCon, vNil, vCons, vN, vR, vTup, vLst, vIf, vAndT, vOrT, vNotT, vCallN, vMethN, vPropN, vMakeN, vLock, vLcL, vSl, vIndex, vXn, vXis, vSortSet, vListRev, vLRg, vTRg, vFldN, r1, r2, oNone, oSomeN, nLst, nList, iSeq, iRng, iEnumD, gN, gTn, gAll, setNones, fIsT, fIsC, fFldN, fAdd, fSub, fMulN, fMod, fNeg, fLt, fLe, fGt, fGe, fIs, fIsNot, fLen, fTuple, fInt, fIx2, fSl, seqI, isT, isC, D.tru, D.isNon, caught, bye, noXn, List.map_cons, List.map_nil, List.length_cons, List.length_nil, List.replicate, List.nil_append, List.cons_append, List.append_nil, List.append_assoc, List.set_cons_zero, List.set_cons_succ, List.getElem?_cons_zero, List.getElem?_cons_succ, List.lookup, Nat.reduceAdd, Nat.reduceSub, Nat.reduceEqDiff, Bool.false_eq_true, if_true, if_false, Bool.not_false, Bool.not_true, reduceIte, ite_true, ite_false, true_and, and_true, String.reduceBEq, Bool.or_false, Bool.false_or, Bool.or_true, Bool.true_or, Bool.and_true, Bool.true_and, Bool.and_false, Bool.false_and, sm_u_law_exact]
      refine fEq_int ?_
      simpa using q
    case str s =>
      have h : (D.str s).ok = true := h
      simp only [clD, clI, env0, envI, seD, seI, sSeq, sIf, sRet, sRetN, sSkip, sSet, sSetM, sDrop, sFz, frz1, sFor, sAppN, sAug, sTry, sRaiseN, sSetFN, sBreak, sCont, sAsg, bOr, bAnd, bNot, bT, bC, bCh, bTrue, vUn, vBin, vFn, vCon, vNil, vCons, vN, vR, vTup, vLst, vIf, vAndT, vOrT, vNotT, vCallN, vMethN, vPropN, vMakeN, vLock, vLcL, vSl, vIndex, vXn, vXis, vSortSet, vListRev, vLRg, vTRg, vFldN, r1, r2, oNone, oSomeN, nLst, nList, iSeq, iRng, iEnumD, gN, gTn, gAll, setNones, fIsT, fIsC, fFldN, fAdd, fSub, fMulN, fMod, fNeg, fLt, fLe, fGt, fGe, fIs, fIsNot, fLen, fTuple, fInt, fIx2, fSl, seqI, isT, isC, D.tru, D.isNon, caught, bye, noXn, List.map_cons, List.map_nil, List.length_cons, List.length_nil, List.replicate, List.nil_append, List.cons_append, List.append_nil, List.append_assoc, List.set_cons_zero, List.set_cons_succ, List.getElem?_cons_zero, List.getElem?_cons_succ, List.lookup, Nat.reduceAdd, Nat.reduceSub, Nat.reduceEqDiff, Bool.false_eq_true, if_true, if_false, Bool.not_false, Bool.not_true, reduceIte, ite_true, ite_false, true_and, and_true, String.reduceBEq, Bool.or_false, Bool.false_or, Bool.or_true, Bool.true_or, Bool.and_true, Bool.true_and, Bool.and_false, Bool.false_and, sm_u_law_exact]
      refine ⟨h, h, ?_⟩
      rw [eqv_str]; exact q
    case tup ds =>
      have h : (decide (ds.length ≤ 1000) && ds.all (plN n)) = true := h
      rw [Bool.and_eq_true, decide_eq_true_eq, List.all_eq_true] at h
      simp only [clD, clI, env0, envI, seD, seI, sSeq, sIf, sRet, sRetN, sSkip, sSet, sSetM, sDrop, sFz, frz1, sFor, sAppN, sAug, sTry, sRaiseN, sSetFN, sBreak, sCont, sAsg, bOr, bAnd, bNot, bT, bC, bCh, bTrue, vUn, vBin, vFn, vCon, vNil, vCons, vN, vR, vTup, vLst, vIf, vAndT, vOrT, vNotT, vCallN, vMethN, vPropN, vMakeN, vLock, vLcL, vSl, vIndex, vXn, vXis, vSortSet, vListRev, vLRg, vTRg, vFldN, r1, r2, oNone, oSomeN, nLst, nList, iSeq, iRng, iEnumD, gN, gTn, gAll, setNones, fIsT, fIsC, fFldN, fAdd, fSub, fMulN, fMod, fNeg, fLt, fLe, fGt, fGe, fIs, fIsNot, fLen, fTuple, fInt, fIx2, fSl, seqI, isT, isC, D.tru, D.isNon, caught, bye, noXn, List.map_cons, List.map_nil, List.length_cons, List.length_nil, List.replicate, List.nil_append, List.cons_append, List.append_nil, List.append_assoc, List.set_cons_zero, List.set_cons_succ, List.getElem?_cons_zero, List.getElem?_cons_succ, List.lookup, Nat.reduceAdd, Nat.reduceSub, Nat.reduceEqDiff, Bool.false_eq_true, if_true, if_false, Bool.not_false, Bool.not_true, reduceIte, ite_true, ite_false, true_and, and_true, String.reduceBEq, Bool.or_false, Bool.false_or, Bool.or_true, Bool.true_or, Bool.and_true, Bool.true_and, Bool.and_false, Bool.false_and, sm_u_law_exact, fNe]
      refine ⟨rfl, rfl, ?_⟩
      rw [eqv_int]
      simp only [beq_self_eq_true, Bool.not_true, Bool.false_eq_true, if_false]
      refine ⟨_, rfl, by omega, by omega, ?_⟩
      refine lc_none _ _ (fun x hx K hK => ?_) ?_
      · obtain ⟨j, hj, rfl⟩ := rng_mem hx
        have hj' : j < ds.length := by simpa using hj
        obtain ⟨d, hd, e⟩ := atI_of hj'
        simp only [clD, clI, env0, envI, seD, seI, sSeq, sIf, sRet, sRetN, sSkip, sSet, sSetM, sDrop, sFz, frz1, sFor, sAppN, sAug, sTry, sRaiseN, sSetFN, sBreak, sCont, sAsg, bOr, bAnd, bNot, bT, bC, bCh, bTrue, vUn, vBin, vFn, vCon, vNil, vCons, vN, vR, vTup, vLst, vIf, vAndT, vOrT, vNotT, vCallN, vMethN, vPropN, vMakeN, vLock, vLcL, vSl, vIndex, vXn, vXis, vSortSet, vListRev, vLRg, vTRg, vFldN, r1, r2, oNone, oSomeN, nLst, nList, iSeq, iRng, iEnumD, gN, gTn, gAll, setNones, fIsT, fIsC, fFldN, fAdd, fSub, fMulN, fMod, fNeg, fLt, fLe, fGt, fGe, fIs, fIsNot, fLen, fTuple, fInt, fIx2, fSl, seqI, isT, isC, D.tru, D.isNon, caught, bye, noXn, List.map_cons, List.map_nil, List.length_cons, List.length_nil, List.replicate, List.nil_append, List.cons_append, List.append_nil, List.append_assoc, List.set_cons_zero, List.set_cons_succ, List.getElem?_cons_zero, List.getElem?_cons_succ, List.lookup, Nat.reduceAdd, Nat.reduceSub, Nat.reduceEqDiff, Bool.false_eq_true, if_true, if_false, Bool.not_false, Bool.not_true, reduceIte, ite_true, ite_false, true_and, and_true, String.reduceBEq, Bool.or_false, Bool.false_or, Bool.or_true, Bool.true_or, Bool.and_true, Bool.true_and, Bool.and_false, Bool.false_and]
        refine ⟨d, e, d, e, ?_⟩
        refine exact_refl n d (h.2 d hd) ?_
        exact hK
      · refine ⟨Nat.zero_le _, ok_lst [], ok_lst [], ?_⟩
        have z := eqv_lst [] []
        have z : (D.lst []).eqv (.lst []) = true := by simpa [iL] using z
        rw [z]; exact q
/-- the same where an error is handled: no tuples there -/
def flat : D → Bool
  | .non => true
  | .bl _ => true
  | .int _ => true
  | .str s => (D.str s).ok
  | _ => false
theorem exactH_refl {d : D} {Q : PD} {Qx : PX} (h : flat d = true) (q : Q (.bl true)) : clH_u_law_exact [d, d] Q Qx := by
  cases d <;> first | exact (Bool.false_ne_true h).elim | skip
  case non => simp only [clD, clI, env0, envI, seD, seI, sSeq, sIf, sRet, sRetN, sSkip, sSet, sSetM, sDrop, sFz, frz1, sFor, sAppN, sAug, sTry, sRaiseN, sSetFN, sBreak, sCont, sAsg, bOr, bAnd, bNot, bT, bC, bCh, bTrue, vUn, vBin, vFn, vCon, vNil, vCons, vN, vR, vTup, vLst, vIf, vAndT, vOrT, vNotT, vCallN, vMethN, vPropN, vMakeN, vLock, vLcL, vSl, vIndex, vXn, vXis, vSortSet, vListRev, vLRg, vTRg, vFldN, r1, r2, oNone, oSomeN, nLst, nList, iSeq, iRng, iEnumD, gN, gTn, gAll, setNones, fIsT, fIsC, fFldN, fAdd, fSub, fMulN, fMod, fNeg, fLt, fLe, fGt, fGe, fIs, fIsNot, fLen, fTuple, fInt, fIx2, fSl, seqI, isT, isC, D.tru, D.isNon, caught, bye, noXn, List.map_cons, List.map_nil, List.length_cons, List.length_nil, List.replicate, List.nil_append, List.cons_append, List.append_nil, List.append_assoc, List.set_cons_zero, List.set_cons_succ, List.getElem?_cons_zero, List.getElem?_cons_succ, List.lookup, Nat.reduceAdd, Nat.reduceSub, Nat.reduceEqDiff, Bool.false_eq_true, if_true, if_false, Bool.not_false, Bool.not_true, reduceIte, ite_true, ite_false, true_and, and_true, String.reduceBEq, Bool.or_false, Bool.false_or, Bool.or_true, Bool.true_or, Bool.and_true, Bool.true_and, Bool.and_false, Bool.false_and, clH_u_law_exact, smH_u_law_exact]; exact q
  case bl b => cases b <;> (simp only [clD, clI, env0, envI, seD, seI, sSeq, sIf, sRet, sRetN, sSkip, sSet, sSetM, sDrop, sFz, frz1, sFor, sAppN, sAug, sTry, sRaiseN, sSetFN, sBreak, sCont, sAsg, bOr, bAnd, bNot, bT, bC, bCh, bTrue, vUn, vBin, vFn, vCon, vNil, vCons, vN, vR, vTup, vLst, vIf, vAndT, vOrT, vNotT, vCallN, vMethN, vPropN, vMakeN, vLock, vLcL, vSl, vIndex, vXn, vXis, vSortSet, vListRev, vLRg, vTRg, vFldN, r1, r2, oNone, oSomeN, nLst, nList, iSeq, iRng, iEnumD, gN, gTn, gAll, setNones, fIsT, fIsC, fFldN, fAdd, fSub, fMulN, fMod, fNeg, fLt, fLe, fGt, fGe, fIs, fIsNot, fLen, fTuple, fInt, fIx2, fSl, seqI, isT, isC, D.tru, D.isNon, caught, bye, noXn, List.map_cons, List.map_nil, List.length_cons, List.length_nil, List.replicate, List.nil_append, List.cons_append, List.append_nil, List.append_assoc, List.set_cons_zero, List.set_cons_succ, List.getElem?_cons_zero, List.getElem?_cons_succ, List.lookup, Nat.reduceAdd, Nat.reduceSub, Nat.reduceEqDiff, Bool.false_eq_true, if_true, if_false, Bool.not_false, Bool.not_true, reduceIte, ite_true, ite_false, true_and, and_true, String.reduceBEq, Bool.or_false, Bool.false_or, Bool.or_true, Bool.true_or, Bool.and_true, Bool.true_and, Bool.and_false, Bool.false_and, clH_u_law_exact, smH_u_law_exact]; exact q)
  case int i =>
    simp only [clD, clI, env0, envI, seD, seI, sSeq, sIf, sRet, sRetN, sSkip, sSet, sSetM, sDrop, sFz, frz1, sFor, sAppN, sAug, sTry, sRaiseN, sSetFN, sBreak, sCont, sAsg, bOr, bAnd, bNot, bT, bC, bCh, bTrue, vUn, vBin, vFn, vCon, vNil, vCons, vN, vR, vTup, vLst, vIf, vAndT, vOrT, vNotT, vCallN, vMethN, vPropN, vMakeN, vLock, vLcL, vSl, vIndex, vXn, vXis, vSortSet, vListRev, vLRg, vTRg, vFldN, r1, r2, oNone, oSomeN, nLst, nList, iSeq, iRng, iEnumD, gN, gTn, gAll, setNones, fIsT, fIsC, fFldN, fAdd, fSub, fMulN, fMod, fNeg, fLt, fLe, fGt, fGe, fIs, fIsNot, fLen, fTuple, fInt, fIx2, fSl, seqI, isT, isC, D.tru, D.isNon, caught, bye, noXn, List.map_cons, List.map_nil, List.length_cons, List.length_nil, List.replicate, List.nil_append, List.cons_append, List.append_nil, List.append_assoc, List.set_cons_zero, List.set_cons_succ, List.getElem?_cons_zero, List.getElem?_cons_succ, List.lookup, Nat.reduceAdd, Nat.reduceSub, Nat.reduceEqDiff, Bool.false_eq_true, if_true, if_false, Bool.not_false, Bool.not_true, reduceIte, ite_true, ite_false, true_and, and_true, String.reduceBEq, Bool.or_false, Bool.false_or, Bool.or_true, Bool.true_or, Bool.and_true, Bool.true_and, Bool.and_false, Bool.false_and, clH_u_law_exact, smH_u_law_exact]
    refine fEq_int ?_
    simpa using q
  case str s =>
    have h : (D.str s).ok = true := h
    simp only [clD, clI, env0, envI, seD, seI, sSeq, sIf, sRet, sRetN, sSkip, sSet, sSetM, sDrop, sFz, frz1, sFor, sAppN, sAug, sTry, sRaiseN, sSetFN, sBreak, sCont, sAsg, bOr, bAnd, bNot, bT, bC, bCh, bTrue, vUn, vBin, vFn, vCon, vNil, vCons, vN, vR, vTup, vLst, vIf, vAndT, vOrT, vNotT, vCallN, vMethN, vPropN, vMakeN, vLock, vLcL, vSl, vIndex, vXn, vXis, vSortSet, vListRev, vLRg, vTRg, vFldN, r1, r2, oNone, oSomeN, nLst, nList, iSeq, iRng, iEnumD, gN, gTn, gAll, setNones, fIsT, fIsC, fFldN, fAdd, fSub, fMulN, fMod, fNeg, fLt, fLe, fGt, fGe, fIs, fIsNot, fLen, fTuple, fInt, fIx2, fSl, seqI, isT, isC, D.tru, D.isNon, caught, bye, noXn, List.map_cons, List.map_nil, List.length_cons, List.length_nil, List.replicate, List.nil_append, List.cons_append, List.append_nil, List.append_assoc, List.set_cons_zero, List.set_cons_succ, List.getElem?_cons_zero, List.getElem?_cons_succ, List.lookup, Nat.reduceAdd, Nat.reduceSub, Nat.reduceEqDiff, Bool.false_eq_true, if_true, if_false, Bool.not_false, Bool.not_true, reduceIte, ite_true, ite_false, true_and, and_true, String.reduceBEq, Bool.or_false, Bool.false_or, Bool.or_true, Bool.true_or, Bool.and_true, Bool.true_and, Bool.and_false, Bool.false_and, clH_u_law_exact, smH_u_law_exact]
    refine ⟨h, h, ?_⟩
    rw [eqv_str]; exact q
/-! ### values by sort and number -/
def walkV (xs av : List Int) (m : Int) : Nat → Int → Int → Option Int
  | 0, _, _ => none
  | k + 1, v, l => if v ∉ xs ∧ v ∉ av then (if l = 0 then some v else walkV xs av m k (v + m) (l - 1)) else walkV xs av m k (v + m) l
def Sq (a : D) (av : List Int) : Prop := a = .lst (iL av) ∨ a = .tup (iL av)
theorem fNotIn_sq {a : D} {av : List Int} {v : Int} {Q : PD} (ha : Sq a av) (h : Q (.bl (!decide (v ∈ av)))) : fNotIn2 (.int v) a Q := by
  rcases ha with rfl | rfl
  · exact fNotIn_lst h
  · exact fNotIn_tup h
theorem fIn_sq {a : D} {av : List Int} {v : Int} {Q : PD} (ha : Sq a av) (h : Q (.bl (decide (v ∈ av)))) : fIn (.int v) a Q := by
  rcases ha with rfl | rfl
  · exact fIn_lst h
  · exact fIn_tup h
theorem value_of_bad {ds : List D} {m : Int} {d a b : D} {Q : PD} {Qx : PX} (h1 : whole 0 (ds.length + m - 1) d = false) (h : Qx ⟨112, [("number", d)]⟩) : cl_Sorts_value_of [dS ds (.int m), d, a, b] Q Qx := by
  simp only [clD, clI, env0, envI, seD, seI, sSeq, sIf, sRet, sRetN, sSkip, sSet, sSetM, sDrop, sFz, frz1, sFor, sAppN, sAug, sTry, sRaiseN, sSetFN, sBreak, sCont, sAsg, bOr, bAnd, bNot, bT, bC, bCh, bTrue, vUn, vBin, vFn, vCon, vNil, vCons, vN, vR, vTup, vLst, vIf, vAndT, vOrT, vNotT, vCallN, vMethN, vPropN, vMakeN, vLock, vLcL, vSl, vIndex, vXn, vXis, vSortSet, vListRev, vLRg, vTRg, vFldN, r1, r2, oNone, oSomeN, nLst, nList, iSeq, iRng, iEnumD, gN, gTn, gAll, setNones, fIsT, fIsC, fFldN, fAdd, fSub, fMulN, fMod, fNeg, fLt, fLe, fGt, fGe, fIs, fIsNot, fLen, fTuple, fInt, fIx2, fSl, seqI, isT, isC, D.tru, D.isNon, caught, bye, noXn, List.map_cons, List.map_nil, List.length_cons, List.length_nil, List.replicate, List.nil_append, List.cons_append, List.append_nil, List.append_assoc, List.set_cons_zero, List.set_cons_succ, List.getElem?_cons_zero, List.getElem?_cons_succ, List.lookup, Nat.reduceAdd, Nat.reduceSub, Nat.reduceEqDiff, Bool.false_eq_true, if_true, if_false, Bool.not_false, Bool.not_true, reduceIte, ite_true, ite_false, true_and, and_true, String.reduceBEq, Bool.or_false, Bool.false_or, Bool.or_true, Bool.true_or, Bool.and_true, Bool.true_and, Bool.and_false, Bool.false_and, cl_Sorts_value_of, sm_Sorts_value_of, dS]
  refine many_ok ?_
  simp only [clD, clI, env0, envI, seD, seI, sSeq, sIf, sRet, sRetN, sSkip, sSet, sSetM, sDrop, sFz, frz1, sFor, sAppN, sAug, sTry, sRaiseN, sSetFN, sBreak, sCont, sAsg, bOr, bAnd, bNot, bT, bC, bCh, bTrue, vUn, vBin, vFn, vCon, vNil, vCons, vN, vR, vTup, vLst, vIf, vAndT, vOrT, vNotT, vCallN, vMethN, vPropN, vMakeN, vLock, vLcL, vSl, vIndex, vXn, vXis, vSortSet, vListRev, vLRg, vTRg, vFldN, r1, r2, oNone, oSomeN, nLst, nList, iSeq, iRng, iEnumD, gN, gTn, gAll, setNones, fIsT, fIsC, fFldN, fAdd, fSub, fMulN, fMod, fNeg, fLt, fLe, fGt, fGe, fIs, fIsNot, fLen, fTuple, fInt, fIx2, fSl, seqI, isT, isC, D.tru, D.isNon, caught, bye, noXn, List.map_cons, List.map_nil, List.length_cons, List.length_nil, List.replicate, List.nil_append, List.cons_append, List.append_nil, List.append_assoc, List.set_cons_zero, List.set_cons_succ, List.getElem?_cons_zero, List.getElem?_cons_succ, List.lookup, Nat.reduceAdd, Nat.reduceSub, Nat.reduceEqDiff, Bool.false_eq_true, if_true, if_false, Bool.not_false, Bool.not_true, reduceIte, ite_true, ite_false, true_and, and_true, String.reduceBEq, Bool.or_false, Bool.false_or, Bool.or_true, Bool.true_or, Bool.and_true, Bool.true_and, Bool.and_false, Bool.false_and]
  refine is_whole_ok ?_
  simp only [clD, clI, env0, envI, seD, seI, sSeq, sIf, sRet, sRetN, sSkip, sSet, sSetM, sDrop, sFz, frz1, sFor, sAppN, sAug, sTry, sRaiseN, sSetFN, sBreak, sCont, sAsg, bOr, bAnd, bNot, bT, bC, bCh, bTrue, vUn, vBin, vFn, vCon, vNil, vCons, vN, vR, vTup, vLst, vIf, vAndT, vOrT, vNotT, vCallN, vMethN, vPropN, vMakeN, vLock, vLcL, vSl, vIndex, vXn, vXis, vSortSet, vListRev, vLRg, vTRg, vFldN, r1, r2, oNone, oSomeN, nLst, nList, iSeq, iRng, iEnumD, gN, gTn, gAll, setNones, fIsT, fIsC, fFldN, fAdd, fSub, fMulN, fMod, fNeg, fLt, fLe, fGt, fGe, fIs, fIsNot, fLen, fTuple, fInt, fIx2, fSl, seqI, isT, isC, D.tru, D.isNon, caught, bye, noXn, List.map_cons, List.map_nil, List.length_cons, List.length_nil, List.replicate, List.nil_append, List.cons_append, List.append_nil, List.append_assoc, List.set_cons_zero, List.set_cons_succ, List.getElem?_cons_zero, List.getElem?_cons_succ, List.lookup, Nat.reduceAdd, Nat.reduceSub, Nat.reduceEqDiff, Bool.false_eq_true, if_true, if_false, Bool.not_false, Bool.not_true, reduceIte, ite_true, ite_false, true_and, and_true, String.reduceBEq, Bool.or_false, Bool.false_or, Bool.or_true, Bool.true_or, Bool.and_true, Bool.true_and, Bool.and_false, Bool.false_and, h1]
  exact h
theorem value_of_low {xs av : List Int} {m n x : Int} {s : Nat} {a : D} {Q : PD} {Qx : PX} (hm : 0 < m) (ha : Sq a av) (hx : xs[s]? = some x) (h : Q (if 0 < n ∨ x ∈ av then .non else .int x)) : cl_Sorts_value_of [dS (iL xs) (.int m), .int (s : Nat), .int n, a] Q Qx := by
  have hs : s < xs.length := (List.getElem?_eq_some_iff.mp hx).1
  have hx' : L2.atI (iL xs) (s : Int) = some (.int x) := L2.atI_nat (by simp [iL, hx])
  simp only [clD, clI, env0, envI, seD, seI, sSeq, sIf, sRet, sRetN, sSkip, sSet, sSetM, sDrop, sFz, frz1, sFor, sAppN, sAug, sTry, sRaiseN, sSetFN, sBreak, sCont, sAsg, bOr, bAnd, bNot, bT, bC, bCh, bTrue, vUn, vBin, vFn, vCon, vNil, vCons, vN, vR, vTup, vLst, vIf, vAndT, vOrT, vNotT, vCallN, vMethN, vPropN, vMakeN, vLock, vLcL, vSl, vIndex, vXn, vXis, vSortSet, vListRev, vLRg, vTRg, vFldN, r1, r2, oNone, oSomeN, nLst, nList, iSeq, iRng, iEnumD, gN, gTn, gAll, setNones, fIsT, fIsC, fFldN, fAdd, fSub, fMulN, fMod, fNeg, fLt, fLe, fGt, fGe, fIs, fIsNot, fLen, fTuple, fInt, fIx2, fSl, seqI, isT, isC, D.tru, D.isNon, caught, bye, noXn, List.map_cons, List.map_nil, List.length_cons, List.length_nil, List.replicate, List.nil_append, List.cons_append, List.append_nil, List.append_assoc, List.set_cons_zero, List.set_cons_succ, List.getElem?_cons_zero, List.getElem?_cons_succ, List.lookup, Nat.reduceAdd, Nat.reduceSub, Nat.reduceEqDiff, Bool.false_eq_true, if_true, if_false, Bool.not_false, Bool.not_true, reduceIte, ite_true, ite_false, true_and, and_true, String.reduceBEq, Bool.or_false, Bool.false_or, Bool.or_true, Bool.true_or, Bool.and_true, Bool.true_and, Bool.and_false, Bool.false_and, cl_Sorts_value_of, sm_Sorts_value_of, dS]
  refine many_ok ?_
  simp only [clD, clI, env0, envI, seD, seI, sSeq, sIf, sRet, sRetN, sSkip, sSet, sSetM, sDrop, sFz, frz1, sFor, sAppN, sAug, sTry, sRaiseN, sSetFN, sBreak, sCont, sAsg, bOr, bAnd, bNot, bT, bC, bCh, bTrue, vUn, vBin, vFn, vCon, vNil, vCons, vN, vR, vTup, vLst, vIf, vAndT, vOrT, vNotT, vCallN, vMethN, vPropN, vMakeN, vLock, vLcL, vSl, vIndex, vXn, vXis, vSortSet, vListRev, vLRg, vTRg, vFldN, r1, r2, oNone, oSomeN, nLst, nList, iSeq, iRng, iEnumD, gN, gTn, gAll, setNones, fIsT, fIsC, fFldN, fAdd, fSub, fMulN, fMod, fNeg, fLt, fLe, fGt, fGe, fIs, fIsNot, fLen, fTuple, fInt, fIx2, fSl, seqI, isT, isC, D.tru, D.isNon, caught, bye, noXn, List.map_cons, List.map_nil, List.length_cons, List.length_nil, List.replicate, List.nil_append, List.cons_append, List.append_nil, List.append_assoc, List.set_cons_zero, List.set_cons_succ, List.getElem?_cons_zero, List.getElem?_cons_succ, List.lookup, Nat.reduceAdd, Nat.reduceSub, Nat.reduceEqDiff, Bool.false_eq_true, if_true, if_false, Bool.not_false, Bool.not_true, reduceIte, ite_true, ite_false, true_and, and_true, String.reduceBEq, Bool.or_false, Bool.false_or, Bool.or_true, Bool.true_or, Bool.and_true, Bool.true_and, Bool.and_false, Bool.false_and]
  refine is_whole_ok ?_
  have h1 : whole 0 (((iL xs).length : Int) + m - 1) (.int (s : Nat)) = true := by simp [whole, iL_len]; omega
  have h2 : decide ((s : Int) < ((iL xs).length : Int)) = true := by simp [iL_len]; omega
  simp only [clD, clI, env0, envI, seD, seI, sSeq, sIf, sRet, sRetN, sSkip, sSet, sSetM, sDrop, sFz, frz1, sFor, sAppN, sAug, sTry, sRaiseN, sSetFN, sBreak, sCont, sAsg, bOr, bAnd, bNot, bT, bC, bCh, bTrue, vUn, vBin, vFn, vCon, vNil, vCons, vN, vR, vTup, vLst, vIf, vAndT, vOrT, vNotT, vCallN, vMethN, vPropN, vMakeN, vLock, vLcL, vSl, vIndex, vXn, vXis, vSortSet, vListRev, vLRg, vTRg, vFldN, r1, r2, oNone, oSomeN, nLst, nList, iSeq, iRng, iEnumD, gN, gTn, gAll, setNones, fIsT, fIsC, fFldN, fAdd, fSub, fMulN, fMod, fNeg, fLt, fLe, fGt, fGe, fIs, fIsNot, fLen, fTuple, fInt, fIx2, fSl, seqI, isT, isC, D.tru, D.isNon, caught, bye, noXn, List.map_cons, List.map_nil, List.length_cons, List.length_nil, List.replicate, List.nil_append, List.cons_append, List.append_nil, List.append_assoc, List.set_cons_zero, List.set_cons_succ, List.getElem?_cons_zero, List.getElem?_cons_succ, List.lookup, Nat.reduceAdd, Nat.reduceSub, Nat.reduceEqDiff, Bool.false_eq_true, if_true, if_false, Bool.not_false, Bool.not_true, reduceIte, ite_true, ite_false, true_and, and_true, String.reduceBEq, Bool.or_false, Bool.false_or, Bool.or_true, Bool.true_or, Bool.and_true, Bool.true_and, Bool.and_false, Bool.false_and, h1, h2, fld_n, fld_m, in00]
  by_cases hn : 0 < n
  · simp only [hn, true_or, if_true] at h
    simp only [hn, decide_true, if_true]
    exact h
  · simp only [hn, false_or] at h
    simp only [hn, decide_false, Bool.false_eq_true, if_false]
    refine ⟨_, hx', fIn_sq ha ?_⟩
    by_cases hv : x ∈ av
    · simp only [hv, if_true] at h
      simp only [hv, decide_true, if_true]
      exact h
    · simp only [hv, if_false] at h
      simp only [hv, decide_false, Bool.false_eq_true, if_false]
      exact ⟨_, hx', h⟩
theorem value_of_high {xs av : List Int} {m n s r : Int} {k : Nat} {a : D} {Q : PD} {Qx : PX} (hm : 0 < m) (ha : Sq a av) (h0 : (xs.length : Int) ≤ s) (h1 : s ≤ xs.length + m - 1) (hw : walkV xs av m k (s - xs.length) n = some r) (h : Q (.int r)) : cl_Sorts_value_of [dS (iL xs) (.int m), .int s, .int n, a] Q Qx := by
  simp only [clD, clI, env0, envI, seD, seI, sSeq, sIf, sRet, sRetN, sSkip, sSet, sSetM, sDrop, sFz, frz1, sFor, sAppN, sAug, sTry, sRaiseN, sSetFN, sBreak, sCont, sAsg, bOr, bAnd, bNot, bT, bC, bCh, bTrue, vUn, vBin, vFn, vCon, vNil, vCons, vN, vR, vTup, vLst, vIf, vAndT, vOrT, vNotT, vCallN, vMethN, vPropN, vMakeN, vLock, vLcL, vSl, vIndex, vXn, vXis, vSortSet, vListRev, vLRg, vTRg, vFldN, r1, r2, oNone, oSomeN, nLst, nList, iSeq, iRng, iEnumD, gN, gTn, gAll, setNones, fIsT, fIsC, fFldN, fAdd, fSub, fMulN, fMod, fNeg, fLt, fLe, fGt, fGe, fIs, fIsNot, fLen, fTuple, fInt, fIx2, fSl, seqI, isT, isC, D.tru, D.isNon, caught, bye, noXn, List.map_cons, List.map_nil, List.length_cons, List.length_nil, List.replicate, List.nil_append, List.cons_append, List.append_nil, List.append_assoc, List.set_cons_zero, List.set_cons_succ, List.getElem?_cons_zero, List.getElem?_cons_succ, List.lookup, Nat.reduceAdd, Nat.reduceSub, Nat.reduceEqDiff, Bool.false_eq_true, if_true, if_false, Bool.not_false, Bool.not_true, reduceIte, ite_true, ite_false, true_and, and_true, String.reduceBEq, Bool.or_false, Bool.false_or, Bool.or_true, Bool.true_or, Bool.and_true, Bool.true_and, Bool.and_false, Bool.false_and, cl_Sorts_value_of, sm_Sorts_value_of, dS]
  refine many_ok ?_
  simp only [clD, clI, env0, envI, seD, seI, sSeq, sIf, sRet, sRetN, sSkip, sSet, sSetM, sDrop, sFz, frz1, sFor, sAppN, sAug, sTry, sRaiseN, sSetFN, sBreak, sCont, sAsg, bOr, bAnd, bNot, bT, bC, bCh, bTrue, vUn, vBin, vFn, vCon, vNil, vCons, vN, vR, vTup, vLst, vIf, vAndT, vOrT, vNotT, vCallN, vMethN, vPropN, vMakeN, vLock, vLcL, vSl, vIndex, vXn, vXis, vSortSet, vListRev, vLRg, vTRg, vFldN, r1, r2, oNone, oSomeN, nLst, nList, iSeq, iRng, iEnumD, gN, gTn, gAll, setNones, fIsT, fIsC, fFldN, fAdd, fSub, fMulN, fMod, fNeg, fLt, fLe, fGt, fGe, fIs, fIsNot, fLen, fTuple, fInt, fIx2, fSl, seqI, isT, isC, D.tru, D.isNon, caught, bye, noXn, List.map_cons, List.map_nil, List.length_cons, List.length_nil, List.replicate, List.nil_append, List.cons_append, List.append_nil, List.append_assoc, List.set_cons_zero, List.set_cons_succ, List.getElem?_cons_zero, List.getElem?_cons_succ, List.lookup, Nat.reduceAdd, Nat.reduceSub, Nat.reduceEqDiff, Bool.false_eq_true, if_true, if_false, Bool.not_false, Bool.not_true, reduceIte, ite_true, ite_false, true_and, and_true, String.reduceBEq, Bool.or_false, Bool.false_or, Bool.or_true, Bool.true_or, Bool.and_true, Bool.true_and, Bool.and_false, Bool.false_and]
  refine is_whole_ok ?_
  have h1 : whole 0 (((iL xs).length : Int) + m - 1) (.int s) = true := by simp [whole, iL_len]; omega
  have h2 : decide (s < ((iL xs).length : Int)) = false := by simp [iL_len]; omega
  simp only [clD, clI, env0, envI, seD, seI, sSeq, sIf, sRet, sRetN, sSkip, sSet, sSetM, sDrop, sFz, frz1, sFor, sAppN, sAug, sTry, sRaiseN, sSetFN, sBreak, sCont, sAsg, bOr, bAnd, bNot, bT, bC, bCh, bTrue, vUn, vBin, vFn, vCon, vNil, vCons, vN, vR, vTup, vLst, vIf, vAndT, vOrT, vNotT, vCallN, vMethN, vPropN, vMakeN, vLock, vLcL, vSl, vIndex, vXn, vXis, vSortSet, vListRev, vLRg, vTRg, vFldN, r1, r2, oNone, oSomeN, nLst, nList, iSeq, iRng, iEnumD, gN, gTn, gAll, setNones, fIsT, fIsC, fFldN, fAdd, fSub, fMulN, fMod, fNeg, fLt, fLe, fGt, fGe, fIs, fIsNot, fLen, fTuple, fInt, fIx2, fSl, seqI, isT, isC, D.tru, D.isNon, caught, bye, noXn, List.map_cons, List.map_nil, List.length_cons, List.length_nil, List.replicate, List.nil_append, List.cons_append, List.append_nil, List.append_assoc, List.set_cons_zero, List.set_cons_succ, List.getElem?_cons_zero, List.getElem?_cons_succ, List.lookup, Nat.reduceAdd, Nat.reduceSub, Nat.reduceEqDiff, Bool.false_eq_true, if_true, if_false, Bool.not_false, Bool.not_true, reduceIte, ite_true, ite_false, true_and, and_true, String.reduceBEq, Bool.or_false, Bool.false_or, Bool.or_true, Bool.true_or, Bool.and_true, Bool.true_and, Bool.and_false, Bool.false_and, h1, h2, fld_n, fld_m, in00, sWh]
  rw [iL_len]
  refine ⟨fun k env => ∃ v l, env = [some (.d (dS (iL xs) (.int m))), some (.d (.int s)), some (.d (.int n)), some (.d a), some (.d (.int v)), some (.d (.int l))] ∧ walkV xs av m k v l = some r, ⟨k, _, _, rfl, hw⟩, ?_⟩
  rintro k env ⟨v, l, rfl, hk⟩
  simp only [clD, clI, env0, envI, seD, seI, sSeq, sIf, sRet, sRetN, sSkip, sSet, sSetM, sDrop, sFz, frz1, sFor, sAppN, sAug, sTry, sRaiseN, sSetFN, sBreak, sCont, sAsg, bOr, bAnd, bNot, bT, bC, bCh, bTrue, vUn, vBin, vFn, vCon, vNil, vCons, vN, vR, vTup, vLst, vIf, vAndT, vOrT, vNotT, vCallN, vMethN, vPropN, vMakeN, vLock, vLcL, vSl, vIndex, vXn, vXis, vSortSet, vListRev, vLRg, vTRg, vFldN, r1, r2, oNone, oSomeN, nLst, nList, iSeq, iRng, iEnumD, gN, gTn, gAll, setNones, fIsT, fIsC, fFldN, fAdd, fSub, fMulN, fMod, fNeg, fLt, fLe, fGt, fGe, fIs, fIsNot, fLen, fTuple, fInt, fIx2, fSl, seqI, isT, isC, D.tru, D.isNon, caught, bye, noXn, List.map_cons, List.map_nil, List.length_cons, List.length_nil, List.replicate, List.nil_append, List.cons_append, List.append_nil, List.append_assoc, List.set_cons_zero, List.set_cons_succ, List.getElem?_cons_zero, List.getElem?_cons_succ, List.lookup, Nat.reduceAdd, Nat.reduceSub, Nat.reduceEqDiff, Bool.false_eq_true, if_true, if_false, Bool.not_false, Bool.not_true, reduceIte, ite_true, ite_false, true_and, and_true, String.reduceBEq, Bool.or_false, Bool.false_or, Bool.or_true, Bool.true_or, Bool.and_true, Bool.true_and, Bool.and_false, Bool.false_and, dS, fld_n, fld_m, in00]
  cases k with
  | zero => simp [walkV] at hk
  | succ k =>
    unfold walkV at hk
    refine fNotIn_tup ?_
    by_cases hv : v ∈ xs
    · simp only [hv, not_true_eq_false, false_and, if_false] at hk
      simp only [hv, decide_true, Bool.not_true, Bool.false_eq_true, if_false]
      exact ⟨k, Nat.lt_succ_self k, _, _, rfl, hk⟩
    · simp only [hv, decide_false, Bool.not_false, if_true]
      refine fNotIn_sq ha ?_
      by_cases hv2 : v ∈ av
      · simp only [hv2, not_true_eq_false, and_false, if_false] at hk
        simp only [hv2, decide_true, Bool.not_true, Bool.false_eq_true, if_false]
        exact ⟨k, Nat.lt_succ_self k, _, _, rfl, hk⟩
      · simp only [hv, hv2, not_false_eq_true, and_self, if_true] at hk
        simp only [hv2, decide_false, Bool.not_false, if_true]
        refine fEq_int ?_
        by_cases hl : l = 0
        · simp only [hl, if_true] at hk
          cases hk
          simp only [hl, decide_true, if_true]
          exact h
        · simp only [hl, if_false] at hk
          simp only [hl, decide_false, Bool.false_eq_true, if_false]
          exact ⟨k, Nat.lt_succ_self k, _, _, rfl, hk⟩
end Rd
end
section
set_option Elab.async false
set_option linter.all false
set_option autoImplicit false
set_option maxRecDepth 100000
set_option maxHeartbeats 4000000
namespace Rd
open PySem Mw Rd0
theorem due_loop {xs av : List Int} {m s n : Int} {Q : PD} : ∀ (ds : List D) (v l : Int) (c : Option L) (E : SE), E.rt = Q →
    (match walkV xs av m ds.length v l with
      | some r => Q (.int r)
      | none => ∀ env, E.nx env) →
    forD (gN 7) (sSeq (sIf (bAnd (bC fNotIn2 (vR 5) (vR 0)) (bC fNotIn2 (vR 5) (vR 4))) (sSeq (sIf (bC fEq (vR 6) (vCon (.int 0))) (sRet (vN 5)) sSkip) (sSet 6 (vBin fSub (vR 6) (vCon (.int 1))))) sSkip) (sSet 5 (vBin fAdd (vR 5) (vR 1)))) ds
      [some (.d (.lst (iL xs))), some (.d (.int m)), some (.d (.int s)), some (.d (.int n)), some (.d (.lst (iL av))), some (.d (.int v)), some (.d (.int l)), c] E
  | [], v, l, c, E, e1, h => by
    unfold forD
    exact h _
  | d :: r, v, l, c, E, e1, h => by
    unfold forD
    simp only [clD, clI, env0, envI, seD, seI, sSeq, sIf, sRet, sRetN, sSkip, sSet, sSetM, sDrop, sFz, frz1, sFor, sAppN, sAug, sTry, sRaiseN, sSetFN, sBreak, sCont, sAsg, bOr, bAnd, bNot, bT, bC, bCh, bTrue, vUn, vBin, vFn, vCon, vNil, vCons, vN, vR, vTup, vLst, vIf, vAndT, vOrT, vNotT, vCallN, vMethN, vPropN, vMakeN, vLock, vLcL, vSl, vIndex, vXn, vXis, vSortSet, vListRev, vLRg, vTRg, vFldN, r1, r2, oNone, oSomeN, nLst, nList, iSeq, iRng, iEnumD, gN, gTn, gAll, setNones, fIsT, fIsC, fFldN, fAdd, fSub, fMulN, fMod, fNeg, fLt, fLe, fGt, fGe, fIs, fIsNot, fLen, fTuple, fInt, fIx2, fSl, seqI, isT, isC, D.tru, D.isNon, caught, bye, noXn, List.map_cons, List.map_nil, List.length_cons, List.length_nil, List.replicate, List.nil_append, List.cons_append, List.append_nil, List.append_assoc, List.set_cons_zero, List.set_cons_succ, List.getElem?_cons_zero, List.getElem?_cons_succ, List.lookup, Nat.reduceAdd, Nat.reduceSub, Nat.reduceEqDiff, Bool.false_eq_true, if_true, if_false, Bool.not_false, Bool.not_true, reduceIte, ite_true, ite_false, true_and, and_true, String.reduceBEq, Bool.or_false, Bool.false_or, Bool.or_true, Bool.true_or, Bool.and_true, Bool.true_and, Bool.and_false, Bool.false_and]
    have h : match walkV xs av m (r.length + 1) v l with
      | some r => Q (.int r)
      | none => ∀ env, E.nx env := h
    unfold walkV at h
    refine fNotIn_lst ?_
    by_cases hv : v ∈ xs
    · simp only [hv, not_true_eq_false, false_and, if_false] at h
      simp only [hv, decide_true, Bool.not_true, Bool.false_eq_true, if_false]
      exact due_loop r (v + m) l _ E e1 h
    · simp only [hv, decide_false, Bool.not_false, if_true]
      refine fNotIn_lst ?_
      by_cases hv2 : v ∈ av
      · simp only [hv2, not_true_eq_false, and_false, if_false] at h
        simp only [hv2, decide_true, Bool.not_true, Bool.false_eq_true, if_false]
        exact due_loop r (v + m) l _ E e1 h
      · simp only [hv, hv2, not_false_eq_true, and_self, if_true] at h
        simp only [hv2, decide_false, Bool.not_false, if_true]
        refine fEq_int ?_
        by_cases hl : l = 0
        · simp only [hl, if_true] at h
          simp only [hl, decide_true, if_true, e1]
          exact h
        · simp only [hl, if_false] at h
          simp only [hl, decide_false, Bool.false_eq_true, if_false]
          exact due_loop r (v + m) (l - 1) _ E e1 h
theorem rngD_len (n : Nat) : (rngD 0 n).length = n := by simp [rngD]
theorem due_low {xs av : List Int} {m n x : Int} {s : Nat} {Q : PD} {Qx : PX} (hx : xs[s]? = some x) (h : Q (if n = 0 ∧ x ∉ av then .int x else .non)) : cl_u_law_due_value [.lst (iL xs), .int m, .int (s : Nat), .int n, .lst (iL av)] Q Qx := by
  have hs : s < xs.length := (List.getElem?_eq_some_iff.mp hx).1
  have hx' : L2.atI (iL xs) (s : Int) = some (.int x) := L2.atI_nat (by simp [iL, hx])
  simp only [clD, clI, env0, envI, seD, seI, sSeq, sIf, sRet, sRetN, sSkip, sSet, sSetM, sDrop, sFz, frz1, sFor, sAppN, sAug, sTry, sRaiseN, sSetFN, sBreak, sCont, sAsg, bOr, bAnd, bNot, bT, bC, bCh, bTrue, vUn, vBin, vFn, vCon, vNil, vCons, vN, vR, vTup, vLst, vIf, vAndT, vOrT, vNotT, vCallN, vMethN, vPropN, vMakeN, vLock, vLcL, vSl, vIndex, vXn, vXis, vSortSet, vListRev, vLRg, vTRg, vFldN, r1, r2, oNone, oSomeN, nLst, nList, iSeq, iRng, iEnumD, gN, gTn, gAll, setNones, fIsT, fIsC, fFldN, fAdd, fSub, fMulN, fMod, fNeg, fLt, fLe, fGt, fGe, fIs, fIsNot, fLen, fTuple, fInt, fIx2, fSl, seqI, isT, isC, D.tru, D.isNon, caught, bye, noXn, List.map_cons, List.map_nil, List.length_cons, List.length_nil, List.replicate, List.nil_append, List.cons_append, List.append_nil, List.append_assoc, List.set_cons_zero, List.set_cons_succ, List.getElem?_cons_zero, List.getElem?_cons_succ, List.lookup, Nat.reduceAdd, Nat.reduceSub, Nat.reduceEqDiff, Bool.false_eq_true, if_true, if_false, Bool.not_false, Bool.not_true, reduceIte, ite_true, ite_false, true_and, and_true, String.reduceBEq, Bool.or_false, Bool.false_or, Bool.or_true, Bool.true_or, Bool.and_true, Bool.true_and, Bool.and_false, Bool.false_and, cl_u_law_due_value, sm_u_law_due_value]
  have h2 : decide ((s : Int) < ((iL xs).length : Int)) = true := by simp [iL_len]; omega
  simp only [clD, clI, env0, envI, seD, seI, sSeq, sIf, sRet, sRetN, sSkip, sSet, sSetM, sDrop, sFz, frz1, sFor, sAppN, sAug, sTry, sRaiseN, sSetFN, sBreak, sCont, sAsg, bOr, bAnd, bNot, bT, bC, bCh, bTrue, vUn, vBin, vFn, vCon, vNil, vCons, vN, vR, vTup, vLst, vIf, vAndT, vOrT, vNotT, vCallN, vMethN, vPropN, vMakeN, vLock, vLcL, vSl, vIndex, vXn, vXis, vSortSet, vListRev, vLRg, vTRg, vFldN, r1, r2, oNone, oSomeN, nLst, nList, iSeq, iRng, iEnumD, gN, gTn, gAll, setNones, fIsT, fIsC, fFldN, fAdd, fSub, fMulN, fMod, fNeg, fLt, fLe, fGt, fGe, fIs, fIsNot, fLen, fTuple, fInt, fIx2, fSl, seqI, isT, isC, D.tru, D.isNon, caught, bye, noXn, List.map_cons, List.map_nil, List.length_cons, List.length_nil, List.replicate, List.nil_append, List.cons_append, List.append_nil, List.append_assoc, List.set_cons_zero, List.set_cons_succ, List.getElem?_cons_zero, List.getElem?_cons_succ, List.lookup, Nat.reduceAdd, Nat.reduceSub, Nat.reduceEqDiff, Bool.false_eq_true, if_true, if_false, Bool.not_false, Bool.not_true, reduceIte, ite_true, ite_false, true_and, and_true, String.reduceBEq, Bool.or_false, Bool.false_or, Bool.or_true, Bool.true_or, Bool.and_true, Bool.true_and, Bool.and_false, Bool.false_and, h2]
  refine fEq_int ?_
  by_cases hn : n = 0
  · simp only [hn, true_and] at h
    simp only [hn, decide_true, if_true]
    refine ⟨_, hx', fNotIn_lst ?_⟩
    by_cases hv : x ∈ av
    · simp only [hv, not_true_eq_false, if_false] at h
      simp only [hv, decide_true, Bool.not_true, Bool.false_eq_true, if_false]
      exact h
    · simp only [hv, not_false_eq_true, if_true] at h
      simp only [hv, decide_false, Bool.not_false, if_true]
      exact ⟨_, hx', h⟩
  · simp only [hn, false_and, if_false] at h
    simp only [hn, decide_false, Bool.false_eq_true, if_false]
    exact h
theorem due_high {xs av : List Int} {m n s r : Int} {Q : PD} {Qx : PX} (h0 : (xs.length : Int) ≤ s) (hw : walkV xs av m 140 (s - xs.length) n = some r) (h : Q (.int r)) : cl_u_law_due_value [.lst (iL xs), .int m, .int s, .int n, .lst (iL av)] Q Qx := by
  simp only [clD, clI, env0, envI, seD, seI, sSeq, sIf, sRet, sRetN, sSkip, sSet, sSetM, sDrop, sFz, frz1, sFor, sAppN, sAug, sTry, sRaiseN, sSetFN, sBreak, sCont, sAsg, bOr, bAnd, bNot, bT, bC, bCh, bTrue, vUn, vBin, vFn, vCon, vNil, vCons, vN, vR, vTup, vLst, vIf, vAndT, vOrT, vNotT, vCallN, vMethN, vPropN, vMakeN, vLock, vLcL, vSl, vIndex, vXn, vXis, vSortSet, vListRev, vLRg, vTRg, vFldN, r1, r2, oNone, oSomeN, nLst, nList, iSeq, iRng, iEnumD, gN, gTn, gAll, setNones, fIsT, fIsC, fFldN, fAdd, fSub, fMulN, fMod, fNeg, fLt, fLe, fGt, fGe, fIs, fIsNot, fLen, fTuple, fInt, fIx2, fSl, seqI, isT, isC, D.tru, D.isNon, caught, bye, noXn, List.map_cons, List.map_nil, List.length_cons, List.length_nil, List.replicate, List.nil_append, List.cons_append, List.append_nil, List.append_assoc, List.set_cons_zero, List.set_cons_succ, List.getElem?_cons_zero, List.getElem?_cons_succ, List.lookup, Nat.reduceAdd, Nat.reduceSub, Nat.reduceEqDiff, Bool.false_eq_true, if_true, if_false, Bool.not_false, Bool.not_true, reduceIte, ite_true, ite_false, true_and, and_true, String.reduceBEq, Bool.or_false, Bool.false_or, Bool.or_true, Bool.true_or, Bool.and_true, Bool.true_and, Bool.and_false, Bool.false_and, cl_u_law_due_value, sm_u_law_due_value]
  have h2 : decide (s < ((iL xs).length : Int)) = false := by simp [iL_len]; omega
  simp only [clD, clI, env0, envI, seD, seI, sSeq, sIf, sRet, sRetN, sSkip, sSet, sSetM, sDrop, sFz, frz1, sFor, sAppN, sAug, sTry, sRaiseN, sSetFN, sBreak, sCont, sAsg, bOr, bAnd, bNot, bT, bC, bCh, bTrue, vUn, vBin, vFn, vCon, vNil, vCons, vN, vR, vTup, vLst, vIf, vAndT, vOrT, vNotT, vCallN, vMethN, vPropN, vMakeN, vLock, vLcL, vSl, vIndex, vXn, vXis, vSortSet, vListRev, vLRg, vTRg, vFldN, r1, r2, oNone, oSomeN, nLst, nList, iSeq, iRng, iEnumD, gN, gTn, gAll, setNones, fIsT, fIsC, fFldN, fAdd, fSub, fMulN, fMod, fNeg, fLt, fLe, fGt, fGe, fIs, fIsNot, fLen, fTuple, fInt, fIx2, fSl, seqI, isT, isC, D.tru, D.isNon, caught, bye, noXn, List.map_cons, List.map_nil, List.length_cons, List.length_nil, List.replicate, List.nil_append, List.cons_append, List.append_nil, List.append_assoc, List.set_cons_zero, List.set_cons_succ, List.getElem?_cons_zero, List.getElem?_cons_succ, List.lookup, Nat.reduceAdd, Nat.reduceSub, Nat.reduceEqDiff, Bool.false_eq_true, if_true, if_false, Bool.not_false, Bool.not_true, reduceIte, ite_true, ite_false, true_and, and_true, String.reduceBEq, Bool.or_false, Bool.false_or, Bool.or_true, Bool.true_or, Bool.and_true, Bool.true_and, Bool.and_false, Bool.false_and, h2]
  refine ⟨_, rfl, by decide, by decide, ?_⟩
  rw [iL_len]
  refine due_loop (Q := Q) _ _ _ _ _ rfl ?_
  have e : (rngD 0 (140 : Int).toNat).length = 140 := rngD_len 140
  rw [e, hw]
  exact h
/-- the blocked values from v on -/
def cntV (xs av : List Int) (v : Int) : Nat := ((xs ++ av).filter fun y => decide (v ≤ y)).length
theorem cnt_le (xs av : List Int) (v : Int) : cntV xs av v ≤ xs.length + av.length := by
  unfold cntV
  refine Nat.le_trans (List.length_filter_le _ _) ?_
  rw [List.length_append]; exact Nat.le_refl _
theorem filter_mono {v w : Int} (h : v ≤ w) : ∀ l : List Int, (l.filter fun y => decide (w ≤ y)).length ≤ (l.filter fun y => decide (v ≤ y)).length
  | [] => Nat.le_refl _
  | x :: l => by
    have ih := filter_mono h l
    by_cases h1 : w ≤ x
    · have h2 : v ≤ x := by omega
      simp only [List.filter_cons, h1, h2, decide_true, if_true, List.length_cons]; omega
    · simp only [List.filter_cons, h1, decide_false, Bool.false_eq_true, if_false]
      split <;> (try simp only [List.length_cons]) <;> omega
theorem filter_lt {v w : Int} (h : v < w) : ∀ l : List Int, v ∈ l → (l.filter fun y => decide (w ≤ y)).length < (l.filter fun y => decide (v ≤ y)).length
  | x :: l, hm => by
    have mono := filter_mono (Int.le_of_lt h) l
    rcases List.mem_cons.mp hm with e | hm
    · subst e
      have h1 : ¬ w ≤ v := by omega
      have h2 : v ≤ v := Int.le_refl v
      simp only [List.filter_cons, h1, h2, decide_true, decide_false, Bool.false_eq_true, if_true, if_false, List.length_cons]; omega
    · have ih := filter_lt h l hm
      by_cases h1 : w ≤ x
      · have h2 : v ≤ x := by omega
        simp only [List.filter_cons, h1, h2, decide_true, if_true, List.length_cons]; omega
      · simp only [List.filter_cons, h1, decide_false, Bool.false_eq_true, if_false]
        split <;> (try simp only [List.length_cons]) <;> omega
theorem cnt_mono {xs av : List Int} {v w : Int} (h : v ≤ w) : cntV xs av w ≤ cntV xs av v := filter_mono h _
theorem cnt_lt {xs av : List Int} {v w : Int} (h : v < w) (hm : v ∈ xs ∨ v ∈ av) : cntV xs av w < cntV xs av v := filter_lt h _ (List.mem_append.mpr hm)
/-- found, a free one, by steps of m -/
theorem walkV_ok {xs av : List Int} {m : Int} (hm : 0 < m) : ∀ (k : Nat) (v : Int) (l : Nat), l + cntV xs av v < k → ∃ (r : Int) (j : Nat), walkV xs av m k v l = some r ∧ r ∉ xs ∧ r = v + j * m ∧ j < k
  | 0, v, l, h => by omega
  | k + 1, v, l, h => by
    unfold walkV
    by_cases hv : v ∉ xs ∧ v ∉ av
    · rw [if_pos hv]
      cases l with
      | zero => exact ⟨v, 0, by simp, hv.1, by simp, by omega⟩
      | succ l =>
        have h1 := cnt_mono (xs := xs) (av := av) (v := v) (w := v + m) (by omega)
        obtain ⟨r, j, e1, e2, e3, e4⟩ := walkV_ok (xs := xs) (av := av) hm k (v + m) l (by omega)
        refine ⟨r, j + 1, ?_, e2, ?_, by omega⟩
        · rw [if_neg (by omega)]
          have z : ((l + 1 : Nat) : Int) - 1 = (l : Nat) := by omega
          rw [z]; exact e1
        · rw [e3, show ((j + 1 : Nat) : Int) = (j : Int) + 1 from by omega, Int.add_mul]; omega
    · rw [if_neg hv]
      have hv' : v ∈ xs ∨ v ∈ av := by
        by_cases a : v ∈ xs
        · exact .inl a
        · exact .inr (Classical.byContradiction fun b => hv ⟨a, b⟩)
      have h1 := cnt_lt (xs := xs) (av := av) (v := v) (w := v + m) (by omega) hv'
      obtain ⟨r, j, e1, e2, e3, e4⟩ := walkV_ok (xs := xs) (av := av) hm k (v + m) l (by omega)
      refine ⟨r, j + 1, e1, e2, ?_, by omega⟩
      rw [e3, show ((j + 1 : Nat) : Int) = (j : Int) + 1 from by omega, Int.add_mul]; omega
/-! ### the sort of what was found -/
theorem sortOf_free {xs : List Int} {m r b : Int} (h : r ∉ xs) (hb : 0 ≤ b) (hb1 : b < m) {j : Nat} (e : r = b + j * m) : sortOf xs m r = xs.length + b := by
  unfold sortOf
  have e1 : xs.findIdx? (· == r) = none := by
    rw [List.findIdx?_eq_none_iff]
    intro x hx
    have : x ≠ r := fun z => h (z ▸ hx)
    simpa using this
  rw [e1]
  show (xs.length : Int) + r % m = _
  rw [e, Int.add_mul_emod_self_right, Int.emod_eq_of_lt hb hb1]
theorem asc_gt : ∀ {xs : List Int} {last : Int}, Asc last xs → ∀ x ∈ xs, last < x
  | n :: r, last, h, x, hx => by
    rcases List.mem_cons.mp hx with rfl | hx
    · exact h.1.2.2
    · exact Int.lt_trans h.1.2.2 (asc_gt h.2 x hx)
theorem asc_range : ∀ {xs : List Int} {last : Int}, Asc last xs → ∀ x ∈ xs, 0 ≤ x ∧ x ≤ HI
  | n :: r, last, h, x, hx => by
    rcases List.mem_cons.mp hx with rfl | hx
    · exact ⟨h.1.1, h.1.2.1⟩
    · exact asc_range h.2 x hx
theorem find_at : ∀ {xs : List Int} {last : Int} {s : Nat} {x : Int}, Asc last xs → xs[s]? = some x → xs.findIdx? (· == x) = some s
  | n :: r, last, 0, x, h, hx => by
    simp at hx
    subst hx
    simp [List.findIdx?_cons]
  | n :: r, last, s + 1, x, h, hx => by
    have hx' : r[s]? = some x := by simpa using hx
    have hne : n ≠ x := by
      have := asc_gt h.2 x (List.mem_of_getElem? hx')
      omega
    have hb : (n == x) = false := by simpa using hne
    rw [List.findIdx?_cons]
    simp [hb, find_at h.2 hx']
theorem sortOf_at {xs : List Int} {last m x : Int} {s : Nat} (h : Asc last xs) (hx : xs[s]? = some x) : sortOf xs m x = (s : Nat) := by
  unfold sortOf
  rw [find_at h hx]
end Rd
end
section
set_option Elab.async false
set_option linter.all false
set_option autoImplicit false
set_option maxRecDepth 100000
set_option maxHeartbeats 4000000
namespace Rd
open PySem Mw Rd0
theorem draw_ok {m : Int} {Q : PD} {Qx : PX} (h0 : 0 < m) (h1 : m < 1073741824) (h : ∀ v, 0 ≤ v → v < m → Q (.int v)) : clDraw [.hand, .int m] Q Qx := ⟨⟨h0, h1⟩, h⟩
theorem pow9 (Q : PD) : fPow (.int 10) (.int 9) Q = Q (.int 1000000000) := propext ⟨fun h => h.2, fun h => ⟨by unfold L2.CPow; decide, h⟩⟩
theorem pow30 (Q : PD) : fPow (.int 10) (.int 30) Q = Q (.int 1000000000000000000000000000000) := propext ⟨fun h => h.2, fun h => ⟨by unfold L2.CPow; decide, h⟩⟩
theorem take_ok {ds : List D} {Q : PD} {Qx : PX} (h1 : Q (.lst ds)) (h2 : Q (.tup ds)) : cl_u_law_take [.hand, .lst ds] Q Qx := by
  simp only [clD, clI, env0, envI, seD, seI, sSeq, sIf, sRet, sRetN, sSkip, sSet, sSetM, sDrop, sFz, frz1, sFor, sAppN, sAug, sTry, sRaiseN, sSetFN, sBreak, sCont, sAsg, bOr, bAnd, bNot, bT, bC, bCh, bTrue, vUn, vBin, vFn, vCon, vNil, vCons, vN, vR, vTup, vLst, vIf, vAndT, vOrT, vNotT, vCallN, vMethN, vPropN, vMakeN, vLock, vLcL, vSl, vIndex, vXn, vXis, vSortSet, vListRev, vLRg, vTRg, vFldN, r1, r2, oNone, oSomeN, nLst, nList, iSeq, iRng, iEnumD, gN, gTn, gAll, setNones, fIsT, fIsC, fFldN, fAdd, fSub, fMulN, fMod, fNeg, fLt, fLe, fGt, fGe, fIs, fIsNot, fLen, fTuple, fInt, fIx2, fSl, seqI, isT, isC, D.tru, D.isNon, caught, bye, noXn, List.map_cons, List.map_nil, List.length_cons, List.length_nil, List.replicate, List.nil_append, List.cons_append, List.append_nil, List.append_assoc, List.set_cons_zero, List.set_cons_succ, List.getElem?_cons_zero, List.getElem?_cons_succ, List.lookup, Nat.reduceAdd, Nat.reduceSub, Nat.reduceEqDiff, Bool.false_eq_true, if_true, if_false, Bool.not_false, Bool.not_true, reduceIte, ite_true, ite_false, true_and, and_true, String.reduceBEq, Bool.or_false, Bool.false_or, Bool.or_true, Bool.true_or, Bool.and_true, Bool.true_and, Bool.and_false, Bool.false_and, cl_u_law_take, sm_u_law_take]
  refine draw_ok (by decide) (by decide) fun v _ _ => fEq_int ?_
  by_cases hv : v = 0
  · simp only [hv, decide_true, if_true]; exact h1
  · simp only [hv, decide_false, Bool.false_eq_true, if_false]; exact h2
theorem value_ok {Q : PD} {Qx : PX} (h : ∀ v, 0 ≤ v → v ≤ HI → Q (.int v)) : cl_u_law_value [.hand] Q Qx := by
  simp only [clD, clI, env0, envI, seD, seI, sSeq, sIf, sRet, sRetN, sSkip, sSet, sSetM, sDrop, sFz, frz1, sFor, sAppN, sAug, sTry, sRaiseN, sSetFN, sBreak, sCont, sAsg, bOr, bAnd, bNot, bT, bC, bCh, bTrue, vUn, vBin, vFn, vCon, vNil, vCons, vN, vR, vTup, vLst, vIf, vAndT, vOrT, vNotT, vCallN, vMethN, vPropN, vMakeN, vLock, vLcL, vSl, vIndex, vXn, vXis, vSortSet, vListRev, vLRg, vTRg, vFldN, r1, r2, oNone, oSomeN, nLst, nList, iSeq, iRng, iEnumD, gN, gTn, gAll, setNones, fIsT, fIsC, fFldN, fAdd, fSub, fMulN, fMod, fNeg, fLt, fLe, fGt, fGe, fIs, fIsNot, fLen, fTuple, fInt, fIx2, fSl, seqI, isT, isC, D.tru, D.isNon, caught, bye, noXn, List.map_cons, List.map_nil, List.length_cons, List.length_nil, List.replicate, List.nil_append, List.cons_append, List.append_nil, List.append_assoc, List.set_cons_zero, List.set_cons_succ, List.getElem?_cons_zero, List.getElem?_cons_succ, List.lookup, Nat.reduceAdd, Nat.reduceSub, Nat.reduceEqDiff, Bool.false_eq_true, if_true, if_false, Bool.not_false, Bool.not_true, reduceIte, ite_true, ite_false, true_and, and_true, String.reduceBEq, Bool.or_false, Bool.false_or, Bool.or_true, Bool.true_or, Bool.and_true, Bool.true_and, Bool.and_false, Bool.false_and, cl_u_law_value, sm_u_law_value, pow9]
  refine draw_ok (by decide) (by decide) fun w _ _ => ?_
  simp only [clD, clI, env0, envI, seD, seI, sSeq, sIf, sRet, sRetN, sSkip, sSet, sSetM, sDrop, sFz, frz1, sFor, sAppN, sAug, sTry, sRaiseN, sSetFN, sBreak, sCont, sAsg, bOr, bAnd, bNot, bT, bC, bCh, bTrue, vUn, vBin, vFn, vCon, vNil, vCons, vN, vR, vTup, vLst, vIf, vAndT, vOrT, vNotT, vCallN, vMethN, vPropN, vMakeN, vLock, vLcL, vSl, vIndex, vXn, vXis, vSortSet, vListRev, vLRg, vTRg, vFldN, r1, r2, oNone, oSomeN, nLst, nList, iSeq, iRng, iEnumD, gN, gTn, gAll, setNones, fIsT, fIsC, fFldN, fAdd, fSub, fMulN, fMod, fNeg, fLt, fLe, fGt, fGe, fIs, fIsNot, fLen, fTuple, fInt, fIx2, fSl, seqI, isT, isC, D.tru, D.isNon, caught, bye, noXn, List.map_cons, List.map_nil, List.length_cons, List.length_nil, List.replicate, List.nil_append, List.cons_append, List.append_nil, List.append_assoc, List.set_cons_zero, List.set_cons_succ, List.getElem?_cons_zero, List.getElem?_cons_succ, List.lookup, Nat.reduceAdd, Nat.reduceSub, Nat.reduceEqDiff, Bool.false_eq_true, if_true, if_false, Bool.not_false, Bool.not_true, reduceIte, ite_true, ite_false, true_and, and_true, String.reduceBEq, Bool.or_false, Bool.false_or, Bool.or_true, Bool.true_or, Bool.and_true, Bool.true_and, Bool.and_false, Bool.false_and, pow9]
  by_cases h1 : w < 5
  · simp only [h1, decide_true, if_true]
    exact draw_ok (by decide) (by decide) fun v a b => h v a (by show v ≤ 1000000000; omega)
  · simp only [h1, decide_false, Bool.false_eq_true, if_false]
    refine fEq_int ?_
    by_cases h2 : w = 5
    · simp only [h2, decide_true, if_true]
      exact draw_ok (by decide) (by decide) fun v a b => h v a (by show v ≤ 1000000000; omega)
    · simp only [h2, decide_false, Bool.false_eq_true, if_false]
      refine fEq_int ?_
      by_cases h3 : w = 6
      · simp only [h3, decide_true, if_true]
        exact draw_ok (by decide) (by decide) fun v a b => h v a (by show v ≤ 1000000000; omega)
      · simp only [h3, decide_false, Bool.false_eq_true, if_false]
        exact draw_ok (by decide) (by decide) fun v a b => h _ (by omega) (by show _ ≤ 1000000000; omega)
theorem asc_of : ∀ {xs : List Int} {last : Int}, xs.Pairwise (· < ·) → (∀ x ∈ xs, 0 ≤ x ∧ x ≤ HI ∧ last < x) → Asc last xs
  | [], _, _, _ => trivial
  | x :: xs, last, h, hr => by
    cases h with
    | cons h1 h2 => exact ⟨hr x List.mem_cons_self, asc_of h2 fun y hy => ⟨(hr y (List.mem_cons_of_mem _ hy)).1, (hr y (List.mem_cons_of_mem _ hy)).2.1, h1 y hy⟩⟩
/-- named values: at most eight, ascending -/
structure Nmd (xs : List Int) : Prop where
  asc : Asc (-1) xs
  len : xs.length ≤ 8
theorem iL_app (xs : List Int) (v : Int) : iL xs ++ [.int v] = iL (xs ++ [v]) := by simp [iL]
theorem named_ok' {Q : PD} {Qx : PX} (h : ∀ xs, Nmd xs → Q (.lst (iL xs))) : cl_u_law_named [.hand, .int 8, .lst []] Q Qx := by
  simp only [clD, clI, env0, envI, seD, seI, sSeq, sIf, sRet, sRetN, sSkip, sSet, sSetM, sDrop, sFz, frz1, sFor, sAppN, sAug, sTry, sRaiseN, sSetFN, sBreak, sCont, sAsg, bOr, bAnd, bNot, bT, bC, bCh, bTrue, vUn, vBin, vFn, vCon, vNil, vCons, vN, vR, vTup, vLst, vIf, vAndT, vOrT, vNotT, vCallN, vMethN, vPropN, vMakeN, vLock, vLcL, vSl, vIndex, vXn, vXis, vSortSet, vListRev, vLRg, vTRg, vFldN, r1, r2, oNone, oSomeN, nLst, nList, iSeq, iRng, iEnumD, gN, gTn, gAll, setNones, fIsT, fIsC, fFldN, fAdd, fSub, fMulN, fMod, fNeg, fLt, fLe, fGt, fGe, fIs, fIsNot, fLen, fTuple, fInt, fIx2, fSl, seqI, isT, isC, D.tru, D.isNon, caught, bye, noXn, List.map_cons, List.map_nil, List.length_cons, List.length_nil, List.replicate, List.nil_append, List.cons_append, List.append_nil, List.append_assoc, List.set_cons_zero, List.set_cons_succ, List.getElem?_cons_zero, List.getElem?_cons_succ, List.lookup, Nat.reduceAdd, Nat.reduceSub, Nat.reduceEqDiff, Bool.false_eq_true, if_true, if_false, Bool.not_false, Bool.not_true, reduceIte, ite_true, ite_false, true_and, and_true, String.reduceBEq, Bool.or_false, Bool.false_or, Bool.or_true, Bool.true_or, Bool.and_true, Bool.true_and, Bool.and_false, Bool.false_and, cl_u_law_named, sm_u_law_named]
  refine ⟨Nat.zero_le _, draw_ok (by decide) (by decide) fun n n0 n1 => ?_⟩
  refine ⟨n, rfl, by omega, by omega, ?_⟩
  refine forD_inv0 (i := 4) (fun j env => ∃ (ns : List Int) (c : Option L), env = [some (.d .hand), some (.d (.int 8)), some (.d (.lst [])), some (.ml (iL ns)), c] ∧ ns.length = j ∧ ∀ x ∈ ns, 0 ≤ x ∧ x ≤ HI) ⟨[], none, rfl, rfl, fun x hx => (List.not_mem_nil hx).elim⟩ ?_ ?_
  · rintro j d env K hj ⟨ns, c, rfl, hl, hr⟩ hK
    obtain ⟨hj2, rfl⟩ := rng_get hj
    simp only [clD, clI, env0, envI, seD, seI, sSeq, sIf, sRet, sRetN, sSkip, sSet, sSetM, sDrop, sFz, frz1, sFor, sAppN, sAug, sTry, sRaiseN, sSetFN, sBreak, sCont, sAsg, bOr, bAnd, bNot, bT, bC, bCh, bTrue, vUn, vBin, vFn, vCon, vNil, vCons, vN, vR, vTup, vLst, vIf, vAndT, vOrT, vNotT, vCallN, vMethN, vPropN, vMakeN, vLock, vLcL, vSl, vIndex, vXn, vXis, vSortSet, vListRev, vLRg, vTRg, vFldN, r1, r2, oNone, oSomeN, nLst, nList, iSeq, iRng, iEnumD, gN, gTn, gAll, setNones, fIsT, fIsC, fFldN, fAdd, fSub, fMulN, fMod, fNeg, fLt, fLe, fGt, fGe, fIs, fIsNot, fLen, fTuple, fInt, fIx2, fSl, seqI, isT, isC, D.tru, D.isNon, caught, bye, noXn, List.map_cons, List.map_nil, List.length_cons, List.length_nil, List.replicate, List.nil_append, List.cons_append, List.append_nil, List.append_assoc, List.set_cons_zero, List.set_cons_succ, List.getElem?_cons_zero, List.getElem?_cons_succ, List.lookup, Nat.reduceAdd, Nat.reduceSub, Nat.reduceEqDiff, Bool.false_eq_true, if_true, if_false, Bool.not_false, Bool.not_true, reduceIte, ite_true, ite_false, true_and, and_true, String.reduceBEq, Bool.or_false, Bool.false_or, Bool.or_true, Bool.true_or, Bool.and_true, Bool.true_and, Bool.and_false, Bool.false_and, List.isEmpty_nil]
    refine ⟨?_, value_ok fun v v0 v1 => hK _ ⟨ns ++ [v], some (.d (.int (j : Nat))), ?_, by simp [hl], ?_⟩⟩
    · rw [iL_len, hl]
      exact Nat.lt_of_lt_of_le (by omega : j < 64) (by rw [sizeLine_eq]; decide)
    · rw [iL_app]
    · intro x hx
      rcases List.mem_append.mp hx with hx | hx
      · exact hr x hx
      · cases List.mem_singleton.mp hx
        exact ⟨v0, v1⟩
  · rintro env ⟨ns, c, rfl, hl, hr⟩
    rw [rngD_len] at hl
    simp only [clD, clI, env0, envI, seD, seI, sSeq, sIf, sRet, sRetN, sSkip, sSet, sSetM, sDrop, sFz, frz1, sFor, sAppN, sAug, sTry, sRaiseN, sSetFN, sBreak, sCont, sAsg, bOr, bAnd, bNot, bT, bC, bCh, bTrue, vUn, vBin, vFn, vCon, vNil, vCons, vN, vR, vTup, vLst, vIf, vAndT, vOrT, vNotT, vCallN, vMethN, vPropN, vMakeN, vLock, vLcL, vSl, vIndex, vXn, vXis, vSortSet, vListRev, vLRg, vTRg, vFldN, r1, r2, oNone, oSomeN, nLst, nList, iSeq, iRng, iEnumD, gN, gTn, gAll, setNones, fIsT, fIsC, fFldN, fAdd, fSub, fMulN, fMod, fNeg, fLt, fLe, fGt, fGe, fIs, fIsNot, fLen, fTuple, fInt, fIx2, fSl, seqI, isT, isC, D.tru, D.isNon, caught, bye, noXn, List.map_cons, List.map_nil, List.length_cons, List.length_nil, List.replicate, List.nil_append, List.cons_append, List.append_nil, List.append_assoc, List.set_cons_zero, List.set_cons_succ, List.getElem?_cons_zero, List.getElem?_cons_succ, List.lookup, Nat.reduceAdd, Nat.reduceSub, Nat.reduceEqDiff, Bool.false_eq_true, if_true, if_false, Bool.not_false, Bool.not_true, reduceIte, ite_true, ite_false, true_and, and_true, String.reduceBEq, Bool.or_false, Bool.false_or, Bool.or_true, Bool.true_or, Bool.and_true, Bool.true_and, Bool.and_false, Bool.false_and]
    have z : D.ints (iL ns) = some ns := D.ints_map ns
    rw [z]
    have hlen : ns.length ≤ 8 := by omega
    refine ⟨by omega, ?_⟩
    refine h (sortU ns) ⟨asc_of (sortU_asc ns) fun x hx => ?_, Nat.le_trans (sortU_len ns) hlen⟩
    have := hr x (sortU_mem.mp hx)
    exact ⟨this.1, this.2, by omega⟩
theorem iL_ne {xs : List Int} (h : xs ≠ []) : (iL xs).isEmpty = false := by
  cases xs with
  | nil => exact (h rfl).elim
  | cons x xs => rfl
theorem some_value_ok {xs : List Int} (hx : Nmd xs) {Q : PD} {Qx : PX} (h : ∀ v, 0 ≤ v → v ≤ HI → Q (.int v)) : cl_u_law_some_value [.hand, .lst (iL xs)] Q Qx := by
  simp only [clD, clI, env0, envI, seD, seI, sSeq, sIf, sRet, sRetN, sSkip, sSet, sSetM, sDrop, sFz, frz1, sFor, sAppN, sAug, sTry, sRaiseN, sSetFN, sBreak, sCont, sAsg, bOr, bAnd, bNot, bT, bC, bCh, bTrue, vUn, vBin, vFn, vCon, vNil, vCons, vN, vR, vTup, vLst, vIf, vAndT, vOrT, vNotT, vCallN, vMethN, vPropN, vMakeN, vLock, vLcL, vSl, vIndex, vXn, vXis, vSortSet, vListRev, vLRg, vTRg, vFldN, r1, r2, oNone, oSomeN, nLst, nList, iSeq, iRng, iEnumD, gN, gTn, gAll, setNones, fIsT, fIsC, fFldN, fAdd, fSub, fMulN, fMod, fNeg, fLt, fLe, fGt, fGe, fIs, fIsNot, fLen, fTuple, fInt, fIx2, fSl, seqI, isT, isC, D.tru, D.isNon, caught, bye, noXn, List.map_cons, List.map_nil, List.length_cons, List.length_nil, List.replicate, List.nil_append, List.cons_append, List.append_nil, List.append_assoc, List.set_cons_zero, List.set_cons_succ, List.getElem?_cons_zero, List.getElem?_cons_succ, List.lookup, Nat.reduceAdd, Nat.reduceSub, Nat.reduceEqDiff, Bool.false_eq_true, if_true, if_false, Bool.not_false, Bool.not_true, reduceIte, ite_true, ite_false, true_and, and_true, String.reduceBEq, Bool.or_false, Bool.false_or, Bool.or_true, Bool.true_or, Bool.and_true, Bool.true_and, Bool.and_false, Bool.false_and, cl_u_law_some_value, sm_u_law_some_value]
  refine draw_ok (by decide) (by decide) fun w w0 w1 => ?_
  simp only [clD, clI, env0, envI, seD, seI, sSeq, sIf, sRet, sRetN, sSkip, sSet, sSetM, sDrop, sFz, frz1, sFor, sAppN, sAug, sTry, sRaiseN, sSetFN, sBreak, sCont, sAsg, bOr, bAnd, bNot, bT, bC, bCh, bTrue, vUn, vBin, vFn, vCon, vNil, vCons, vN, vR, vTup, vLst, vIf, vAndT, vOrT, vNotT, vCallN, vMethN, vPropN, vMakeN, vLock, vLcL, vSl, vIndex, vXn, vXis, vSortSet, vListRev, vLRg, vTRg, vFldN, r1, r2, oNone, oSomeN, nLst, nList, iSeq, iRng, iEnumD, gN, gTn, gAll, setNones, fIsT, fIsC, fFldN, fAdd, fSub, fMulN, fMod, fNeg, fLt, fLe, fGt, fGe, fIs, fIsNot, fLen, fTuple, fInt, fIx2, fSl, seqI, isT, isC, D.tru, D.isNon, caught, bye, noXn, List.map_cons, List.map_nil, List.length_cons, List.length_nil, List.replicate, List.nil_append, List.cons_append, List.append_nil, List.append_assoc, List.set_cons_zero, List.set_cons_succ, List.getElem?_cons_zero, List.getElem?_cons_succ, List.lookup, Nat.reduceAdd, Nat.reduceSub, Nat.reduceEqDiff, Bool.false_eq_true, if_true, if_false, Bool.not_false, Bool.not_true, reduceIte, ite_true, ite_false, true_and, and_true, String.reduceBEq, Bool.or_false, Bool.false_or, Bool.or_true, Bool.true_or, Bool.and_true, Bool.true_and, Bool.and_false, Bool.false_and, pow9]
  by_cases he : xs = []
  · subst he
    show (if (!true) = true then _ else _)
    simp only [Bool.not_true, Bool.false_eq_true, if_false]
    exact value_ok h
  · rw [iL_ne he]
    simp only [Bool.not_false, if_true]
    by_cases h1 : w < 2
    · simp only [h1, decide_true, if_true]
      have hl : 0 < xs.length := List.length_pos_iff.mpr he
      have h8 := hx.len
      rw [iL_len]
      refine draw_ok (by omega) (by omega) fun j j0 j1 => ?_
      obtain ⟨n, en⟩ : ∃ n : Nat, j = (n : Int) := ⟨j.toNat, by omega⟩
      subst en
      obtain ⟨x, ex⟩ : ∃ x, xs[n]? = some x := ⟨_, List.getElem?_eq_getElem (by omega : n < xs.length)⟩
      refine ⟨.int x, L2.atI_nat (by simp [iL, ex]), ?_⟩
      refine draw_ok (by decide) (by decide) fun k k0 k1 => ?_
      simp only [clD, clI, env0, envI, seD, seI, sSeq, sIf, sRet, sRetN, sSkip, sSet, sSetM, sDrop, sFz, frz1, sFor, sAppN, sAug, sTry, sRaiseN, sSetFN, sBreak, sCont, sAsg, bOr, bAnd, bNot, bT, bC, bCh, bTrue, vUn, vBin, vFn, vCon, vNil, vCons, vN, vR, vTup, vLst, vIf, vAndT, vOrT, vNotT, vCallN, vMethN, vPropN, vMakeN, vLock, vLcL, vSl, vIndex, vXn, vXis, vSortSet, vListRev, vLRg, vTRg, vFldN, r1, r2, oNone, oSomeN, nLst, nList, iSeq, iRng, iEnumD, gN, gTn, gAll, setNones, fIsT, fIsC, fFldN, fAdd, fSub, fMulN, fMod, fNeg, fLt, fLe, fGt, fGe, fIs, fIsNot, fLen, fTuple, fInt, fIx2, fSl, seqI, isT, isC, D.tru, D.isNon, caught, bye, noXn, List.map_cons, List.map_nil, List.length_cons, List.length_nil, List.replicate, List.nil_append, List.cons_append, List.append_nil, List.append_assoc, List.set_cons_zero, List.set_cons_succ, List.getElem?_cons_zero, List.getElem?_cons_succ, List.lookup, Nat.reduceAdd, Nat.reduceSub, Nat.reduceEqDiff, Bool.false_eq_true, if_true, if_false, Bool.not_false, Bool.not_true, reduceIte, ite_true, ite_false, true_and, and_true, String.reduceBEq, Bool.or_false, Bool.false_or, Bool.or_true, Bool.true_or, Bool.and_true, Bool.true_and, Bool.and_false, Bool.false_and]
      refine ⟨.inr ⟨by omega, by omega⟩, ?_⟩
      by_cases a : 0 ≤ x + w * (k - 7)
      · simp only [a, decide_true, if_true]
        by_cases b : x + w * (k - 7) ≤ 1000000000
        · simp only [b, decide_true, if_true]
          exact h _ a b
        · simp only [b, decide_false, Bool.false_eq_true, if_false]
          exact h 0 (by decide) (by decide)
      · simp only [a, decide_false, Bool.false_eq_true, if_false]
        exact h 0 (by decide) (by decide)
    · simp only [h1, decide_false, Bool.false_eq_true, if_false]
      exact value_ok h
/-! ### what is made -/
theorem nmd_seq {a : D} {xs : List Int} (ha : Sq a xs) (h : Nmd xs) : namedOk a = true := by
  have z := (ascV_iff xs (-1)).mpr h.asc
  rcases ha with rfl | rfl <;> simp [namedOk, itemsOf, z, iL_len, h.len]
theorem sq_items {a : D} {xs : List Int} (ha : Sq a xs) : itemsOf a = some (iL xs) := by rcases ha with rfl | rfl <;> rfl
theorem sq_hand {a : D} {xs : List Int} (ha : Sq a xs) : a ≠ .hand := by rcases ha with rfl | rfl <;> simp
theorem mod_int {m : Int} (h0 : 1 ≤ m) (h1 : m ≤ 6) : modOk (.int m) = true := by simp [modOk, whole, h0, h1]
theorem init_good {a : D} {xs : List Int} {m : Int} (ha : Sq a xs) (h : Nmd xs) (h0 : 1 ≤ m) (h1 : m ≤ 6) {Q : List (Str × D) → Prop} {Qx : PX} (q : Q (fldS (iL xs) (.int m))) : cl_Sorts___init__ [a, .int m] Q Qx := by
  refine init_ok (sq_hand ha) ?_
  rw [nmd_seq ha h, mod_int h0 h1, sq_items ha]
  exact q
theorem made_good {a : D} {xs : List Int} {m : Int} (ha : Sq a xs) (h : Nmd xs) (h0 : 1 ≤ m) (h1 : m ≤ 6) {Q : PD} {Qx : PX} (q : Q (.tup [.str "made", .tup (iL xs), .int m, .int (xs.length + m)])) : cl_u_law_made [a, .int m] Q Qx := by
  simp only [clD, clI, env0, envI, seD, seI, sSeq, sIf, sRet, sRetN, sSkip, sSet, sSetM, sDrop, sFz, frz1, sFor, sAppN, sAug, sTry, sRaiseN, sSetFN, sBreak, sCont, sAsg, bOr, bAnd, bNot, bT, bC, bCh, bTrue, vUn, vBin, vFn, vCon, vNil, vCons, vN, vR, vTup, vLst, vIf, vAndT, vOrT, vNotT, vCallN, vMethN, vPropN, vMakeN, vLock, vLcL, vSl, vIndex, vXn, vXis, vSortSet, vListRev, vLRg, vTRg, vFldN, r1, r2, oNone, oSomeN, nLst, nList, iSeq, iRng, iEnumD, gN, gTn, gAll, setNones, fIsT, fIsC, fFldN, fAdd, fSub, fMulN, fMod, fNeg, fLt, fLe, fGt, fGe, fIs, fIsNot, fLen, fTuple, fInt, fIx2, fSl, seqI, isT, isC, D.tru, D.isNon, caught, bye, noXn, List.map_cons, List.map_nil, List.length_cons, List.length_nil, List.replicate, List.nil_append, List.cons_append, List.append_nil, List.append_assoc, List.set_cons_zero, List.set_cons_succ, List.getElem?_cons_zero, List.getElem?_cons_succ, List.lookup, Nat.reduceAdd, Nat.reduceSub, Nat.reduceEqDiff, Bool.false_eq_true, if_true, if_false, Bool.not_false, Bool.not_true, reduceIte, ite_true, ite_false, true_and, and_true, String.reduceBEq, Bool.or_false, Bool.false_or, Bool.or_true, Bool.true_or, Bool.and_true, Bool.true_and, Bool.and_false, Bool.false_and, cl_u_law_made, sm_u_law_made]
  refine init_good ha h h0 h1 ?_
  simp only [clD, clI, env0, envI, seD, seI, sSeq, sIf, sRet, sRetN, sSkip, sSet, sSetM, sDrop, sFz, frz1, sFor, sAppN, sAug, sTry, sRaiseN, sSetFN, sBreak, sCont, sAsg, bOr, bAnd, bNot, bT, bC, bCh, bTrue, vUn, vBin, vFn, vCon, vNil, vCons, vN, vR, vTup, vLst, vIf, vAndT, vOrT, vNotT, vCallN, vMethN, vPropN, vMakeN, vLock, vLcL, vSl, vIndex, vXn, vXis, vSortSet, vListRev, vLRg, vTRg, vFldN, r1, r2, oNone, oSomeN, nLst, nList, iSeq, iRng, iEnumD, gN, gTn, gAll, setNones, fIsT, fIsC, fFldN, fAdd, fSub, fMulN, fMod, fNeg, fLt, fLe, fGt, fGe, fIs, fIsNot, fLen, fTuple, fInt, fIx2, fSl, seqI, isT, isC, D.tru, D.isNon, caught, bye, noXn, List.map_cons, List.map_nil, List.length_cons, List.length_nil, List.replicate, List.nil_append, List.cons_append, List.append_nil, List.append_assoc, List.set_cons_zero, List.set_cons_succ, List.getElem?_cons_zero, List.getElem?_cons_succ, List.lookup, Nat.reduceAdd, Nat.reduceSub, Nat.reduceEqDiff, Bool.false_eq_true, if_true, if_false, Bool.not_false, Bool.not_true, reduceIte, ite_true, ite_false, true_and, and_true, String.reduceBEq, Bool.or_false, Bool.false_or, Bool.or_true, Bool.true_or, Bool.and_true, Bool.true_and, Bool.and_false, Bool.false_and, fld_n, fld_m, in00]
  refine many_ok ?_
  rw [iL_len]
  exact ⟨by rw [sizeLine_eq]; decide, q⟩
theorem made_bad {a b : D} (hh : a ≠ .hand) (h : namedOk a = false) {Q : PD} {Qx : PX} (q : Q (.tup [.str "bad", .str "named"])) : cl_u_law_made [a, b] Q Qx := by
  simp only [clD, clI, env0, envI, seD, seI, sSeq, sIf, sRet, sRetN, sSkip, sSet, sSetM, sDrop, sFz, frz1, sFor, sAppN, sAug, sTry, sRaiseN, sSetFN, sBreak, sCont, sAsg, bOr, bAnd, bNot, bT, bC, bCh, bTrue, vUn, vBin, vFn, vCon, vNil, vCons, vN, vR, vTup, vLst, vIf, vAndT, vOrT, vNotT, vCallN, vMethN, vPropN, vMakeN, vLock, vLcL, vSl, vIndex, vXn, vXis, vSortSet, vListRev, vLRg, vTRg, vFldN, r1, r2, oNone, oSomeN, nLst, nList, iSeq, iRng, iEnumD, gN, gTn, gAll, setNones, fIsT, fIsC, fFldN, fAdd, fSub, fMulN, fMod, fNeg, fLt, fLe, fGt, fGe, fIs, fIsNot, fLen, fTuple, fInt, fIx2, fSl, seqI, isT, isC, D.tru, D.isNon, caught, bye, noXn, List.map_cons, List.map_nil, List.length_cons, List.length_nil, List.replicate, List.nil_append, List.cons_append, List.append_nil, List.append_assoc, List.set_cons_zero, List.set_cons_succ, List.getElem?_cons_zero, List.getElem?_cons_succ, List.lookup, Nat.reduceAdd, Nat.reduceSub, Nat.reduceEqDiff, Bool.false_eq_true, if_true, if_false, Bool.not_false, Bool.not_true, reduceIte, ite_true, ite_false, true_and, and_true, String.reduceBEq, Bool.or_false, Bool.false_or, Bool.or_true, Bool.true_or, Bool.and_true, Bool.true_and, Bool.and_false, Bool.false_and, cl_u_law_made, sm_u_law_made]
  refine init_ok hh ?_
  rw [h]
  simp only [clD, clI, env0, envI, seD, seI, sSeq, sIf, sRet, sRetN, sSkip, sSet, sSetM, sDrop, sFz, frz1, sFor, sAppN, sAug, sTry, sRaiseN, sSetFN, sBreak, sCont, sAsg, bOr, bAnd, bNot, bT, bC, bCh, bTrue, vUn, vBin, vFn, vCon, vNil, vCons, vN, vR, vTup, vLst, vIf, vAndT, vOrT, vNotT, vCallN, vMethN, vPropN, vMakeN, vLock, vLcL, vSl, vIndex, vXn, vXis, vSortSet, vListRev, vLRg, vTRg, vFldN, r1, r2, oNone, oSomeN, nLst, nList, iSeq, iRng, iEnumD, gN, gTn, gAll, setNones, fIsT, fIsC, fFldN, fAdd, fSub, fMulN, fMod, fNeg, fLt, fLe, fGt, fGe, fIs, fIsNot, fLen, fTuple, fInt, fIx2, fSl, seqI, isT, isC, D.tru, D.isNon, caught, bye, noXn, List.map_cons, List.map_nil, List.length_cons, List.length_nil, List.replicate, List.nil_append, List.cons_append, List.append_nil, List.append_assoc, List.set_cons_zero, List.set_cons_succ, List.getElem?_cons_zero, List.getElem?_cons_succ, List.lookup, Nat.reduceAdd, Nat.reduceSub, Nat.reduceEqDiff, Bool.false_eq_true, if_true, if_false, Bool.not_false, Bool.not_true, reduceIte, ite_true, ite_false, true_and, and_true, String.reduceBEq, Bool.or_false, Bool.false_or, Bool.or_true, Bool.true_or, Bool.and_true, Bool.true_and, Bool.and_false, Bool.false_and, namX]
  exact ⟨by rw [sizeLine_eq]; decide, q⟩
theorem made_mod {a b : D} {xs : List Int} (ha : Sq a xs) (h : Nmd xs) (hb : modOk b = false) {Q : PD} {Qx : PX} (q : Q (.tup [.str "bad", .str "modulus"])) : cl_u_law_made [a, b] Q Qx := by
  simp only [clD, clI, env0, envI, seD, seI, sSeq, sIf, sRet, sRetN, sSkip, sSet, sSetM, sDrop, sFz, frz1, sFor, sAppN, sAug, sTry, sRaiseN, sSetFN, sBreak, sCont, sAsg, bOr, bAnd, bNot, bT, bC, bCh, bTrue, vUn, vBin, vFn, vCon, vNil, vCons, vN, vR, vTup, vLst, vIf, vAndT, vOrT, vNotT, vCallN, vMethN, vPropN, vMakeN, vLock, vLcL, vSl, vIndex, vXn, vXis, vSortSet, vListRev, vLRg, vTRg, vFldN, r1, r2, oNone, oSomeN, nLst, nList, iSeq, iRng, iEnumD, gN, gTn, gAll, setNones, fIsT, fIsC, fFldN, fAdd, fSub, fMulN, fMod, fNeg, fLt, fLe, fGt, fGe, fIs, fIsNot, fLen, fTuple, fInt, fIx2, fSl, seqI, isT, isC, D.tru, D.isNon, caught, bye, noXn, List.map_cons, List.map_nil, List.length_cons, List.length_nil, List.replicate, List.nil_append, List.cons_append, List.append_nil, List.append_assoc, List.set_cons_zero, List.set_cons_succ, List.getElem?_cons_zero, List.getElem?_cons_succ, List.lookup, Nat.reduceAdd, Nat.reduceSub, Nat.reduceEqDiff, Bool.false_eq_true, if_true, if_false, Bool.not_false, Bool.not_true, reduceIte, ite_true, ite_false, true_and, and_true, String.reduceBEq, Bool.or_false, Bool.false_or, Bool.or_true, Bool.true_or, Bool.and_true, Bool.true_and, Bool.and_false, Bool.false_and, cl_u_law_made, sm_u_law_made]
  refine init_ok (sq_hand ha) ?_
  rw [nmd_seq ha h, hb]
  simp only [clD, clI, env0, envI, seD, seI, sSeq, sIf, sRet, sRetN, sSkip, sSet, sSetM, sDrop, sFz, frz1, sFor, sAppN, sAug, sTry, sRaiseN, sSetFN, sBreak, sCont, sAsg, bOr, bAnd, bNot, bT, bC, bCh, bTrue, vUn, vBin, vFn, vCon, vNil, vCons, vN, vR, vTup, vLst, vIf, vAndT, vOrT, vNotT, vCallN, vMethN, vPropN, vMakeN, vLock, vLcL, vSl, vIndex, vXn, vXis, vSortSet, vListRev, vLRg, vTRg, vFldN, r1, r2, oNone, oSomeN, nLst, nList, iSeq, iRng, iEnumD, gN, gTn, gAll, setNones, fIsT, fIsC, fFldN, fAdd, fSub, fMulN, fMod, fNeg, fLt, fLe, fGt, fGe, fIs, fIsNot, fLen, fTuple, fInt, fIx2, fSl, seqI, isT, isC, D.tru, D.isNon, caught, bye, noXn, List.map_cons, List.map_nil, List.length_cons, List.length_nil, List.replicate, List.nil_append, List.cons_append, List.append_nil, List.append_assoc, List.set_cons_zero, List.set_cons_succ, List.getElem?_cons_zero, List.getElem?_cons_succ, List.lookup, Nat.reduceAdd, Nat.reduceSub, Nat.reduceEqDiff, Bool.false_eq_true, if_true, if_false, Bool.not_false, Bool.not_true, reduceIte, ite_true, ite_false, true_and, and_true, String.reduceBEq, Bool.or_false, Bool.false_or, Bool.or_true, Bool.true_or, Bool.and_true, Bool.true_and, Bool.and_false, Bool.false_and, modX]
  exact ⟨by rw [sizeLine_eq]; decide, q⟩
end Rd
end
section
set_option Elab.async false
set_option linter.all false
set_option autoImplicit false
set_option maxRecDepth 100000
set_option maxHeartbeats 4000000
namespace Rd
open PySem Mw Rd0
def nx1 : Option L → Bool
  | some (.xn _) => false
  | _ => true
theorem nx1_n : nx1 none = true := rfl
theorem nx1_d (d : D) : nx1 (some (.d d)) = true := rfl
theorem nx1_l (ds : List D) : nx1 (some (.ml ds)) = true := rfl
theorem noXn_nil : noXn [] = true := rfl
theorem noXn_cons (a : Option L) (r : En) : noXn (a :: r) = (nx1 a && noXn r) := by
  unfold noXn
  rw [List.all_cons]
  congr 1
theorem plN_tup {n : Nat} {ds : List D} (h : ds.length ≤ 1000) (hd : ∀ d ∈ ds, plN n d = true) : plN (n + 1) (.tup ds) = true := by
  show (decide (ds.length ≤ 1000) && ds.all (plN n)) = true
  rw [Bool.and_eq_true, decide_eq_true_eq, List.all_eq_true]
  exact ⟨h, hd⟩
theorem plN_iL {n : Nat} {xs : List Int} (h : xs.length ≤ 1000) : plN (n + 2) (.tup (iL xs)) = true := plN_tup (by rw [iL_len]; exact h) fun d hd => by
  obtain ⟨x, _, rfl⟩ := List.mem_map.mp hd
  rfl
theorem ok_bad : (D.str "bad").ok = true := by decide +kernel
theorem ok_named : (D.str "named").ok = true := by decide +kernel
theorem ok_modulus : (D.str "modulus").ok = true := by decide +kernel
theorem ok_made : (D.str "made").ok = true := by decide +kernel
theorem ok_noval : (D.str "no value").ok = true := by decide +kernel
theorem pl_named : plN 4 (.tup [.str "bad", .str "named"]) = true := plN_tup (by decide) fun d hd => by
  rcases List.mem_cons.mp hd with rfl | hd
  · exact ok_bad
  · cases List.mem_singleton.mp hd; exact ok_named
theorem pl_mod : plN 4 (.tup [.str "bad", .str "modulus"]) = true := plN_tup (by decide) fun d hd => by
  rcases List.mem_cons.mp hd with rfl | hd
  · exact ok_bad
  · cases List.mem_singleton.mp hd; exact ok_modulus
/-! ### odd names -/
theorem cut_iL (xs : List Int) (lo hi : Option Int) : ∃ ys, cutD (iL xs) lo hi = iL ys ∧ ys.length ≤ xs.length ∧ ∀ y ∈ ys, y ∈ xs := by
  refine ⟨(xs.drop (HT.sIx xs.length 0 lo)).take (HT.sIx xs.length xs.length hi - HT.sIx xs.length 0 lo), ?_, ?_, ?_⟩
  · unfold cutD
    rw [iL_len]
    simp [iL, List.map_drop, List.map_take]
  · simp; omega
  · intro y hy
    exact List.mem_of_mem_drop (List.mem_of_mem_take hy)
/-- a row with a thing in it that is no named value -/
theorem ascV_odd {o : D} (ho : whole 0 HI o = false) : ∀ (xs : List Int) (last : Int) (r : List D), ascV last (iL xs ++ o :: r) = false
  | [], last, r => by
    show ascV last (o :: r) = false
    cases o <;> try rfl
    rename_i n
    have h : (decide (0 ≤ n) && decide (n ≤ HI)) = false := ho
    simp [ascV, h]
  | x :: xs, last, r => by
    show ascV last (.int x :: (iL xs ++ o :: r)) = false
    simp [ascV, ascV_odd ho xs x r]
theorem odd_lst {ds : List D} (h : ascV (-1) ds = false) : namedOk (.lst ds) = false := by simp [namedOk, itemsOf, h]
theorem take_odd {xs : List Int} {o : D} {r : List D} {a : Nat} (ho : whole 0 HI o = false) (ha : a < 8) (hl : xs.length = a) : ascV (-1) (cutD (iL xs ++ o :: r) none (some 8)) = false := by
  unfold cutD
  have e1 : HT.sIx (iL xs ++ o :: r).length 0 none = 0 := rfl
  have e2 : HT.sIx (iL xs ++ o :: r).length (iL xs ++ o :: r).length (some 8) = min 8 (iL xs ++ o :: r).length := HT.sIx_nat _ _ 8
  rw [e1, e2, List.drop_zero, Nat.sub_zero]
  have e3 : ∃ r', (iL xs ++ o :: r).take (min 8 (iL xs ++ o :: r).length) = iL xs ++ o :: r' := by
    have hlen : (iL xs ++ o :: r).length = a + (r.length + 1) := by simp [iL_len, hl]
    rw [List.take_append, iL_len, hl]
    refine ⟨r.take (min 8 (iL xs ++ o :: r).length - a - 1), ?_⟩
    have h1 : (iL xs).take (min 8 (iL xs ++ o :: r).length) = iL xs := List.take_of_length_le (by rw [iL_len, hl, hlen]; omega)
    have h2 : min 8 (iL xs ++ o :: r).length - a = (min 8 (iL xs ++ o :: r).length - a - 1) + 1 := by rw [hlen]; omega
    rw [h1, h2, List.take_succ_cons]
    rfl
  obtain ⟨r', e⟩ := e3
  rw [e]
  exact ascV_odd ho xs _ r'
theorem sIx_sub {n : Nat} {a : Int} (h0 : 0 ≤ a) (h1 : a ≤ n) : HT.sIx n n (some a) = a.toNat ∧ HT.sIx n 0 (some a) = a.toNat := by
  have h : ∀ d, HT.sIx n d (some a) = a.toNat := fun d => by
    show (if a < 0 then _ else _) = _
    rw [if_neg (by omega)]; omega
  exact ⟨h n, h 0⟩
theorem cut_to {xs : List Int} {a : Int} (h0 : 0 ≤ a) (h1 : a ≤ xs.length) : cutD (iL xs) none (some a) = iL (xs.take a.toNat) := by
  unfold cutD
  rw [iL_len, (sIx_sub h0 h1).1]
  show ((iL xs).drop 0).take (a.toNat - 0) = _
  simp [iL, List.map_take]
theorem nmd_rev {xs : List Int} (h : Nmd xs) (hl : 1 < xs.length) : ascV (-1) (iL xs).reverse = false := by
  have e : (iL xs).reverse = iL xs.reverse := by simp [iL]
  rw [e]
  cases hv : ascV (-1) (iL xs.reverse) with
  | false => rfl
  | true =>
    have z := (ascV_iff _ _).mp hv
    obtain ⟨a, b, r, rfl⟩ : ∃ a b r, xs = a :: b :: r := by
      match xs, hl with
      | a :: b :: r, _ => exact ⟨a, b, r, rfl⟩
    have hab : a < b := h.asc.2.1.2.2
    have pw : ∀ {ys : List Int} {last : Int}, Asc last ys → ys.Pairwise (· < ·) := by
      intro ys
      induction ys with
      | nil => intros; exact .nil
      | cons y ys ih =>
        intro last hy
        exact .cons (fun z hz => asc_gt hy.2 z hz) (ih hy.2)
    have p := pw z
    rw [List.pairwise_reverse] at p
    cases p with
    | cons p1 _ => have := p1 b List.mem_cons_self; omega
theorem nmd_dup {x : Int} {r : List D} : ascV (-1) (cutD (.int x :: .int x :: r) none (some 8)) = false := by
  unfold cutD
  have e2 : HT.sIx (D.int x :: D.int x :: r).length (D.int x :: D.int x :: r).length (some 8) = min 8 (D.int x :: D.int x :: r).length := HT.sIx_nat _ _ 8
  rw [show HT.sIx (D.int x :: D.int x :: r).length 0 none = 0 from rfl, e2, List.drop_zero, Nat.sub_zero]
  obtain ⟨k, hk⟩ : ∃ k, min 8 (D.int x :: D.int x :: r).length = k + 2 := ⟨min 8 (D.int x :: D.int x :: r).length - 2, by simp only [List.length_cons]; omega⟩
  rw [hk, List.take_succ_cons, List.take_succ_cons]
  simp [ascV]
def oddN (a : D) : Prop := a ≠ .hand ∧ namedOk a = false
theorem odd_of {ds : List D} (h : ascV (-1) ds = false) : oddN (.lst ds) := ⟨by simp, odd_lst h⟩
theorem odd_named_ok {xs : List Int} (hx : Nmd xs) {Q : PD} {Qx : PX} (h : ∀ a, oddN a → Q a) : cl_u_law_odd_named [.hand, .lst (iL xs)] Q Qx := by
  simp only [clD, clI, env0, envI, seD, seI, sSeq, sIf, sRet, sRetN, sSkip, sSet, sSetM, sDrop, sFz, frz1, sFor, sAppN, sAug, sTry, sRaiseN, sSetFN, sBreak, sCont, sAsg, bOr, bAnd, bNot, bT, bC, bCh, bTrue, vUn, vBin, vFn, vCon, vNil, vCons, vN, vR, vTup, vLst, vIf, vAndT, vOrT, vNotT, vCallN, vMethN, vPropN, vMakeN, vLock, vLcL, vSl, vIndex, vXn, vXis, vSortSet, vListRev, vLRg, vTRg, vFldN, r1, r2, oNone, oSomeN, nLst, nList, iSeq, iRng, iEnumD, gN, gTn, gAll, setNones, fIsT, fIsC, fFldN, fAdd, fSub, fMulN, fMod, fNeg, fLt, fLe, fGt, fGe, fIs, fIsNot, fLen, fTuple, fInt, fIx2, fSl, seqI, isT, isC, D.tru, D.isNon, caught, bye, noXn, List.map_cons, List.map_nil, List.length_cons, List.length_nil, List.replicate, List.nil_append, List.cons_append, List.append_nil, List.append_assoc, List.set_cons_zero, List.set_cons_succ, List.getElem?_cons_zero, List.getElem?_cons_succ, List.lookup, Nat.reduceAdd, Nat.reduceSub, Nat.reduceEqDiff, Bool.false_eq_true, if_true, if_false, Bool.not_false, Bool.not_true, reduceIte, ite_true, ite_false, true_and, and_true, String.reduceBEq, Bool.or_false, Bool.false_or, Bool.or_true, Bool.true_or, Bool.and_true, Bool.true_and, Bool.and_false, Bool.false_and, cl_u_law_odd_named, sm_u_law_odd_named]
  refine draw_ok (by decide) (by decide) fun w w0 w1 => ?_
  simp only [clD, clI, env0, envI, seD, seI, sSeq, sIf, sRet, sRetN, sSkip, sSet, sSetM, sDrop, sFz, frz1, sFor, sAppN, sAug, sTry, sRaiseN, sSetFN, sBreak, sCont, sAsg, bOr, bAnd, bNot, bT, bC, bCh, bTrue, vUn, vBin, vFn, vCon, vNil, vCons, vN, vR, vTup, vLst, vIf, vAndT, vOrT, vNotT, vCallN, vMethN, vPropN, vMakeN, vLock, vLcL, vSl, vIndex, vXn, vXis, vSortSet, vListRev, vLRg, vTRg, vFldN, r1, r2, oNone, oSomeN, nLst, nList, iSeq, iRng, iEnumD, gN, gTn, gAll, setNones, fIsT, fIsC, fFldN, fAdd, fSub, fMulN, fMod, fNeg, fLt, fLe, fGt, fGe, fIs, fIsNot, fLen, fTuple, fInt, fIx2, fSl, seqI, isT, isC, D.tru, D.isNon, caught, bye, noXn, List.map_cons, List.map_nil, List.length_cons, List.length_nil, List.replicate, List.nil_append, List.cons_append, List.append_nil, List.append_assoc, List.set_cons_zero, List.set_cons_succ, List.getElem?_cons_zero, List.getElem?_cons_succ, List.lookup, Nat.reduceAdd, Nat.reduceSub, Nat.reduceEqDiff, Bool.false_eq_true, if_true, if_false, Bool.not_false, Bool.not_true, reduceIte, ite_true, ite_false, true_and, and_true, String.reduceBEq, Bool.or_false, Bool.false_or, Bool.or_true, Bool.true_or, Bool.and_true, Bool.true_and, Bool.and_false, Bool.false_and]
  by_cases h4 : w < 4
  · simp only [h4, decide_true, if_true]
    refine ⟨by unfold L2.RgOk; decide, by rw [sizeLine_eq]; decide, ?_⟩
    have c : w = 0 ∨ w = 1 ∨ w = 2 ∨ w = 3 := by omega
    rcases c with rfl | rfl | rfl | rfl
    · exact ⟨_, rfl, h _ ⟨by simp, rfl⟩⟩
    · exact ⟨_, rfl, h _ ⟨by simp, rfl⟩⟩
    · exact ⟨_, rfl, h _ ⟨by simp, rfl⟩⟩
    · exact ⟨_, rfl, h _ ⟨by simp, by decide +kernel⟩⟩
  · simp only [h4, decide_false, Bool.false_eq_true, if_false]
    by_cases h8 : w < 8
    · simp only [h8, decide_true, if_true]
      refine draw_ok (by decide) (by decide) fun p p0 p1 => ?_
      simp only [clD, clI, env0, envI, seD, seI, sSeq, sIf, sRet, sRetN, sSkip, sSet, sSetM, sDrop, sFz, frz1, sFor, sAppN, sAug, sTry, sRaiseN, sSetFN, sBreak, sCont, sAsg, bOr, bAnd, bNot, bT, bC, bCh, bTrue, vUn, vBin, vFn, vCon, vNil, vCons, vN, vR, vTup, vLst, vIf, vAndT, vOrT, vNotT, vCallN, vMethN, vPropN, vMakeN, vLock, vLcL, vSl, vIndex, vXn, vXis, vSortSet, vListRev, vLRg, vTRg, vFldN, r1, r2, oNone, oSomeN, nLst, nList, iSeq, iRng, iEnumD, gN, gTn, gAll, setNones, fIsT, fIsC, fFldN, fAdd, fSub, fMulN, fMod, fNeg, fLt, fLe, fGt, fGe, fIs, fIsNot, fLen, fTuple, fInt, fIx2, fSl, seqI, isT, isC, D.tru, D.isNon, caught, bye, noXn, List.map_cons, List.map_nil, List.length_cons, List.length_nil, List.replicate, List.nil_append, List.cons_append, List.append_nil, List.append_assoc, List.set_cons_zero, List.set_cons_succ, List.getElem?_cons_zero, List.getElem?_cons_succ, List.lookup, Nat.reduceAdd, Nat.reduceSub, Nat.reduceEqDiff, Bool.false_eq_true, if_true, if_false, Bool.not_false, Bool.not_true, reduceIte, ite_true, ite_false, true_and, and_true, String.reduceBEq, Bool.or_false, Bool.false_or, Bool.or_true, Bool.true_or, Bool.and_true, Bool.true_and, Bool.and_false, Bool.false_and, pow9]
      refine draw_ok (by decide) (by decide) fun q q0 q1 => ?_
      refine ⟨by rw [sizeLine_eq]; decide, ?_⟩
      obtain ⟨o, eo, ho⟩ : ∃ o, L2.atI [D.int (-1 - p), D.int (1000000000 + 1 + q), D.non, D.str (Str.ofString "3")] (w - 4) = some o ∧ whole 0 HI o = false := by
        have c : w = 4 ∨ w = 5 ∨ w = 6 ∨ w = 7 := by omega
        rcases c with rfl | rfl | rfl | rfl
        · exact ⟨_, rfl, by simp [whole]; omega⟩
        · have z : ¬ (1000000000 + 1 + q ≤ HI) := by
            show ¬ (_ ≤ (1000000000 : Int))
            omega
          exact ⟨_, rfl, by show (decide _ && decide _) = false; rw [decide_eq_false z, Bool.and_false]⟩
        · exact ⟨_, rfl, rfl⟩
        · exact ⟨_, rfl, rfl⟩
      refine ⟨o, eo, ?_⟩
      rw [iL_len]
      have hlen := hx.len
      refine draw_ok (by omega) (by omega) fun a a0 a1 => ?_
      simp only [clD, clI, env0, envI, seD, seI, sSeq, sIf, sRet, sRetN, sSkip, sSet, sSetM, sDrop, sFz, frz1, sFor, sAppN, sAug, sTry, sRaiseN, sSetFN, sBreak, sCont, sAsg, bOr, bAnd, bNot, bT, bC, bCh, bTrue, vUn, vBin, vFn, vCon, vNil, vCons, vN, vR, vTup, vLst, vIf, vAndT, vOrT, vNotT, vCallN, vMethN, vPropN, vMakeN, vLock, vLcL, vSl, vIndex, vXn, vXis, vSortSet, vListRev, vLRg, vTRg, vFldN, r1, r2, oNone, oSomeN, nLst, nList, iSeq, iRng, iEnumD, gN, gTn, gAll, setNones, fIsT, fIsC, fFldN, fAdd, fSub, fMulN, fMod, fNeg, fLt, fLe, fGt, fGe, fIs, fIsNot, fLen, fTuple, fInt, fIx2, fSl, seqI, isT, isC, D.tru, D.isNon, caught, bye, noXn, List.map_cons, List.map_nil, List.length_cons, List.length_nil, List.replicate, List.nil_append, List.cons_append, List.append_nil, List.append_assoc, List.set_cons_zero, List.set_cons_succ, List.getElem?_cons_zero, List.getElem?_cons_succ, List.lookup, Nat.reduceAdd, Nat.reduceSub, Nat.reduceEqDiff, Bool.false_eq_true, if_true, if_false, Bool.not_false, Bool.not_true, reduceIte, ite_true, ite_false, true_and, and_true, String.reduceBEq, Bool.or_false, Bool.false_or, Bool.or_true, Bool.true_or, Bool.and_true, Bool.true_and, Bool.and_false, Bool.false_and]
      by_cases a8 : a < 8
      · simp only [a8, decide_true, if_true]
        obtain ⟨ys, e1, e2, _⟩ := cut_iL xs none (some a)
        obtain ⟨zs, e3, e4, _⟩ := cut_iL xs (some a) none
        refine ⟨by rw [sizeLine_eq]; decide, ?_, ?_, h _ (odd_of ?_)⟩
        · rw [e1, iL_len, sizeLine_eq]; omega
        · rw [e1, e3]; simp only [List.length_append, iL_len, List.length_cons, List.length_nil]; rw [sizeLine_eq]; omega
        · rw [cut_to a0 (by omega)]
          exact take_odd (a := a.toNat) ho (by omega) (by simp; omega)
      · simp only [a8, decide_false, Bool.false_eq_true, if_false]
        exact ⟨by rw [sizeLine_eq]; decide, h _ (odd_of (ascV_odd ho [] _ []))⟩
    · simp only [h8, decide_false, Bool.false_eq_true, if_false]
      have hlen := hx.len
      refine fEq_int ?_
      by_cases h9 : w = 8
      · simp only [h9, decide_true, if_true]
        cases xs with
        | nil => exact ⟨by rw [sizeLine_eq]; decide, h _ (odd_of (by decide +kernel))⟩
        | cons x xs =>
          have e0 : (iL (x :: xs)).isEmpty = false := rfl
          simp only [e0, Bool.not_false, if_true]
          have e1 : cutD (iL (x :: xs)) none (some 1) = [.int x] := by
            rw [cut_to (by decide) (by simp; omega)]
            rfl
          rw [e1]
          refine ⟨?_, h _ (odd_of nmd_dup)⟩
          simp only [List.length_cons, List.length_nil, iL_len]
          simp only [List.length_cons] at hlen
          rw [sizeLine_eq]; omega
      · simp only [h9, decide_false, Bool.false_eq_true, if_false]
        rw [iL_len]
        by_cases hl : (1 : Int) < xs.length
        · simp only [hl, decide_true, if_true]
          exact h _ (odd_of (nmd_rev hx (by omega)))
        · simp only [hl, decide_false, Bool.false_eq_true, if_false]
          exact ⟨by rw [sizeLine_eq]; decide, h _ ⟨by simp, by decide +kernel⟩⟩
theorem refused_ok {xs : List Int} {m : Int} (hx : Nmd xs) (h0 : 1 ≤ m) (h1 : m ≤ 6) {Q : PD} {Qx : PX} (h : Q (.bl true)) : cl_u_law_refused [.hand, .lst (iL xs), .int m] Q Qx := by
  simp only [clD, clI, env0, envI, seD, seI, sSeq, sIf, sRet, sRetN, sSkip, sSet, sSetM, sDrop, sFz, frz1, sFor, sAppN, sAug, sTry, sRaiseN, sSetFN, sBreak, sCont, sAsg, bOr, bAnd, bNot, bT, bC, bCh, bTrue, vUn, vBin, vFn, vCon, vNil, vCons, vN, vR, vTup, vLst, vIf, vAndT, vOrT, vNotT, vCallN, vMethN, vPropN, vMakeN, vLock, vLcL, vSl, vIndex, vXn, vXis, vSortSet, vListRev, vLRg, vTRg, vFldN, r1, r2, oNone, oSomeN, nLst, nList, iSeq, iRng, iEnumD, gN, gTn, gAll, setNones, fIsT, fIsC, fFldN, fAdd, fSub, fMulN, fMod, fNeg, fLt, fLe, fGt, fGe, fIs, fIsNot, fLen, fTuple, fInt, fIx2, fSl, seqI, isT, isC, D.tru, D.isNon, caught, bye, noXn, List.map_cons, List.map_nil, List.length_cons, List.length_nil, List.replicate, List.nil_append, List.cons_append, List.append_nil, List.append_assoc, List.set_cons_zero, List.set_cons_succ, List.getElem?_cons_zero, List.getElem?_cons_succ, List.lookup, Nat.reduceAdd, Nat.reduceSub, Nat.reduceEqDiff, Bool.false_eq_true, if_true, if_false, Bool.not_false, Bool.not_true, reduceIte, ite_true, ite_false, true_and, and_true, String.reduceBEq, Bool.or_false, Bool.false_or, Bool.or_true, Bool.true_or, Bool.and_true, Bool.true_and, Bool.and_false, Bool.false_and, cl_u_law_refused, sm_u_law_refused, pow30]
  refine ⟨by rw [sizeLine_eq]; decide, draw_ok (by decide) (by decide) fun p p0 p1 => ?_⟩
  refine ⟨by rw [sizeLine_eq]; decide, draw_ok (by decide) (by decide) fun w w0 w1 => ?_⟩
  obtain ⟨o, eo, ho⟩ : ∃ o, L2.atI [D.int 0, D.int 7, D.int (-1), D.bl true, D.non, D.str (Str.ofString "2"), D.tup [D.int 3], D.int 1000000000000000000000000000000, D.int (7 + p)] w = some o ∧ modOk o = false := by
    have c : w = 0 ∨ w = 1 ∨ w = 2 ∨ w = 3 ∨ w = 4 ∨ w = 5 ∨ w = 6 ∨ w = 7 ∨ w = 8 := by omega
    rcases c with rfl | rfl | rfl | rfl | rfl | rfl | rfl | rfl | rfl
    all_goals first | exact ⟨_, rfl, rfl⟩ | exact ⟨_, rfl, by simp [modOk, whole]; omega⟩
  refine ⟨o, eo, odd_named_ok hx fun a ha => ?_⟩
  try simp only [clD, clI, env0, envI, seD, seI, sSeq, sIf, sRet, sRetN, sSkip, sSet, sSetM, sDrop, sFz, frz1, sFor, sAppN, sAug, sTry, sRaiseN, sSetFN, sBreak, sCont, sAsg, bOr, bAnd, bNot, bT, bC, bCh, bTrue, vUn, vBin, vFn, vCon, vNil, vCons, vN, vR, vTup, vLst, vIf, vAndT, vOrT, vNotT, vCallN, vMethN, vPropN, vMakeN, vLock, vLcL, vSl, vIndex, vXn, vXis, vSortSet, vListRev, vLRg, vTRg, vFldN, r1, r2, oNone, oSomeN, nLst, nList, iSeq, iRng, iEnumD, gN, gTn, gAll, setNones, fIsT, fIsC, fFldN, fAdd, fSub, fMulN, fMod, fNeg, fLt, fLe, fGt, fGe, fIs, fIsNot, fLen, fTuple, fInt, fIx2, fSl, seqI, isT, isC, D.tru, D.isNon, caught, bye, noXn, List.map_cons, List.map_nil, List.length_cons, List.length_nil, List.replicate, List.nil_append, List.cons_append, List.append_nil, List.append_assoc, List.set_cons_zero, List.set_cons_succ, List.getElem?_cons_zero, List.getElem?_cons_succ, List.lookup, Nat.reduceAdd, Nat.reduceSub, Nat.reduceEqDiff, Bool.false_eq_true, if_true, if_false, Bool.not_false, Bool.not_true, reduceIte, ite_true, ite_false, true_and, and_true, String.reduceBEq, Bool.or_false, Bool.false_or, Bool.or_true, Bool.true_or, Bool.and_true, Bool.true_and, Bool.and_false, Bool.false_and]
  refine made_bad ha.1 ha.2 ?_
  refine ⟨by rw [sizeLine_eq]; decide, exact_refl 4 _ pl_named ?_⟩
  try simp only [clD, clI, env0, envI, seD, seI, sSeq, sIf, sRet, sRetN, sSkip, sSet, sSetM, sDrop, sFz, frz1, sFor, sAppN, sAug, sTry, sRaiseN, sSetFN, sBreak, sCont, sAsg, bOr, bAnd, bNot, bT, bC, bCh, bTrue, vUn, vBin, vFn, vCon, vNil, vCons, vN, vR, vTup, vLst, vIf, vAndT, vOrT, vNotT, vCallN, vMethN, vPropN, vMakeN, vLock, vLcL, vSl, vIndex, vXn, vXis, vSortSet, vListRev, vLRg, vTRg, vFldN, r1, r2, oNone, oSomeN, nLst, nList, iSeq, iRng, iEnumD, gN, gTn, gAll, setNones, fIsT, fIsC, fFldN, fAdd, fSub, fMulN, fMod, fNeg, fLt, fLe, fGt, fGe, fIs, fIsNot, fLen, fTuple, fInt, fIx2, fSl, seqI, isT, isC, D.tru, D.isNon, caught, bye, noXn, List.map_cons, List.map_nil, List.length_cons, List.length_nil, List.replicate, List.nil_append, List.cons_append, List.append_nil, List.append_assoc, List.set_cons_zero, List.set_cons_succ, List.getElem?_cons_zero, List.getElem?_cons_succ, List.lookup, Nat.reduceAdd, Nat.reduceSub, Nat.reduceEqDiff, Bool.false_eq_true, if_true, if_false, Bool.not_false, Bool.not_true, reduceIte, ite_true, ite_false, true_and, and_true, String.reduceBEq, Bool.or_false, Bool.false_or, Bool.or_true, Bool.true_or, Bool.and_true, Bool.true_and, Bool.and_false, Bool.false_and]
  refine made_bad ha.1 ha.2 ?_
  refine ⟨by rw [sizeLine_eq]; decide, exact_refl 4 _ pl_named ?_⟩
  try simp only [clD, clI, env0, envI, seD, seI, sSeq, sIf, sRet, sRetN, sSkip, sSet, sSetM, sDrop, sFz, frz1, sFor, sAppN, sAug, sTry, sRaiseN, sSetFN, sBreak, sCont, sAsg, bOr, bAnd, bNot, bT, bC, bCh, bTrue, vUn, vBin, vFn, vCon, vNil, vCons, vN, vR, vTup, vLst, vIf, vAndT, vOrT, vNotT, vCallN, vMethN, vPropN, vMakeN, vLock, vLcL, vSl, vIndex, vXn, vXis, vSortSet, vListRev, vLRg, vTRg, vFldN, r1, r2, oNone, oSomeN, nLst, nList, iSeq, iRng, iEnumD, gN, gTn, gAll, setNones, fIsT, fIsC, fFldN, fAdd, fSub, fMulN, fMod, fNeg, fLt, fLe, fGt, fGe, fIs, fIsNot, fLen, fTuple, fInt, fIx2, fSl, seqI, isT, isC, D.tru, D.isNon, caught, bye, noXn, List.map_cons, List.map_nil, List.length_cons, List.length_nil, List.replicate, List.nil_append, List.cons_append, List.append_nil, List.append_assoc, List.set_cons_zero, List.set_cons_succ, List.getElem?_cons_zero, List.getElem?_cons_succ, List.lookup, Nat.reduceAdd, Nat.reduceSub, Nat.reduceEqDiff, Bool.false_eq_true, if_true, if_false, Bool.not_false, Bool.not_true, reduceIte, ite_true, ite_false, true_and, and_true, String.reduceBEq, Bool.or_false, Bool.false_or, Bool.or_true, Bool.true_or, Bool.and_true, Bool.true_and, Bool.and_false, Bool.false_and]
  refine made_mod (.inl rfl) hx ho ?_
  refine ⟨by rw [sizeLine_eq]; decide, exact_refl 4 _ pl_mod ?_⟩
  try simp only [clD, clI, env0, envI, seD, seI, sSeq, sIf, sRet, sRetN, sSkip, sSet, sSetM, sDrop, sFz, frz1, sFor, sAppN, sAug, sTry, sRaiseN, sSetFN, sBreak, sCont, sAsg, bOr, bAnd, bNot, bT, bC, bCh, bTrue, vUn, vBin, vFn, vCon, vNil, vCons, vN, vR, vTup, vLst, vIf, vAndT, vOrT, vNotT, vCallN, vMethN, vPropN, vMakeN, vLock, vLcL, vSl, vIndex, vXn, vXis, vSortSet, vListRev, vLRg, vTRg, vFldN, r1, r2, oNone, oSomeN, nLst, nList, iSeq, iRng, iEnumD, gN, gTn, gAll, setNones, fIsT, fIsC, fFldN, fAdd, fSub, fMulN, fMod, fNeg, fLt, fLe, fGt, fGe, fIs, fIsNot, fLen, fTuple, fInt, fIx2, fSl, seqI, isT, isC, D.tru, D.isNon, caught, bye, noXn, List.map_cons, List.map_nil, List.length_cons, List.length_nil, List.replicate, List.nil_append, List.cons_append, List.append_nil, List.append_assoc, List.set_cons_zero, List.set_cons_succ, List.getElem?_cons_zero, List.getElem?_cons_succ, List.lookup, Nat.reduceAdd, Nat.reduceSub, Nat.reduceEqDiff, Bool.false_eq_true, if_true, if_false, Bool.not_false, Bool.not_true, reduceIte, ite_true, ite_false, true_and, and_true, String.reduceBEq, Bool.or_false, Bool.false_or, Bool.or_true, Bool.true_or, Bool.and_true, Bool.true_and, Bool.and_false, Bool.false_and]
  refine init_ok (by simp) ?_
  rw [nmd_seq (.inl rfl) hx, ho]
  simp only [clD, clI, env0, envI, seD, seI, sSeq, sIf, sRet, sRetN, sSkip, sSet, sSetM, sDrop, sFz, frz1, sFor, sAppN, sAug, sTry, sRaiseN, sSetFN, sBreak, sCont, sAsg, bOr, bAnd, bNot, bT, bC, bCh, bTrue, vUn, vBin, vFn, vCon, vNil, vCons, vN, vR, vTup, vLst, vIf, vAndT, vOrT, vNotT, vCallN, vMethN, vPropN, vMakeN, vLock, vLcL, vSl, vIndex, vXn, vXis, vSortSet, vListRev, vLRg, vTRg, vFldN, r1, r2, oNone, oSomeN, nLst, nList, iSeq, iRng, iEnumD, gN, gTn, gAll, setNones, fIsT, fIsC, fFldN, fAdd, fSub, fMulN, fMod, fNeg, fLt, fLe, fGt, fGe, fIs, fIsNot, fLen, fTuple, fInt, fIx2, fSl, seqI, isT, isC, D.tru, D.isNon, caught, bye, noXn, List.map_cons, List.map_nil, List.length_cons, List.length_nil, List.replicate, List.nil_append, List.cons_append, List.append_nil, List.append_assoc, List.set_cons_zero, List.set_cons_succ, List.getElem?_cons_zero, List.getElem?_cons_succ, List.lookup, Nat.reduceAdd, Nat.reduceSub, Nat.reduceEqDiff, Bool.false_eq_true, if_true, if_false, Bool.not_false, Bool.not_true, reduceIte, ite_true, ite_false, true_and, and_true, String.reduceBEq, Bool.or_false, Bool.false_or, Bool.or_true, Bool.true_or, Bool.and_true, Bool.true_and, Bool.and_false, Bool.false_and, modX]
  exact h
end Rd
end
section
set_option Elab.async false
set_option linter.all false
set_option autoImplicit false
set_option maxRecDepth 100000
set_option maxHeartbeats 4000000
namespace Rd
open PySem Mw Rd0
theorem lc_map {i : Nat} {e : Sm} {env : En} {Q : List D → Prop} {f : Int → Int} : ∀ (vs : List Int) (acc : List D), (∀ v ∈ vs, ∀ K : PD, K (.int (f v)) → e (env.set i (some (.d (.int v)))) K (fun _ => False)) → acc.length + vs.length ≤ 1000 → Q (acc ++ iL (vs.map f)) → lcD (gN i) bTrue e env (iL vs) acc Q
  | [], acc, _, _, q => by
    show Q acc
    simpa [iL] using q
  | v :: vs, acc, h, hl, q => by
    show lcD (gN i) bTrue e env (.int v :: iL vs) acc Q
    unfold lcD
    show e (env.set i (some (.d (.int v)))) _ _
    refine h v List.mem_cons_self _ ?_
    simp only [List.length_cons] at hl
    refine ⟨Nat.lt_of_le_of_lt (by omega : acc.length ≤ 1000) (by rw [sizeLine_eq]; decide), ?_⟩
    refine lc_map vs _ (fun x hx => h x (List.mem_cons_of_mem _ hx)) (by simp; omega) ?_
    simpa [iL] using q
theorem lc_vals {i : Nat} {e : Sm} {env : En} {Q : List D → Prop} {P : Int → Prop} : ∀ (ds : List D) (acc : List Int), (∀ d ∈ ds, ∀ K : PD, (∀ v, P v → K (.int v)) → e (env.set i (some (.d d))) K (fun _ => False)) → acc.length + ds.length ≤ 1000 → (∀ v ∈ acc, P v) → (∀ vs : List Int, vs.length = acc.length + ds.length → (∀ v ∈ vs, P v) → Q (iL vs)) → lcD (gN i) bTrue e env ds (iL acc) Q
  | [], acc, _, _, ha, q => q acc (by simp) ha
  | d :: ds, acc, h, hl, ha, q => by
    unfold lcD
    show e (env.set i (some (.d d))) _ _
    refine h d List.mem_cons_self _ fun v hv => ?_
    simp only [List.length_cons] at hl
    refine ⟨Nat.lt_of_le_of_lt (by rw [iL_len]; omega : (iL acc).length ≤ 1000) (by rw [sizeLine_eq]; decide), ?_⟩
    rw [iL_app]
    refine lc_vals ds (acc ++ [v]) (fun x hx => h x (List.mem_cons_of_mem _ hx)) (by simp; omega) (fun x hx => ?_) fun vs hv2 hp => q vs (by simp at hv2 ⊢; omega) hp
    rcases List.mem_append.mp hx with hx | hx
    · exact ha x hx
    · cases List.mem_singleton.mp hx; exact hv
theorem kind_of_ok {xs vs : List Int} {m t : Int} {Q : PD} {Qx : PX} (hm : 0 < m) (hl : vs.length ≤ 1000) (hv : ∀ v ∈ vs, 0 ≤ v ∧ v ≤ HI) (h : Q (.tup [.int t, .tup (iL (vs.map (sortOf xs m)))])) : cl_Sorts_kind_of [dS (iL xs) (.int m), .tup [.int t, .tup (iL vs)]] Q Qx := by
  simp only [clD, clI, env0, envI, seD, seI, sSeq, sIf, sRet, sRetN, sSkip, sSet, sSetM, sDrop, sFz, frz1, sFor, sAppN, sAug, sTry, sRaiseN, sSetFN, sBreak, sCont, sAsg, bOr, bAnd, bNot, bT, bC, bCh, bTrue, vUn, vBin, vFn, vCon, vNil, vCons, vN, vR, vTup, vLst, vIf, vAndT, vOrT, vNotT, vCallN, vMethN, vPropN, vMakeN, vLock, vLcL, vSl, vIndex, vXn, vXis, vSortSet, vListRev, vLRg, vTRg, vFldN, r1, r2, oNone, oSomeN, nLst, nList, iSeq, iRng, iEnumD, gN, gTn, gAll, setNones, fIsT, fIsC, fFldN, fAdd, fSub, fMulN, fMod, fNeg, fLt, fLe, fGt, fGe, fIs, fIsNot, fLen, fTuple, fInt, fIx2, fSl, seqI, isT, isC, D.tru, D.isNon, caught, bye, noXn, List.map_cons, List.map_nil, List.length_cons, List.length_nil, List.replicate, List.nil_append, List.cons_append, List.append_nil, List.append_assoc, List.set_cons_zero, List.set_cons_succ, List.getElem?_cons_zero, List.getElem?_cons_succ, List.lookup, Nat.reduceAdd, Nat.reduceSub, Nat.reduceEqDiff, Bool.false_eq_true, if_true, if_false, Bool.not_false, Bool.not_true, reduceIte, ite_true, ite_false, true_and, and_true, String.reduceBEq, Bool.or_false, Bool.false_or, Bool.or_true, Bool.true_or, Bool.and_true, Bool.true_and, Bool.and_false, Bool.false_and, cl_Sorts_kind_of, sm_Sorts_kind_of]
  refine ⟨_, rfl, _, rfl, ?_⟩
  refine lc_map (f := sortOf xs m) vs [] (fun v hv' K hK => ?_) (by simpa using hl) ?_
  · simp only [clD, clI, env0, envI, seD, seI, sSeq, sIf, sRet, sRetN, sSkip, sSet, sSetM, sDrop, sFz, frz1, sFor, sAppN, sAug, sTry, sRaiseN, sSetFN, sBreak, sCont, sAsg, bOr, bAnd, bNot, bT, bC, bCh, bTrue, vUn, vBin, vFn, vCon, vNil, vCons, vN, vR, vTup, vLst, vIf, vAndT, vOrT, vNotT, vCallN, vMethN, vPropN, vMakeN, vLock, vLcL, vSl, vIndex, vXn, vXis, vSortSet, vListRev, vLRg, vTRg, vFldN, r1, r2, oNone, oSomeN, nLst, nList, iSeq, iRng, iEnumD, gN, gTn, gAll, setNones, fIsT, fIsC, fFldN, fAdd, fSub, fMulN, fMod, fNeg, fLt, fLe, fGt, fGe, fIs, fIsNot, fLen, fTuple, fInt, fIx2, fSl, seqI, isT, isC, D.tru, D.isNon, caught, bye, noXn, List.map_cons, List.map_nil, List.length_cons, List.length_nil, List.replicate, List.nil_append, List.cons_append, List.append_nil, List.append_assoc, List.set_cons_zero, List.set_cons_succ, List.getElem?_cons_zero, List.getElem?_cons_succ, List.lookup, Nat.reduceAdd, Nat.reduceSub, Nat.reduceEqDiff, Bool.false_eq_true, if_true, if_false, Bool.not_false, Bool.not_true, reduceIte, ite_true, ite_false, true_and, and_true, String.reduceBEq, Bool.or_false, Bool.false_or, Bool.or_true, Bool.true_or, Bool.and_true, Bool.true_and, Bool.and_false, Bool.false_and, dS, fld_sort_of]
    exact sort_of_ok hm (hv v hv').1 (hv v hv').2 hK
  · simp only [clD, clI, env0, envI, seD, seI, sSeq, sIf, sRet, sRetN, sSkip, sSet, sSetM, sDrop, sFz, frz1, sFor, sAppN, sAug, sTry, sRaiseN, sSetFN, sBreak, sCont, sAsg, bOr, bAnd, bNot, bT, bC, bCh, bTrue, vUn, vBin, vFn, vCon, vNil, vCons, vN, vR, vTup, vLst, vIf, vAndT, vOrT, vNotT, vCallN, vMethN, vPropN, vMakeN, vLock, vLcL, vSl, vIndex, vXn, vXis, vSortSet, vListRev, vLRg, vTRg, vFldN, r1, r2, oNone, oSomeN, nLst, nList, iSeq, iRng, iEnumD, gN, gTn, gAll, setNones, fIsT, fIsC, fFldN, fAdd, fSub, fMulN, fMod, fNeg, fLt, fLe, fGt, fGe, fIs, fIsNot, fLen, fTuple, fInt, fIx2, fSl, seqI, isT, isC, D.tru, D.isNon, caught, bye, noXn, List.map_cons, List.map_nil, List.length_cons, List.length_nil, List.replicate, List.nil_append, List.cons_append, List.append_nil, List.append_assoc, List.set_cons_zero, List.set_cons_succ, List.getElem?_cons_zero, List.getElem?_cons_succ, List.lookup, Nat.reduceAdd, Nat.reduceSub, Nat.reduceEqDiff, Bool.false_eq_true, if_true, if_false, Bool.not_false, Bool.not_true, reduceIte, ite_true, ite_false, true_and, and_true, String.reduceBEq, Bool.or_false, Bool.false_or, Bool.or_true, Bool.true_or, Bool.and_true, Bool.true_and, Bool.and_false, Bool.false_and]
    exact ⟨by rw [sizeLine_eq]; decide, h⟩
theorem law_kind_ok {xs vs : List Int} {m t : Int} {Q : PD} {Qx : PX} (hm : 0 < m) (hl : vs.length ≤ 1000) (h : Q (.tup [.int t, .tup (iL (vs.map (sortOf xs m)))])) : cl_u_law_kind [.lst (iL xs), .int m, .tup [.int t, .tup (iL vs)]] Q Qx := by
  simp only [clD, clI, env0, envI, seD, seI, sSeq, sIf, sRet, sRetN, sSkip, sSet, sSetM, sDrop, sFz, frz1, sFor, sAppN, sAug, sTry, sRaiseN, sSetFN, sBreak, sCont, sAsg, bOr, bAnd, bNot, bT, bC, bCh, bTrue, vUn, vBin, vFn, vCon, vNil, vCons, vN, vR, vTup, vLst, vIf, vAndT, vOrT, vNotT, vCallN, vMethN, vPropN, vMakeN, vLock, vLcL, vSl, vIndex, vXn, vXis, vSortSet, vListRev, vLRg, vTRg, vFldN, r1, r2, oNone, oSomeN, nLst, nList, iSeq, iRng, iEnumD, gN, gTn, gAll, setNones, fIsT, fIsC, fFldN, fAdd, fSub, fMulN, fMod, fNeg, fLt, fLe, fGt, fGe, fIs, fIsNot, fLen, fTuple, fInt, fIx2, fSl, seqI, isT, isC, D.tru, D.isNon, caught, bye, noXn, List.map_cons, List.map_nil, List.length_cons, List.length_nil, List.replicate, List.nil_append, List.cons_append, List.append_nil, List.append_assoc, List.set_cons_zero, List.set_cons_succ, List.getElem?_cons_zero, List.getElem?_cons_succ, List.lookup, Nat.reduceAdd, Nat.reduceSub, Nat.reduceEqDiff, Bool.false_eq_true, if_true, if_false, Bool.not_false, Bool.not_true, reduceIte, ite_true, ite_false, true_and, and_true, String.reduceBEq, Bool.or_false, Bool.false_or, Bool.or_true, Bool.true_or, Bool.and_true, Bool.true_and, Bool.and_false, Bool.false_and, cl_u_law_kind, sm_u_law_kind]
  refine ⟨_, rfl, _, rfl, ?_⟩
  refine lc_map (f := sortOf xs m) vs [] (fun v hv' K hK => ?_) (by simpa using hl) ?_
  · simp only [clD, clI, env0, envI, seD, seI, sSeq, sIf, sRet, sRetN, sSkip, sSet, sSetM, sDrop, sFz, frz1, sFor, sAppN, sAug, sTry, sRaiseN, sSetFN, sBreak, sCont, sAsg, bOr, bAnd, bNot, bT, bC, bCh, bTrue, vUn, vBin, vFn, vCon, vNil, vCons, vN, vR, vTup, vLst, vIf, vAndT, vOrT, vNotT, vCallN, vMethN, vPropN, vMakeN, vLock, vLcL, vSl, vIndex, vXn, vXis, vSortSet, vListRev, vLRg, vTRg, vFldN, r1, r2, oNone, oSomeN, nLst, nList, iSeq, iRng, iEnumD, gN, gTn, gAll, setNones, fIsT, fIsC, fFldN, fAdd, fSub, fMulN, fMod, fNeg, fLt, fLe, fGt, fGe, fIs, fIsNot, fLen, fTuple, fInt, fIx2, fSl, seqI, isT, isC, D.tru, D.isNon, caught, bye, noXn, List.map_cons, List.map_nil, List.length_cons, List.length_nil, List.replicate, List.nil_append, List.cons_append, List.append_nil, List.append_assoc, List.set_cons_zero, List.set_cons_succ, List.getElem?_cons_zero, List.getElem?_cons_succ, List.lookup, Nat.reduceAdd, Nat.reduceSub, Nat.reduceEqDiff, Bool.false_eq_true, if_true, if_false, Bool.not_false, Bool.not_true, reduceIte, ite_true, ite_false, true_and, and_true, String.reduceBEq, Bool.or_false, Bool.false_or, Bool.or_true, Bool.true_or, Bool.and_true, Bool.true_and, Bool.and_false, Bool.false_and]
    exact law_sort_ok hm hK
  · simp only [clD, clI, env0, envI, seD, seI, sSeq, sIf, sRet, sRetN, sSkip, sSet, sSetM, sDrop, sFz, frz1, sFor, sAppN, sAug, sTry, sRaiseN, sSetFN, sBreak, sCont, sAsg, bOr, bAnd, bNot, bT, bC, bCh, bTrue, vUn, vBin, vFn, vCon, vNil, vCons, vN, vR, vTup, vLst, vIf, vAndT, vOrT, vNotT, vCallN, vMethN, vPropN, vMakeN, vLock, vLcL, vSl, vIndex, vXn, vXis, vSortSet, vListRev, vLRg, vTRg, vFldN, r1, r2, oNone, oSomeN, nLst, nList, iSeq, iRng, iEnumD, gN, gTn, gAll, setNones, fIsT, fIsC, fFldN, fAdd, fSub, fMulN, fMod, fNeg, fLt, fLe, fGt, fGe, fIs, fIsNot, fLen, fTuple, fInt, fIx2, fSl, seqI, isT, isC, D.tru, D.isNon, caught, bye, noXn, List.map_cons, List.map_nil, List.length_cons, List.length_nil, List.replicate, List.nil_append, List.cons_append, List.append_nil, List.append_assoc, List.set_cons_zero, List.set_cons_succ, List.getElem?_cons_zero, List.getElem?_cons_succ, List.lookup, Nat.reduceAdd, Nat.reduceSub, Nat.reduceEqDiff, Bool.false_eq_true, if_true, if_false, Bool.not_false, Bool.not_true, reduceIte, ite_true, ite_false, true_and, and_true, String.reduceBEq, Bool.or_false, Bool.false_or, Bool.or_true, Bool.true_or, Bool.and_true, Bool.true_and, Bool.and_false, Bool.false_and]
    exact ⟨by rw [sizeLine_eq]; decide, h⟩
theorem sort_asked_bad {ds : List D} {m d : D} {Q : PD} {Qx : PX} (h1 : whole 0 HI d = false) (h : Q (.tup [.str "no value", d])) : cl_u_law_sort_asked [dS ds m, d] Q Qx := by
  simp only [clD, clI, env0, envI, seD, seI, sSeq, sIf, sRet, sRetN, sSkip, sSet, sSetM, sDrop, sFz, frz1, sFor, sAppN, sAug, sTry, sRaiseN, sSetFN, sBreak, sCont, sAsg, bOr, bAnd, bNot, bT, bC, bCh, bTrue, vUn, vBin, vFn, vCon, vNil, vCons, vN, vR, vTup, vLst, vIf, vAndT, vOrT, vNotT, vCallN, vMethN, vPropN, vMakeN, vLock, vLcL, vSl, vIndex, vXn, vXis, vSortSet, vListRev, vLRg, vTRg, vFldN, r1, r2, oNone, oSomeN, nLst, nList, iSeq, iRng, iEnumD, gN, gTn, gAll, setNones, fIsT, fIsC, fFldN, fAdd, fSub, fMulN, fMod, fNeg, fLt, fLe, fGt, fGe, fIs, fIsNot, fLen, fTuple, fInt, fIx2, fSl, seqI, isT, isC, D.tru, D.isNon, caught, bye, noXn, List.map_cons, List.map_nil, List.length_cons, List.length_nil, List.replicate, List.nil_append, List.cons_append, List.append_nil, List.append_assoc, List.set_cons_zero, List.set_cons_succ, List.getElem?_cons_zero, List.getElem?_cons_succ, List.lookup, Nat.reduceAdd, Nat.reduceSub, Nat.reduceEqDiff, Bool.false_eq_true, if_true, if_false, Bool.not_false, Bool.not_true, reduceIte, ite_true, ite_false, true_and, and_true, String.reduceBEq, Bool.or_false, Bool.false_or, Bool.or_true, Bool.true_or, Bool.and_true, Bool.true_and, Bool.and_false, Bool.false_and, cl_u_law_sort_asked, sm_u_law_sort_asked, dS, fld_sort_of]
  refine sort_of_bad h1 ?_
  simp only [clD, clI, env0, envI, seD, seI, sSeq, sIf, sRet, sRetN, sSkip, sSet, sSetM, sDrop, sFz, frz1, sFor, sAppN, sAug, sTry, sRaiseN, sSetFN, sBreak, sCont, sAsg, bOr, bAnd, bNot, bT, bC, bCh, bTrue, vUn, vBin, vFn, vCon, vNil, vCons, vN, vR, vTup, vLst, vIf, vAndT, vOrT, vNotT, vCallN, vMethN, vPropN, vMakeN, vLock, vLcL, vSl, vIndex, vXn, vXis, vSortSet, vListRev, vLRg, vTRg, vFldN, r1, r2, oNone, oSomeN, nLst, nList, iSeq, iRng, iEnumD, gN, gTn, gAll, setNones, fIsT, fIsC, fFldN, fAdd, fSub, fMulN, fMod, fNeg, fLt, fLe, fGt, fGe, fIs, fIsNot, fLen, fTuple, fInt, fIx2, fSl, seqI, isT, isC, D.tru, D.isNon, caught, bye, noXn, List.map_cons, List.map_nil, List.length_cons, List.length_nil, List.replicate, List.nil_append, List.cons_append, List.append_nil, List.append_assoc, List.set_cons_zero, List.set_cons_succ, List.getElem?_cons_zero, List.getElem?_cons_succ, List.lookup, Nat.reduceAdd, Nat.reduceSub, Nat.reduceEqDiff, Bool.false_eq_true, if_true, if_false, Bool.not_false, Bool.not_true, reduceIte, ite_true, ite_false, true_and, and_true, String.reduceBEq, Bool.or_false, Bool.false_or, Bool.or_true, Bool.true_or, Bool.and_true, Bool.true_and, Bool.and_false, Bool.false_and]
  exact ⟨by rw [sizeLine_eq]; decide, h⟩
theorem plN_mono1 (d : D) (h : plN 2 d = true) : plN 3 d = true := by
  cases d <;> try exact h
  rename_i ds
  have h : (decide (ds.length ≤ 1000) && ds.all (plN 1)) = true := h
  rw [Bool.and_eq_true, decide_eq_true_eq, List.all_eq_true] at h
  refine plN_tup h.1 fun d hd => ?_
  have := h.2 d hd
  cases d <;> first | exact this | exact (Bool.false_ne_true (by simpa [plN] using this)).elim | (rename_i es; have z : (decide (es.length ≤ 1000) && es.all (plN 0)) = true := this; rw [Bool.and_eq_true, decide_eq_true_eq, List.all_eq_true] at z; exact plN_tup z.1 fun x hx => absurd (z.2 x hx) (by simp [plN]))
theorem values_sorted_ok {xs : List Int} {m : Int} (hx : Nmd xs) (h0 : 1 ≤ m) {Q : PD} {Qx : PX} (h : Q (.bl true)) : cl_u_law_values_sorted [.hand, dS (iL xs) (.int m), .lst (iL xs), .int m] Q Qx := by
  simp only [clD, clI, env0, envI, seD, seI, sSeq, sIf, sRet, sRetN, sSkip, sSet, sSetM, sDrop, sFz, frz1, sFor, sAppN, sAug, sTry, sRaiseN, sSetFN, sBreak, sCont, sAsg, bOr, bAnd, bNot, bT, bC, bCh, bTrue, vUn, vBin, vFn, vCon, vNil, vCons, vN, vR, vTup, vLst, vIf, vAndT, vOrT, vNotT, vCallN, vMethN, vPropN, vMakeN, vLock, vLcL, vSl, vIndex, vXn, vXis, vSortSet, vListRev, vLRg, vTRg, vFldN, r1, r2, oNone, oSomeN, nLst, nList, iSeq, iRng, iEnumD, gN, gTn, gAll, setNones, fIsT, fIsC, fFldN, fAdd, fSub, fMulN, fMod, fNeg, fLt, fLe, fGt, fGe, fIs, fIsNot, fLen, fTuple, fInt, fIx2, fSl, seqI, isT, isC, D.tru, D.isNon, caught, bye, noXn, List.map_cons, List.map_nil, List.length_cons, List.length_nil, List.replicate, List.nil_append, List.cons_append, List.append_nil, List.append_assoc, List.set_cons_zero, List.set_cons_succ, List.getElem?_cons_zero, List.getElem?_cons_succ, List.lookup, Nat.reduceAdd, Nat.reduceSub, Nat.reduceEqDiff, Bool.false_eq_true, if_true, if_false, Bool.not_false, Bool.not_true, reduceIte, ite_true, ite_false, true_and, and_true, String.reduceBEq, Bool.or_false, Bool.false_or, Bool.or_true, Bool.true_or, Bool.and_true, Bool.true_and, Bool.and_false, Bool.false_and, cl_u_law_values_sorted, sm_u_law_values_sorted]
  refine ⟨8, rfl, by decide, by decide, ?_⟩
  refine lc_vals (P := fun v => 0 ≤ v ∧ v ≤ HI) _ [] (fun d hd K hK => ?_) (by simp [rngD]) (fun v hv => (List.not_mem_nil hv).elim) fun vs hlen hvs => ?_
  · simp only [clD, clI, env0, envI, seD, seI, sSeq, sIf, sRet, sRetN, sSkip, sSet, sSetM, sDrop, sFz, frz1, sFor, sAppN, sAug, sTry, sRaiseN, sSetFN, sBreak, sCont, sAsg, bOr, bAnd, bNot, bT, bC, bCh, bTrue, vUn, vBin, vFn, vCon, vNil, vCons, vN, vR, vTup, vLst, vIf, vAndT, vOrT, vNotT, vCallN, vMethN, vPropN, vMakeN, vLock, vLcL, vSl, vIndex, vXn, vXis, vSortSet, vListRev, vLRg, vTRg, vFldN, r1, r2, oNone, oSomeN, nLst, nList, iSeq, iRng, iEnumD, gN, gTn, gAll, setNones, fIsT, fIsC, fFldN, fAdd, fSub, fMulN, fMod, fNeg, fLt, fLe, fGt, fGe, fIs, fIsNot, fLen, fTuple, fInt, fIx2, fSl, seqI, isT, isC, D.tru, D.isNon, caught, bye, noXn, List.map_cons, List.map_nil, List.length_cons, List.length_nil, List.replicate, List.nil_append, List.cons_append, List.append_nil, List.append_assoc, List.set_cons_zero, List.set_cons_succ, List.getElem?_cons_zero, List.getElem?_cons_succ, List.lookup, Nat.reduceAdd, Nat.reduceSub, Nat.reduceEqDiff, Bool.false_eq_true, if_true, if_false, Bool.not_false, Bool.not_true, reduceIte, ite_true, ite_false, true_and, and_true, String.reduceBEq, Bool.or_false, Bool.false_or, Bool.or_true, Bool.true_or, Bool.and_true, Bool.true_and, Bool.and_false, Bool.false_and]
    exact some_value_ok hx fun v a b => hK v ⟨a, b⟩
  · have hlen : vs.length = 8 := by simpa [rngD] using hlen
    simp only [clD, clI, env0, envI, seD, seI, sSeq, sIf, sRet, sRetN, sSkip, sSet, sSetM, sDrop, sFz, frz1, sFor, sAppN, sAug, sTry, sRaiseN, sSetFN, sBreak, sCont, sAsg, bOr, bAnd, bNot, bT, bC, bCh, bTrue, vUn, vBin, vFn, vCon, vNil, vCons, vN, vR, vTup, vLst, vIf, vAndT, vOrT, vNotT, vCallN, vMethN, vPropN, vMakeN, vLock, vLcL, vSl, vIndex, vXn, vXis, vSortSet, vListRev, vLRg, vTRg, vFldN, r1, r2, oNone, oSomeN, nLst, nList, iSeq, iRng, iEnumD, gN, gTn, gAll, setNones, fIsT, fIsC, fFldN, fAdd, fSub, fMulN, fMod, fNeg, fLt, fLe, fGt, fGe, fIs, fIsNot, fLen, fTuple, fInt, fIx2, fSl, seqI, isT, isC, D.tru, D.isNon, caught, bye, noXn, List.map_cons, List.map_nil, List.length_cons, List.length_nil, List.replicate, List.nil_append, List.cons_append, List.append_nil, List.append_assoc, List.set_cons_zero, List.set_cons_succ, List.getElem?_cons_zero, List.getElem?_cons_succ, List.lookup, Nat.reduceAdd, Nat.reduceSub, Nat.reduceEqDiff, Bool.false_eq_true, if_true, if_false, Bool.not_false, Bool.not_true, reduceIte, ite_true, ite_false, true_and, and_true, String.reduceBEq, Bool.or_false, Bool.false_or, Bool.or_true, Bool.true_or, Bool.and_true, Bool.true_and, Bool.and_false, Bool.false_and, pow9]
    refine ⟨by rw [sizeLine_eq]; decide, by simp only [iL_len, hlen]; rw [sizeLine_eq]; decide, ?_⟩
    refine forD_inv0 (i := 6) (fun j env => ∃ c6 : Option L, env = [some (.d .hand), some (.d (dS (iL xs) (.int m))), some (.d (.lst (iL xs))), some (.d (.int m)), some (.ml (iL vs)), none, c6, none, none]) ⟨none, rfl⟩ ?_ ?_
    · rintro j d env K hj ⟨c6, rfl⟩ hK
      obtain ⟨v, rfl, v0, v1⟩ : ∃ v, d = .int v ∧ 0 ≤ v ∧ v ≤ HI := by
        rcases List.mem_append.mp (List.mem_of_getElem? hj) with hd | hd
        · obtain ⟨v, hv, rfl⟩ := List.mem_map.mp hd
          exact ⟨v, rfl, hvs v hv⟩
        · rcases List.mem_cons.mp hd with rfl | hd
          · exact ⟨0, rfl, by decide, by decide⟩
          · cases List.mem_singleton.mp hd
            exact ⟨1000000000, rfl, by decide, by decide⟩
      simp only [clD, clI, env0, envI, seD, seI, sSeq, sIf, sRet, sRetN, sSkip, sSet, sSetM, sDrop, sFz, frz1, sFor, sAppN, sAug, sTry, sRaiseN, sSetFN, sBreak, sCont, sAsg, bOr, bAnd, bNot, bT, bC, bCh, bTrue, vUn, vBin, vFn, vCon, vNil, vCons, vN, vR, vTup, vLst, vIf, vAndT, vOrT, vNotT, vCallN, vMethN, vPropN, vMakeN, vLock, vLcL, vSl, vIndex, vXn, vXis, vSortSet, vListRev, vLRg, vTRg, vFldN, r1, r2, oNone, oSomeN, nLst, nList, iSeq, iRng, iEnumD, gN, gTn, gAll, setNones, fIsT, fIsC, fFldN, fAdd, fSub, fMulN, fMod, fNeg, fLt, fLe, fGt, fGe, fIs, fIsNot, fLen, fTuple, fInt, fIx2, fSl, seqI, isT, isC, D.tru, D.isNon, caught, bye, noXn, List.map_cons, List.map_nil, List.length_cons, List.length_nil, List.replicate, List.nil_append, List.cons_append, List.append_nil, List.append_assoc, List.set_cons_zero, List.set_cons_succ, List.getElem?_cons_zero, List.getElem?_cons_succ, List.lookup, Nat.reduceAdd, Nat.reduceSub, Nat.reduceEqDiff, Bool.false_eq_true, if_true, if_false, Bool.not_false, Bool.not_true, reduceIte, ite_true, ite_false, true_and, and_true, String.reduceBEq, Bool.or_false, Bool.false_or, Bool.or_true, Bool.true_or, Bool.and_true, Bool.true_and, Bool.and_false, Bool.false_and, dS, fld_sort_of]
      refine sort_of_ok (by omega) v0 v1 ?_
      refine law_sort_ok (by omega) ?_
      refine exact_refl 4 _ rfl ?_
      simp only [clD, clI, env0, envI, seD, seI, sSeq, sIf, sRet, sRetN, sSkip, sSet, sSetM, sDrop, sFz, frz1, sFor, sAppN, sAug, sTry, sRaiseN, sSetFN, sBreak, sCont, sAsg, bOr, bAnd, bNot, bT, bC, bCh, bTrue, vUn, vBin, vFn, vCon, vNil, vCons, vN, vR, vTup, vLst, vIf, vAndT, vOrT, vNotT, vCallN, vMethN, vPropN, vMakeN, vLock, vLcL, vSl, vIndex, vXn, vXis, vSortSet, vListRev, vLRg, vTRg, vFldN, r1, r2, oNone, oSomeN, nLst, nList, iSeq, iRng, iEnumD, gN, gTn, gAll, setNones, fIsT, fIsC, fFldN, fAdd, fSub, fMulN, fMod, fNeg, fLt, fLe, fGt, fGe, fIs, fIsNot, fLen, fTuple, fInt, fIx2, fSl, seqI, isT, isC, D.tru, D.isNon, caught, bye, noXn, List.map_cons, List.map_nil, List.length_cons, List.length_nil, List.replicate, List.nil_append, List.cons_append, List.append_nil, List.append_assoc, List.set_cons_zero, List.set_cons_succ, List.getElem?_cons_zero, List.getElem?_cons_succ, List.lookup, Nat.reduceAdd, Nat.reduceSub, Nat.reduceEqDiff, Bool.false_eq_true, if_true, if_false, Bool.not_false, Bool.not_true, reduceIte, ite_true, ite_false, true_and, and_true, String.reduceBEq, Bool.or_false, Bool.false_or, Bool.or_true, Bool.true_or, Bool.and_true, Bool.true_and, Bool.and_false, Bool.false_and]
      exact hK _ ⟨_, rfl⟩
    · rintro env ⟨c6, rfl⟩
      refine ⟨3, rfl, by decide, by decide, ?_⟩
      refine forD_inv0 (i := 5) (fun j env => ∃ c5 c7 : Option L, env = [some (.d .hand), some (.d (dS (iL xs) (.int m))), some (.d (.lst (iL xs))), some (.d (.int m)), some (.ml (iL vs)), c5, c6, c7, none]) ⟨none, none, rfl⟩ ?_ ?_
      · rintro j d env K hj ⟨c5, c7, rfl⟩ hK
        obtain ⟨hj2, rfl⟩ := rng_get hj
        try simp only [clD, clI, env0, envI, seD, seI, sSeq, sIf, sRet, sRetN, sSkip, sSet, sSetM, sDrop, sFz, frz1, sFor, sAppN, sAug, sTry, sRaiseN, sSetFN, sBreak, sCont, sAsg, bOr, bAnd, bNot, bT, bC, bCh, bTrue, vUn, vBin, vFn, vCon, vNil, vCons, vN, vR, vTup, vLst, vIf, vAndT, vOrT, vNotT, vCallN, vMethN, vPropN, vMakeN, vLock, vLcL, vSl, vIndex, vXn, vXis, vSortSet, vListRev, vLRg, vTRg, vFldN, r1, r2, oNone, oSomeN, nLst, nList, iSeq, iRng, iEnumD, gN, gTn, gAll, setNones, fIsT, fIsC, fFldN, fAdd, fSub, fMulN, fMod, fNeg, fLt, fLe, fGt, fGe, fIs, fIsNot, fLen, fTuple, fInt, fIx2, fSl, seqI, isT, isC, D.tru, D.isNon, caught, bye, noXn, List.map_cons, List.map_nil, List.length_cons, List.length_nil, List.replicate, List.nil_append, List.cons_append, List.append_nil, List.append_assoc, List.set_cons_zero, List.set_cons_succ, List.getElem?_cons_zero, List.getElem?_cons_succ, List.lookup, Nat.reduceAdd, Nat.reduceSub, Nat.reduceEqDiff, Bool.false_eq_true, if_true, if_false, Bool.not_false, Bool.not_true, reduceIte, ite_true, ite_false, true_and, and_true, String.reduceBEq, Bool.or_false, Bool.false_or, Bool.or_true, Bool.true_or, Bool.and_true, Bool.true_and, Bool.and_false, Bool.false_and]
        refine draw_ok (by decide) (by decide) fun t t0 t1 => ?_
        try simp only [clD, clI, env0, envI, seD, seI, sSeq, sIf, sRet, sRetN, sSkip, sSet, sSetM, sDrop, sFz, frz1, sFor, sAppN, sAug, sTry, sRaiseN, sSetFN, sBreak, sCont, sAsg, bOr, bAnd, bNot, bT, bC, bCh, bTrue, vUn, vBin, vFn, vCon, vNil, vCons, vN, vR, vTup, vLst, vIf, vAndT, vOrT, vNotT, vCallN, vMethN, vPropN, vMakeN, vLock, vLcL, vSl, vIndex, vXn, vXis, vSortSet, vListRev, vLRg, vTRg, vFldN, r1, r2, oNone, oSomeN, nLst, nList, iSeq, iRng, iEnumD, gN, gTn, gAll, setNones, fIsT, fIsC, fFldN, fAdd, fSub, fMulN, fMod, fNeg, fLt, fLe, fGt, fGe, fIs, fIsNot, fLen, fTuple, fInt, fIx2, fSl, seqI, isT, isC, D.tru, D.isNon, caught, bye, noXn, List.map_cons, List.map_nil, List.length_cons, List.length_nil, List.replicate, List.nil_append, List.cons_append, List.append_nil, List.append_assoc, List.set_cons_zero, List.set_cons_succ, List.getElem?_cons_zero, List.getElem?_cons_succ, List.lookup, Nat.reduceAdd, Nat.reduceSub, Nat.reduceEqDiff, Bool.false_eq_true, if_true, if_false, Bool.not_false, Bool.not_true, reduceIte, ite_true, ite_false, true_and, and_true, String.reduceBEq, Bool.or_false, Bool.false_or, Bool.or_true, Bool.true_or, Bool.and_true, Bool.true_and, Bool.and_false, Bool.false_and]
        refine ⟨.inl ⟨by decide, by decide⟩, ?_⟩
        obtain ⟨ws, ew, lw, hw⟩ := cut_iL vs (some (j : Int)) (some (2 * (j : Int) + 1))
        rw [ew]
        refine ⟨by rw [sizeLine_eq]; decide, ?_⟩
        simp only [clD, clI, env0, envI, seD, seI, sSeq, sIf, sRet, sRetN, sSkip, sSet, sSetM, sDrop, sFz, frz1, sFor, sAppN, sAug, sTry, sRaiseN, sSetFN, sBreak, sCont, sAsg, bOr, bAnd, bNot, bT, bC, bCh, bTrue, vUn, vBin, vFn, vCon, vNil, vCons, vN, vR, vTup, vLst, vIf, vAndT, vOrT, vNotT, vCallN, vMethN, vPropN, vMakeN, vLock, vLcL, vSl, vIndex, vXn, vXis, vSortSet, vListRev, vLRg, vTRg, vFldN, r1, r2, oNone, oSomeN, nLst, nList, iSeq, iRng, iEnumD, gN, gTn, gAll, setNones, fIsT, fIsC, fFldN, fAdd, fSub, fMulN, fMod, fNeg, fLt, fLe, fGt, fGe, fIs, fIsNot, fLen, fTuple, fInt, fIx2, fSl, seqI, isT, isC, D.tru, D.isNon, caught, bye, noXn, List.map_cons, List.map_nil, List.length_cons, List.length_nil, List.replicate, List.nil_append, List.cons_append, List.append_nil, List.append_assoc, List.set_cons_zero, List.set_cons_succ, List.getElem?_cons_zero, List.getElem?_cons_succ, List.lookup, Nat.reduceAdd, Nat.reduceSub, Nat.reduceEqDiff, Bool.false_eq_true, if_true, if_false, Bool.not_false, Bool.not_true, reduceIte, ite_true, ite_false, true_and, and_true, String.reduceBEq, Bool.or_false, Bool.false_or, Bool.or_true, Bool.true_or, Bool.and_true, Bool.true_and, Bool.and_false, Bool.false_and, dS, fld_kind_of]
        refine kind_of_ok (by omega) (by omega) (fun v hv => hvs v (hw v hv)) ?_
        refine law_kind_ok (by omega) (by omega) ?_
        refine exact_refl 4 _ (plN_tup (by show 2 ≤ 1000; decide) fun d hd => ?_) ?_
        · rcases List.mem_cons.mp hd with rfl | hd
          · rfl
          · cases List.mem_singleton.mp hd
            exact plN_iL (by rw [List.length_map]; omega)
        · simp only [clD, clI, env0, envI, seD, seI, sSeq, sIf, sRet, sRetN, sSkip, sSet, sSetM, sDrop, sFz, frz1, sFor, sAppN, sAug, sTry, sRaiseN, sSetFN, sBreak, sCont, sAsg, bOr, bAnd, bNot, bT, bC, bCh, bTrue, vUn, vBin, vFn, vCon, vNil, vCons, vN, vR, vTup, vLst, vIf, vAndT, vOrT, vNotT, vCallN, vMethN, vPropN, vMakeN, vLock, vLcL, vSl, vIndex, vXn, vXis, vSortSet, vListRev, vLRg, vTRg, vFldN, r1, r2, oNone, oSomeN, nLst, nList, iSeq, iRng, iEnumD, gN, gTn, gAll, setNones, fIsT, fIsC, fFldN, fAdd, fSub, fMulN, fMod, fNeg, fLt, fLe, fGt, fGe, fIs, fIsNot, fLen, fTuple, fInt, fIx2, fSl, seqI, isT, isC, D.tru, D.isNon, caught, bye, noXn, List.map_cons, List.map_nil, List.length_cons, List.length_nil, List.replicate, List.nil_append, List.cons_append, List.append_nil, List.append_assoc, List.set_cons_zero, List.set_cons_succ, List.getElem?_cons_zero, List.getElem?_cons_succ, List.lookup, Nat.reduceAdd, Nat.reduceSub, Nat.reduceEqDiff, Bool.false_eq_true, if_true, if_false, Bool.not_false, Bool.not_true, reduceIte, ite_true, ite_false, true_and, and_true, String.reduceBEq, Bool.or_false, Bool.false_or, Bool.or_true, Bool.true_or, Bool.and_true, Bool.true_and, Bool.and_false, Bool.false_and]
          exact hK _ ⟨_, _, rfl⟩
      · rintro env ⟨c5, c7, rfl⟩
        try simp only [clD, clI, env0, envI, seD, seI, sSeq, sIf, sRet, sRetN, sSkip, sSet, sSetM, sDrop, sFz, frz1, sFor, sAppN, sAug, sTry, sRaiseN, sSetFN, sBreak, sCont, sAsg, bOr, bAnd, bNot, bT, bC, bCh, bTrue, vUn, vBin, vFn, vCon, vNil, vCons, vN, vR, vTup, vLst, vIf, vAndT, vOrT, vNotT, vCallN, vMethN, vPropN, vMakeN, vLock, vLcL, vSl, vIndex, vXn, vXis, vSortSet, vListRev, vLRg, vTRg, vFldN, r1, r2, oNone, oSomeN, nLst, nList, iSeq, iRng, iEnumD, gN, gTn, gAll, setNones, fIsT, fIsC, fFldN, fAdd, fSub, fMulN, fMod, fNeg, fLt, fLe, fGt, fGe, fIs, fIsNot, fLen, fTuple, fInt, fIx2, fSl, seqI, isT, isC, D.tru, D.isNon, caught, bye, noXn, List.map_cons, List.map_nil, List.length_cons, List.length_nil, List.replicate, List.nil_append, List.cons_append, List.append_nil, List.append_assoc, List.set_cons_zero, List.set_cons_succ, List.getElem?_cons_zero, List.getElem?_cons_succ, List.lookup, Nat.reduceAdd, Nat.reduceSub, Nat.reduceEqDiff, Bool.false_eq_true, if_true, if_false, Bool.not_false, Bool.not_true, reduceIte, ite_true, ite_false, true_and, and_true, String.reduceBEq, Bool.or_false, Bool.false_or, Bool.or_true, Bool.true_or, Bool.and_true, Bool.true_and, Bool.and_false, Bool.false_and]
        refine draw_ok (by decide) (by decide) fun q q0 q1 => ?_
        refine ⟨by rw [sizeLine_eq]; decide, by rw [sizeLine_eq]; decide, ?_⟩
        refine forD_inv0 (i := 8) (fun j env => ∃ c8 : Option L, env = [some (.d .hand), some (.d (dS (iL xs) (.int m))), some (.d (.lst (iL xs))), some (.d (.int m)), some (.ml (iL vs)), c5, c6, c7, c8]) ⟨none, rfl⟩ ?_ ?_
        · rintro j d env K hj ⟨c8, rfl⟩ hK
          have hd : whole 0 HI d = false ∧ plN 3 d = true := by
            have hm := List.mem_of_getElem? hj
            rcases List.mem_cons.mp hm with rfl | hm
            · exact ⟨rfl, rfl⟩
            rcases List.mem_cons.mp hm with rfl | hm
            · exact ⟨rfl, rfl⟩
            rcases List.mem_cons.mp hm with rfl | hm
            · exact ⟨by show (decide _ && decide _) = false; rw [decide_eq_false (by omega), Bool.false_and], rfl⟩
            rcases List.mem_cons.mp hm with rfl | hm
            · exact ⟨rfl, rfl⟩
            rcases List.mem_cons.mp hm with rfl | hm
            · exact ⟨rfl, rfl⟩
            rcases List.mem_cons.mp hm with rfl | hm
            · exact ⟨rfl, by show (D.str "1").ok = true; decide +kernel⟩
            · cases List.mem_singleton.mp hm
              exact ⟨rfl, by decide +kernel⟩
          simp only [clD, clI, env0, envI, seD, seI, sSeq, sIf, sRet, sRetN, sSkip, sSet, sSetM, sDrop, sFz, frz1, sFor, sAppN, sAug, sTry, sRaiseN, sSetFN, sBreak, sCont, sAsg, bOr, bAnd, bNot, bT, bC, bCh, bTrue, vUn, vBin, vFn, vCon, vNil, vCons, vN, vR, vTup, vLst, vIf, vAndT, vOrT, vNotT, vCallN, vMethN, vPropN, vMakeN, vLock, vLcL, vSl, vIndex, vXn, vXis, vSortSet, vListRev, vLRg, vTRg, vFldN, r1, r2, oNone, oSomeN, nLst, nList, iSeq, iRng, iEnumD, gN, gTn, gAll, setNones, fIsT, fIsC, fFldN, fAdd, fSub, fMulN, fMod, fNeg, fLt, fLe, fGt, fGe, fIs, fIsNot, fLen, fTuple, fInt, fIx2, fSl, seqI, isT, isC, D.tru, D.isNon, caught, bye, noXn, List.map_cons, List.map_nil, List.length_cons, List.length_nil, List.replicate, List.nil_append, List.cons_append, List.append_nil, List.append_assoc, List.set_cons_zero, List.set_cons_succ, List.getElem?_cons_zero, List.getElem?_cons_succ, List.lookup, Nat.reduceAdd, Nat.reduceSub, Nat.reduceEqDiff, Bool.false_eq_true, if_true, if_false, Bool.not_false, Bool.not_true, reduceIte, ite_true, ite_false, true_and, and_true, String.reduceBEq, Bool.or_false, Bool.false_or, Bool.or_true, Bool.true_or, Bool.and_true, Bool.true_and, Bool.and_false, Bool.false_and]
          refine sort_asked_bad hd.1 ?_
          refine ⟨by rw [sizeLine_eq]; decide, exact_refl 4 _ (plN_tup (by show 2 ≤ 1000; decide) fun x hx => ?_) ?_⟩
          · rcases List.mem_cons.mp hx with rfl | hx
            · exact ok_noval
            · cases List.mem_singleton.mp hx; exact hd.2
          · simp only [clD, clI, env0, envI, seD, seI, sSeq, sIf, sRet, sRetN, sSkip, sSet, sSetM, sDrop, sFz, frz1, sFor, sAppN, sAug, sTry, sRaiseN, sSetFN, sBreak, sCont, sAsg, bOr, bAnd, bNot, bT, bC, bCh, bTrue, vUn, vBin, vFn, vCon, vNil, vCons, vN, vR, vTup, vLst, vIf, vAndT, vOrT, vNotT, vCallN, vMethN, vPropN, vMakeN, vLock, vLcL, vSl, vIndex, vXn, vXis, vSortSet, vListRev, vLRg, vTRg, vFldN, r1, r2, oNone, oSomeN, nLst, nList, iSeq, iRng, iEnumD, gN, gTn, gAll, setNones, fIsT, fIsC, fFldN, fAdd, fSub, fMulN, fMod, fNeg, fLt, fLe, fGt, fGe, fIs, fIsNot, fLen, fTuple, fInt, fIx2, fSl, seqI, isT, isC, D.tru, D.isNon, caught, bye, noXn, List.map_cons, List.map_nil, List.length_cons, List.length_nil, List.replicate, List.nil_append, List.cons_append, List.append_nil, List.append_assoc, List.set_cons_zero, List.set_cons_succ, List.getElem?_cons_zero, List.getElem?_cons_succ, List.lookup, Nat.reduceAdd, Nat.reduceSub, Nat.reduceEqDiff, Bool.false_eq_true, if_true, if_false, Bool.not_false, Bool.not_true, reduceIte, ite_true, ite_false, true_and, and_true, String.reduceBEq, Bool.or_false, Bool.false_or, Bool.or_true, Bool.true_or, Bool.and_true, Bool.true_and, Bool.and_false, Bool.false_and]
            exact hK _ ⟨_, rfl⟩
        · rintro env ⟨c8, rfl⟩
          exact h
/-! ### equal -/
theorem eq_ok {xs ys : List Int} {m n : Int} {Q : PD} {Qx : PX} (h : Q (.bl (decide (xs = ys ∧ m = n)))) : cl_Sorts___eq__ [dS (iL xs) (.int m), dS (iL ys) (.int n)] Q Qx := by
  simp only [clD, clI, env0, envI, seD, seI, sSeq, sIf, sRet, sRetN, sSkip, sSet, sSetM, sDrop, sFz, frz1, sFor, sAppN, sAug, sTry, sRaiseN, sSetFN, sBreak, sCont, sAsg, bOr, bAnd, bNot, bT, bC, bCh, bTrue, vUn, vBin, vFn, vCon, vNil, vCons, vN, vR, vTup, vLst, vIf, vAndT, vOrT, vNotT, vCallN, vMethN, vPropN, vMakeN, vLock, vLcL, vSl, vIndex, vXn, vXis, vSortSet, vListRev, vLRg, vTRg, vFldN, r1, r2, oNone, oSomeN, nLst, nList, iSeq, iRng, iEnumD, gN, gTn, gAll, setNones, fIsT, fIsC, fFldN, fAdd, fSub, fMulN, fMod, fNeg, fLt, fLe, fGt, fGe, fIs, fIsNot, fLen, fTuple, fInt, fIx2, fSl, seqI, isT, isC, D.tru, D.isNon, caught, bye, noXn, List.map_cons, List.map_nil, List.length_cons, List.length_nil, List.replicate, List.nil_append, List.cons_append, List.append_nil, List.append_assoc, List.set_cons_zero, List.set_cons_succ, List.getElem?_cons_zero, List.getElem?_cons_succ, List.lookup, Nat.reduceAdd, Nat.reduceSub, Nat.reduceEqDiff, Bool.false_eq_true, if_true, if_false, Bool.not_false, Bool.not_true, reduceIte, ite_true, ite_false, true_and, and_true, String.reduceBEq, Bool.or_false, Bool.false_or, Bool.or_true, Bool.true_or, Bool.and_true, Bool.true_and, Bool.and_false, Bool.false_and, cl_Sorts___eq__, sm_Sorts___eq__, dS, fld_n, fld_m, in00, beq_self_eq_true]
  refine fEq_tup ?_
  by_cases h1 : xs = ys
  · simp only [h1, true_and] at h
    simp only [h1, decide_true]
    exact fEq_int h
  · simp only [h1, false_and] at h
    simp only [h1, decide_false]
    exact h
theorem eq_no {ds : List D} {m d : D} {Q : PD} {Qx : PX} (hd : isC 0 d = false) (h : Q (.bl false)) : cl_Sorts___eq__ [dS ds m, d] Q Qx := by
  cases d <;> try (simp only [clD, clI, env0, envI, seD, seI, sSeq, sIf, sRet, sRetN, sSkip, sSet, sSetM, sDrop, sFz, frz1, sFor, sAppN, sAug, sTry, sRaiseN, sSetFN, sBreak, sCont, sAsg, bOr, bAnd, bNot, bT, bC, bCh, bTrue, vUn, vBin, vFn, vCon, vNil, vCons, vN, vR, vTup, vLst, vIf, vAndT, vOrT, vNotT, vCallN, vMethN, vPropN, vMakeN, vLock, vLcL, vSl, vIndex, vXn, vXis, vSortSet, vListRev, vLRg, vTRg, vFldN, r1, r2, oNone, oSomeN, nLst, nList, iSeq, iRng, iEnumD, gN, gTn, gAll, setNones, fIsT, fIsC, fFldN, fAdd, fSub, fMulN, fMod, fNeg, fLt, fLe, fGt, fGe, fIs, fIsNot, fLen, fTuple, fInt, fIx2, fSl, seqI, isT, isC, D.tru, D.isNon, caught, bye, noXn, List.map_cons, List.map_nil, List.length_cons, List.length_nil, List.replicate, List.nil_append, List.cons_append, List.append_nil, List.append_assoc, List.set_cons_zero, List.set_cons_succ, List.getElem?_cons_zero, List.getElem?_cons_succ, List.lookup, Nat.reduceAdd, Nat.reduceSub, Nat.reduceEqDiff, Bool.false_eq_true, if_true, if_false, Bool.not_false, Bool.not_true, reduceIte, ite_true, ite_false, true_and, and_true, String.reduceBEq, Bool.or_false, Bool.false_or, Bool.or_true, Bool.true_or, Bool.and_true, Bool.true_and, Bool.and_false, Bool.false_and, cl_Sorts___eq__, sm_Sorts___eq__, dS]; exact h)
  rename_i c fs
  have hd : (c == 0) = false := hd
  simp only [clD, clI, env0, envI, seD, seI, sSeq, sIf, sRet, sRetN, sSkip, sSet, sSetM, sDrop, sFz, frz1, sFor, sAppN, sAug, sTry, sRaiseN, sSetFN, sBreak, sCont, sAsg, bOr, bAnd, bNot, bT, bC, bCh, bTrue, vUn, vBin, vFn, vCon, vNil, vCons, vN, vR, vTup, vLst, vIf, vAndT, vOrT, vNotT, vCallN, vMethN, vPropN, vMakeN, vLock, vLcL, vSl, vIndex, vXn, vXis, vSortSet, vListRev, vLRg, vTRg, vFldN, r1, r2, oNone, oSomeN, nLst, nList, iSeq, iRng, iEnumD, gN, gTn, gAll, setNones, fIsT, fIsC, fFldN, fAdd, fSub, fMulN, fMod, fNeg, fLt, fLe, fGt, fGe, fIs, fIsNot, fLen, fTuple, fInt, fIx2, fSl, seqI, isT, isC, D.tru, D.isNon, caught, bye, noXn, List.map_cons, List.map_nil, List.length_cons, List.length_nil, List.replicate, List.nil_append, List.cons_append, List.append_nil, List.append_assoc, List.set_cons_zero, List.set_cons_succ, List.getElem?_cons_zero, List.getElem?_cons_succ, List.lookup, Nat.reduceAdd, Nat.reduceSub, Nat.reduceEqDiff, Bool.false_eq_true, if_true, if_false, Bool.not_false, Bool.not_true, reduceIte, ite_true, ite_false, true_and, and_true, String.reduceBEq, Bool.or_false, Bool.false_or, Bool.or_true, Bool.true_or, Bool.and_true, Bool.true_and, Bool.and_false, Bool.false_and, cl_Sorts___eq__, sm_Sorts___eq__, dS, hd]
  exact h
theorem eqG_ok {xs ys : List Int} {m n : Int} {Q : PD} (h : Q (.bl (decide (xs = ys ∧ m = n)))) : fEqG ownE (dS (iL xs) (.int m)) (dS (iL ys) (.int n)) Q := eq_ok h
theorem eqG_no {ds : List D} {m d : D} {Q : PD} (hd : isC 0 d = false) (h : Q (.bl false)) : fEqG ownE (dS ds m) d Q := eq_no hd h
theorem asc_take : ∀ {xs : List Int} {last : Int} (n : Nat), Asc last xs → Asc last (xs.take n)
  | [], _, _, _ => by rw [List.take_nil]; trivial
  | x :: xs, last, 0, _ => trivial
  | x :: xs, last, n + 1, h => ⟨h.1, asc_take n h.2⟩
theorem equal_ok {xs : List Int} {m : Int} (hx : Nmd xs) (h0 : 1 ≤ m) (h1 : m ≤ 6) {Q : PD} {Qx : PX} (h : Q (.bl true)) : cl_u_law_equal [.hand, dS (iL xs) (.int m), .lst (iL xs), .int m] Q Qx := by
  have fe : ∀ a b : D, ∀ Q : PD, fEqG ownE a b Q = fEqG ownE a b Q := fun _ _ _ => rfl
  simp only [clD, clI, env0, envI, seD, seI, sSeq, sIf, sRet, sRetN, sSkip, sSet, sSetM, sDrop, sFz, frz1, sFor, sAppN, sAug, sTry, sRaiseN, sSetFN, sBreak, sCont, sAsg, bOr, bAnd, bNot, bT, bC, bCh, bTrue, vUn, vBin, vFn, vCon, vNil, vCons, vN, vR, vTup, vLst, vIf, vAndT, vOrT, vNotT, vCallN, vMethN, vPropN, vMakeN, vLock, vLcL, vSl, vIndex, vXn, vXis, vSortSet, vListRev, vLRg, vTRg, vFldN, r1, r2, oNone, oSomeN, nLst, nList, iSeq, iRng, iEnumD, gN, gTn, gAll, setNones, fIsT, fIsC, fFldN, fAdd, fSub, fMulN, fMod, fNeg, fLt, fLe, fGt, fGe, fIs, fIsNot, fLen, fTuple, fInt, fIx2, fSl, seqI, isT, isC, D.tru, D.isNon, caught, bye, noXn, List.map_cons, List.map_nil, List.length_cons, List.length_nil, List.replicate, List.nil_append, List.cons_append, List.append_nil, List.append_assoc, List.set_cons_zero, List.set_cons_succ, List.getElem?_cons_zero, List.getElem?_cons_succ, List.lookup, Nat.reduceAdd, Nat.reduceSub, Nat.reduceEqDiff, Bool.false_eq_true, if_true, if_false, Bool.not_false, Bool.not_true, reduceIte, ite_true, ite_false, true_and, and_true, String.reduceBEq, Bool.or_false, Bool.false_or, Bool.or_true, Bool.true_or, Bool.and_true, Bool.true_and, Bool.and_false, Bool.false_and, cl_u_law_equal, sm_u_law_equal]
  refine init_good (.inr rfl) hx h0 h1 ?_
  refine eqG_ok ?_
  simp only [clD, clI, env0, envI, seD, seI, sSeq, sIf, sRet, sRetN, sSkip, sSet, sSetM, sDrop, sFz, frz1, sFor, sAppN, sAug, sTry, sRaiseN, sSetFN, sBreak, sCont, sAsg, bOr, bAnd, bNot, bT, bC, bCh, bTrue, vUn, vBin, vFn, vCon, vNil, vCons, vN, vR, vTup, vLst, vIf, vAndT, vOrT, vNotT, vCallN, vMethN, vPropN, vMakeN, vLock, vLcL, vSl, vIndex, vXn, vXis, vSortSet, vListRev, vLRg, vTRg, vFldN, r1, r2, oNone, oSomeN, nLst, nList, iSeq, iRng, iEnumD, gN, gTn, gAll, setNones, fIsT, fIsC, fFldN, fAdd, fSub, fMulN, fMod, fNeg, fLt, fLe, fGt, fGe, fIs, fIsNot, fLen, fTuple, fInt, fIx2, fSl, seqI, isT, isC, D.tru, D.isNon, caught, bye, noXn, List.map_cons, List.map_nil, List.length_cons, List.length_nil, List.replicate, List.nil_append, List.cons_append, List.append_nil, List.append_assoc, List.set_cons_zero, List.set_cons_succ, List.getElem?_cons_zero, List.getElem?_cons_succ, List.lookup, Nat.reduceAdd, Nat.reduceSub, Nat.reduceEqDiff, Bool.false_eq_true, if_true, if_false, Bool.not_false, Bool.not_true, reduceIte, ite_true, ite_false, true_and, and_true, String.reduceBEq, Bool.or_false, Bool.false_or, Bool.or_true, Bool.true_or, Bool.and_true, Bool.true_and, Bool.and_false, Bool.false_and, decide_true, and_self]
  refine init_good (.inl rfl) hx h0 h1 ?_
  refine eqG_ok ?_
  simp only [clD, clI, env0, envI, seD, seI, sSeq, sIf, sRet, sRetN, sSkip, sSet, sSetM, sDrop, sFz, frz1, sFor, sAppN, sAug, sTry, sRaiseN, sSetFN, sBreak, sCont, sAsg, bOr, bAnd, bNot, bT, bC, bCh, bTrue, vUn, vBin, vFn, vCon, vNil, vCons, vN, vR, vTup, vLst, vIf, vAndT, vOrT, vNotT, vCallN, vMethN, vPropN, vMakeN, vLock, vLcL, vSl, vIndex, vXn, vXis, vSortSet, vListRev, vLRg, vTRg, vFldN, r1, r2, oNone, oSomeN, nLst, nList, iSeq, iRng, iEnumD, gN, gTn, gAll, setNones, fIsT, fIsC, fFldN, fAdd, fSub, fMulN, fMod, fNeg, fLt, fLe, fGt, fGe, fIs, fIsNot, fLen, fTuple, fInt, fIx2, fSl, seqI, isT, isC, D.tru, D.isNon, caught, bye, noXn, List.map_cons, List.map_nil, List.length_cons, List.length_nil, List.replicate, List.nil_append, List.cons_append, List.append_nil, List.append_assoc, List.set_cons_zero, List.set_cons_succ, List.getElem?_cons_zero, List.getElem?_cons_succ, List.lookup, Nat.reduceAdd, Nat.reduceSub, Nat.reduceEqDiff, Bool.false_eq_true, if_true, if_false, Bool.not_false, Bool.not_true, reduceIte, ite_true, ite_false, true_and, and_true, String.reduceBEq, Bool.or_false, Bool.false_or, Bool.or_true, Bool.true_or, Bool.and_true, Bool.true_and, Bool.and_false, Bool.false_and, decide_true, and_self]
  have hm : (m % 6 + 1 = m) = False := by
    have : ¬ (m % 6 + 1 = m) := by omega
    simp [this]
  cases xs with
  | nil =>
    have e0 : (iL []).isEmpty = true := rfl
    simp only [e0, Bool.not_true, Bool.false_eq_true, if_false]
    refine value_ok fun v v0 v1 => ⟨by rw [sizeLine_eq]; decide, ?_⟩
    refine init_good (xs := [v]) (.inl rfl) ⟨⟨⟨v0, v1, by omega⟩, trivial⟩, by show 1 ≤ 8; decide⟩ h0 h1 ?_
    refine eqG_ok (xs := [v]) (ys := []) ?_
    have e1 : decide ([v] = [] ∧ m = m) = false := by simp
    rw [e1]
    simp only [clD, clI, env0, envI, seD, seI, sSeq, sIf, sRet, sRetN, sSkip, sSet, sSetM, sDrop, sFz, frz1, sFor, sAppN, sAug, sTry, sRaiseN, sSetFN, sBreak, sCont, sAsg, bOr, bAnd, bNot, bT, bC, bCh, bTrue, vUn, vBin, vFn, vCon, vNil, vCons, vN, vR, vTup, vLst, vIf, vAndT, vOrT, vNotT, vCallN, vMethN, vPropN, vMakeN, vLock, vLcL, vSl, vIndex, vXn, vXis, vSortSet, vListRev, vLRg, vTRg, vFldN, r1, r2, oNone, oSomeN, nLst, nList, iSeq, iRng, iEnumD, gN, gTn, gAll, setNones, fIsT, fIsC, fFldN, fAdd, fSub, fMulN, fMod, fNeg, fLt, fLe, fGt, fGe, fIs, fIsNot, fLen, fTuple, fInt, fIx2, fSl, seqI, isT, isC, D.tru, D.isNon, caught, bye, noXn, List.map_cons, List.map_nil, List.length_cons, List.length_nil, List.replicate, List.nil_append, List.cons_append, List.append_nil, List.append_assoc, List.set_cons_zero, List.set_cons_succ, List.getElem?_cons_zero, List.getElem?_cons_succ, List.lookup, Nat.reduceAdd, Nat.reduceSub, Nat.reduceEqDiff, Bool.false_eq_true, if_true, if_false, Bool.not_false, Bool.not_true, reduceIte, ite_true, ite_false, true_and, and_true, String.reduceBEq, Bool.or_false, Bool.false_or, Bool.or_true, Bool.true_or, Bool.and_true, Bool.true_and, Bool.and_false, Bool.false_and]
    refine ⟨by decide, init_good (.inl rfl) hx (by omega) (by omega) ?_⟩
    refine eqG_ok ?_
    have e2 : decide (([] : List Int) = [] ∧ m % 6 + 1 = m) = false := by simp [hm]
    rw [e2]
    simp only [clD, clI, env0, envI, seD, seI, sSeq, sIf, sRet, sRetN, sSkip, sSet, sSetM, sDrop, sFz, frz1, sFor, sAppN, sAug, sTry, sRaiseN, sSetFN, sBreak, sCont, sAsg, bOr, bAnd, bNot, bT, bC, bCh, bTrue, vUn, vBin, vFn, vCon, vNil, vCons, vN, vR, vTup, vLst, vIf, vAndT, vOrT, vNotT, vCallN, vMethN, vPropN, vMakeN, vLock, vLcL, vSl, vIndex, vXn, vXis, vSortSet, vListRev, vLRg, vTRg, vFldN, r1, r2, oNone, oSomeN, nLst, nList, iSeq, iRng, iEnumD, gN, gTn, gAll, setNones, fIsT, fIsC, fFldN, fAdd, fSub, fMulN, fMod, fNeg, fLt, fLe, fGt, fGe, fIs, fIsNot, fLen, fTuple, fInt, fIx2, fSl, seqI, isT, isC, D.tru, D.isNon, caught, bye, noXn, List.map_cons, List.map_nil, List.length_cons, List.length_nil, List.replicate, List.nil_append, List.cons_append, List.append_nil, List.append_assoc, List.set_cons_zero, List.set_cons_succ, List.getElem?_cons_zero, List.getElem?_cons_succ, List.lookup, Nat.reduceAdd, Nat.reduceSub, Nat.reduceEqDiff, Bool.false_eq_true, if_true, if_false, Bool.not_false, Bool.not_true, reduceIte, ite_true, ite_false, true_and, and_true, String.reduceBEq, Bool.or_false, Bool.false_or, Bool.or_true, Bool.true_or, Bool.and_true, Bool.true_and, Bool.and_false, Bool.false_and]
    refine ⟨by rw [sizeLine_eq]; decide, eqG_no rfl ?_⟩
    simp only [clD, clI, env0, envI, seD, seI, sSeq, sIf, sRet, sRetN, sSkip, sSet, sSetM, sDrop, sFz, frz1, sFor, sAppN, sAug, sTry, sRaiseN, sSetFN, sBreak, sCont, sAsg, bOr, bAnd, bNot, bT, bC, bCh, bTrue, vUn, vBin, vFn, vCon, vNil, vCons, vN, vR, vTup, vLst, vIf, vAndT, vOrT, vNotT, vCallN, vMethN, vPropN, vMakeN, vLock, vLcL, vSl, vIndex, vXn, vXis, vSortSet, vListRev, vLRg, vTRg, vFldN, r1, r2, oNone, oSomeN, nLst, nList, iSeq, iRng, iEnumD, gN, gTn, gAll, setNones, fIsT, fIsC, fFldN, fAdd, fSub, fMulN, fMod, fNeg, fLt, fLe, fGt, fGe, fIs, fIsNot, fLen, fTuple, fInt, fIx2, fSl, seqI, isT, isC, D.tru, D.isNon, caught, bye, noXn, List.map_cons, List.map_nil, List.length_cons, List.length_nil, List.replicate, List.nil_append, List.cons_append, List.append_nil, List.append_assoc, List.set_cons_zero, List.set_cons_succ, List.getElem?_cons_zero, List.getElem?_cons_succ, List.lookup, Nat.reduceAdd, Nat.reduceSub, Nat.reduceEqDiff, Bool.false_eq_true, if_true, if_false, Bool.not_false, Bool.not_true, reduceIte, ite_true, ite_false, true_and, and_true, String.reduceBEq, Bool.or_false, Bool.false_or, Bool.or_true, Bool.true_or, Bool.and_true, Bool.true_and, Bool.and_false, Bool.false_and]
    refine eqG_no rfl ?_
    exact h
  | cons x r =>
    have e0 : (iL (x :: r)).isEmpty = false := rfl
    simp only [e0, Bool.not_false, if_true]
    have ec : cutD (iL (x :: r)) none (some (-1)) = iL ((x :: r).take r.length) := by
      unfold cutD
      rw [iL_len]
      have e3 : HT.sIx (x :: r).length (x :: r).length (some (-1)) = r.length := by
        show (if (-1 : Int) < 0 then ((-1 : Int) + ((x :: r).length : Int)).toNat else min (-1 : Int).toNat (x :: r).length) = _
        rw [if_pos (by decide)]
        simp only [List.length_cons]; omega
      rw [e3, show HT.sIx (x :: r).length 0 none = 0 from rfl]
      simp [iL, List.map_take]
    rw [ec]
    have hlen := hx.len
    have ht : ((x :: r).take r.length).length = r.length := by simp
    refine init_good (.inl rfl) ⟨asc_take _ hx.asc, by rw [ht]; simp only [List.length_cons] at hlen; omega⟩ h0 h1 ?_
    refine eqG_ok ?_
    have e1 : decide ((x :: r).take r.length = x :: r ∧ m = m) = false := by
      rw [decide_eq_false]
      rintro ⟨z, _⟩
      have := congrArg List.length z
      rw [ht] at this
      simp at this
    rw [e1]
    simp only [clD, clI, env0, envI, seD, seI, sSeq, sIf, sRet, sRetN, sSkip, sSet, sSetM, sDrop, sFz, frz1, sFor, sAppN, sAug, sTry, sRaiseN, sSetFN, sBreak, sCont, sAsg, bOr, bAnd, bNot, bT, bC, bCh, bTrue, vUn, vBin, vFn, vCon, vNil, vCons, vN, vR, vTup, vLst, vIf, vAndT, vOrT, vNotT, vCallN, vMethN, vPropN, vMakeN, vLock, vLcL, vSl, vIndex, vXn, vXis, vSortSet, vListRev, vLRg, vTRg, vFldN, r1, r2, oNone, oSomeN, nLst, nList, iSeq, iRng, iEnumD, gN, gTn, gAll, setNones, fIsT, fIsC, fFldN, fAdd, fSub, fMulN, fMod, fNeg, fLt, fLe, fGt, fGe, fIs, fIsNot, fLen, fTuple, fInt, fIx2, fSl, seqI, isT, isC, D.tru, D.isNon, caught, bye, noXn, List.map_cons, List.map_nil, List.length_cons, List.length_nil, List.replicate, List.nil_append, List.cons_append, List.append_nil, List.append_assoc, List.set_cons_zero, List.set_cons_succ, List.getElem?_cons_zero, List.getElem?_cons_succ, List.lookup, Nat.reduceAdd, Nat.reduceSub, Nat.reduceEqDiff, Bool.false_eq_true, if_true, if_false, Bool.not_false, Bool.not_true, reduceIte, ite_true, ite_false, true_and, and_true, String.reduceBEq, Bool.or_false, Bool.false_or, Bool.or_true, Bool.true_or, Bool.and_true, Bool.true_and, Bool.and_false, Bool.false_and]
    refine ⟨by decide, init_good (.inl rfl) hx (by omega) (by omega) ?_⟩
    refine eqG_ok ?_
    have e2 : decide (x :: r = x :: r ∧ m % 6 + 1 = m) = false := by simp [hm]
    rw [e2]
    simp only [clD, clI, env0, envI, seD, seI, sSeq, sIf, sRet, sRetN, sSkip, sSet, sSetM, sDrop, sFz, frz1, sFor, sAppN, sAug, sTry, sRaiseN, sSetFN, sBreak, sCont, sAsg, bOr, bAnd, bNot, bT, bC, bCh, bTrue, vUn, vBin, vFn, vCon, vNil, vCons, vN, vR, vTup, vLst, vIf, vAndT, vOrT, vNotT, vCallN, vMethN, vPropN, vMakeN, vLock, vLcL, vSl, vIndex, vXn, vXis, vSortSet, vListRev, vLRg, vTRg, vFldN, r1, r2, oNone, oSomeN, nLst, nList, iSeq, iRng, iEnumD, gN, gTn, gAll, setNones, fIsT, fIsC, fFldN, fAdd, fSub, fMulN, fMod, fNeg, fLt, fLe, fGt, fGe, fIs, fIsNot, fLen, fTuple, fInt, fIx2, fSl, seqI, isT, isC, D.tru, D.isNon, caught, bye, noXn, List.map_cons, List.map_nil, List.length_cons, List.length_nil, List.replicate, List.nil_append, List.cons_append, List.append_nil, List.append_assoc, List.set_cons_zero, List.set_cons_succ, List.getElem?_cons_zero, List.getElem?_cons_succ, List.lookup, Nat.reduceAdd, Nat.reduceSub, Nat.reduceEqDiff, Bool.false_eq_true, if_true, if_false, Bool.not_false, Bool.not_true, reduceIte, ite_true, ite_false, true_and, and_true, String.reduceBEq, Bool.or_false, Bool.false_or, Bool.or_true, Bool.true_or, Bool.and_true, Bool.true_and, Bool.and_false, Bool.false_and]
    refine ⟨by rw [sizeLine_eq]; decide, eqG_no rfl ?_⟩
    simp only [clD, clI, env0, envI, seD, seI, sSeq, sIf, sRet, sRetN, sSkip, sSet, sSetM, sDrop, sFz, frz1, sFor, sAppN, sAug, sTry, sRaiseN, sSetFN, sBreak, sCont, sAsg, bOr, bAnd, bNot, bT, bC, bCh, bTrue, vUn, vBin, vFn, vCon, vNil, vCons, vN, vR, vTup, vLst, vIf, vAndT, vOrT, vNotT, vCallN, vMethN, vPropN, vMakeN, vLock, vLcL, vSl, vIndex, vXn, vXis, vSortSet, vListRev, vLRg, vTRg, vFldN, r1, r2, oNone, oSomeN, nLst, nList, iSeq, iRng, iEnumD, gN, gTn, gAll, setNones, fIsT, fIsC, fFldN, fAdd, fSub, fMulN, fMod, fNeg, fLt, fLe, fGt, fGe, fIs, fIsNot, fLen, fTuple, fInt, fIx2, fSl, seqI, isT, isC, D.tru, D.isNon, caught, bye, noXn, List.map_cons, List.map_nil, List.length_cons, List.length_nil, List.replicate, List.nil_append, List.cons_append, List.append_nil, List.append_assoc, List.set_cons_zero, List.set_cons_succ, List.getElem?_cons_zero, List.getElem?_cons_succ, List.lookup, Nat.reduceAdd, Nat.reduceSub, Nat.reduceEqDiff, Bool.false_eq_true, if_true, if_false, Bool.not_false, Bool.not_true, reduceIte, ite_true, ite_false, true_and, and_true, String.reduceBEq, Bool.or_false, Bool.false_or, Bool.or_true, Bool.true_or, Bool.and_true, Bool.true_and, Bool.and_false, Bool.false_and]
    refine eqG_no rfl ?_
    exact h
end Rd
end
section
set_option Elab.async false
set_option linter.all false
set_option autoImplicit false
set_option maxRecDepth 100000
set_option maxHeartbeats 4000000
namespace Rd
open PySem Mw Rd0
/-- value_of gives what is due -/
theorem both {xs av : List Int} {m s n : Int} (hx : Nmd xs) (h0 : 1 ≤ m) (h1 : m ≤ 6) (s0 : 0 ≤ s) (s1 : s < xs.length + m) (n0 : 0 ≤ n) (n1 : n ≤ 99) (hav : av.length ≤ 6) :
    ∃ due : D, (∀ {Q : PD} {Qx : PX}, Q due → cl_u_law_due_value [.lst (iL xs), .int m, .int s, .int n, .lst (iL av)] Q Qx) ∧ (∀ {a : D} {Q : PD} {Qx : PX}, Sq a av → Q due → cl_Sorts_value_of [dS (iL xs) (.int m), .int s, .int n, a] Q Qx) ∧
      (due = .non ∨ ∃ r, due = .int r ∧ 0 ≤ r ∧ r ≤ HI ∧ sortOf xs m r = s) := by
  have hlen := hx.len
  by_cases hs : s < xs.length
  · obtain ⟨k, rfl⟩ : ∃ k : Nat, s = (k : Int) := ⟨s.toNat, by omega⟩
    obtain ⟨x, ex⟩ : ∃ x, xs[k]? = some x := ⟨_, List.getElem?_eq_getElem (by omega : k < xs.length)⟩
    have hr := asc_range hx.asc x (List.mem_of_getElem? ex)
    refine ⟨if n = 0 ∧ x ∉ av then .int x else .non, fun {Q Qx} q => due_low ex q, fun {a Q Qx} ha q => value_of_low (by omega) ha ex ?_, ?_⟩
    · by_cases hn : n = 0
      · subst hn
        by_cases hv : x ∈ av
        · simpa [hv] using q
        · simpa [hv] using q
      · have : 0 < n := by omega
        simpa [hn, this] using q
    · by_cases hc : n = 0 ∧ x ∉ av
      · rw [if_pos hc]
        exact .inr ⟨x, rfl, hr.1, hr.2, sortOf_at hx.asc ex⟩
      · rw [if_neg hc]
        exact .inl rfl
  · obtain ⟨l, rfl⟩ : ∃ l : Nat, n = (l : Int) := ⟨n.toNat, by omega⟩
    have hc := cnt_le xs av (s - xs.length)
    obtain ⟨r, j, e1, e2, e3, e4⟩ := walkV_ok (xs := xs) (av := av) (m := m) (by omega) 140 (s - xs.length) l (by omega)
    refine ⟨.int r, fun {Q Qx} q => due_high (by omega) e1 q, fun {a Q Qx} ha q => value_of_high (by omega) ha (by omega) (by omega) e1 q, .inr ⟨r, rfl, ?_, ?_, ?_⟩⟩
    · rw [e3]
      have : 0 ≤ (j : Int) * m := Int.mul_nonneg (by omega) (by omega)
      omega
    · have : (j : Int) * m ≤ 140 * 6 := by
        have a1 : (j : Int) * m ≤ 140 * m := Int.mul_le_mul_of_nonneg_right (by omega) (by omega)
        omega
      rw [e3]
      show _ ≤ (1000000000 : Int)
      omega
    · rw [sortOf_free e2 (by omega) (by omega) e3]
      omega
theorem sSeq_k {s t : SmS} {env : En} {E : SE} (h : ∀ K : En → Prop, (∀ env', t env' E → K env') → s env { nx := K, rt := E.rt, bk := E.bk, ct := E.ct, xx := E.xx }) : sSeq s t env E := h _ fun _ q => q
theorem numbered_ok {xs : List Int} {m : Int} (hx : Nmd xs) (h0 : 1 ≤ m) (h1 : m ≤ 6) {Q : PD} {Qx : PX} (h : Q (.bl true)) : cl_u_law_numbered [.hand, dS (iL xs) (.int m), .lst (iL xs), .int m] Q Qx := by
  have hlen := hx.len
  unfold cl_u_law_numbered sm_u_law_numbered clD
  refine sSeq_k fun K0 hK0 => ?_
  show ∃ n, _
  refine ⟨6, rfl, by decide, by decide, ?_⟩
  refine forD_inv0 (i := 4) (fun j env => ∃ c4 c5 c6 c7 c8 c9 c10 : Option L, env = [some (.d .hand), some (.d (dS (iL xs) (.int m))), some (.d (.lst (iL xs))), some (.d (.int m)), c4, c5, c6, c7, c8, c9, c10, none, none] ∧ nx1 c4 = true ∧ nx1 c5 = true ∧ nx1 c6 = true ∧ nx1 c7 = true ∧ nx1 c8 = true ∧ nx1 c9 = true ∧ nx1 c10 = true) ⟨none, none, none, none, none, none, none, rfl, rfl, rfl, rfl, rfl, rfl, rfl, rfl⟩ ?_ ?_
  · rintro j d env K hj ⟨c4, c5, c6, c7, c8, c9, c10, rfl, -, -, -, -, z8, z9, z10⟩ hK
    obtain ⟨hj2, rfl⟩ := rng_get hj
    refine sSeq_k fun K1 hK1 => ?_
    simp only [clD, clI, env0, envI, seD, seI, sSeq, sIf, sRet, sRetN, sSkip, sSet, sSetM, sDrop, sFz, frz1, sFor, sAppN, sAug, sTry, sRaiseN, sSetFN, sBreak, sCont, sAsg, bOr, bAnd, bNot, bT, bC, bCh, bTrue, vUn, vBin, vFn, vCon, vNil, vCons, vN, vR, vTup, vLst, vIf, vAndT, vOrT, vNotT, vCallN, vMethN, vPropN, vMakeN, vLock, vLcL, vSl, vIndex, vXn, vXis, vSortSet, vListRev, vLRg, vTRg, vFldN, r1, r2, oNone, oSomeN, nLst, nList, iSeq, iRng, iEnumD, gN, gTn, gAll, setNones, fIsT, fIsC, fFldN, fAdd, fSub, fMulN, fMod, fNeg, fLt, fLe, fGt, fGe, fIs, fIsNot, fLen, fTuple, fInt, fIx2, fSl, seqI, isT, isC, D.tru, D.isNon, caught, bye, noXn_cons, noXn_nil, nx1_n, nx1_d, nx1_l, List.map_cons, List.map_nil, List.length_cons, List.length_nil, List.replicate, List.nil_append, List.cons_append, List.append_nil, List.append_assoc, List.set_cons_zero, List.set_cons_succ, List.getElem?_cons_zero, List.getElem?_cons_succ, List.lookup, Nat.reduceAdd, Nat.reduceSub, Nat.reduceEqDiff, Bool.false_eq_true, if_true, if_false, Bool.not_false, Bool.not_true, reduceIte, ite_true, ite_false, true_and, and_true, String.reduceBEq, Bool.or_false, Bool.false_or, Bool.or_true, Bool.true_or, Bool.and_true, Bool.true_and, Bool.and_false, Bool.false_and]
    rw [iL_len]
    refine draw_ok (by omega) (by omega) fun s s0 s1 => hK1 _ ?_
    refine sSeq_k fun K2 hK2 => ?_
    have two : ∀ n, 0 ≤ n → n ≤ 99 → K2 [some (.d .hand), some (.d (dS (iL xs) (.int m))), some (.d (.lst (iL xs))), some (.d (.int m)), some (.d (.int (j : Nat))), some (.d (.int s)), some (.d (.int n)), c7, c8, c9, c10, none, none] := by
      intro n n0 n1
      refine hK2 _ ?_
      refine sSeq_k fun K3 hK3 => ?_
      simp only [clD, clI, env0, envI, seD, seI, sSeq, sIf, sRet, sRetN, sSkip, sSet, sSetM, sDrop, sFz, frz1, sFor, sAppN, sAug, sTry, sRaiseN, sSetFN, sBreak, sCont, sAsg, bOr, bAnd, bNot, bT, bC, bCh, bTrue, vUn, vBin, vFn, vCon, vNil, vCons, vN, vR, vTup, vLst, vIf, vAndT, vOrT, vNotT, vCallN, vMethN, vPropN, vMakeN, vLock, vLcL, vSl, vIndex, vXn, vXis, vSortSet, vListRev, vLRg, vTRg, vFldN, r1, r2, oNone, oSomeN, nLst, nList, iSeq, iRng, iEnumD, gN, gTn, gAll, setNones, fIsT, fIsC, fFldN, fAdd, fSub, fMulN, fMod, fNeg, fLt, fLe, fGt, fGe, fIs, fIsNot, fLen, fTuple, fInt, fIx2, fSl, seqI, isT, isC, D.tru, D.isNon, caught, bye, noXn_cons, noXn_nil, nx1_n, nx1_d, nx1_l, List.map_cons, List.map_nil, List.length_cons, List.length_nil, List.replicate, List.nil_append, List.cons_append, List.append_nil, List.append_assoc, List.set_cons_zero, List.set_cons_succ, List.getElem?_cons_zero, List.getElem?_cons_succ, List.lookup, Nat.reduceAdd, Nat.reduceSub, Nat.reduceEqDiff, Bool.false_eq_true, if_true, if_false, Bool.not_false, Bool.not_true, reduceIte, ite_true, ite_false, true_and, and_true, String.reduceBEq, Bool.or_false, Bool.false_or, Bool.or_true, Bool.true_or, Bool.and_true, Bool.true_and, Bool.and_false, Bool.false_and]
      refine ⟨Nat.zero_le _, hK3 _ ?_⟩
      refine sSeq_k fun K4 hK4 => ?_
      simp only [clD, clI, env0, envI, seD, seI, sSeq, sIf, sRet, sRetN, sSkip, sSet, sSetM, sDrop, sFz, frz1, sFor, sAppN, sAug, sTry, sRaiseN, sSetFN, sBreak, sCont, sAsg, bOr, bAnd, bNot, bT, bC, bCh, bTrue, vUn, vBin, vFn, vCon, vNil, vCons, vN, vR, vTup, vLst, vIf, vAndT, vOrT, vNotT, vCallN, vMethN, vPropN, vMakeN, vLock, vLcL, vSl, vIndex, vXn, vXis, vSortSet, vListRev, vLRg, vTRg, vFldN, r1, r2, oNone, oSomeN, nLst, nList, iSeq, iRng, iEnumD, gN, gTn, gAll, setNones, fIsT, fIsC, fFldN, fAdd, fSub, fMulN, fMod, fNeg, fLt, fLe, fGt, fGe, fIs, fIsNot, fLen, fTuple, fInt, fIx2, fSl, seqI, isT, isC, D.tru, D.isNon, caught, bye, noXn_cons, noXn_nil, nx1_n, nx1_d, nx1_l, List.map_cons, List.map_nil, List.length_cons, List.length_nil, List.replicate, List.nil_append, List.cons_append, List.append_nil, List.append_assoc, List.set_cons_zero, List.set_cons_succ, List.getElem?_cons_zero, List.getElem?_cons_succ, List.lookup, Nat.reduceAdd, Nat.reduceSub, Nat.reduceEqDiff, Bool.false_eq_true, if_true, if_false, Bool.not_false, Bool.not_true, reduceIte, ite_true, ite_false, true_and, and_true, String.reduceBEq, Bool.or_false, Bool.false_or, Bool.or_true, Bool.true_or, Bool.and_true, Bool.true_and, Bool.and_false, Bool.false_and]
      refine draw_ok (by decide) (by decide) fun w w0 w1 => ⟨w, rfl, by omega, by omega, ?_⟩
      refine forD_inv0 (i := 8) (fun i env => ∃ (av : List Int) (c8 c9 : Option L), env = [some (.d .hand), some (.d (dS (iL xs) (.int m))), some (.d (.lst (iL xs))), some (.d (.int m)), some (.d (.int (j : Nat))), some (.d (.int s)), some (.d (.int n)), some (.ml (iL av)), c8, c9, c10, none, none] ∧ av.length = i ∧ nx1 c8 = true ∧ nx1 c9 = true) ⟨[], c8, c9, rfl, rfl, z8, z9⟩ ?_ ?_
      · rintro i d env K hi ⟨av, c8, c9, rfl, hl, z8, z9⟩ hKi
        obtain ⟨hi2, rfl⟩ := rng_get hi
        refine sSeq_k fun K5 hK5 => ?_
        have near : ∀ v : Int, K5 [some (.d .hand), some (.d (dS (iL xs) (.int m))), some (.d (.lst (iL xs))), some (.d (.int m)), some (.d (.int (j : Nat))), some (.d (.int s)), some (.d (.int n)), some (.ml (iL av)), some (.d (.int (i : Nat))), some (.d (.int v)), c10, none, none] := by
          intro v
          refine hK5 _ ?_
          simp only [clD, clI, env0, envI, seD, seI, sSeq, sIf, sRet, sRetN, sSkip, sSet, sSetM, sDrop, sFz, frz1, sFor, sAppN, sAug, sTry, sRaiseN, sSetFN, sBreak, sCont, sAsg, bOr, bAnd, bNot, bT, bC, bCh, bTrue, vUn, vBin, vFn, vCon, vNil, vCons, vN, vR, vTup, vLst, vIf, vAndT, vOrT, vNotT, vCallN, vMethN, vPropN, vMakeN, vLock, vLcL, vSl, vIndex, vXn, vXis, vSortSet, vListRev, vLRg, vTRg, vFldN, r1, r2, oNone, oSomeN, nLst, nList, iSeq, iRng, iEnumD, gN, gTn, gAll, setNones, fIsT, fIsC, fFldN, fAdd, fSub, fMulN, fMod, fNeg, fLt, fLe, fGt, fGe, fIs, fIsNot, fLen, fTuple, fInt, fIx2, fSl, seqI, isT, isC, D.tru, D.isNon, caught, bye, noXn_cons, noXn_nil, nx1_n, nx1_d, nx1_l, List.map_cons, List.map_nil, List.length_cons, List.length_nil, List.replicate, List.nil_append, List.cons_append, List.append_nil, List.append_assoc, List.set_cons_zero, List.set_cons_succ, List.getElem?_cons_zero, List.getElem?_cons_succ, List.lookup, Nat.reduceAdd, Nat.reduceSub, Nat.reduceEqDiff, Bool.false_eq_true, if_true, if_false, Bool.not_false, Bool.not_true, reduceIte, ite_true, ite_false, true_and, and_true, String.reduceBEq, Bool.or_false, Bool.false_or, Bool.or_true, Bool.true_or, Bool.and_true, Bool.true_and, Bool.and_false, Bool.false_and]
          have app : ∀ u : Int, K [some (.d .hand), some (.d (dS (iL xs) (.int m))), some (.d (.lst (iL xs))), some (.d (.int m)), some (.d (.int (j : Nat))), some (.d (.int s)), some (.d (.int n)), some (.ml (iL av ++ [.int u])), some (.d (.int (i : Nat))), some (.d (.int v)), c10, none, none] := fun u =>
            hKi _ ⟨av ++ [u], _, _, by rw [iL_app], by simp [hl], rfl, rfl⟩
          refine ⟨?_, draw_ok (by decide) (by decide) fun y y0 y1 => fEq_int ?_⟩
          · rw [iL_len, hl]
            exact Nat.lt_of_lt_of_le (by omega : i < 64) (by rw [sizeLine_eq]; decide)
          · by_cases hy : y = 0
            · simp only [hy, decide_true, if_true]
              exact app _
            · simp only [hy, decide_false, Bool.false_eq_true, if_false]
              exact some_value_ok hx fun u _ _ => app u
        simp only [clD, clI, env0, envI, seD, seI, sSeq, sIf, sRet, sRetN, sSkip, sSet, sSetM, sDrop, sFz, frz1, sFor, sAppN, sAug, sTry, sRaiseN, sSetFN, sBreak, sCont, sAsg, bOr, bAnd, bNot, bT, bC, bCh, bTrue, vUn, vBin, vFn, vCon, vNil, vCons, vN, vR, vTup, vLst, vIf, vAndT, vOrT, vNotT, vCallN, vMethN, vPropN, vMakeN, vLock, vLcL, vSl, vIndex, vXn, vXis, vSortSet, vListRev, vLRg, vTRg, vFldN, r1, r2, oNone, oSomeN, nLst, nList, iSeq, iRng, iEnumD, gN, gTn, gAll, setNones, fIsT, fIsC, fFldN, fAdd, fSub, fMulN, fMod, fNeg, fLt, fLe, fGt, fGe, fIs, fIsNot, fLen, fTuple, fInt, fIx2, fSl, seqI, isT, isC, D.tru, D.isNon, caught, bye, noXn_cons, noXn_nil, nx1_n, nx1_d, nx1_l, List.map_cons, List.map_nil, List.length_cons, List.length_nil, List.replicate, List.nil_append, List.cons_append, List.append_nil, List.append_assoc, List.set_cons_zero, List.set_cons_succ, List.getElem?_cons_zero, List.getElem?_cons_succ, List.lookup, Nat.reduceAdd, Nat.reduceSub, Nat.reduceEqDiff, Bool.false_eq_true, if_true, if_false, Bool.not_false, Bool.not_true, reduceIte, ite_true, ite_false, true_and, and_true, String.reduceBEq, Bool.or_false, Bool.false_or, Bool.or_true, Bool.true_or, Bool.and_true, Bool.true_and, Bool.and_false, Bool.false_and]
        refine draw_ok (by decide) (by decide) fun y y0 y1 => ?_
        try simp only [clD, clI, env0, envI, seD, seI, sSeq, sIf, sRet, sRetN, sSkip, sSet, sSetM, sDrop, sFz, frz1, sFor, sAppN, sAug, sTry, sRaiseN, sSetFN, sBreak, sCont, sAsg, bOr, bAnd, bNot, bT, bC, bCh, bTrue, vUn, vBin, vFn, vCon, vNil, vCons, vN, vR, vTup, vLst, vIf, vAndT, vOrT, vNotT, vCallN, vMethN, vPropN, vMakeN, vLock, vLcL, vSl, vIndex, vXn, vXis, vSortSet, vListRev, vLRg, vTRg, vFldN, r1, r2, oNone, oSomeN, nLst, nList, iSeq, iRng, iEnumD, gN, gTn, gAll, setNones, fIsT, fIsC, fFldN, fAdd, fSub, fMulN, fMod, fNeg, fLt, fLe, fGt, fGe, fIs, fIsNot, fLen, fTuple, fInt, fIx2, fSl, seqI, isT, isC, D.tru, D.isNon, caught, bye, noXn_cons, noXn_nil, nx1_n, nx1_d, nx1_l, List.map_cons, List.map_nil, List.length_cons, List.length_nil, List.replicate, List.nil_append, List.cons_append, List.append_nil, List.append_assoc, List.set_cons_zero, List.set_cons_succ, List.getElem?_cons_zero, List.getElem?_cons_succ, List.lookup, Nat.reduceAdd, Nat.reduceSub, Nat.reduceEqDiff, Bool.false_eq_true, if_true, if_false, Bool.not_false, Bool.not_true, reduceIte, ite_true, ite_false, true_and, and_true, String.reduceBEq, Bool.or_false, Bool.false_or, Bool.or_true, Bool.true_or, Bool.and_true, Bool.true_and, Bool.and_false, Bool.false_and]
        refine ⟨.inr ⟨by omega, by omega⟩, ?_⟩
        by_cases hs : ((iL xs).length : Int) ≤ s
        · simp only [hs, decide_true, if_true]
          exact near _
        · simp only [hs, decide_false, Bool.false_eq_true, if_false]
          exact near _
      · rintro env ⟨av, c8, c9, rfl, hl, z8, z9⟩
        have hav : av.length ≤ 6 := by
          rw [hl, rngD_len]; omega
        refine hK4 _ ?_
        refine sSeq_k fun K6 hK6 => ?_
        obtain ⟨due, d1, d2, d3⟩ := both hx h0 h1 s0 s1 n0 n1 hav
        simp only [clD, clI, env0, envI, seD, seI, sSeq, sIf, sRet, sRetN, sSkip, sSet, sSetM, sDrop, sFz, frz1, sFor, sAppN, sAug, sTry, sRaiseN, sSetFN, sBreak, sCont, sAsg, bOr, bAnd, bNot, bT, bC, bCh, bTrue, vUn, vBin, vFn, vCon, vNil, vCons, vN, vR, vTup, vLst, vIf, vAndT, vOrT, vNotT, vCallN, vMethN, vPropN, vMakeN, vLock, vLcL, vSl, vIndex, vXn, vXis, vSortSet, vListRev, vLRg, vTRg, vFldN, r1, r2, oNone, oSomeN, nLst, nList, iSeq, iRng, iEnumD, gN, gTn, gAll, setNones, fIsT, fIsC, fFldN, fAdd, fSub, fMulN, fMod, fNeg, fLt, fLe, fGt, fGe, fIs, fIsNot, fLen, fTuple, fInt, fIx2, fSl, seqI, isT, isC, D.tru, D.isNon, caught, bye, noXn_cons, noXn_nil, nx1_n, nx1_d, nx1_l, List.map_cons, List.map_nil, List.length_cons, List.length_nil, List.replicate, List.nil_append, List.cons_append, List.append_nil, List.append_assoc, List.set_cons_zero, List.set_cons_succ, List.getElem?_cons_zero, List.getElem?_cons_succ, List.lookup, Nat.reduceAdd, Nat.reduceSub, Nat.reduceEqDiff, Bool.false_eq_true, if_true, if_false, Bool.not_false, Bool.not_true, reduceIte, ite_true, ite_false, true_and, and_true, String.reduceBEq, Bool.or_false, Bool.false_or, Bool.or_true, Bool.true_or, Bool.and_true, Bool.true_and, Bool.and_false, Bool.false_and]
        refine d1 (hK6 _ ?_)
        have hpl : plN 4 due = true := by
          rcases d3 with rfl | ⟨r, rfl, _⟩ <;> rfl
        refine sSeq_k fun K7 hK7 => ?_
        have third : K7 [some (.d .hand), some (.d (dS (iL xs) (.int m))), some (.d (.lst (iL xs))), some (.d (.int m)), some (.d (.int (j : Nat))), some (.d (.int s)), some (.d (.int n)), some (.d (.lst (iL av))), c8, c9, some (.d due), none, none] := by
          refine hK7 _ ?_
          refine sSeq_k fun K8 hK8 => ?_
          have last : K8 [some (.d .hand), some (.d (dS (iL xs) (.int m))), some (.d (.lst (iL xs))), some (.d (.int m)), some (.d (.int (j : Nat))), some (.d (.int s)), some (.d (.int n)), some (.d (.lst (iL av))), c8, c9, some (.d due), none, none] := by
            refine hK8 _ ?_
            obtain ⟨due2, e1, e2, e3⟩ := both (av := []) hx h0 h1 s0 s1 n0 n1 (Nat.zero_le _)
            have hpl2 : plN 4 due2 = true := by
              rcases e3 with rfl | ⟨r, rfl, _⟩ <;> rfl
            simp only [clD, clI, env0, envI, seD, seI, sSeq, sIf, sRet, sRetN, sSkip, sSet, sSetM, sDrop, sFz, frz1, sFor, sAppN, sAug, sTry, sRaiseN, sSetFN, sBreak, sCont, sAsg, bOr, bAnd, bNot, bT, bC, bCh, bTrue, vUn, vBin, vFn, vCon, vNil, vCons, vN, vR, vTup, vLst, vIf, vAndT, vOrT, vNotT, vCallN, vMethN, vPropN, vMakeN, vLock, vLcL, vSl, vIndex, vXn, vXis, vSortSet, vListRev, vLRg, vTRg, vFldN, r1, r2, oNone, oSomeN, nLst, nList, iSeq, iRng, iEnumD, gN, gTn, gAll, setNones, fIsT, fIsC, fFldN, fAdd, fSub, fMulN, fMod, fNeg, fLt, fLe, fGt, fGe, fIs, fIsNot, fLen, fTuple, fInt, fIx2, fSl, seqI, isT, isC, D.tru, D.isNon, caught, bye, noXn_cons, noXn_nil, nx1_n, nx1_d, nx1_l, List.map_cons, List.map_nil, List.length_cons, List.length_nil, List.replicate, List.nil_append, List.cons_append, List.append_nil, List.append_assoc, List.set_cons_zero, List.set_cons_succ, List.getElem?_cons_zero, List.getElem?_cons_succ, List.lookup, Nat.reduceAdd, Nat.reduceSub, Nat.reduceEqDiff, Bool.false_eq_true, if_true, if_false, Bool.not_false, Bool.not_true, reduceIte, ite_true, ite_false, true_and, and_true, String.reduceBEq, Bool.or_false, Bool.false_or, Bool.or_true, Bool.true_or, Bool.and_true, Bool.true_and, Bool.and_false, Bool.false_and, dS, fld_value_of]
            refine e2 (.inr rfl) ?_
            refine ⟨Nat.zero_le _, e1 (exact_refl 4 _ hpl2 ?_)⟩
            simp only [clD, clI, env0, envI, seD, seI, sSeq, sIf, sRet, sRetN, sSkip, sSet, sSetM, sDrop, sFz, frz1, sFor, sAppN, sAug, sTry, sRaiseN, sSetFN, sBreak, sCont, sAsg, bOr, bAnd, bNot, bT, bC, bCh, bTrue, vUn, vBin, vFn, vCon, vNil, vCons, vN, vR, vTup, vLst, vIf, vAndT, vOrT, vNotT, vCallN, vMethN, vPropN, vMakeN, vLock, vLcL, vSl, vIndex, vXn, vXis, vSortSet, vListRev, vLRg, vTRg, vFldN, r1, r2, oNone, oSomeN, nLst, nList, iSeq, iRng, iEnumD, gN, gTn, gAll, setNones, fIsT, fIsC, fFldN, fAdd, fSub, fMulN, fMod, fNeg, fLt, fLe, fGt, fGe, fIs, fIsNot, fLen, fTuple, fInt, fIx2, fSl, seqI, isT, isC, D.tru, D.isNon, caught, bye, noXn_cons, noXn_nil, nx1_n, nx1_d, nx1_l, List.map_cons, List.map_nil, List.length_cons, List.length_nil, List.replicate, List.nil_append, List.cons_append, List.append_nil, List.append_assoc, List.set_cons_zero, List.set_cons_succ, List.getElem?_cons_zero, List.getElem?_cons_succ, List.lookup, Nat.reduceAdd, Nat.reduceSub, Nat.reduceEqDiff, Bool.false_eq_true, if_true, if_false, Bool.not_false, Bool.not_true, reduceIte, ite_true, ite_false, true_and, and_true, String.reduceBEq, Bool.or_false, Bool.false_or, Bool.or_true, Bool.true_or, Bool.and_true, Bool.true_and, Bool.and_false, Bool.false_and]
            exact hK _ ⟨_, _, _, _, _, _, _, rfl, rfl, rfl, rfl, rfl, z8, z9, rfl⟩
          rcases d3 with rfl | ⟨r, rfl, r0, r1, r2⟩
          · simp only [clD, clI, env0, envI, seD, seI, sSeq, sIf, sRet, sRetN, sSkip, sSet, sSetM, sDrop, sFz, frz1, sFor, sAppN, sAug, sTry, sRaiseN, sSetFN, sBreak, sCont, sAsg, bOr, bAnd, bNot, bT, bC, bCh, bTrue, vUn, vBin, vFn, vCon, vNil, vCons, vN, vR, vTup, vLst, vIf, vAndT, vOrT, vNotT, vCallN, vMethN, vPropN, vMakeN, vLock, vLcL, vSl, vIndex, vXn, vXis, vSortSet, vListRev, vLRg, vTRg, vFldN, r1, r2, oNone, oSomeN, nLst, nList, iSeq, iRng, iEnumD, gN, gTn, gAll, setNones, fIsT, fIsC, fFldN, fAdd, fSub, fMulN, fMod, fNeg, fLt, fLe, fGt, fGe, fIs, fIsNot, fLen, fTuple, fInt, fIx2, fSl, seqI, isT, isC, D.tru, D.isNon, caught, bye, noXn_cons, noXn_nil, nx1_n, nx1_d, nx1_l, List.map_cons, List.map_nil, List.length_cons, List.length_nil, List.replicate, List.nil_append, List.cons_append, List.append_nil, List.append_assoc, List.set_cons_zero, List.set_cons_succ, List.getElem?_cons_zero, List.getElem?_cons_succ, List.lookup, Nat.reduceAdd, Nat.reduceSub, Nat.reduceEqDiff, Bool.false_eq_true, if_true, if_false, Bool.not_false, Bool.not_true, reduceIte, ite_true, ite_false, true_and, and_true, String.reduceBEq, Bool.or_false, Bool.false_or, Bool.or_true, Bool.true_or, Bool.and_true, Bool.true_and, Bool.and_false, Bool.false_and, fIsNot]
            exact last
          · simp only [clD, clI, env0, envI, seD, seI, sSeq, sIf, sRet, sRetN, sSkip, sSet, sSetM, sDrop, sFz, frz1, sFor, sAppN, sAug, sTry, sRaiseN, sSetFN, sBreak, sCont, sAsg, bOr, bAnd, bNot, bT, bC, bCh, bTrue, vUn, vBin, vFn, vCon, vNil, vCons, vN, vR, vTup, vLst, vIf, vAndT, vOrT, vNotT, vCallN, vMethN, vPropN, vMakeN, vLock, vLcL, vSl, vIndex, vXn, vXis, vSortSet, vListRev, vLRg, vTRg, vFldN, r1, r2, oNone, oSomeN, nLst, nList, iSeq, iRng, iEnumD, gN, gTn, gAll, setNones, fIsT, fIsC, fFldN, fAdd, fSub, fMulN, fMod, fNeg, fLt, fLe, fGt, fGe, fIs, fIsNot, fLen, fTuple, fInt, fIx2, fSl, seqI, isT, isC, D.tru, D.isNon, caught, bye, noXn_cons, noXn_nil, nx1_n, nx1_d, nx1_l, List.map_cons, List.map_nil, List.length_cons, List.length_nil, List.replicate, List.nil_append, List.cons_append, List.append_nil, List.append_assoc, List.set_cons_zero, List.set_cons_succ, List.getElem?_cons_zero, List.getElem?_cons_succ, List.lookup, Nat.reduceAdd, Nat.reduceSub, Nat.reduceEqDiff, Bool.false_eq_true, if_true, if_false, Bool.not_false, Bool.not_true, reduceIte, ite_true, ite_false, true_and, and_true, String.reduceBEq, Bool.or_false, Bool.false_or, Bool.or_true, Bool.true_or, Bool.and_true, Bool.true_and, Bool.and_false, Bool.false_and, fIsNot, dS, fld_sort_of]
            refine sort_of_ok (by omega) r0 r1 ?_
            rw [r2]
            refine exact_refl 4 _ rfl ?_
            simp only [clD, clI, env0, envI, seD, seI, sSeq, sIf, sRet, sRetN, sSkip, sSet, sSetM, sDrop, sFz, frz1, sFor, sAppN, sAug, sTry, sRaiseN, sSetFN, sBreak, sCont, sAsg, bOr, bAnd, bNot, bT, bC, bCh, bTrue, vUn, vBin, vFn, vCon, vNil, vCons, vN, vR, vTup, vLst, vIf, vAndT, vOrT, vNotT, vCallN, vMethN, vPropN, vMakeN, vLock, vLcL, vSl, vIndex, vXn, vXis, vSortSet, vListRev, vLRg, vTRg, vFldN, r1, r2, oNone, oSomeN, nLst, nList, iSeq, iRng, iEnumD, gN, gTn, gAll, setNones, fIsT, fIsC, fFldN, fAdd, fSub, fMulN, fMod, fNeg, fLt, fLe, fGt, fGe, fIs, fIsNot, fLen, fTuple, fInt, fIx2, fSl, seqI, isT, isC, D.tru, D.isNon, caught, bye, noXn_cons, noXn_nil, nx1_n, nx1_d, nx1_l, List.map_cons, List.map_nil, List.length_cons, List.length_nil, List.replicate, List.nil_append, List.cons_append, List.append_nil, List.append_assoc, List.set_cons_zero, List.set_cons_succ, List.getElem?_cons_zero, List.getElem?_cons_succ, List.lookup, Nat.reduceAdd, Nat.reduceSub, Nat.reduceEqDiff, Bool.false_eq_true, if_true, if_false, Bool.not_false, Bool.not_true, reduceIte, ite_true, ite_false, true_and, and_true, String.reduceBEq, Bool.or_false, Bool.false_or, Bool.or_true, Bool.true_or, Bool.and_true, Bool.true_and, Bool.and_false, Bool.false_and]
            exact last
        simp only [clD, clI, env0, envI, seD, seI, sSeq, sIf, sRet, sRetN, sSkip, sSet, sSetM, sDrop, sFz, frz1, sFor, sAppN, sAug, sTry, sRaiseN, sSetFN, sBreak, sCont, sAsg, bOr, bAnd, bNot, bT, bC, bCh, bTrue, vUn, vBin, vFn, vCon, vNil, vCons, vN, vR, vTup, vLst, vIf, vAndT, vOrT, vNotT, vCallN, vMethN, vPropN, vMakeN, vLock, vLcL, vSl, vIndex, vXn, vXis, vSortSet, vListRev, vLRg, vTRg, vFldN, r1, r2, oNone, oSomeN, nLst, nList, iSeq, iRng, iEnumD, gN, gTn, gAll, setNones, fIsT, fIsC, fFldN, fAdd, fSub, fMulN, fMod, fNeg, fLt, fLe, fGt, fGe, fIs, fIsNot, fLen, fTuple, fInt, fIx2, fSl, seqI, isT, isC, D.tru, D.isNon, caught, bye, noXn_cons, noXn_nil, nx1_n, nx1_d, nx1_l, List.map_cons, List.map_nil, List.length_cons, List.length_nil, List.replicate, List.nil_append, List.cons_append, List.append_nil, List.append_assoc, List.set_cons_zero, List.set_cons_succ, List.getElem?_cons_zero, List.getElem?_cons_succ, List.lookup, Nat.reduceAdd, Nat.reduceSub, Nat.reduceEqDiff, Bool.false_eq_true, if_true, if_false, Bool.not_false, Bool.not_true, reduceIte, ite_true, ite_false, true_and, and_true, String.reduceBEq, Bool.or_false, Bool.false_or, Bool.or_true, Bool.true_or, Bool.and_true, Bool.true_and, Bool.and_false, Bool.false_and, dS, fld_value_of]
        have fin : ∀ a, Sq a av → cl_Sorts_value_of [dS (iL xs) (.int m), .int s, .int n, a] (fun x => cl_u_law_exact 4 [x, due] (fun d => match (match d with
          | D.non => some false
          | D.bl b => some b
          | D.int i => some (i != 0)
          | D.str x => if x.length ≤ sizeLine then some ((x.length : Int) != 0) else none
          | D.tup ds => some !ds.isEmpty
          | D.lst ds => some !ds.isEmpty
          | x => none : Option Bool) with
          | some b => if (!b) = true then Q (.bl false) else K7 [some (.d .hand), some (.d (dS (iL xs) (.int m))), some (.d (.lst (iL xs))), some (.d (.int m)), some (.d (.int (j : Nat))), some (.d (.int s)), some (.d (.int n)), some (.d (.lst (iL av))), c8, c9, some (.d due), none, none]
          | none => False) Qx) Qx := fun a ha => d2 ha (exact_refl 4 _ hpl third)
        exact take_ok (fin _ (.inl rfl)) (fin _ (.inr rfl))
    simp only [clD, clI, env0, envI, seD, seI, sSeq, sIf, sRet, sRetN, sSkip, sSet, sSetM, sDrop, sFz, frz1, sFor, sAppN, sAug, sTry, sRaiseN, sSetFN, sBreak, sCont, sAsg, bOr, bAnd, bNot, bT, bC, bCh, bTrue, vUn, vBin, vFn, vCon, vNil, vCons, vN, vR, vTup, vLst, vIf, vAndT, vOrT, vNotT, vCallN, vMethN, vPropN, vMakeN, vLock, vLcL, vSl, vIndex, vXn, vXis, vSortSet, vListRev, vLRg, vTRg, vFldN, r1, r2, oNone, oSomeN, nLst, nList, iSeq, iRng, iEnumD, gN, gTn, gAll, setNones, fIsT, fIsC, fFldN, fAdd, fSub, fMulN, fMod, fNeg, fLt, fLe, fGt, fGe, fIs, fIsNot, fLen, fTuple, fInt, fIx2, fSl, seqI, isT, isC, D.tru, D.isNon, caught, bye, noXn_cons, noXn_nil, nx1_n, nx1_d, nx1_l, List.map_cons, List.map_nil, List.length_cons, List.length_nil, List.replicate, List.nil_append, List.cons_append, List.append_nil, List.append_assoc, List.set_cons_zero, List.set_cons_succ, List.getElem?_cons_zero, List.getElem?_cons_succ, List.lookup, Nat.reduceAdd, Nat.reduceSub, Nat.reduceEqDiff, Bool.false_eq_true, if_true, if_false, Bool.not_false, Bool.not_true, reduceIte, ite_true, ite_false, true_and, and_true, String.reduceBEq, Bool.or_false, Bool.false_or, Bool.or_true, Bool.true_or, Bool.and_true, Bool.true_and, Bool.and_false, Bool.false_and]
    refine draw_ok (by decide) (by decide) fun w w0 w1 => fEq_int ?_
    by_cases hw : w = 0
    · simp only [hw, decide_true, if_true]
      exact draw_ok (by decide) (by decide) fun n n0 n1 => two n n0 (by omega)
    · simp only [hw, decide_false, Bool.false_eq_true, if_false]
      exact draw_ok (by decide) (by decide) fun n n0 n1 => two n n0 (by omega)
  · rintro env ⟨c4, c5, c6, c7, c8, c9, c10, rfl, z4, z5, z6, z7, z8, z9, z10⟩
    refine hK0 _ ?_
    refine sSeq_k fun K1 hK1 => ?_
    simp only [clD, clI, env0, envI, seD, seI, sSeq, sIf, sRet, sRetN, sSkip, sSet, sSetM, sDrop, sFz, frz1, sFor, sAppN, sAug, sTry, sRaiseN, sSetFN, sBreak, sCont, sAsg, bOr, bAnd, bNot, bT, bC, bCh, bTrue, vUn, vBin, vFn, vCon, vNil, vCons, vN, vR, vTup, vLst, vIf, vAndT, vOrT, vNotT, vCallN, vMethN, vPropN, vMakeN, vLock, vLcL, vSl, vIndex, vXn, vXis, vSortSet, vListRev, vLRg, vTRg, vFldN, r1, r2, oNone, oSomeN, nLst, nList, iSeq, iRng, iEnumD, gN, gTn, gAll, setNones, fIsT, fIsC, fFldN, fAdd, fSub, fMulN, fMod, fNeg, fLt, fLe, fGt, fGe, fIs, fIsNot, fLen, fTuple, fInt, fIx2, fSl, seqI, isT, isC, D.tru, D.isNon, caught, bye, noXn_cons, noXn_nil, nx1_n, nx1_d, nx1_l, List.map_cons, List.map_nil, List.length_cons, List.length_nil, List.replicate, List.nil_append, List.cons_append, List.append_nil, List.append_assoc, List.set_cons_zero, List.set_cons_succ, List.getElem?_cons_zero, List.getElem?_cons_succ, List.lookup, Nat.reduceAdd, Nat.reduceSub, Nat.reduceEqDiff, Bool.false_eq_true, if_true, if_false, Bool.not_false, Bool.not_true, reduceIte, ite_true, ite_false, true_and, and_true, String.reduceBEq, Bool.or_false, Bool.false_or, Bool.or_true, Bool.true_or, Bool.and_true, Bool.true_and, Bool.and_false, Bool.false_and]
    rw [iL_len]
    refine draw_ok (by decide) (by decide) fun y y0 y1 => ⟨by rw [sizeLine_eq]; decide, ?_⟩
    refine forD_inv0 (i := 11) (fun j env => ∃ c11 : Option L, env = [some (.d .hand), some (.d (dS (iL xs) (.int m))), some (.d (.lst (iL xs))), some (.d (.int m)), c4, c5, c6, c7, c8, c9, c10, c11, none]) ⟨none, rfl⟩ ?_ ?_
    · rintro j d env K hj ⟨c11, rfl⟩ hK
      have hd : whole 0 ((iL xs).length + m - 1) d = false ∧ flat d = true := by
        rw [iL_len]
        have hm := List.mem_of_getElem? hj
        rcases List.mem_cons.mp hm with rfl | hm
        · exact ⟨by simp [whole], rfl⟩
        rcases List.mem_cons.mp hm with rfl | hm
        · exact ⟨by show (decide _ && decide _) = false; rw [decide_eq_false (p := _ ≤ (xs.length : Int) + m - 1) (by omega), Bool.and_false], rfl⟩
        rcases List.mem_cons.mp hm with rfl | hm
        · exact ⟨by show (decide _ && decide _) = false; rw [decide_eq_false (p := _ ≤ (xs.length : Int) + m - 1) (by omega), Bool.and_false], rfl⟩
        rcases List.mem_cons.mp hm with rfl | hm
        · exact ⟨rfl, rfl⟩
        rcases List.mem_cons.mp hm with rfl | hm
        · exact ⟨rfl, rfl⟩
        · cases List.mem_singleton.mp hm
          exact ⟨rfl, by show (D.str "0").ok = true; decide +kernel⟩
      simp only [clD, clI, env0, envI, seD, seI, sSeq, sIf, sRet, sRetN, sSkip, sSet, sSetM, sDrop, sFz, frz1, sFor, sAppN, sAug, sTry, sRaiseN, sSetFN, sBreak, sCont, sAsg, bOr, bAnd, bNot, bT, bC, bCh, bTrue, vUn, vBin, vFn, vCon, vNil, vCons, vN, vR, vTup, vLst, vIf, vAndT, vOrT, vNotT, vCallN, vMethN, vPropN, vMakeN, vLock, vLcL, vSl, vIndex, vXn, vXis, vSortSet, vListRev, vLRg, vTRg, vFldN, r1, r2, oNone, oSomeN, nLst, nList, iSeq, iRng, iEnumD, gN, gTn, gAll, setNones, fIsT, fIsC, fFldN, fAdd, fSub, fMulN, fMod, fNeg, fLt, fLe, fGt, fGe, fIs, fIsNot, fLen, fTuple, fInt, fIx2, fSl, seqI, isT, isC, D.tru, D.isNon, caught, bye, noXn_cons, noXn_nil, nx1_n, nx1_d, nx1_l, List.map_cons, List.map_nil, List.length_cons, List.length_nil, List.replicate, List.nil_append, List.cons_append, List.append_nil, List.append_assoc, List.set_cons_zero, List.set_cons_succ, List.getElem?_cons_zero, List.getElem?_cons_succ, List.lookup, Nat.reduceAdd, Nat.reduceSub, Nat.reduceEqDiff, Bool.false_eq_true, if_true, if_false, Bool.not_false, Bool.not_true, reduceIte, ite_true, ite_false, true_and, and_true, String.reduceBEq, Bool.or_false, Bool.false_or, Bool.or_true, Bool.true_or, Bool.and_true, Bool.true_and, Bool.and_false, Bool.false_and, dS, fld_value_of]
      refine ⟨Nat.zero_le _, value_of_bad hd.1 ?_⟩
      simp only [clD, clI, env0, envI, seD, seI, sSeq, sIf, sRet, sRetN, sSkip, sSet, sSetM, sDrop, sFz, frz1, sFor, sAppN, sAug, sTry, sRaiseN, sSetFN, sBreak, sCont, sAsg, bOr, bAnd, bNot, bT, bC, bCh, bTrue, vUn, vBin, vFn, vCon, vNil, vCons, vN, vR, vTup, vLst, vIf, vAndT, vOrT, vNotT, vCallN, vMethN, vPropN, vMakeN, vLock, vLcL, vSl, vIndex, vXn, vXis, vSortSet, vListRev, vLRg, vTRg, vFldN, r1, r2, oNone, oSomeN, nLst, nList, iSeq, iRng, iEnumD, gN, gTn, gAll, setNones, fIsT, fIsC, fFldN, fAdd, fSub, fMulN, fMod, fNeg, fLt, fLe, fGt, fGe, fIs, fIsNot, fLen, fTuple, fInt, fIx2, fSl, seqI, isT, isC, D.tru, D.isNon, caught, bye, noXn_cons, noXn_nil, nx1_n, nx1_d, nx1_l, List.map_cons, List.map_nil, List.length_cons, List.length_nil, List.replicate, List.nil_append, List.cons_append, List.append_nil, List.append_assoc, List.set_cons_zero, List.set_cons_succ, List.getElem?_cons_zero, List.getElem?_cons_succ, List.lookup, Nat.reduceAdd, Nat.reduceSub, Nat.reduceEqDiff, Bool.false_eq_true, if_true, if_false, Bool.not_false, Bool.not_true, reduceIte, ite_true, ite_false, true_and, and_true, String.reduceBEq, Bool.or_false, Bool.false_or, Bool.or_true, Bool.true_or, Bool.and_true, Bool.true_and, Bool.and_false, Bool.false_and]
      refine exactH_refl hd.2 ?_
      simp only [clD, clI, env0, envI, seD, seI, sSeq, sIf, sRet, sRetN, sSkip, sSet, sSetM, sDrop, sFz, frz1, sFor, sAppN, sAug, sTry, sRaiseN, sSetFN, sBreak, sCont, sAsg, bOr, bAnd, bNot, bT, bC, bCh, bTrue, vUn, vBin, vFn, vCon, vNil, vCons, vN, vR, vTup, vLst, vIf, vAndT, vOrT, vNotT, vCallN, vMethN, vPropN, vMakeN, vLock, vLcL, vSl, vIndex, vXn, vXis, vSortSet, vListRev, vLRg, vTRg, vFldN, r1, r2, oNone, oSomeN, nLst, nList, iSeq, iRng, iEnumD, gN, gTn, gAll, setNones, fIsT, fIsC, fFldN, fAdd, fSub, fMulN, fMod, fNeg, fLt, fLe, fGt, fGe, fIs, fIsNot, fLen, fTuple, fInt, fIx2, fSl, seqI, isT, isC, D.tru, D.isNon, caught, bye, noXn_cons, noXn_nil, nx1_n, nx1_d, nx1_l, List.map_cons, List.map_nil, List.length_cons, List.length_nil, List.replicate, List.nil_append, List.cons_append, List.append_nil, List.append_assoc, List.set_cons_zero, List.set_cons_succ, List.getElem?_cons_zero, List.getElem?_cons_succ, List.lookup, Nat.reduceAdd, Nat.reduceSub, Nat.reduceEqDiff, Bool.false_eq_true, if_true, if_false, Bool.not_false, Bool.not_true, reduceIte, ite_true, ite_false, true_and, and_true, String.reduceBEq, Bool.or_false, Bool.false_or, Bool.or_true, Bool.true_or, Bool.and_true, Bool.true_and, Bool.and_false, Bool.false_and, z4, z5, z6, z7, z8, z9, z10]
      exact hK _ ⟨_, rfl⟩
    · rintro env ⟨c11, rfl⟩
      refine hK1 _ ?_
      exact h
end Rd
end
section
set_option Elab.async false
set_option linter.all false
set_option autoImplicit false
set_option maxRecDepth 100000
set_option maxHeartbeats 4000000
namespace Rd
open PySem Mw Rd0
theorem small_int {n : Int} (h0 : 0 ≤ n) (h1 : n ≤ HI) : (PyData.int n).weight ≤ 40 ∧ (PyData.int n).showable = true ∧ (PyData.int n).shown.length ≤ 13 := by
  have h1 : n ≤ 1000000000 := h1
  have hl : n.natAbs.log2 < 34 := by
    by_cases z : n.natAbs = 0
    · rw [z]; decide
    · rw [Nat.log2_lt z]
      have e : (2 : Nat) ^ 34 = 17179869184 := by decide
      omega
  refine ⟨?_, ?_, PyData.shown_int_le (by have e : (10 : Nat) ^ 12 = 1000000000000 := by decide
                                          omega)⟩
  · rw [PyData.weight.eq_5]
    split <;> omega
  · show decide _ = true
    simp
    omega
theorem small_all : ∀ {xs : List Int}, (∀ x ∈ xs, 0 ≤ x ∧ x ≤ HI) → PyData.weightAll (xs.map PyData.int) ≤ 50 * xs.length + 50 ∧ PyData.showableAll (xs.map PyData.int) = true ∧ PyData.hasDictAll (xs.map PyData.int) = false ∧ PyData.intsShortAll 13 (xs.map PyData.int) = true
  | [], _ => by simp [PyData.weightAll, PyData.showableAll, PyData.hasDictAll, PyData.intsShortAll]
  | x :: xs, h => by
    obtain ⟨a, b, c, d⟩ := small_all (xs := xs) fun y hy => h y (List.mem_cons_of_mem _ hy)
    obtain ⟨e, f, g⟩ := small_int (h x List.mem_cons_self).1 (h x List.mem_cons_self).2
    simp only [List.map_cons, PyData.weightAll, PyData.showableAll, PyData.hasDictAll, PyData.intsShortAll, List.length_cons]
    refine ⟨by omega, by rw [f, b]; rfl, by rw [c]; rfl, ?_⟩
    rw [d, Bool.and_true]
    simp [PyData.intsShort, g]
theorem repr_ok {xs : List Int} {a : D} (ha : Sq a xs) (hx : Nmd xs) : ∃ s : Str, ∀ Q : PD, Q (.str s) → fRepr [a] Q := by
  obtain ⟨w1, w2, w3, w4⟩ := small_all (asc_range hx.asc)
  have hl := hx.len
  rcases ha with rfl | rfl
  · refine ⟨(PyData.list (xs.map PyData.int)).shown, fun Q q => ⟨_, _, rfl, py_lst xs, ?_, ?_, ?_, ?_, q⟩⟩
    · simpa [PyData.showable] using w2
    · simpa [PyData.hasDict] using w3
    · simp [PyData.depth, depth_iL]
    · refine PyData.shown_fits_of_layable0 (B := 13) (by decide) (by decide) ?_ (by simpa [PyData.intsShort] using w4)
      show (_ && _ && _) = true
      rw [Bool.and_eq_true, Bool.and_eq_true]
      refine ⟨⟨by simp [PyData.canLay0, canLay_iL], by simp [PyData.depth, depth_iL]⟩, ?_⟩
      rw [decide_eq_true_eq]
      simp only [PyData.weight]
      have e20 : (2 : Nat) ^ 20 = 1048576 := by decide
      omega
  · refine ⟨(PyData.tuple (xs.map PyData.int)).shown, fun Q q => ⟨_, _, rfl, py_tup xs, ?_, ?_, ?_, ?_, q⟩⟩
    · simpa [PyData.showable] using w2
    · simpa [PyData.hasDict] using w3
    · simp [PyData.depth, depth_iL]
    · refine PyData.shown_fits_of_layable0 (B := 13) (by decide) (by decide) ?_ (by simpa [PyData.intsShort] using w4)
      show (_ && _ && _) = true
      rw [Bool.and_eq_true, Bool.and_eq_true]
      refine ⟨⟨by simp [PyData.canLay0, canLay_iL], by simp [PyData.depth, depth_iL]⟩, ?_⟩
      rw [decide_eq_true_eq]
      simp only [PyData.weight]
      have e20 : (2 : Nat) ^ 20 = 1048576 := by decide
      omega
theorem pl_made {xs : List Int} {m n : Int} (hl : xs.length ≤ 1000) : plN 4 (.tup [.str "made", .tup (iL xs), .int m, .int n]) = true := plN_tup (by show 4 ≤ 1000; decide) fun d hd => by
  rcases List.mem_cons.mp hd with rfl | hd
  · exact ok_made
  rcases List.mem_cons.mp hd with rfl | hd
  · exact plN_iL hl
  rcases List.mem_cons.mp hd with rfl | hd
  · rfl
  · cases List.mem_singleton.mp hd
    rfl
theorem plain_law : sm_law (envL 7) (seD (fun d => d = .bl true) (fun _ => False)) := by
  unfold sm_law
  refine sSeq_k fun K0 hK0 => ?_
  show ∃ n, _
  refine ⟨2, rfl, by decide, by decide, ?_⟩
  refine forD_inv0 (i := 2) (fun j env => ∃ c2 c3 c4 c5 c6 c7 : Option L, env = [none, some (.d .hand), c2, c3, c4, c5, c6, c7, none]) ⟨none, none, none, none, none, none, rfl⟩ ?_ ?_
  · rintro j d env K hj ⟨c2, c3, c4, c5, c6, c7, rfl⟩ hK
    obtain ⟨hj2, rfl⟩ := rng_get hj
    refine sSeq_k fun K1 hK1 => ?_
    simp only [clD, clI, env0, envI, seD, seI, sSeq, sIf, sRet, sRetN, sSkip, sSet, sSetM, sDrop, sFz, frz1, sFor, sAppN, sAug, sTry, sRaiseN, sSetFN, sBreak, sCont, sAsg, bOr, bAnd, bNot, bT, bC, bCh, bTrue, vUn, vBin, vFn, vCon, vNil, vCons, vN, vR, vTup, vLst, vIf, vAndT, vOrT, vNotT, vCallN, vMethN, vPropN, vMakeN, vLock, vLcL, vSl, vIndex, vXn, vXis, vSortSet, vListRev, vLRg, vTRg, vFldN, r1, r2, oNone, oSomeN, nLst, nList, iSeq, iRng, iEnumD, gN, gTn, gAll, setNones, fIsT, fIsC, fFldN, fAdd, fSub, fMulN, fMod, fNeg, fLt, fLe, fGt, fGe, fIs, fIsNot, fLen, fTuple, fInt, fIx2, fSl, seqI, isT, isC, D.tru, D.isNon, caught, bye, noXn_cons, noXn_nil, nx1_n, nx1_d, nx1_l, List.map_cons, List.map_nil, List.length_cons, List.length_nil, List.replicate, List.nil_append, List.cons_append, List.append_nil, List.append_assoc, List.set_cons_zero, List.set_cons_succ, List.getElem?_cons_zero, List.getElem?_cons_succ, List.lookup, Nat.reduceAdd, Nat.reduceSub, Nat.reduceEqDiff, Bool.false_eq_true, if_true, if_false, Bool.not_false, Bool.not_true, reduceIte, ite_true, ite_false, true_and, and_true, String.reduceBEq, Bool.or_false, Bool.false_or, Bool.or_true, Bool.true_or, Bool.and_true, Bool.true_and, Bool.and_false, Bool.false_and]
    refine ⟨Nat.zero_le _, named_ok' fun xs hx => hK1 _ ?_⟩
    refine sSeq_k fun K2 hK2 => ?_
    simp only [clD, clI, env0, envI, seD, seI, sSeq, sIf, sRet, sRetN, sSkip, sSet, sSetM, sDrop, sFz, frz1, sFor, sAppN, sAug, sTry, sRaiseN, sSetFN, sBreak, sCont, sAsg, bOr, bAnd, bNot, bT, bC, bCh, bTrue, vUn, vBin, vFn, vCon, vNil, vCons, vN, vR, vTup, vLst, vIf, vAndT, vOrT, vNotT, vCallN, vMethN, vPropN, vMakeN, vLock, vLcL, vSl, vIndex, vXn, vXis, vSortSet, vListRev, vLRg, vTRg, vFldN, r1, r2, oNone, oSomeN, nLst, nList, iSeq, iRng, iEnumD, gN, gTn, gAll, setNones, fIsT, fIsC, fFldN, fAdd, fSub, fMulN, fMod, fNeg, fLt, fLe, fGt, fGe, fIs, fIsNot, fLen, fTuple, fInt, fIx2, fSl, seqI, isT, isC, D.tru, D.isNon, caught, bye, noXn_cons, noXn_nil, nx1_n, nx1_d, nx1_l, List.map_cons, List.map_nil, List.length_cons, List.length_nil, List.replicate, List.nil_append, List.cons_append, List.append_nil, List.append_assoc, List.set_cons_zero, List.set_cons_succ, List.getElem?_cons_zero, List.getElem?_cons_succ, List.lookup, Nat.reduceAdd, Nat.reduceSub, Nat.reduceEqDiff, Bool.false_eq_true, if_true, if_false, Bool.not_false, Bool.not_true, reduceIte, ite_true, ite_false, true_and, and_true, String.reduceBEq, Bool.or_false, Bool.false_or, Bool.or_true, Bool.true_or, Bool.and_true, Bool.true_and, Bool.and_false, Bool.false_and]
    refine draw_ok (by decide) (by decide) fun p p0 p1 => hK2 _ ?_
    obtain ⟨m, em⟩ : ∃ m, m = 1 + p := ⟨_, rfl⟩
    have h0 : 1 ≤ m := by omega
    have h1 : m ≤ 6 := by omega
    rw [← em]
    refine sSeq_k fun K3 hK3 => ?_
    have go : ∀ a, Sq a xs → K3 [none, some (.d .hand), some (.d (.int (j : Nat))), some (.d (.lst (iL xs))), some (.d (.int m)), some (.d a), c6, c7, none] := by
      intro a ha
      refine hK3 _ ?_
      obtain ⟨s, hs⟩ := repr_ok ha hx
      refine sSeq_k fun K4 hK4 => ?_
      simp only [clD, clI, env0, envI, seD, seI, sSeq, sIf, sRet, sRetN, sSkip, sSet, sSetM, sDrop, sFz, frz1, sFor, sAppN, sAug, sTry, sRaiseN, sSetFN, sBreak, sCont, sAsg, bOr, bAnd, bNot, bT, bC, bCh, bTrue, vUn, vBin, vFn, vCon, vNil, vCons, vN, vR, vTup, vLst, vIf, vAndT, vOrT, vNotT, vCallN, vMethN, vPropN, vMakeN, vLock, vLcL, vSl, vIndex, vXn, vXis, vSortSet, vListRev, vLRg, vTRg, vFldN, r1, r2, oNone, oSomeN, nLst, nList, iSeq, iRng, iEnumD, gN, gTn, gAll, setNones, fIsT, fIsC, fFldN, fAdd, fSub, fMulN, fMod, fNeg, fLt, fLe, fGt, fGe, fIs, fIsNot, fLen, fTuple, fInt, fIx2, fSl, seqI, isT, isC, D.tru, D.isNon, caught, bye, noXn_cons, noXn_nil, nx1_n, nx1_d, nx1_l, List.map_cons, List.map_nil, List.length_cons, List.length_nil, List.replicate, List.nil_append, List.cons_append, List.append_nil, List.append_assoc, List.set_cons_zero, List.set_cons_succ, List.getElem?_cons_zero, List.getElem?_cons_succ, List.lookup, Nat.reduceAdd, Nat.reduceSub, Nat.reduceEqDiff, Bool.false_eq_true, if_true, if_false, Bool.not_false, Bool.not_true, reduceIte, ite_true, ite_false, true_and, and_true, String.reduceBEq, Bool.or_false, Bool.false_or, Bool.or_true, Bool.true_or, Bool.and_true, Bool.true_and, Bool.and_false, Bool.false_and]
      refine hs _ (hK4 _ ?_)
      refine sSeq_k fun K5 hK5 => ?_
      simp only [clD, clI, env0, envI, seD, seI, sSeq, sIf, sRet, sRetN, sSkip, sSet, sSetM, sDrop, sFz, frz1, sFor, sAppN, sAug, sTry, sRaiseN, sSetFN, sBreak, sCont, sAsg, bOr, bAnd, bNot, bT, bC, bCh, bTrue, vUn, vBin, vFn, vCon, vNil, vCons, vN, vR, vTup, vLst, vIf, vAndT, vOrT, vNotT, vCallN, vMethN, vPropN, vMakeN, vLock, vLcL, vSl, vIndex, vXn, vXis, vSortSet, vListRev, vLRg, vTRg, vFldN, r1, r2, oNone, oSomeN, nLst, nList, iSeq, iRng, iEnumD, gN, gTn, gAll, setNones, fIsT, fIsC, fFldN, fAdd, fSub, fMulN, fMod, fNeg, fLt, fLe, fGt, fGe, fIs, fIsNot, fLen, fTuple, fInt, fIx2, fSl, seqI, isT, isC, D.tru, D.isNon, caught, bye, noXn_cons, noXn_nil, nx1_n, nx1_d, nx1_l, List.map_cons, List.map_nil, List.length_cons, List.length_nil, List.replicate, List.nil_append, List.cons_append, List.append_nil, List.append_assoc, List.set_cons_zero, List.set_cons_succ, List.getElem?_cons_zero, List.getElem?_cons_succ, List.lookup, Nat.reduceAdd, Nat.reduceSub, Nat.reduceEqDiff, Bool.false_eq_true, if_true, if_false, Bool.not_false, Bool.not_true, reduceIte, ite_true, ite_false, true_and, and_true, String.reduceBEq, Bool.or_false, Bool.false_or, Bool.or_true, Bool.true_or, Bool.and_true, Bool.true_and, Bool.and_false, Bool.false_and]
      refine made_good ha hx h0 h1 ?_
      have hlen := hx.len
      refine ⟨by rw [sizeLine_eq]; decide, ?_⟩
      rw [iL_len]
      refine exact_refl 4 _ (pl_made (by omega)) ?_
      simp only [clD, clI, env0, envI, seD, seI, sSeq, sIf, sRet, sRetN, sSkip, sSet, sSetM, sDrop, sFz, frz1, sFor, sAppN, sAug, sTry, sRaiseN, sSetFN, sBreak, sCont, sAsg, bOr, bAnd, bNot, bT, bC, bCh, bTrue, vUn, vBin, vFn, vCon, vNil, vCons, vN, vR, vTup, vLst, vIf, vAndT, vOrT, vNotT, vCallN, vMethN, vPropN, vMakeN, vLock, vLcL, vSl, vIndex, vXn, vXis, vSortSet, vListRev, vLRg, vTRg, vFldN, r1, r2, oNone, oSomeN, nLst, nList, iSeq, iRng, iEnumD, gN, gTn, gAll, setNones, fIsT, fIsC, fFldN, fAdd, fSub, fMulN, fMod, fNeg, fLt, fLe, fGt, fGe, fIs, fIsNot, fLen, fTuple, fInt, fIx2, fSl, seqI, isT, isC, D.tru, D.isNon, caught, bye, noXn_cons, noXn_nil, nx1_n, nx1_d, nx1_l, List.map_cons, List.map_nil, List.length_cons, List.length_nil, List.replicate, List.nil_append, List.cons_append, List.append_nil, List.append_assoc, List.set_cons_zero, List.set_cons_succ, List.getElem?_cons_zero, List.getElem?_cons_succ, List.lookup, Nat.reduceAdd, Nat.reduceSub, Nat.reduceEqDiff, Bool.false_eq_true, if_true, if_false, Bool.not_false, Bool.not_true, reduceIte, ite_true, ite_false, true_and, and_true, String.reduceBEq, Bool.or_false, Bool.false_or, Bool.or_true, Bool.true_or, Bool.and_true, Bool.true_and, Bool.and_false, Bool.false_and]
      refine hK5 _ ?_
      refine sSeq_k fun K6 hK6 => ?_
      simp only [clD, clI, env0, envI, seD, seI, sSeq, sIf, sRet, sRetN, sSkip, sSet, sSetM, sDrop, sFz, frz1, sFor, sAppN, sAug, sTry, sRaiseN, sSetFN, sBreak, sCont, sAsg, bOr, bAnd, bNot, bT, bC, bCh, bTrue, vUn, vBin, vFn, vCon, vNil, vCons, vN, vR, vTup, vLst, vIf, vAndT, vOrT, vNotT, vCallN, vMethN, vPropN, vMakeN, vLock, vLcL, vSl, vIndex, vXn, vXis, vSortSet, vListRev, vLRg, vTRg, vFldN, r1, r2, oNone, oSomeN, nLst, nList, iSeq, iRng, iEnumD, gN, gTn, gAll, setNones, fIsT, fIsC, fFldN, fAdd, fSub, fMulN, fMod, fNeg, fLt, fLe, fGt, fGe, fIs, fIsNot, fLen, fTuple, fInt, fIx2, fSl, seqI, isT, isC, D.tru, D.isNon, caught, bye, noXn_cons, noXn_nil, nx1_n, nx1_d, nx1_l, List.map_cons, List.map_nil, List.length_cons, List.length_nil, List.replicate, List.nil_append, List.cons_append, List.append_nil, List.append_assoc, List.set_cons_zero, List.set_cons_succ, List.getElem?_cons_zero, List.getElem?_cons_succ, List.lookup, Nat.reduceAdd, Nat.reduceSub, Nat.reduceEqDiff, Bool.false_eq_true, if_true, if_false, Bool.not_false, Bool.not_true, reduceIte, ite_true, ite_false, true_and, and_true, String.reduceBEq, Bool.or_false, Bool.false_or, Bool.or_true, Bool.true_or, Bool.and_true, Bool.true_and, Bool.and_false, Bool.false_and]
      refine init_good ha hx h0 h1 (hK6 _ ?_)
      refine sSeq_k fun K7 hK7 => ?_
      simp only [clD, clI, env0, envI, seD, seI, sSeq, sIf, sRet, sRetN, sSkip, sSet, sSetM, sDrop, sFz, frz1, sFor, sAppN, sAug, sTry, sRaiseN, sSetFN, sBreak, sCont, sAsg, bOr, bAnd, bNot, bT, bC, bCh, bTrue, vUn, vBin, vFn, vCon, vNil, vCons, vN, vR, vTup, vLst, vIf, vAndT, vOrT, vNotT, vCallN, vMethN, vPropN, vMakeN, vLock, vLcL, vSl, vIndex, vXn, vXis, vSortSet, vListRev, vLRg, vTRg, vFldN, r1, r2, oNone, oSomeN, nLst, nList, iSeq, iRng, iEnumD, gN, gTn, gAll, setNones, fIsT, fIsC, fFldN, fAdd, fSub, fMulN, fMod, fNeg, fLt, fLe, fGt, fGe, fIs, fIsNot, fLen, fTuple, fInt, fIx2, fSl, seqI, isT, isC, D.tru, D.isNon, caught, bye, noXn_cons, noXn_nil, nx1_n, nx1_d, nx1_l, List.map_cons, List.map_nil, List.length_cons, List.length_nil, List.replicate, List.nil_append, List.cons_append, List.append_nil, List.append_assoc, List.set_cons_zero, List.set_cons_succ, List.getElem?_cons_zero, List.getElem?_cons_succ, List.lookup, Nat.reduceAdd, Nat.reduceSub, Nat.reduceEqDiff, Bool.false_eq_true, if_true, if_false, Bool.not_false, Bool.not_true, reduceIte, ite_true, ite_false, true_and, and_true, String.reduceBEq, Bool.or_false, Bool.false_or, Bool.or_true, Bool.true_or, Bool.and_true, Bool.true_and, Bool.and_false, Bool.false_and]
      refine equal_ok hx h0 h1 ?_
      simp only [clD, clI, env0, envI, seD, seI, sSeq, sIf, sRet, sRetN, sSkip, sSet, sSetM, sDrop, sFz, frz1, sFor, sAppN, sAug, sTry, sRaiseN, sSetFN, sBreak, sCont, sAsg, bOr, bAnd, bNot, bT, bC, bCh, bTrue, vUn, vBin, vFn, vCon, vNil, vCons, vN, vR, vTup, vLst, vIf, vAndT, vOrT, vNotT, vCallN, vMethN, vPropN, vMakeN, vLock, vLcL, vSl, vIndex, vXn, vXis, vSortSet, vListRev, vLRg, vTRg, vFldN, r1, r2, oNone, oSomeN, nLst, nList, iSeq, iRng, iEnumD, gN, gTn, gAll, setNones, fIsT, fIsC, fFldN, fAdd, fSub, fMulN, fMod, fNeg, fLt, fLe, fGt, fGe, fIs, fIsNot, fLen, fTuple, fInt, fIx2, fSl, seqI, isT, isC, D.tru, D.isNon, caught, bye, noXn_cons, noXn_nil, nx1_n, nx1_d, nx1_l, List.map_cons, List.map_nil, List.length_cons, List.length_nil, List.replicate, List.nil_append, List.cons_append, List.append_nil, List.append_assoc, List.set_cons_zero, List.set_cons_succ, List.getElem?_cons_zero, List.getElem?_cons_succ, List.lookup, Nat.reduceAdd, Nat.reduceSub, Nat.reduceEqDiff, Bool.false_eq_true, if_true, if_false, Bool.not_false, Bool.not_true, reduceIte, ite_true, ite_false, true_and, and_true, String.reduceBEq, Bool.or_false, Bool.false_or, Bool.or_true, Bool.true_or, Bool.and_true, Bool.true_and, Bool.and_false, Bool.false_and]
      refine refused_ok hx h0 h1 ?_
      simp only [clD, clI, env0, envI, seD, seI, sSeq, sIf, sRet, sRetN, sSkip, sSet, sSetM, sDrop, sFz, frz1, sFor, sAppN, sAug, sTry, sRaiseN, sSetFN, sBreak, sCont, sAsg, bOr, bAnd, bNot, bT, bC, bCh, bTrue, vUn, vBin, vFn, vCon, vNil, vCons, vN, vR, vTup, vLst, vIf, vAndT, vOrT, vNotT, vCallN, vMethN, vPropN, vMakeN, vLock, vLcL, vSl, vIndex, vXn, vXis, vSortSet, vListRev, vLRg, vTRg, vFldN, r1, r2, oNone, oSomeN, nLst, nList, iSeq, iRng, iEnumD, gN, gTn, gAll, setNones, fIsT, fIsC, fFldN, fAdd, fSub, fMulN, fMod, fNeg, fLt, fLe, fGt, fGe, fIs, fIsNot, fLen, fTuple, fInt, fIx2, fSl, seqI, isT, isC, D.tru, D.isNon, caught, bye, noXn_cons, noXn_nil, nx1_n, nx1_d, nx1_l, List.map_cons, List.map_nil, List.length_cons, List.length_nil, List.replicate, List.nil_append, List.cons_append, List.append_nil, List.append_assoc, List.set_cons_zero, List.set_cons_succ, List.getElem?_cons_zero, List.getElem?_cons_succ, List.lookup, Nat.reduceAdd, Nat.reduceSub, Nat.reduceEqDiff, Bool.false_eq_true, if_true, if_false, Bool.not_false, Bool.not_true, reduceIte, ite_true, ite_false, true_and, and_true, String.reduceBEq, Bool.or_false, Bool.false_or, Bool.or_true, Bool.true_or, Bool.and_true, Bool.true_and, Bool.and_false, Bool.false_and]
      refine hK7 _ ?_
      refine sSeq_k fun K8 hK8 => ?_
      simp only [clD, clI, env0, envI, seD, seI, sSeq, sIf, sRet, sRetN, sSkip, sSet, sSetM, sDrop, sFz, frz1, sFor, sAppN, sAug, sTry, sRaiseN, sSetFN, sBreak, sCont, sAsg, bOr, bAnd, bNot, bT, bC, bCh, bTrue, vUn, vBin, vFn, vCon, vNil, vCons, vN, vR, vTup, vLst, vIf, vAndT, vOrT, vNotT, vCallN, vMethN, vPropN, vMakeN, vLock, vLcL, vSl, vIndex, vXn, vXis, vSortSet, vListRev, vLRg, vTRg, vFldN, r1, r2, oNone, oSomeN, nLst, nList, iSeq, iRng, iEnumD, gN, gTn, gAll, setNones, fIsT, fIsC, fFldN, fAdd, fSub, fMulN, fMod, fNeg, fLt, fLe, fGt, fGe, fIs, fIsNot, fLen, fTuple, fInt, fIx2, fSl, seqI, isT, isC, D.tru, D.isNon, caught, bye, noXn_cons, noXn_nil, nx1_n, nx1_d, nx1_l, List.map_cons, List.map_nil, List.length_cons, List.length_nil, List.replicate, List.nil_append, List.cons_append, List.append_nil, List.append_assoc, List.set_cons_zero, List.set_cons_succ, List.getElem?_cons_zero, List.getElem?_cons_succ, List.lookup, Nat.reduceAdd, Nat.reduceSub, Nat.reduceEqDiff, Bool.false_eq_true, if_true, if_false, Bool.not_false, Bool.not_true, reduceIte, ite_true, ite_false, true_and, and_true, String.reduceBEq, Bool.or_false, Bool.false_or, Bool.or_true, Bool.true_or, Bool.and_true, Bool.true_and, Bool.and_false, Bool.false_and]
      refine values_sorted_ok hx h0 ?_
      simp only [clD, clI, env0, envI, seD, seI, sSeq, sIf, sRet, sRetN, sSkip, sSet, sSetM, sDrop, sFz, frz1, sFor, sAppN, sAug, sTry, sRaiseN, sSetFN, sBreak, sCont, sAsg, bOr, bAnd, bNot, bT, bC, bCh, bTrue, vUn, vBin, vFn, vCon, vNil, vCons, vN, vR, vTup, vLst, vIf, vAndT, vOrT, vNotT, vCallN, vMethN, vPropN, vMakeN, vLock, vLcL, vSl, vIndex, vXn, vXis, vSortSet, vListRev, vLRg, vTRg, vFldN, r1, r2, oNone, oSomeN, nLst, nList, iSeq, iRng, iEnumD, gN, gTn, gAll, setNones, fIsT, fIsC, fFldN, fAdd, fSub, fMulN, fMod, fNeg, fLt, fLe, fGt, fGe, fIs, fIsNot, fLen, fTuple, fInt, fIx2, fSl, seqI, isT, isC, D.tru, D.isNon, caught, bye, noXn_cons, noXn_nil, nx1_n, nx1_d, nx1_l, List.map_cons, List.map_nil, List.length_cons, List.length_nil, List.replicate, List.nil_append, List.cons_append, List.append_nil, List.append_assoc, List.set_cons_zero, List.set_cons_succ, List.getElem?_cons_zero, List.getElem?_cons_succ, List.lookup, Nat.reduceAdd, Nat.reduceSub, Nat.reduceEqDiff, Bool.false_eq_true, if_true, if_false, Bool.not_false, Bool.not_true, reduceIte, ite_true, ite_false, true_and, and_true, String.reduceBEq, Bool.or_false, Bool.false_or, Bool.or_true, Bool.true_or, Bool.and_true, Bool.true_and, Bool.and_false, Bool.false_and]
      refine numbered_ok hx h0 h1 ?_
      simp only [clD, clI, env0, envI, seD, seI, sSeq, sIf, sRet, sRetN, sSkip, sSet, sSetM, sDrop, sFz, frz1, sFor, sAppN, sAug, sTry, sRaiseN, sSetFN, sBreak, sCont, sAsg, bOr, bAnd, bNot, bT, bC, bCh, bTrue, vUn, vBin, vFn, vCon, vNil, vCons, vN, vR, vTup, vLst, vIf, vAndT, vOrT, vNotT, vCallN, vMethN, vPropN, vMakeN, vLock, vLcL, vSl, vIndex, vXn, vXis, vSortSet, vListRev, vLRg, vTRg, vFldN, r1, r2, oNone, oSomeN, nLst, nList, iSeq, iRng, iEnumD, gN, gTn, gAll, setNones, fIsT, fIsC, fFldN, fAdd, fSub, fMulN, fMod, fNeg, fLt, fLe, fGt, fGe, fIs, fIsNot, fLen, fTuple, fInt, fIx2, fSl, seqI, isT, isC, D.tru, D.isNon, caught, bye, noXn_cons, noXn_nil, nx1_n, nx1_d, nx1_l, List.map_cons, List.map_nil, List.length_cons, List.length_nil, List.replicate, List.nil_append, List.cons_append, List.append_nil, List.append_assoc, List.set_cons_zero, List.set_cons_succ, List.getElem?_cons_zero, List.getElem?_cons_succ, List.lookup, Nat.reduceAdd, Nat.reduceSub, Nat.reduceEqDiff, Bool.false_eq_true, if_true, if_false, Bool.not_false, Bool.not_true, reduceIte, ite_true, ite_false, true_and, and_true, String.reduceBEq, Bool.or_false, Bool.false_or, Bool.or_true, Bool.true_or, Bool.and_true, Bool.true_and, Bool.and_false, Bool.false_and]
      refine hK8 _ ?_
      simp only [clD, clI, env0, envI, seD, seI, sSeq, sIf, sRet, sRetN, sSkip, sSet, sSetM, sDrop, sFz, frz1, sFor, sAppN, sAug, sTry, sRaiseN, sSetFN, sBreak, sCont, sAsg, bOr, bAnd, bNot, bT, bC, bCh, bTrue, vUn, vBin, vFn, vCon, vNil, vCons, vN, vR, vTup, vLst, vIf, vAndT, vOrT, vNotT, vCallN, vMethN, vPropN, vMakeN, vLock, vLcL, vSl, vIndex, vXn, vXis, vSortSet, vListRev, vLRg, vTRg, vFldN, r1, r2, oNone, oSomeN, nLst, nList, iSeq, iRng, iEnumD, gN, gTn, gAll, setNones, fIsT, fIsC, fFldN, fAdd, fSub, fMulN, fMod, fNeg, fLt, fLe, fGt, fGe, fIs, fIsNot, fLen, fTuple, fInt, fIx2, fSl, seqI, isT, isC, D.tru, D.isNon, caught, bye, noXn_cons, noXn_nil, nx1_n, nx1_d, nx1_l, List.map_cons, List.map_nil, List.length_cons, List.length_nil, List.replicate, List.nil_append, List.cons_append, List.append_nil, List.append_assoc, List.set_cons_zero, List.set_cons_succ, List.getElem?_cons_zero, List.getElem?_cons_succ, List.lookup, Nat.reduceAdd, Nat.reduceSub, Nat.reduceEqDiff, Bool.false_eq_true, if_true, if_false, Bool.not_false, Bool.not_true, reduceIte, ite_true, ite_false, true_and, and_true, String.reduceBEq, Bool.or_false, Bool.false_or, Bool.or_true, Bool.true_or, Bool.and_true, Bool.true_and, Bool.and_false, Bool.false_and, fNeS, fld_n, fld_m, in00]
      refine hs _ ?_
      simp only [clD, clI, env0, envI, seD, seI, sSeq, sIf, sRet, sRetN, sSkip, sSet, sSetM, sDrop, sFz, frz1, sFor, sAppN, sAug, sTry, sRaiseN, sSetFN, sBreak, sCont, sAsg, bOr, bAnd, bNot, bT, bC, bCh, bTrue, vUn, vBin, vFn, vCon, vNil, vCons, vN, vR, vTup, vLst, vIf, vAndT, vOrT, vNotT, vCallN, vMethN, vPropN, vMakeN, vLock, vLcL, vSl, vIndex, vXn, vXis, vSortSet, vListRev, vLRg, vTRg, vFldN, r1, r2, oNone, oSomeN, nLst, nList, iSeq, iRng, iEnumD, gN, gTn, gAll, setNones, fIsT, fIsC, fFldN, fAdd, fSub, fMulN, fMod, fNeg, fLt, fLe, fGt, fGe, fIs, fIsNot, fLen, fTuple, fInt, fIx2, fSl, seqI, isT, isC, D.tru, D.isNon, caught, bye, noXn_cons, noXn_nil, nx1_n, nx1_d, nx1_l, List.map_cons, List.map_nil, List.length_cons, List.length_nil, List.replicate, List.nil_append, List.cons_append, List.append_nil, List.append_assoc, List.set_cons_zero, List.set_cons_succ, List.getElem?_cons_zero, List.getElem?_cons_succ, List.lookup, Nat.reduceAdd, Nat.reduceSub, Nat.reduceEqDiff, Bool.false_eq_true, if_true, if_false, Bool.not_false, Bool.not_true, reduceIte, ite_true, ite_false, true_and, and_true, String.reduceBEq, Bool.or_false, Bool.false_or, Bool.or_true, Bool.true_or, Bool.and_true, Bool.true_and, Bool.and_false, Bool.false_and, fNeS, decide_true, fld_n, fld_m, in00]
      refine ⟨by rw [sizeLine_eq]; decide, by rw [sizeLine_eq]; decide, ?_⟩
      refine exact_refl 4 _ (plN_tup (by show 2 ≤ 1000; decide) fun d hd => ?_) ?_
      · rcases List.mem_cons.mp hd with rfl | hd
        · exact plN_iL (by omega)
        · cases List.mem_singleton.mp hd
          rfl
      · simp only [clD, clI, env0, envI, seD, seI, sSeq, sIf, sRet, sRetN, sSkip, sSet, sSetM, sDrop, sFz, frz1, sFor, sAppN, sAug, sTry, sRaiseN, sSetFN, sBreak, sCont, sAsg, bOr, bAnd, bNot, bT, bC, bCh, bTrue, vUn, vBin, vFn, vCon, vNil, vCons, vN, vR, vTup, vLst, vIf, vAndT, vOrT, vNotT, vCallN, vMethN, vPropN, vMakeN, vLock, vLcL, vSl, vIndex, vXn, vXis, vSortSet, vListRev, vLRg, vTRg, vFldN, r1, r2, oNone, oSomeN, nLst, nList, iSeq, iRng, iEnumD, gN, gTn, gAll, setNones, fIsT, fIsC, fFldN, fAdd, fSub, fMulN, fMod, fNeg, fLt, fLe, fGt, fGe, fIs, fIsNot, fLen, fTuple, fInt, fIx2, fSl, seqI, isT, isC, D.tru, D.isNon, caught, bye, noXn_cons, noXn_nil, nx1_n, nx1_d, nx1_l, List.map_cons, List.map_nil, List.length_cons, List.length_nil, List.replicate, List.nil_append, List.cons_append, List.append_nil, List.append_assoc, List.set_cons_zero, List.set_cons_succ, List.getElem?_cons_zero, List.getElem?_cons_succ, List.lookup, Nat.reduceAdd, Nat.reduceSub, Nat.reduceEqDiff, Bool.false_eq_true, if_true, if_false, Bool.not_false, Bool.not_true, reduceIte, ite_true, ite_false, true_and, and_true, String.reduceBEq, Bool.or_false, Bool.false_or, Bool.or_true, Bool.true_or, Bool.and_true, Bool.true_and, Bool.and_false, Bool.false_and]
        exact hK _ ⟨_, _, _, _, _, _, rfl⟩
    simp only [clD, clI, env0, envI, seD, seI, sSeq, sIf, sRet, sRetN, sSkip, sSet, sSetM, sDrop, sFz, frz1, sFor, sAppN, sAug, sTry, sRaiseN, sSetFN, sBreak, sCont, sAsg, bOr, bAnd, bNot, bT, bC, bCh, bTrue, vUn, vBin, vFn, vCon, vNil, vCons, vN, vR, vTup, vLst, vIf, vAndT, vOrT, vNotT, vCallN, vMethN, vPropN, vMakeN, vLock, vLcL, vSl, vIndex, vXn, vXis, vSortSet, vListRev, vLRg, vTRg, vFldN, r1, r2, oNone, oSomeN, nLst, nList, iSeq, iRng, iEnumD, gN, gTn, gAll, setNones, fIsT, fIsC, fFldN, fAdd, fSub, fMulN, fMod, fNeg, fLt, fLe, fGt, fGe, fIs, fIsNot, fLen, fTuple, fInt, fIx2, fSl, seqI, isT, isC, D.tru, D.isNon, caught, bye, noXn_cons, noXn_nil, nx1_n, nx1_d, nx1_l, List.map_cons, List.map_nil, List.length_cons, List.length_nil, List.replicate, List.nil_append, List.cons_append, List.append_nil, List.append_assoc, List.set_cons_zero, List.set_cons_succ, List.getElem?_cons_zero, List.getElem?_cons_succ, List.lookup, Nat.reduceAdd, Nat.reduceSub, Nat.reduceEqDiff, Bool.false_eq_true, if_true, if_false, Bool.not_false, Bool.not_true, reduceIte, ite_true, ite_false, true_and, and_true, String.reduceBEq, Bool.or_false, Bool.false_or, Bool.or_true, Bool.true_or, Bool.and_true, Bool.true_and, Bool.and_false, Bool.false_and]
    exact take_ok (go _ (.inl rfl)) (go _ (.inr rfl))
  · rintro env ⟨c2, c3, c4, c5, c6, c7, rfl⟩
    refine hK0 _ ?_
    refine sSeq_k fun K1 hK1 => ?_
    simp only [clD, clI, env0, envI, seD, seI, sSeq, sIf, sRet, sRetN, sSkip, sSet, sSetM, sDrop, sFz, frz1, sFor, sAppN, sAug, sTry, sRaiseN, sSetFN, sBreak, sCont, sAsg, bOr, bAnd, bNot, bT, bC, bCh, bTrue, vUn, vBin, vFn, vCon, vNil, vCons, vN, vR, vTup, vLst, vIf, vAndT, vOrT, vNotT, vCallN, vMethN, vPropN, vMakeN, vLock, vLcL, vSl, vIndex, vXn, vXis, vSortSet, vListRev, vLRg, vTRg, vFldN, r1, r2, oNone, oSomeN, nLst, nList, iSeq, iRng, iEnumD, gN, gTn, gAll, setNones, fIsT, fIsC, fFldN, fAdd, fSub, fMulN, fMod, fNeg, fLt, fLe, fGt, fGe, fIs, fIsNot, fLen, fTuple, fInt, fIx2, fSl, seqI, isT, isC, D.tru, D.isNon, caught, bye, noXn_cons, noXn_nil, nx1_n, nx1_d, nx1_l, List.map_cons, List.map_nil, List.length_cons, List.length_nil, List.replicate, List.nil_append, List.cons_append, List.append_nil, List.append_assoc, List.set_cons_zero, List.set_cons_succ, List.getElem?_cons_zero, List.getElem?_cons_succ, List.lookup, Nat.reduceAdd, Nat.reduceSub, Nat.reduceEqDiff, Bool.false_eq_true, if_true, if_false, Bool.not_false, Bool.not_true, reduceIte, ite_true, ite_false, true_and, and_true, String.reduceBEq, Bool.or_false, Bool.false_or, Bool.or_true, Bool.true_or, Bool.and_true, Bool.true_and, Bool.and_false, Bool.false_and]
    refine ⟨by unfold L2.RgOk; decide, hK1 _ ?_⟩
    have e8 : rgD 1 9 = iL [1, 2, 3, 4, 5, 6, 7, 8] := rfl
    rw [e8]
    simp only [clD, clI, env0, envI, seD, seI, sSeq, sIf, sRet, sRetN, sSkip, sSet, sSetM, sDrop, sFz, frz1, sFor, sAppN, sAug, sTry, sRaiseN, sSetFN, sBreak, sCont, sAsg, bOr, bAnd, bNot, bT, bC, bCh, bTrue, vUn, vBin, vFn, vCon, vNil, vCons, vN, vR, vTup, vLst, vIf, vAndT, vOrT, vNotT, vCallN, vMethN, vPropN, vMakeN, vLock, vLcL, vSl, vIndex, vXn, vXis, vSortSet, vListRev, vLRg, vTRg, vFldN, r1, r2, oNone, oSomeN, nLst, nList, iSeq, iRng, iEnumD, gN, gTn, gAll, setNones, fIsT, fIsC, fFldN, fAdd, fSub, fMulN, fMod, fNeg, fLt, fLe, fGt, fGe, fIs, fIsNot, fLen, fTuple, fInt, fIx2, fSl, seqI, isT, isC, D.tru, D.isNon, caught, bye, noXn_cons, noXn_nil, nx1_n, nx1_d, nx1_l, List.map_cons, List.map_nil, List.length_cons, List.length_nil, List.replicate, List.nil_append, List.cons_append, List.append_nil, List.append_assoc, List.set_cons_zero, List.set_cons_succ, List.getElem?_cons_zero, List.getElem?_cons_succ, List.lookup, Nat.reduceAdd, Nat.reduceSub, Nat.reduceEqDiff, Bool.false_eq_true, if_true, if_false, Bool.not_false, Bool.not_true, reduceIte, ite_true, ite_false, true_and, and_true, String.reduceBEq, Bool.or_false, Bool.false_or, Bool.or_true, Bool.true_or, Bool.and_true, Bool.true_and, Bool.and_false, Bool.false_and]
    refine made_good (xs := [1, 2, 3, 4, 5, 6, 7, 8]) (.inr rfl) ⟨(ascV_iff _ _).mp (by decide +kernel), by decide⟩ (by decide) (by decide) ?_
    refine ⟨by rw [sizeLine_eq]; decide, ?_⟩
    refine exact_refl 4 _ (pl_made (by decide)) ?_
    simp only [clD, clI, env0, envI, seD, seI, sSeq, sIf, sRet, sRetN, sSkip, sSet, sSetM, sDrop, sFz, frz1, sFor, sAppN, sAug, sTry, sRaiseN, sSetFN, sBreak, sCont, sAsg, bOr, bAnd, bNot, bT, bC, bCh, bTrue, vUn, vBin, vFn, vCon, vNil, vCons, vN, vR, vTup, vLst, vIf, vAndT, vOrT, vNotT, vCallN, vMethN, vPropN, vMakeN, vLock, vLcL, vSl, vIndex, vXn, vXis, vSortSet, vListRev, vLRg, vTRg, vFldN, r1, r2, oNone, oSomeN, nLst, nList, iSeq, iRng, iEnumD, gN, gTn, gAll, setNones, fIsT, fIsC, fFldN, fAdd, fSub, fMulN, fMod, fNeg, fLt, fLe, fGt, fGe, fIs, fIsNot, fLen, fTuple, fInt, fIx2, fSl, seqI, isT, isC, D.tru, D.isNon, caught, bye, noXn_cons, noXn_nil, nx1_n, nx1_d, nx1_l, List.map_cons, List.map_nil, List.length_cons, List.length_nil, List.replicate, List.nil_append, List.cons_append, List.append_nil, List.append_assoc, List.set_cons_zero, List.set_cons_succ, List.getElem?_cons_zero, List.getElem?_cons_succ, List.lookup, Nat.reduceAdd, Nat.reduceSub, Nat.reduceEqDiff, Bool.false_eq_true, if_true, if_false, Bool.not_false, Bool.not_true, reduceIte, ite_true, ite_false, true_and, and_true, String.reduceBEq, Bool.or_false, Bool.false_or, Bool.or_true, Bool.true_or, Bool.and_true, Bool.true_and, Bool.and_false, Bool.false_and]
    refine ⟨Nat.zero_le _, made_good (xs := []) (.inl rfl) ⟨trivial, by decide⟩ (by decide) (by decide) ?_⟩
    refine ⟨Nat.zero_le _, by rw [sizeLine_eq]; decide, ?_⟩
    exact exact_refl 4 _ (pl_made (xs := []) (by decide)) rfl
end Rd
end
section
set_option Elab.async false
set_option linter.all false
set_option autoImplicit false
set_option maxRecDepth 100000
set_option maxHeartbeats 4000000
namespace Rd
open PySem PySem.Spec L2 Mw Rd0
open PyProof.Rows (envOfC)
section
variable {P : Program} {w : World} {K : PySem.W.Frag} {mg : Str → Option Value} {base : Heap} {cs : Cs}
theorem sc_law : FnScope ["_law_script", "_law_hand_here", "_law_turn", "_law_named_here", "_law_modulus", "_law_handed", "_law_kept", "_law_sorts", "_law_greatest"] ["_law_script"] (defScope (topS 32)) := ⟨rfl, rfl, rfl, by decide +kernel, rfl, by decide +kernel, by decide +kernel⟩
theorem law_fng {f fH : Addr} {fd fdH : FuncData} (F : FnD K "law" "law" (topS 32) [] f fd) (FH : FnD K "_law_hand" "_law_hand" (topS 15) [] fH fdH) (gH : mg "_law_hand" = some (.ref fH)) (mi : mg "int" = none) (ma : mg "abs" = none) (me : mg "enumerate" = none) (C_u_law_exact : Cal P w K mg base wordH cs "_law_exact" 5 2 (cl_u_law_exact 4) []) (C_u_law_made : Cal P w K mg base wordH cs "_law_made" 5 2 cl_u_law_made []) (m_range : mg "range" = none) (m_tuple : mg "tuple" = none) (m_repr : mg "repr" = none) (F_modulus_Sorts : Fld K cs [0] "modulus") (F_named_Sorts : Fld K cs [0] "named") (C_u_law_values_sorted : Cal P w K mg base wordH cs "_law_values_sorted" 6 4 cl_u_law_values_sorted []) (C_u_law_numbered : Cal P w K mg base wordH cs "_law_numbered" 6 4 cl_u_law_numbered []) (C_u_law_equal : Cal P w K mg base wordH cs "_law_equal" 5 4 cl_u_law_equal []) (C_u_law_refused : Cal P w K mg base wordH cs "_law_refused" 6 3 cl_u_law_refused []) (M_Sorts : Mak P w K mg base wordH cs 0 "Sorts" 3 2 cl_Sorts___init__) (m_len : mg "len" = none) (C_u_law_take : Cal P w K mg base wordH cs "_law_take" 3 2 cl_u_law_take []) (C_u_law_draw : Cal P w K mg base wordH cs "_law_draw" 2 2 clDraw []) (C_u_law_named : Cal P w K mg base wordH cs "_law_named" 4 3 cl_u_law_named [])
    (plain : sm_law (envL 7) (seD (fun d => d = .bl true) (fun _ => False))) : FnG P w K mg base 7 f fd ["_law_script"] (spLaw K) :=
  law_mk (k := 6) (cs := cs) (n := 7) (N := ["_law_script", "_law_hand_here", "_law_turn", "_law_named_here", "_law_modulus", "_law_handed", "_law_kept", "_law_sorts", "_law_greatest"]) (s := sm_law) F sc_law rfl rfl (fun A outer sh H H1 E cdv hr => ps_set (i := 1) sc_law.nd rfl (.inl rfl) (pe_call (ok_hand (cs := cs) FH mi ma me) (hr.mono (by decide)) (by rfl) gH FH.kp (bndN FH fun _ _ _ _ _ _ us hl => match us, hl with | [_], _ => rfl) .nil pass0 (pa_cons (pv 0) pa_nil)))
    (fun ix A outer sh H H1 E cdv hgd hr tk po => have hu65 := units65 hr; have hu70 := units70 hr; (oks_cons (xfor po rfl (xrng m_range xi) (xgn 2 sc_law.nd) (oks_cons (xset 3 sc_law.nd (ycall C_u_law_named 0 (by decide) tk hgd (hr.mono (by decide : 4 ≤ _)) (ac (xn 1) (ac xi (ac (xlst an) an))))) (oks_cons (xset 4 sc_law.nd (xadd (rd xi) (rd (ycall C_u_law_draw 0 (by decide) tk hgd (hr.mono (by decide : 2 ≤ _)) (ac (xn 1) (ac xi an)))))) (oks_cons (xset 5 sc_law.nd (ycall C_u_law_take 0 (by decide) tk hgd (hr.mono (by decide : 3 ≤ _)) (ac (xn 1) (ac (xn 3) an)))) (oks_cons (xset 6 sc_law.nd (xrepr m_repr hgd hu70 (xr 5))) (oks_cons (xifS (tnot (xt rfl (rd (ycall C_u_law_exact 0 (by decide) tk hgd (hr.mono (by decide : 5 ≤ _)) (ac (ycall C_u_law_made 0 (by decide) tk hgd (hr.mono (by decide : 5 ≤ _)) (ac (xn 5) (ac (xn 4) an))) (ac (xtup (ac xs (ac (xtuple m_tuple (xr 3)) (ac (xn 4) (ac (xadd (rd (xlen m_len (xr 3))) (xr 4)) an))))) an)))))) (oks_one (xret xb)) oks_nil) (oks_cons (xset 7 sc_law.nd (xmake M_Sorts tk hgd (hr.mono (by decide : 4 ≤ _)) (ac (xn 5) (ac (xn 4) an)))) (oks_cons (xifS (PW.toT (tor (tnot (xt rfl (rd (ycall C_u_law_equal 0 (by decide) tk hgd (hr.mono (by decide : 5 ≤ _)) (ac (xn 1) (ac (xn 7) (ac (xn 3) (ac (xn 4) an)))))))) (tor1 (tnot (xt rfl (rd (ycall C_u_law_refused 0 (by decide) tk hgd (hr.mono (by decide : 6 ≤ _)) (ac (xn 1) (ac (xn 3) (ac (xn 4) an)))))))))) (oks_one (xret xb)) oks_nil) (oks_cons (xifS (PW.toT (tor (tnot (xt rfl (rd (ycall C_u_law_values_sorted 0 (by decide) tk hgd (hr.mono (by decide : 6 ≤ _)) (ac (xn 1) (ac (xn 7) (ac (xn 3) (ac (xn 4) an)))))))) (tor1 (tnot (xt rfl (rd (ycall C_u_law_numbered 0 (by decide) tk hgd (hr.mono (by decide : 6 ≤ _)) (ac (xn 1) (ac (xn 7) (ac (xn 3) (ac (xn 4) an))))))))))) (oks_one (xret xb)) oks_nil) (oks_one (xifS (PW.toT (tor (tNeS (rd (xrepr m_repr hgd hu70 (xr 5))) (xr 6)) (tor1 (tnot (xt rfl (rd (ycall C_u_law_exact 0 (by decide) tk hgd (hr.mono (by decide : 5 ≤ _)) (ac (xtup (ac (xfld F_named_Sorts (xn 7)) (ac (xfld F_modulus_Sorts (xn 7)) an))) (ac (xtup (ac (xtuple m_tuple (xr 3)) (ac (xn 4) an))) an))))))))) (oks_one (xret xb)) oks_nil))))))))))) (oks_cons (xset 8 sc_law.nd (xtRg rfl m_tuple (xr2 m_range xi xi))) (oks_one (xret (xand rfl (ycall C_u_law_exact 0 (by decide) tk hgd (hr.mono (by decide : 5 ≤ _)) (ac (ycall C_u_law_made 0 (by decide) tk hgd (hr.mono (by decide : 5 ≤ _)) (ac (xn 8) (ac xi an))) (ac (xtup (ac xs (ac (xn 8) (ac xi (ac xi an))))) an))) (xone (ycall C_u_law_exact 0 (by decide) tk hgd (hr.mono (by decide : 5 ≤ _)) (ac (ycall C_u_law_made 0 (by decide) tk hgd (hr.mono (by decide : 5 ≤ _)) (ac (xlst an) (ac xi an))) (ac (xtup (ac xs (ac (xtup an) (ac xi (ac xi an))))) an)))))))))) plain
theorem sc_BadSorts : FnScope ["self", "what"] ["self", "what"] (defScope (inClass (topS 2) 0)) := ⟨rfl, rfl, rfl, by decide +kernel, rfl, by decide +kernel, by decide +kernel⟩
theorem err_BadSorts {f : Addr} {fd : FuncData} (F : FnD K "__init__" "BadSorts.__init__" (inClass (topS 2) 0) [] f fd) (T : OexC K (cs 110)) (ei : PySem.W.findIn K (.ref (cs 110)) "__init__" = some (some (.ref f))) (et : PySem.W.typeIn K (.ref f) = some (.type "function")) (g : mg "BadSorts" = some (.ref (cs 110))) (ke : cs.ke 110) (n0 : PySem.W.findIn K (.ref (cs 110)) "what" = some none) : Err P w K mg base cs 110 "BadSorts" 1 ["what"] :=
  ⟨f, fd, ["self", "what"], F.ok sc_BadSorts (fun vs H Q E h => sp_len vs H Q E h) (fun cdv A outer s H vs Q E hr h => ⟨_, PSs.nox (pss_one (ps_ost (pv 0) (pv 1))), rd_err1 T n0 h⟩), T, ei, et, g, bndN F fun _ _ _ _ _ _ us hl => match us, hl with | [_, _], _ => rfl, ke⟩
theorem sc_BadValue : FnScope ["self", "value"] ["self", "value"] (defScope (inClass (topS 3) 0)) := ⟨rfl, rfl, rfl, by decide +kernel, rfl, by decide +kernel, by decide +kernel⟩
theorem err_BadValue {f : Addr} {fd : FuncData} (F : FnD K "__init__" "BadValue.__init__" (inClass (topS 3) 0) [] f fd) (T : OexC K (cs 111)) (ei : PySem.W.findIn K (.ref (cs 111)) "__init__" = some (some (.ref f))) (et : PySem.W.typeIn K (.ref f) = some (.type "function")) (g : mg "BadValue" = some (.ref (cs 111))) (ke : cs.ke 111) (n0 : PySem.W.findIn K (.ref (cs 111)) "value" = some none) : Err P w K mg base cs 111 "BadValue" 1 ["value"] :=
  ⟨f, fd, ["self", "value"], F.ok sc_BadValue (fun vs H Q E h => sp_len vs H Q E h) (fun cdv A outer s H vs Q E hr h => ⟨_, PSs.nox (pss_one (ps_ost (pv 0) (pv 1))), rd_err1 T n0 h⟩), T, ei, et, g, bndN F fun _ _ _ _ _ _ us hl => match us, hl with | [_, _], _ => rfl, ke⟩
theorem sc_NoSort : FnScope ["self", "number"] ["self", "number"] (defScope (inClass (topS 4) 0)) := ⟨rfl, rfl, rfl, by decide +kernel, rfl, by decide +kernel, by decide +kernel⟩
theorem err_NoSort {f : Addr} {fd : FuncData} (F : FnD K "__init__" "NoSort.__init__" (inClass (topS 4) 0) [] f fd) (T : OexC K (cs 112)) (ei : PySem.W.findIn K (.ref (cs 112)) "__init__" = some (some (.ref f))) (et : PySem.W.typeIn K (.ref f) = some (.type "function")) (g : mg "NoSort" = some (.ref (cs 112))) (ke : cs.ke 112) (n0 : PySem.W.findIn K (.ref (cs 112)) "number" = some none) : Err P w K mg base cs 112 "NoSort" 1 ["number"] :=
  ⟨f, fd, ["self", "number"], F.ok sc_NoSort (fun vs H Q E h => sp_len vs H Q E h) (fun cdv A outer s H vs Q E hr h => ⟨_, PSs.nox (pss_one (ps_ost (pv 0) (pv 1))), rd_err1 T n0 h⟩), T, ei, et, g, bndN F fun _ _ _ _ _ _ us hl => match us, hl with | [_, _], _ => rfl, ke⟩
end
section
variable {P : Program} {w : World} {K : PySem.W.Frag} {mg : Str → Option Value}
def nmOf : Nat → Str := fun c => (([(0, "Sorts"), (100, "DealError"), (110, "BadSorts"), (111, "BadValue"), (112, "NoSort"), (113, "BadTold")] : List (Nat × Str)).lookup c).getD ""
theorem all_mk {C_Sorts C_DealError C_BadSorts C_BadValue C_NoSort C_BadTold f_BadSorts f_BadValue f_NoSort f_is_whole f_is_sequence f_u_ascending_values f_Sorts___init__ f_Sorts___eq__ f_Sorts_many p_Sorts_many f_Sorts_sort_of f_Sorts_kind_of f_Sorts_value_of dT_Sorts_value_of f_u_law_mix f_u_law_hand f_u_law_draw f_u_law_exact f_u_law_take f_u_law_value f_u_law_named f_u_law_sort f_u_law_kind f_u_law_made f_u_law_odd_named f_u_law_refused f_u_law_sort_asked f_u_law_some_value f_u_law_values_sorted f_u_law_due_value f_u_law_numbered f_u_law_equal f_law fa : Addr} {fd_BadSorts fd_BadValue fd_NoSort fd_is_whole fd_is_sequence fd_u_ascending_values fd_Sorts___init__ fd_Sorts___eq__ fd_Sorts_many fd_Sorts_sort_of fd_Sorts_kind_of fd_Sorts_value_of fd_u_law_mix fd_u_law_hand fd_u_law_draw fd_u_law_exact fd_u_law_take fd_u_law_value fd_u_law_named fd_u_law_sort fd_u_law_kind fd_u_law_made fd_u_law_odd_named fd_u_law_refused fd_u_law_sort_asked fd_u_law_some_value fd_u_law_values_sorted fd_u_law_due_value fd_u_law_numbered fd_u_law_equal fd_law : FuncData} (m_ValueError : mg "ValueError" = none) (m_abs : mg "abs" = none) (m_bool : mg "bool" = none) (m_enumerate : mg "enumerate" = none) (m_int : mg "int" = none) (m_isinstance : mg "isinstance" = none) (m_len : mg "len" = none) (m_list : mg "list" = none) (m_range : mg "range" = none) (m_repr : mg "repr" = none) (m_reversed : mg "reversed" = none) (m_set : mg "set" = none) (m_sorted : mg "sorted" = none) (m_str : mg "str" = none) (m_tuple : mg "tuple" = none) (g_HIGHEST : ∃ t, mg "HIGHEST" = some (.int 1000000000 t)) (H_Sorts : CF K mg "Sorts" C_Sorts) (H_DealError : EF K mg "DealError" C_DealError []) (H_BadSorts : EF K mg "BadSorts" C_BadSorts [.ref C_DealError]) (H_BadValue : EF K mg "BadValue" C_BadValue [.ref C_DealError]) (H_NoSort : EF K mg "NoSort" C_NoSort [.ref C_DealError]) (H_BadTold : EF K mg "BadTold" C_BadTold [.ref C_DealError]) (na_Sorts_modulus : NoAttr K C_Sorts "modulus") (na_Sorts_named : NoAttr K C_Sorts "named") (nx_DealError_number : PySem.W.findIn K (.ref C_DealError) "number" = some none) (nx_BadSorts_number : PySem.W.findIn K (.ref C_BadSorts) "number" = some none) (nx_BadValue_number : PySem.W.findIn K (.ref C_BadValue) "number" = some none) (nx_NoSort_number : PySem.W.findIn K (.ref C_NoSort) "number" = some none) (nx_BadTold_number : PySem.W.findIn K (.ref C_BadTold) "number" = some none) (nx_DealError_value : PySem.W.findIn K (.ref C_DealError) "value" = some none) (nx_BadSorts_value : PySem.W.findIn K (.ref C_BadSorts) "value" = some none) (nx_BadValue_value : PySem.W.findIn K (.ref C_BadValue) "value" = some none) (nx_NoSort_value : PySem.W.findIn K (.ref C_NoSort) "value" = some none) (nx_BadTold_value : PySem.W.findIn K (.ref C_BadTold) "value" = some none) (nx_DealError_what : PySem.W.findIn K (.ref C_DealError) "what" = some none) (nx_BadSorts_what : PySem.W.findIn K (.ref C_BadSorts) "what" = some none) (nx_BadValue_what : PySem.W.findIn K (.ref C_BadValue) "what" = some none) (nx_NoSort_what : PySem.W.findIn K (.ref C_NoSort) "what" = some none) (nx_BadTold_what : PySem.W.findIn K (.ref C_BadTold) "what" = some none) (ox_BadSorts : OexC K C_BadSorts) (ei_BadSorts : PySem.W.findIn K (.ref C_BadSorts) "__init__" = some (some (.ref f_BadSorts))) (et_BadSorts : PySem.W.typeIn K (.ref f_BadSorts) = some (.type "function")) (Ff_BadSorts : FnD K "__init__" "BadSorts.__init__" (inClass (topS 2) 0) [] f_BadSorts fd_BadSorts) (nf_BadSorts_what : PySem.W.findIn K (.ref C_BadSorts) "what" = some none) (ox_BadValue : OexC K C_BadValue) (ei_BadValue : PySem.W.findIn K (.ref C_BadValue) "__init__" = some (some (.ref f_BadValue))) (et_BadValue : PySem.W.typeIn K (.ref f_BadValue) = some (.type "function")) (Ff_BadValue : FnD K "__init__" "BadValue.__init__" (inClass (topS 3) 0) [] f_BadValue fd_BadValue) (nf_BadValue_value : PySem.W.findIn K (.ref C_BadValue) "value" = some none) (ox_NoSort : OexC K C_NoSort) (ei_NoSort : PySem.W.findIn K (.ref C_NoSort) "__init__" = some (some (.ref f_NoSort))) (et_NoSort : PySem.W.typeIn K (.ref f_NoSort) = some (.type "function")) (Ff_NoSort : FnD K "__init__" "NoSort.__init__" (inClass (topS 4) 0) [] f_NoSort fd_NoSort) (nf_NoSort_number : PySem.W.findIn K (.ref C_NoSort) "number" = some none) (g_is_whole : mg "is_whole" = some (.ref f_is_whole)) (Ff_is_whole : FnD K "is_whole" "is_whole" (topS 7) [.non, .non] f_is_whole fd_is_whole) (g_is_sequence : mg "is_sequence" = some (.ref f_is_sequence)) (Ff_is_sequence : FnD K "is_sequence" "is_sequence" (topS 8) [] f_is_sequence fd_is_sequence) (g_u_ascending_values : mg "_ascending_values" = some (.ref f_u_ascending_values)) (Ff_u_ascending_values : FnD K "_ascending_values" "_ascending_values" (topS 11) [] f_u_ascending_values fd_u_ascending_values) (mk_Sorts : Mk K C_Sorts f_Sorts___init__) (Ff_Sorts___init__ : FnD K "__init__" "Sorts.__init__" (inClass (topS 12) 0) [] f_Sorts___init__ fd_Sorts___init__) (fe_Sorts : PySem.W.findIn K (.ref C_Sorts) "__eq__" = some (some (.ref f_Sorts___eq__))) (ie_Sorts : PySem.W.isFn K (.ref f_Sorts___eq__) = true) (Ff_Sorts___eq__ : FnD K "__eq__" "Sorts.__eq__" (inClass (topS 12) 1) [] f_Sorts___eq__ fd_Sorts___eq__) (po_Sorts_many : PropOf K C_Sorts "many" p_Sorts_many f_Sorts_many) (Ff_Sorts_many : FnD K "many" "Sorts.many" (inClass (topS 12) 2) [] f_Sorts_many fd_Sorts_many) (me_Sorts_sort_of : Meth K C_Sorts "sort_of" f_Sorts_sort_of) (Ff_Sorts_sort_of : FnD K "sort_of" "Sorts.sort_of" (inClass (topS 12) 3) [] f_Sorts_sort_of fd_Sorts_sort_of) (me_Sorts_kind_of : Meth K C_Sorts "kind_of" f_Sorts_kind_of) (Ff_Sorts_kind_of : FnD K "kind_of" "Sorts.kind_of" (inClass (topS 12) 4) [] f_Sorts_kind_of fd_Sorts_kind_of) (me_Sorts_value_of : Meth K C_Sorts "value_of" f_Sorts_value_of) (Ff_Sorts_value_of : FnD K "value_of" "Sorts.value_of" (inClass (topS 12) 5) [.ref dT_Sorts_value_of] f_Sorts_value_of fd_Sorts_value_of) (rT_Sorts_value_of : RepK K (.ref dT_Sorts_value_of) (.tup [])) (g_u_law_mix : mg "_law_mix" = some (.ref f_u_law_mix)) (Ff_u_law_mix : FnD K "_law_mix" "_law_mix" (topS 14) [] f_u_law_mix fd_u_law_mix) (g_u_law_hand : mg "_law_hand" = some (.ref f_u_law_hand)) (Ff_u_law_hand : FnD K "_law_hand" "_law_hand" (topS 15) [] f_u_law_hand fd_u_law_hand) (g_u_law_draw : mg "_law_draw" = some (.ref f_u_law_draw)) (Ff_u_law_draw : FnD K "_law_draw" "_law_draw" (topS 16) [] f_u_law_draw fd_u_law_draw) (g_u_law_exact : mg "_law_exact" = some (.ref f_u_law_exact)) (Ff_u_law_exact : FnD K "_law_exact" "_law_exact" (topS 17) [] f_u_law_exact fd_u_law_exact) (g_u_law_take : mg "_law_take" = some (.ref f_u_law_take)) (Ff_u_law_take : FnD K "_law_take" "_law_take" (topS 18) [] f_u_law_take fd_u_law_take) (g_u_law_value : mg "_law_value" = some (.ref f_u_law_value)) (Ff_u_law_value : FnD K "_law_value" "_law_value" (topS 19) [] f_u_law_value fd_u_law_value) (g_u_law_named : mg "_law_named" = some (.ref f_u_law_named)) (Ff_u_law_named : FnD K "_law_named" "_law_named" (topS 20) [] f_u_law_named fd_u_law_named) (g_u_law_sort : mg "_law_sort" = some (.ref f_u_law_sort)) (Ff_u_law_sort : FnD K "_law_sort" "_law_sort" (topS 21) [] f_u_law_sort fd_u_law_sort) (g_u_law_kind : mg "_law_kind" = some (.ref f_u_law_kind)) (Ff_u_law_kind : FnD K "_law_kind" "_law_kind" (topS 22) [] f_u_law_kind fd_u_law_kind) (g_u_law_made : mg "_law_made" = some (.ref f_u_law_made)) (Ff_u_law_made : FnD K "_law_made" "_law_made" (topS 23) [] f_u_law_made fd_u_law_made) (g_u_law_odd_named : mg "_law_odd_named" = some (.ref f_u_law_odd_named)) (Ff_u_law_odd_named : FnD K "_law_odd_named" "_law_odd_named" (topS 24) [] f_u_law_odd_named fd_u_law_odd_named) (g_u_law_refused : mg "_law_refused" = some (.ref f_u_law_refused)) (Ff_u_law_refused : FnD K "_law_refused" "_law_refused" (topS 25) [] f_u_law_refused fd_u_law_refused) (g_u_law_sort_asked : mg "_law_sort_asked" = some (.ref f_u_law_sort_asked)) (Ff_u_law_sort_asked : FnD K "_law_sort_asked" "_law_sort_asked" (topS 26) [] f_u_law_sort_asked fd_u_law_sort_asked) (g_u_law_some_value : mg "_law_some_value" = some (.ref f_u_law_some_value)) (Ff_u_law_some_value : FnD K "_law_some_value" "_law_some_value" (topS 27) [] f_u_law_some_value fd_u_law_some_value) (g_u_law_values_sorted : mg "_law_values_sorted" = some (.ref f_u_law_values_sorted)) (Ff_u_law_values_sorted : FnD K "_law_values_sorted" "_law_values_sorted" (topS 28) [] f_u_law_values_sorted fd_u_law_values_sorted) (g_u_law_due_value : mg "_law_due_value" = some (.ref f_u_law_due_value)) (Ff_u_law_due_value : FnD K "_law_due_value" "_law_due_value" (topS 29) [] f_u_law_due_value fd_u_law_due_value) (g_u_law_numbered : mg "_law_numbered" = some (.ref f_u_law_numbered)) (Ff_u_law_numbered : FnD K "_law_numbered" "_law_numbered" (topS 30) [] f_u_law_numbered fd_u_law_numbered) (g_u_law_equal : mg "_law_equal" = some (.ref f_u_law_equal)) (Ff_u_law_equal : FnD K "_law_equal" "_law_equal" (topS 31) [] f_u_law_equal fd_u_law_equal) (g_law : mg "law" = some (.ref f_law)) (Ff_law : FnD K "law" "law" (topS 32) [] f_law fd_law) (hfa : mg "law" = some (.ref fa)) :
    ∃ fd : FuncData, (∀ (s : Shared) (u : Value), BindsTo s fd { pos := [u] } [("_law_script", u)]) ∧ ∀ base : Heap, K.In base → base.Ns mainGlobals mg → FnG P w K mg base 7 fa fd ["_law_script"] (spLaw K) := by
  have e := g_law.symm.trans hfa
  cases e
  refine ⟨fd_law, fun s u => FunD.bindsA (ps := ["_law_script"]) Ff_law (fun _ _ _ _ _ _ us hl => match us, hl with | [_], _ => rfl) s [u] rfl, fun base _ _ => ?_⟩
  obtain ⟨cs, ecs⟩ : ∃ cs : Cs, cs = csOf [(0, C_Sorts), (100, C_DealError), (110, C_BadSorts), (111, C_BadValue), (112, C_NoSort), (113, C_BadTold)] [0] [100, 110, 111, 112, 113] := ⟨_, rfl⟩
  have a_Sorts : cs 0 = C_Sorts := by rw [ecs]; rfl
  have a_DealError : cs 100 = C_DealError := by rw [ecs]; rfl
  have a_BadSorts : cs 110 = C_BadSorts := by rw [ecs]; rfl
  have a_BadValue : cs 111 = C_BadValue := by rw [ecs]; rfl
  have a_NoSort : cs 112 = C_NoSort := by rw [ecs]; rfl
  have a_BadTold : cs 113 = C_BadTold := by rw [ecs]; rfl
  have U : Uni K cs := uni_mk (nm := nmOf) (ds := [0]) (fun c h => by rw [ecs] at h; exact h) (all_cons (H_Sorts.u a_Sorts rfl) all_nil) (by decide +kernel)
  have EU : ErU K cs := eru_mk (nm := nmOf) (ds := [100, 110, 111, 112, 113]) (fun c h => by rw [ecs] at h; exact h) (by rw [ecs]; exact (by decide : (100 : Nat) ∈ [100, 110, 111, 112, 113])) (all_cons (H_DealError.u a_DealError rfl (by rfl)) (all_cons (H_BadSorts.u a_BadSorts rfl (by rw [← a_DealError]; rfl)) (all_cons (H_BadValue.u a_BadValue rfl (by rw [← a_DealError]; rfl)) (all_cons (H_NoSort.u a_NoSort rfl (by rw [← a_DealError]; rfl)) (all_cons (H_BadTold.u a_BadTold rfl (by rw [← a_DealError]; rfl)) all_nil))))) (by decide +kernel)
  have k_Sorts : cs.kn 0 := by rw [ecs]; exact (by decide : (0 : Nat) ∈ [0])
  have g_Sorts : mg "Sorts" = some (.ref (cs 0)) := by rw [a_Sorts]; exact H_Sorts.g
  have cc_Sorts : Cls K (cs 0) := by rw [a_Sorts]; exact H_Sorts.ty.cl
  have k_DealError : cs.ke 100 := by rw [ecs]; exact (by decide : (100 : Nat) ∈ [100, 110, 111, 112, 113])
  have g_DealError : mg "DealError" = some (.ref (cs 100)) := by rw [a_DealError]; exact H_DealError.g
  have k_BadSorts : cs.ke 110 := by rw [ecs]; exact (by decide : (110 : Nat) ∈ [100, 110, 111, 112, 113])
  have g_BadSorts : mg "BadSorts" = some (.ref (cs 110)) := by rw [a_BadSorts]; exact H_BadSorts.g
  have k_BadValue : cs.ke 111 := by rw [ecs]; exact (by decide : (111 : Nat) ∈ [100, 110, 111, 112, 113])
  have g_BadValue : mg "BadValue" = some (.ref (cs 111)) := by rw [a_BadValue]; exact H_BadValue.g
  have k_NoSort : cs.ke 112 := by rw [ecs]; exact (by decide : (112 : Nat) ∈ [100, 110, 111, 112, 113])
  have g_NoSort : mg "NoSort" = some (.ref (cs 112)) := by rw [a_NoSort]; exact H_NoSort.g
  have k_BadTold : cs.ke 113 := by rw [ecs]; exact (by decide : (113 : Nat) ∈ [100, 110, 111, 112, 113])
  have g_BadTold : mg "BadTold" = some (.ref (cs 113)) := by rw [a_BadTold]; exact H_BadTold.g
  have F_modulus_Sorts : Fld K cs [0] "modulus" := ⟨(all_cons ⟨cc_Sorts, by rw [a_Sorts]; exact na_Sorts_modulus⟩ all_nil)⟩
  have F_named_Sorts : Fld K cs [0] "named" := ⟨(all_cons ⟨cc_Sorts, by rw [a_Sorts]; exact na_Sorts_named⟩ all_nil)⟩
  have nx_number : ∀ c, cs.ke c → PySem.W.findIn K (.ref (cs c)) "number" = some none := fun c h => (show ∀ c ∈ [100, 110, 111, 112, 113], PySem.W.findIn K (.ref (cs c)) "number" = some none from (all_cons (p := fun c => PySem.W.findIn K (.ref (cs c)) "number" = some none) (by rw [a_DealError]; exact nx_DealError_number) (all_cons (p := fun c => PySem.W.findIn K (.ref (cs c)) "number" = some none) (by rw [a_BadSorts]; exact nx_BadSorts_number) (all_cons (p := fun c => PySem.W.findIn K (.ref (cs c)) "number" = some none) (by rw [a_BadValue]; exact nx_BadValue_number) (all_cons (p := fun c => PySem.W.findIn K (.ref (cs c)) "number" = some none) (by rw [a_NoSort]; exact nx_NoSort_number) (all_cons (p := fun c => PySem.W.findIn K (.ref (cs c)) "number" = some none) (by rw [a_BadTold]; exact nx_BadTold_number) all_nil)))))) c (by rw [ecs] at h; exact h)
  have nx_value : ∀ c, cs.ke c → PySem.W.findIn K (.ref (cs c)) "value" = some none := fun c h => (show ∀ c ∈ [100, 110, 111, 112, 113], PySem.W.findIn K (.ref (cs c)) "value" = some none from (all_cons (p := fun c => PySem.W.findIn K (.ref (cs c)) "value" = some none) (by rw [a_DealError]; exact nx_DealError_value) (all_cons (p := fun c => PySem.W.findIn K (.ref (cs c)) "value" = some none) (by rw [a_BadSorts]; exact nx_BadSorts_value) (all_cons (p := fun c => PySem.W.findIn K (.ref (cs c)) "value" = some none) (by rw [a_BadValue]; exact nx_BadValue_value) (all_cons (p := fun c => PySem.W.findIn K (.ref (cs c)) "value" = some none) (by rw [a_NoSort]; exact nx_NoSort_value) (all_cons (p := fun c => PySem.W.findIn K (.ref (cs c)) "value" = some none) (by rw [a_BadTold]; exact nx_BadTold_value) all_nil)))))) c (by rw [ecs] at h; exact h)
  have nx_what : ∀ c, cs.ke c → PySem.W.findIn K (.ref (cs c)) "what" = some none := fun c h => (show ∀ c ∈ [100, 110, 111, 112, 113], PySem.W.findIn K (.ref (cs c)) "what" = some none from (all_cons (p := fun c => PySem.W.findIn K (.ref (cs c)) "what" = some none) (by rw [a_DealError]; exact nx_DealError_what) (all_cons (p := fun c => PySem.W.findIn K (.ref (cs c)) "what" = some none) (by rw [a_BadSorts]; exact nx_BadSorts_what) (all_cons (p := fun c => PySem.W.findIn K (.ref (cs c)) "what" = some none) (by rw [a_BadValue]; exact nx_BadValue_what) (all_cons (p := fun c => PySem.W.findIn K (.ref (cs c)) "what" = some none) (by rw [a_NoSort]; exact nx_NoSort_what) (all_cons (p := fun c => PySem.W.findIn K (.ref (cs c)) "what" = some none) (by rw [a_BadTold]; exact nx_BadTold_what) all_nil)))))) c (by rw [ecs] at h; exact h)
  have E_BadSorts := err_BadSorts (P := P) (w := w) (base := base) (cs := cs) Ff_BadSorts (by rw [a_BadSorts]; exact ox_BadSorts) (by rw [a_BadSorts]; exact ei_BadSorts) et_BadSorts g_BadSorts k_BadSorts (by rw [a_BadSorts]; exact nf_BadSorts_what)
  have E_BadValue := err_BadValue (P := P) (w := w) (base := base) (cs := cs) Ff_BadValue (by rw [a_BadValue]; exact ox_BadValue) (by rw [a_BadValue]; exact ei_BadValue) et_BadValue g_BadValue k_BadValue (by rw [a_BadValue]; exact nf_BadValue_value)
  have E_NoSort := err_NoSort (P := P) (w := w) (base := base) (cs := cs) Ff_NoSort (by rw [a_NoSort]; exact ox_NoSort) (by rw [a_NoSort]; exact ei_NoSort) et_NoSort g_NoSort k_NoSort (by rw [a_NoSort]; exact nf_NoSort_number)
  have C_u_law_draw := cal_draw (P := P) (w := w) (base := base) (cs := cs) Ff_u_law_draw g_u_law_draw Ff_u_law_mix g_u_law_mix m_int m_len
  have C_is_whole := cal_is_whole (P := P) (w := w) (base := base) (wd := wordH) (cs := cs) Ff_is_whole g_is_whole U m_isinstance m_bool m_int
  have C_is_sequence := cal_is_sequence (P := P) (w := w) (base := base) (wd := wordH) (cs := cs) Ff_is_sequence g_is_sequence U m_isinstance m_list m_tuple
  have C_u_ascending_values := cal_u_ascending_values (P := P) (w := w) (base := base) (wd := wordH) (cs := cs) Ff_u_ascending_values g_u_ascending_values C_is_whole g_HIGHEST
  have M_Sorts := mak_Sorts (P := P) (w := w) (base := base) (wd := wordH) (cs := cs) Ff_Sorts___init__ (by rw [a_Sorts]; exact mk_Sorts) g_Sorts k_Sorts F_modulus_Sorts F_named_Sorts m_tuple C_is_whole E_BadSorts C_is_sequence m_len C_u_ascending_values
  have O_Sorts := own_Sorts (P := P) (w := w) (base := base) (wd := wordH) (cs := cs) Ff_Sorts___eq__ (by rw [a_Sorts]; exact fe_Sorts) ie_Sorts k_Sorts U g_Sorts k_Sorts m_isinstance F_named_Sorts F_modulus_Sorts
  have P_Sorts_many := prp_Sorts_many (P := P) (w := w) (base := base) (wd := wordH) (cs := cs) Ff_Sorts_many cc_Sorts (by rw [a_Sorts]; exact po_Sorts_many) F_named_Sorts m_len F_modulus_Sorts
  have T_Sorts_sort_of := met_Sorts_sort_of (P := P) (w := w) (base := base) (wd := wordH) (cs := cs) Ff_Sorts_sort_of cc_Sorts (by rw [a_Sorts]; exact me_Sorts_sort_of) F_named_Sorts m_len F_modulus_Sorts m_enumerate C_is_whole g_HIGHEST E_BadValue
  have T_Sorts_kind_of := met_Sorts_kind_of (P := P) (w := w) (base := base) (wd := wordH) (cs := cs) Ff_Sorts_kind_of cc_Sorts (by rw [a_Sorts]; exact me_Sorts_kind_of) T_Sorts_sort_of m_tuple
  have T_Sorts_value_of := met_Sorts_value_of (P := P) (w := w) (base := base) (wd := wordH) (cs := cs) rT_Sorts_value_of Ff_Sorts_value_of cc_Sorts (by rw [a_Sorts]; exact me_Sorts_value_of) F_modulus_Sorts F_named_Sorts m_len C_is_whole P_Sorts_many E_NoSort
  have H_u_law_exact := calH_u_law_exact (P := P) (w := w) (base := base) (wd := wordH) (cs := cs) Ff_u_law_exact g_u_law_exact U m_isinstance m_int m_bool m_str m_tuple m_len
  have C_u_law_exact := cal_u_law_exact (P := P) (w := w) (base := base) (wd := wordH) (cs := cs) Ff_u_law_exact g_u_law_exact U m_isinstance m_int m_bool m_str m_tuple m_len m_range 4
  have C_u_law_take := cal_u_law_take (P := P) (w := w) (base := base) (wd := wordH) (cs := cs) Ff_u_law_take g_u_law_take C_u_law_draw m_list m_tuple
  have C_u_law_value := cal_u_law_value (P := P) (w := w) (base := base) (wd := wordH) (cs := cs) Ff_u_law_value g_u_law_value C_u_law_draw
  have C_u_law_named := cal_u_law_named (P := P) (w := w) (base := base) (wd := wordH) (cs := cs) Ff_u_law_named g_u_law_named m_sorted m_set C_u_law_draw m_range m_len C_u_law_value
  have C_u_law_sort := cal_u_law_sort (P := P) (w := w) (base := base) (wd := wordH) (cs := cs) Ff_u_law_sort g_u_law_sort m_len m_int
  have C_u_law_kind := cal_u_law_kind (P := P) (w := w) (base := base) (wd := wordH) (cs := cs) Ff_u_law_kind g_u_law_kind C_u_law_sort m_tuple
  have C_u_law_made := cal_u_law_made (P := P) (w := w) (base := base) (wd := wordH) (cs := cs) Ff_u_law_made g_u_law_made g_BadSorts k_BadSorts EU P_Sorts_many F_modulus_Sorts F_named_Sorts M_Sorts nx_what
  have C_u_law_odd_named := cal_u_law_odd_named (P := P) (w := w) (base := base) (wd := wordH) (cs := cs) Ff_u_law_odd_named g_u_law_odd_named m_len m_list m_reversed C_u_law_draw m_range
  have C_u_law_refused := cal_u_law_refused (P := P) (w := w) (base := base) (wd := wordH) (cs := cs) Ff_u_law_refused g_u_law_refused g_DealError k_DealError EU M_Sorts g_BadSorts k_BadSorts m_isinstance m_ValueError g_NoSort k_NoSort C_u_law_exact C_u_law_made C_u_law_odd_named C_u_law_draw
  have C_u_law_sort_asked := cal_u_law_sort_asked (P := P) (w := w) (base := base) (wd := wordH) (cs := cs) Ff_u_law_sort_asked g_u_law_sort_asked g_BadValue k_BadValue EU T_Sorts_sort_of nx_value
  have C_u_law_some_value := cal_u_law_some_value (P := P) (w := w) (base := base) (wd := wordH) (cs := cs) Ff_u_law_some_value g_u_law_some_value C_u_law_value C_u_law_draw m_len
  have C_u_law_values_sorted := cal_u_law_values_sorted (P := P) (w := w) (base := base) (wd := wordH) (cs := cs) Ff_u_law_values_sorted g_u_law_values_sorted C_u_law_draw C_u_law_exact C_u_law_sort_asked m_range C_u_law_kind T_Sorts_kind_of m_tuple C_u_law_sort T_Sorts_sort_of C_u_law_some_value
  have C_u_law_due_value := cal_u_law_due_value (P := P) (w := w) (base := base) (wd := wordH) (cs := cs) Ff_u_law_due_value g_u_law_due_value m_range m_len
  have C_u_law_numbered := cal_u_law_numbered (P := P) (w := w) (base := base) (wd := wordH) (cs := cs) Ff_u_law_numbered g_u_law_numbered m_len C_u_law_draw g_NoSort k_NoSort EU T_Sorts_value_of H_u_law_exact nx_number g_BadTold k_BadTold m_isinstance g_BadSorts k_BadSorts m_range C_u_law_exact C_u_law_due_value T_Sorts_sort_of C_u_law_take C_u_law_some_value
  have hown : ∀ c cl, ownE c = some cl → OwnE P w K mg base wordH cs c 1 cl := by
    intro c cl h
    unfold ownE at h
    split at h <;> cases h
    · exact own_lift (by decide) O_Sorts
  have C_u_law_equal := cal_u_law_equal (P := P) (w := w) (base := base) (wd := wordH) (cs := cs) Ff_u_law_equal g_u_law_equal m_tuple U hown M_Sorts C_u_law_value m_list
  exact law_fng (cs := cs) Ff_law Ff_u_law_hand g_u_law_hand m_int m_abs m_enumerate C_u_law_exact C_u_law_made m_range m_tuple m_repr F_modulus_Sorts F_named_Sorts C_u_law_values_sorted C_u_law_numbered C_u_law_equal C_u_law_refused M_Sorts m_len C_u_law_take C_u_law_draw C_u_law_named plain_law
end
end Rd
end
section
set_option Elab.async false
open PySem PySem.W PyProof.Rows
set_option maxRecDepth 100000 in
set_option maxHeartbeats 0 in
theorem PySem.Challenge.cw_meetwhere_k08_sorts_made_and_values_numb_holds : PySem.Challenge.rw_meetwhere_k08_sorts_made_and_values_numb.Holds := by
  w_on; o_law; k_head; (case hw => w_witness2)
  k_fill
  refine Rd0.lawWalk (l := PySem.Challenge.rw_meetwhere_k08_sorts_made_and_values_numb) 7 ⟨rfl, by decide, by decide⟩ rfl rfl (fun w h Y => PySem.W.kIn_of Y) ?F
  case F =>
    intro w mg fa h KX G hmg
    refine' Rd0.two_cont KX ?sb ?sc ?_
    (case sb => k_is); (case sc => k_is)
    intro sb sc
    refine' Rd0.non_cont (x := "ValueError") KX G ?a_m_ValueError ?_
    (case a_m_ValueError => k_is)
    intro m_ValueError
    refine' Rd0.non_cont (x := "abs") KX G ?a_m_abs ?_
    (case a_m_abs => k_is)
    intro m_abs
    refine' Rd0.non_cont (x := "bool") KX G ?a_m_bool ?_
    (case a_m_bool => k_is)
    intro m_bool
    refine' Rd0.non_cont (x := "enumerate") KX G ?a_m_enumerate ?_
    (case a_m_enumerate => k_is)
    intro m_enumerate
    refine' Rd0.non_cont (x := "int") KX G ?a_m_int ?_
    (case a_m_int => k_is)
    intro m_int
    refine' Rd0.non_cont (x := "isinstance") KX G ?a_m_isinstance ?_
    (case a_m_isinstance => k_is)
    intro m_isinstance
    refine' Rd0.non_cont (x := "len") KX G ?a_m_len ?_
    (case a_m_len => k_is)
    intro m_len
    refine' Rd0.non_cont (x := "list") KX G ?a_m_list ?_
    (case a_m_list => k_is)
    intro m_list
    refine' Rd0.non_cont (x := "range") KX G ?a_m_range ?_
    (case a_m_range => k_is)
    intro m_range
    refine' Rd0.non_cont (x := "repr") KX G ?a_m_repr ?_
    (case a_m_repr => k_is)
    intro m_repr
    refine' Rd0.non_cont (x := "reversed") KX G ?a_m_reversed ?_
    (case a_m_reversed => k_is)
    intro m_reversed
    refine' Rd0.non_cont (x := "set") KX G ?a_m_set ?_
    (case a_m_set => k_is)
    intro m_set
    refine' Rd0.non_cont (x := "sorted") KX G ?a_m_sorted ?_
    (case a_m_sorted => k_is)
    intro m_sorted
    refine' Rd0.non_cont (x := "str") KX G ?a_m_str ?_
    (case a_m_str => k_is)
    intro m_str
    refine' Rd0.non_cont (x := "tuple") KX G ?a_m_tuple ?_
    (case a_m_tuple => k_is)
    intro m_tuple
    refine' Rd0.val_cont (x := "HIGHEST") KX G ?a_g_HIGHEST ?_
    (case a_g_HIGHEST => k_is)
    intro g_HIGHEST
    refine' Rd0.cls_cont (n := "Sorts") KX G sb sc ?aCH_Sorts ?kCH_Sorts ?pgH_Sorts ?hdH_Sorts ?poH_Sorts ?saH_Sorts ?fcH_Sorts ?_
    (case aCH_Sorts => k_is)
    (case kCH_Sorts => k_is)
    (case pgH_Sorts => k_is)
    (case hdH_Sorts => k_is)
    (case poH_Sorts => k_is)
    (case saH_Sorts => k_is)
    (case fcH_Sorts => k_is)
    intro H_Sorts
    refine' Rd0.err_cont (n := "DealError") (rest := []) KX G sb sc ?aCH_DealError ?kCH_DealError ?ebH_DealError ?hdH_DealError ?hgH_DealError ?hkH_DealError ?hsH_DealError ?fcH_DealError ?_
    (case aCH_DealError => k_is)
    (case kCH_DealError => k_is)
    (case ebH_DealError => rfl)
    (case hdH_DealError => k_is)
    (case hgH_DealError => k_is)
    (case hkH_DealError => k_is)
    (case hsH_DealError => k_is)
    (case fcH_DealError => k_is)
    intro H_DealError
    refine' Rd0.err_cont (n := "BadSorts") (rest := [.ref _]) KX G sb sc ?aCH_BadSorts ?kCH_BadSorts ?ebH_BadSorts ?hdH_BadSorts ?hgH_BadSorts ?hkH_BadSorts ?hsH_BadSorts ?fcH_BadSorts ?_
    (case aCH_BadSorts => k_is)
    (case kCH_BadSorts => k_is)
    (case ebH_BadSorts => rfl)
    (case hdH_BadSorts => k_is)
    (case hgH_BadSorts => k_is)
    (case hkH_BadSorts => k_is)
    (case hsH_BadSorts => k_is)
    (case fcH_BadSorts => k_is)
    intro H_BadSorts
    refine' Rd0.err_cont (n := "BadValue") (rest := [.ref _]) KX G sb sc ?aCH_BadValue ?kCH_BadValue ?ebH_BadValue ?hdH_BadValue ?hgH_BadValue ?hkH_BadValue ?hsH_BadValue ?fcH_BadValue ?_
    (case aCH_BadValue => k_is)
    (case kCH_BadValue => k_is)
    (case ebH_BadValue => rfl)
    (case hdH_BadValue => k_is)
    (case hgH_BadValue => k_is)
    (case hkH_BadValue => k_is)
    (case hsH_BadValue => k_is)
    (case fcH_BadValue => k_is)
    intro H_BadValue
    refine' Rd0.err_cont (n := "NoSort") (rest := [.ref _]) KX G sb sc ?aCH_NoSort ?kCH_NoSort ?ebH_NoSort ?hdH_NoSort ?hgH_NoSort ?hkH_NoSort ?hsH_NoSort ?fcH_NoSort ?_
    (case aCH_NoSort => k_is)
    (case kCH_NoSort => k_is)
    (case ebH_NoSort => rfl)
    (case hdH_NoSort => k_is)
    (case hgH_NoSort => k_is)
    (case hkH_NoSort => k_is)
    (case hsH_NoSort => k_is)
    (case fcH_NoSort => k_is)
    intro H_NoSort
    refine' Rd0.err_cont (n := "BadTold") (rest := [.ref _]) KX G sb sc ?aCH_BadTold ?kCH_BadTold ?ebH_BadTold ?hdH_BadTold ?hgH_BadTold ?hkH_BadTold ?hsH_BadTold ?fcH_BadTold ?_
    (case aCH_BadTold => k_is)
    (case kCH_BadTold => k_is)
    (case ebH_BadTold => rfl)
    (case hdH_BadTold => k_is)
    (case hgH_BadTold => k_is)
    (case hkH_BadTold => k_is)
    (case hsH_BadTold => k_is)
    (case fcH_BadTold => k_is)
    intro H_BadTold
    refine' Rd0.na_cont (m := "modulus") KX (Rd0.lk_cf H_Sorts) ?a_na_Sorts_modulus ?_
    (case a_na_Sorts_modulus => k_is)
    intro na_Sorts_modulus
    refine' Rd0.na_cont (m := "named") KX (Rd0.lk_cf H_Sorts) ?a_na_Sorts_named ?_
    (case a_na_Sorts_named => k_is)
    intro na_Sorts_named
    refine' Rd0.nof_cont (m := "number") KX (Rd0.lk_ef H_DealError) ?a_nx_DealError_number ?_
    (case a_nx_DealError_number => k_is)
    intro nx_DealError_number
    refine' Rd0.nof_cont (m := "number") KX (Rd0.lk_ef H_BadSorts) ?a_nx_BadSorts_number ?_
    (case a_nx_BadSorts_number => k_is)
    intro nx_BadSorts_number
    refine' Rd0.nof_cont (m := "number") KX (Rd0.lk_ef H_BadValue) ?a_nx_BadValue_number ?_
    (case a_nx_BadValue_number => k_is)
    intro nx_BadValue_number
    refine' Rd0.nof_cont (m := "number") KX (Rd0.lk_ef H_NoSort) ?a_nx_NoSort_number ?_
    (case a_nx_NoSort_number => k_is)
    intro nx_NoSort_number
    refine' Rd0.nof_cont (m := "number") KX (Rd0.lk_ef H_BadTold) ?a_nx_BadTold_number ?_
    (case a_nx_BadTold_number => k_is)
    intro nx_BadTold_number
    refine' Rd0.nof_cont (m := "value") KX (Rd0.lk_ef H_DealError) ?a_nx_DealError_value ?_
    (case a_nx_DealError_value => k_is)
    intro nx_DealError_value
    refine' Rd0.nof_cont (m := "value") KX (Rd0.lk_ef H_BadSorts) ?a_nx_BadSorts_value ?_
    (case a_nx_BadSorts_value => k_is)
    intro nx_BadSorts_value
    refine' Rd0.nof_cont (m := "value") KX (Rd0.lk_ef H_BadValue) ?a_nx_BadValue_value ?_
    (case a_nx_BadValue_value => k_is)
    intro nx_BadValue_value
    refine' Rd0.nof_cont (m := "value") KX (Rd0.lk_ef H_NoSort) ?a_nx_NoSort_value ?_
    (case a_nx_NoSort_value => k_is)
    intro nx_NoSort_value
    refine' Rd0.nof_cont (m := "value") KX (Rd0.lk_ef H_BadTold) ?a_nx_BadTold_value ?_
    (case a_nx_BadTold_value => k_is)
    intro nx_BadTold_value
    refine' Rd0.nof_cont (m := "what") KX (Rd0.lk_ef H_DealError) ?a_nx_DealError_what ?_
    (case a_nx_DealError_what => k_is)
    intro nx_DealError_what
    refine' Rd0.nof_cont (m := "what") KX (Rd0.lk_ef H_BadSorts) ?a_nx_BadSorts_what ?_
    (case a_nx_BadSorts_what => k_is)
    intro nx_BadSorts_what
    refine' Rd0.nof_cont (m := "what") KX (Rd0.lk_ef H_BadValue) ?a_nx_BadValue_what ?_
    (case a_nx_BadValue_what => k_is)
    intro nx_BadValue_what
    refine' Rd0.nof_cont (m := "what") KX (Rd0.lk_ef H_NoSort) ?a_nx_NoSort_what ?_
    (case a_nx_NoSort_what => k_is)
    intro nx_NoSort_what
    refine' Rd0.nof_cont (m := "what") KX (Rd0.lk_ef H_BadTold) ?a_nx_BadTold_what ?_
    (case a_nx_BadTold_what => k_is)
    intro nx_BadTold_what
    refine' Rd0.oex_cont KX (Rd0.lk_ef H_BadSorts) ?kCox_BadSorts ?vbox_BadSorts ?saox_BadSorts ?exCox_BadSorts ?tyCox_BadSorts ?kpox_BadSorts ?_
    (case kCox_BadSorts => k_is)
    (case vbox_BadSorts => rfl)
    (case saox_BadSorts => k_is)
    (case exCox_BadSorts => k_is)
    (case tyCox_BadSorts => k_is)
    (case kpox_BadSorts => k_is)
    intro ox_BadSorts
    refine' Rd0.fin_cont (m := "__init__") KX (Rd0.lk_ef H_BadSorts) ?a_ei_BadSorts ?_
    (case a_ei_BadSorts => k_is)
    intro ei_BadSorts
    refine' Rd0.tyf_cont KX (Rd0.lk_fin ei_BadSorts) ?a_et_BadSorts ?_
    (case a_et_BadSorts => k_is)
    intro et_BadSorts
    refine' Rd0.fnd_cont (x := "__init__") (qual := "BadSorts.__init__") (st := (L2.inClass (Rd.topS 2) 0)) KX (Rd0.lk_fin ei_BadSorts) ?lFf_BadSorts ?cFf_BadSorts ?pFf_BadSorts ?_
    (case lFf_BadSorts => k_is)
    (case cFf_BadSorts => k_is)
    (case pFf_BadSorts => k_is)
    intro Ff_BadSorts
    refine' Rd0.nof_cont (m := "what") KX (Rd0.lk_ef H_BadSorts) ?a_nf_BadSorts_what ?_
    (case a_nf_BadSorts_what => k_is)
    intro nf_BadSorts_what
    refine' Rd0.oex_cont KX (Rd0.lk_ef H_BadValue) ?kCox_BadValue ?vbox_BadValue ?saox_BadValue ?exCox_BadValue ?tyCox_BadValue ?kpox_BadValue ?_
    (case kCox_BadValue => k_is)
    (case vbox_BadValue => rfl)
    (case saox_BadValue => k_is)
    (case exCox_BadValue => k_is)
    (case tyCox_BadValue => k_is)
    (case kpox_BadValue => k_is)
    intro ox_BadValue
    refine' Rd0.fin_cont (m := "__init__") KX (Rd0.lk_ef H_BadValue) ?a_ei_BadValue ?_
    (case a_ei_BadValue => k_is)
    intro ei_BadValue
    refine' Rd0.tyf_cont KX (Rd0.lk_fin ei_BadValue) ?a_et_BadValue ?_
    (case a_et_BadValue => k_is)
    intro et_BadValue
    refine' Rd0.fnd_cont (x := "__init__") (qual := "BadValue.__init__") (st := (L2.inClass (Rd.topS 3) 0)) KX (Rd0.lk_fin ei_BadValue) ?lFf_BadValue ?cFf_BadValue ?pFf_BadValue ?_
    (case lFf_BadValue => k_is)
    (case cFf_BadValue => k_is)
    (case pFf_BadValue => k_is)
    intro Ff_BadValue
    refine' Rd0.nof_cont (m := "value") KX (Rd0.lk_ef H_BadValue) ?a_nf_BadValue_value ?_
    (case a_nf_BadValue_value => k_is)
    intro nf_BadValue_value
    refine' Rd0.oex_cont KX (Rd0.lk_ef H_NoSort) ?kCox_NoSort ?vbox_NoSort ?saox_NoSort ?exCox_NoSort ?tyCox_NoSort ?kpox_NoSort ?_
    (case kCox_NoSort => k_is)
    (case vbox_NoSort => rfl)
    (case saox_NoSort => k_is)
    (case exCox_NoSort => k_is)
    (case tyCox_NoSort => k_is)
    (case kpox_NoSort => k_is)
    intro ox_NoSort
    refine' Rd0.fin_cont (m := "__init__") KX (Rd0.lk_ef H_NoSort) ?a_ei_NoSort ?_
    (case a_ei_NoSort => k_is)
    intro ei_NoSort
    refine' Rd0.tyf_cont KX (Rd0.lk_fin ei_NoSort) ?a_et_NoSort ?_
    (case a_et_NoSort => k_is)
    intro et_NoSort
    refine' Rd0.fnd_cont (x := "__init__") (qual := "NoSort.__init__") (st := (L2.inClass (Rd.topS 4) 0)) KX (Rd0.lk_fin ei_NoSort) ?lFf_NoSort ?cFf_NoSort ?pFf_NoSort ?_
    (case lFf_NoSort => k_is)
    (case cFf_NoSort => k_is)
    (case pFf_NoSort => k_is)
    intro Ff_NoSort
    refine' Rd0.nof_cont (m := "number") KX (Rd0.lk_ef H_NoSort) ?a_nf_NoSort_number ?_
    (case a_nf_NoSort_number => k_is)
    intro nf_NoSort_number
    refine' Rd0.glo_cont (x := "is_whole") KX G ?a_g_is_whole ?_
    (case a_g_is_whole => k_is)
    intro g_is_whole
    refine' Rd0.fndd_cont (x := "is_whole") (qual := "is_whole") (st := (Rd.topS 7)) (dvs := [.non, .non]) KX (Rd0.lk_glo g_is_whole) ?lFf_is_whole ?cFf_is_whole ?pFf_is_whole ?lTFf_is_whole ?oTFf_is_whole ?hdFf_is_whole ?vFf_is_whole ?_
    (case lFf_is_whole => k_is)
    (case cFf_is_whole => k_is)
    (case pFf_is_whole => k_is)
    (case lTFf_is_whole => k_is)
    (case oTFf_is_whole => rfl)
    (case hdFf_is_whole => exact List.cons_ne_nil _ _)
    (case vFf_is_whole => exact (.cons rfl (.cons rfl .nil)))
    intro Ff_is_whole
    refine' Rd0.glo_cont (x := "is_sequence") KX G ?a_g_is_sequence ?_
    (case a_g_is_sequence => k_is)
    intro g_is_sequence
    refine' Rd0.fnd_cont (x := "is_sequence") (qual := "is_sequence") (st := (Rd.topS 8)) KX (Rd0.lk_glo g_is_sequence) ?lFf_is_sequence ?cFf_is_sequence ?pFf_is_sequence ?_
    (case lFf_is_sequence => k_is)
    (case cFf_is_sequence => k_is)
    (case pFf_is_sequence => k_is)
    intro Ff_is_sequence
    refine' Rd0.glo_cont (x := "_ascending_values") KX G ?a_g_u_ascending_values ?_
    (case a_g_u_ascending_values => k_is)
    intro g_u_ascending_values
    refine' Rd0.fnd_cont (x := "_ascending_values") (qual := "_ascending_values") (st := (Rd.topS 11)) KX (Rd0.lk_glo g_u_ascending_values) ?lFf_u_ascending_values ?cFf_u_ascending_values ?pFf_u_ascending_values ?_
    (case lFf_u_ascending_values => k_is)
    (case cFf_u_ascending_values => k_is)
    (case pFf_u_ascending_values => k_is)
    intro Ff_u_ascending_values
    refine' Rd0.mk_cont KX (Rd0.lk_cf H_Sorts) ?amk_Sorts ?bmk_Sorts ?cmk_Sorts ?dmk_Sorts ?_
    (case amk_Sorts => k_is)
    (case bmk_Sorts => k_is)
    (case cmk_Sorts => k_is)
    (case dmk_Sorts => k_is)
    intro mk_Sorts
    refine' Rd0.fnd_cont (x := "__init__") (qual := "Sorts.__init__") (st := (L2.inClass (Rd.topS 12) 0)) KX (Rd0.lk_mk mk_Sorts) ?lFf_Sorts___init__ ?cFf_Sorts___init__ ?pFf_Sorts___init__ ?_
    (case lFf_Sorts___init__ => k_is)
    (case cFf_Sorts___init__ => k_is)
    (case pFf_Sorts___init__ => k_is)
    intro Ff_Sorts___init__
    refine' Rd0.fin_cont (m := "__eq__") KX (Rd0.lk_cf H_Sorts) ?a_fe_Sorts ?_
    (case a_fe_Sorts => k_is)
    intro fe_Sorts
    refine' Rd0.isf_cont KX (Rd0.lk_fin fe_Sorts) ?a_ie_Sorts ?_
    (case a_ie_Sorts => k_is)
    intro ie_Sorts
    refine' Rd0.fnd_cont (x := "__eq__") (qual := "Sorts.__eq__") (st := (L2.inClass (Rd.topS 12) 1)) KX (Rd0.lk_fin fe_Sorts) ?lFf_Sorts___eq__ ?cFf_Sorts___eq__ ?pFf_Sorts___eq__ ?_
    (case lFf_Sorts___eq__ => k_is)
    (case cFf_Sorts___eq__ => k_is)
    (case pFf_Sorts___eq__ => k_is)
    intro Ff_Sorts___eq__
    refine' Rd0.prop_cont (m := "many") KX (Rd0.lk_cf H_Sorts) ?apo_Sorts_many ?bpo_Sorts_many ?cpo_Sorts_many ?dpo_Sorts_many ?_
    (case apo_Sorts_many => k_is)
    (case bpo_Sorts_many => k_is)
    (case cpo_Sorts_many => k_is)
    (case dpo_Sorts_many => k_is)
    intro po_Sorts_many
    refine' Rd0.fnd_cont (x := "many") (qual := "Sorts.many") (st := (L2.inClass (Rd.topS 12) 2)) KX (Rd0.lk_po po_Sorts_many) ?lFf_Sorts_many ?cFf_Sorts_many ?pFf_Sorts_many ?_
    (case lFf_Sorts_many => k_is)
    (case cFf_Sorts_many => k_is)
    (case pFf_Sorts_many => k_is)
    intro Ff_Sorts_many
    refine' Rd0.meth_cont (m := "sort_of") KX (Rd0.lk_cf H_Sorts) ?ame_Sorts_sort_of ?bme_Sorts_sort_of ?cme_Sorts_sort_of ?_
    (case ame_Sorts_sort_of => k_is)
    (case bme_Sorts_sort_of => k_is)
    (case cme_Sorts_sort_of => k_is)
    intro me_Sorts_sort_of
    refine' Rd0.fnd_cont (x := "sort_of") (qual := "Sorts.sort_of") (st := (L2.inClass (Rd.topS 12) 3)) KX (Rd0.lk_me me_Sorts_sort_of) ?lFf_Sorts_sort_of ?cFf_Sorts_sort_of ?pFf_Sorts_sort_of ?_
    (case lFf_Sorts_sort_of => k_is)
    (case cFf_Sorts_sort_of => k_is)
    (case pFf_Sorts_sort_of => k_is)
    intro Ff_Sorts_sort_of
    refine' Rd0.meth_cont (m := "kind_of") KX (Rd0.lk_cf H_Sorts) ?ame_Sorts_kind_of ?bme_Sorts_kind_of ?cme_Sorts_kind_of ?_
    (case ame_Sorts_kind_of => k_is)
    (case bme_Sorts_kind_of => k_is)
    (case cme_Sorts_kind_of => k_is)
    intro me_Sorts_kind_of
    refine' Rd0.fnd_cont (x := "kind_of") (qual := "Sorts.kind_of") (st := (L2.inClass (Rd.topS 12) 4)) KX (Rd0.lk_me me_Sorts_kind_of) ?lFf_Sorts_kind_of ?cFf_Sorts_kind_of ?pFf_Sorts_kind_of ?_
    (case lFf_Sorts_kind_of => k_is)
    (case cFf_Sorts_kind_of => k_is)
    (case pFf_Sorts_kind_of => k_is)
    intro Ff_Sorts_kind_of
    refine' Rd0.meth_cont (m := "value_of") KX (Rd0.lk_cf H_Sorts) ?ame_Sorts_value_of ?bme_Sorts_value_of ?cme_Sorts_value_of ?_
    (case ame_Sorts_value_of => k_is)
    (case bme_Sorts_value_of => k_is)
    (case cme_Sorts_value_of => k_is)
    intro me_Sorts_value_of
    refine' Rd0.fndT_cont (x := "value_of") (qual := "Sorts.value_of") (st := (L2.inClass (Rd.topS 12) 5)) KX (Rd0.lk_me me_Sorts_value_of) ?lFf_Sorts_value_of ?cFf_Sorts_value_of ?pFf_Sorts_value_of ?lTFf_Sorts_value_of ?oTFf_Sorts_value_of ?_
    (case lFf_Sorts_value_of => k_is)
    (case cFf_Sorts_value_of => k_is)
    (case pFf_Sorts_value_of => k_is)
    (case lTFf_Sorts_value_of => k_is)
    (case oTFf_Sorts_value_of => rfl)
    intro Ff_Sorts_value_of
    refine' Rd0.rT_cont KX (Rd0.lk_d Ff_Sorts_value_of) ?lrT_Sorts_value_of ?crT_Sorts_value_of ?erT_Sorts_value_of ?zrT_Sorts_value_of ?_
    (case lrT_Sorts_value_of => k_is)
    (case crT_Sorts_value_of => rfl)
    (case erT_Sorts_value_of => rfl)
    (case zrT_Sorts_value_of => rfl)
    intro rT_Sorts_value_of
    refine' Rd0.glo_cont (x := "_law_mix") KX G ?a_g_u_law_mix ?_
    (case a_g_u_law_mix => k_is)
    intro g_u_law_mix
    refine' Rd0.fnd_cont (x := "_law_mix") (qual := "_law_mix") (st := (Rd.topS 14)) KX (Rd0.lk_glo g_u_law_mix) ?lFf_u_law_mix ?cFf_u_law_mix ?pFf_u_law_mix ?_
    (case lFf_u_law_mix => k_is)
    (case cFf_u_law_mix => k_is)
    (case pFf_u_law_mix => k_is)
    intro Ff_u_law_mix
    refine' Rd0.glo_cont (x := "_law_hand") KX G ?a_g_u_law_hand ?_
    (case a_g_u_law_hand => k_is)
    intro g_u_law_hand
    refine' Rd0.fnd_cont (x := "_law_hand") (qual := "_law_hand") (st := (Rd.topS 15)) KX (Rd0.lk_glo g_u_law_hand) ?lFf_u_law_hand ?cFf_u_law_hand ?pFf_u_law_hand ?_
    (case lFf_u_law_hand => k_is)
    (case cFf_u_law_hand => k_is)
    (case pFf_u_law_hand => k_is)
    intro Ff_u_law_hand
    refine' Rd0.glo_cont (x := "_law_draw") KX G ?a_g_u_law_draw ?_
    (case a_g_u_law_draw => k_is)
    intro g_u_law_draw
    refine' Rd0.fnd_cont (x := "_law_draw") (qual := "_law_draw") (st := (Rd.topS 16)) KX (Rd0.lk_glo g_u_law_draw) ?lFf_u_law_draw ?cFf_u_law_draw ?pFf_u_law_draw ?_
    (case lFf_u_law_draw => k_is)
    (case cFf_u_law_draw => k_is)
    (case pFf_u_law_draw => k_is)
    intro Ff_u_law_draw
    refine' Rd0.glo_cont (x := "_law_exact") KX G ?a_g_u_law_exact ?_
    (case a_g_u_law_exact => k_is)
    intro g_u_law_exact
    refine' Rd0.fnd_cont (x := "_law_exact") (qual := "_law_exact") (st := (Rd.topS 17)) KX (Rd0.lk_glo g_u_law_exact) ?lFf_u_law_exact ?cFf_u_law_exact ?pFf_u_law_exact ?_
    (case lFf_u_law_exact => k_is)
    (case cFf_u_law_exact => k_is)
    (case pFf_u_law_exact => k_is)
    intro Ff_u_law_exact
    refine' Rd0.glo_cont (x := "_law_take") KX G ?a_g_u_law_take ?_
    (case a_g_u_law_take => k_is)
    intro g_u_law_take
    refine' Rd0.fnd_cont (x := "_law_take") (qual := "_law_take") (st := (Rd.topS 18)) KX (Rd0.lk_glo g_u_law_take) ?lFf_u_law_take ?cFf_u_law_take ?pFf_u_law_take ?_
    (case lFf_u_law_take => k_is)
    (case cFf_u_law_take => k_is)
    (case pFf_u_law_take => k_is)
    intro Ff_u_law_take
    refine' Rd0.glo_cont (x := "_law_value") KX G ?a_g_u_law_value ?_
    (case a_g_u_law_value => k_is)
    intro g_u_law_value
    refine' Rd0.fnd_cont (x := "_law_value") (qual := "_law_value") (st := (Rd.topS 19)) KX (Rd0.lk_glo g_u_law_value) ?lFf_u_law_value ?cFf_u_law_value ?pFf_u_law_value ?_
    (case lFf_u_law_value => k_is)
    (case cFf_u_law_value => k_is)
    (case pFf_u_law_value => k_is)
    intro Ff_u_law_value
    refine' Rd0.glo_cont (x := "_law_named") KX G ?a_g_u_law_named ?_
    (case a_g_u_law_named => k_is)
    intro g_u_law_named
    refine' Rd0.fnd_cont (x := "_law_named") (qual := "_law_named") (st := (Rd.topS 20)) KX (Rd0.lk_glo g_u_law_named) ?lFf_u_law_named ?cFf_u_law_named ?pFf_u_law_named ?_
    (case lFf_u_law_named => k_is)
    (case cFf_u_law_named => k_is)
    (case pFf_u_law_named => k_is)
    intro Ff_u_law_named
    refine' Rd0.glo_cont (x := "_law_sort") KX G ?a_g_u_law_sort ?_
    (case a_g_u_law_sort => k_is)
    intro g_u_law_sort
    refine' Rd0.fnd_cont (x := "_law_sort") (qual := "_law_sort") (st := (Rd.topS 21)) KX (Rd0.lk_glo g_u_law_sort) ?lFf_u_law_sort ?cFf_u_law_sort ?pFf_u_law_sort ?_
    (case lFf_u_law_sort => k_is)
    (case cFf_u_law_sort => k_is)
    (case pFf_u_law_sort => k_is)
    intro Ff_u_law_sort
    refine' Rd0.glo_cont (x := "_law_kind") KX G ?a_g_u_law_kind ?_
    (case a_g_u_law_kind => k_is)
    intro g_u_law_kind
    refine' Rd0.fnd_cont (x := "_law_kind") (qual := "_law_kind") (st := (Rd.topS 22)) KX (Rd0.lk_glo g_u_law_kind) ?lFf_u_law_kind ?cFf_u_law_kind ?pFf_u_law_kind ?_
    (case lFf_u_law_kind => k_is)
    (case cFf_u_law_kind => k_is)
    (case pFf_u_law_kind => k_is)
    intro Ff_u_law_kind
    refine' Rd0.glo_cont (x := "_law_made") KX G ?a_g_u_law_made ?_
    (case a_g_u_law_made => k_is)
    intro g_u_law_made
    refine' Rd0.fnd_cont (x := "_law_made") (qual := "_law_made") (st := (Rd.topS 23)) KX (Rd0.lk_glo g_u_law_made) ?lFf_u_law_made ?cFf_u_law_made ?pFf_u_law_made ?_
    (case lFf_u_law_made => k_is)
    (case cFf_u_law_made => k_is)
    (case pFf_u_law_made => k_is)
    intro Ff_u_law_made
    refine' Rd0.glo_cont (x := "_law_odd_named") KX G ?a_g_u_law_odd_named ?_
    (case a_g_u_law_odd_named => k_is)
    intro g_u_law_odd_named
    refine' Rd0.fnd_cont (x := "_law_odd_named") (qual := "_law_odd_named") (st := (Rd.topS 24)) KX (Rd0.lk_glo g_u_law_odd_named) ?lFf_u_law_odd_named ?cFf_u_law_odd_named ?pFf_u_law_odd_named ?_
    (case lFf_u_law_odd_named => k_is)
    (case cFf_u_law_odd_named => k_is)
    (case pFf_u_law_odd_named => k_is)
    intro Ff_u_law_odd_named
    refine' Rd0.glo_cont (x := "_law_refused") KX G ?a_g_u_law_refused ?_
    (case a_g_u_law_refused => k_is)
    intro g_u_law_refused
    refine' Rd0.fnd_cont (x := "_law_refused") (qual := "_law_refused") (st := (Rd.topS 25)) KX (Rd0.lk_glo g_u_law_refused) ?lFf_u_law_refused ?cFf_u_law_refused ?pFf_u_law_refused ?_
    (case lFf_u_law_refused => k_is)
    (case cFf_u_law_refused => k_is)
    (case pFf_u_law_refused => k_is)
    intro Ff_u_law_refused
    refine' Rd0.glo_cont (x := "_law_sort_asked") KX G ?a_g_u_law_sort_asked ?_
    (case a_g_u_law_sort_asked => k_is)
    intro g_u_law_sort_asked
    refine' Rd0.fnd_cont (x := "_law_sort_asked") (qual := "_law_sort_asked") (st := (Rd.topS 26)) KX (Rd0.lk_glo g_u_law_sort_asked) ?lFf_u_law_sort_asked ?cFf_u_law_sort_asked ?pFf_u_law_sort_asked ?_
    (case lFf_u_law_sort_asked => k_is)
    (case cFf_u_law_sort_asked => k_is)
    (case pFf_u_law_sort_asked => k_is)
    intro Ff_u_law_sort_asked
    refine' Rd0.glo_cont (x := "_law_some_value") KX G ?a_g_u_law_some_value ?_
    (case a_g_u_law_some_value => k_is)
    intro g_u_law_some_value
    refine' Rd0.fnd_cont (x := "_law_some_value") (qual := "_law_some_value") (st := (Rd.topS 27)) KX (Rd0.lk_glo g_u_law_some_value) ?lFf_u_law_some_value ?cFf_u_law_some_value ?pFf_u_law_some_value ?_
    (case lFf_u_law_some_value => k_is)
    (case cFf_u_law_some_value => k_is)
    (case pFf_u_law_some_value => k_is)
    intro Ff_u_law_some_value
    refine' Rd0.glo_cont (x := "_law_values_sorted") KX G ?a_g_u_law_values_sorted ?_
    (case a_g_u_law_values_sorted => k_is)
    intro g_u_law_values_sorted
    refine' Rd0.fnd_cont (x := "_law_values_sorted") (qual := "_law_values_sorted") (st := (Rd.topS 28)) KX (Rd0.lk_glo g_u_law_values_sorted) ?lFf_u_law_values_sorted ?cFf_u_law_values_sorted ?pFf_u_law_values_sorted ?_
    (case lFf_u_law_values_sorted => k_is)
    (case cFf_u_law_values_sorted => k_is)
    (case pFf_u_law_values_sorted => k_is)
    intro Ff_u_law_values_sorted
    refine' Rd0.glo_cont (x := "_law_due_value") KX G ?a_g_u_law_due_value ?_
    (case a_g_u_law_due_value => k_is)
    intro g_u_law_due_value
    refine' Rd0.fnd_cont (x := "_law_due_value") (qual := "_law_due_value") (st := (Rd.topS 29)) KX (Rd0.lk_glo g_u_law_due_value) ?lFf_u_law_due_value ?cFf_u_law_due_value ?pFf_u_law_due_value ?_
    (case lFf_u_law_due_value => k_is)
    (case cFf_u_law_due_value => k_is)
    (case pFf_u_law_due_value => k_is)
    intro Ff_u_law_due_value
    refine' Rd0.glo_cont (x := "_law_numbered") KX G ?a_g_u_law_numbered ?_
    (case a_g_u_law_numbered => k_is)
    intro g_u_law_numbered
    refine' Rd0.fnd_cont (x := "_law_numbered") (qual := "_law_numbered") (st := (Rd.topS 30)) KX (Rd0.lk_glo g_u_law_numbered) ?lFf_u_law_numbered ?cFf_u_law_numbered ?pFf_u_law_numbered ?_
    (case lFf_u_law_numbered => k_is)
    (case cFf_u_law_numbered => k_is)
    (case pFf_u_law_numbered => k_is)
    intro Ff_u_law_numbered
    refine' Rd0.glo_cont (x := "_law_equal") KX G ?a_g_u_law_equal ?_
    (case a_g_u_law_equal => k_is)
    intro g_u_law_equal
    refine' Rd0.fnd_cont (x := "_law_equal") (qual := "_law_equal") (st := (Rd.topS 31)) KX (Rd0.lk_glo g_u_law_equal) ?lFf_u_law_equal ?cFf_u_law_equal ?pFf_u_law_equal ?_
    (case lFf_u_law_equal => k_is)
    (case cFf_u_law_equal => k_is)
    (case pFf_u_law_equal => k_is)
    intro Ff_u_law_equal
    refine' Rd0.glo_cont (x := "law") KX G ?a_g_law ?_
    (case a_g_law => k_is)
    intro g_law
    refine' Rd0.fnd_cont (x := "law") (qual := "law") (st := (Rd.topS 32)) KX (Rd0.lk_glo g_law) ?lFf_law ?cFf_law ?pFf_law ?_
    (case lFf_law => k_is)
    (case cFf_law => k_is)
    (case pFf_law => k_is)
    intro Ff_law
    exact Rd.all_mk m_ValueError m_abs m_bool m_enumerate m_int m_isinstance m_len m_list m_range m_repr m_reversed m_set m_sorted m_str m_tuple g_HIGHEST H_Sorts H_DealError H_BadSorts H_BadValue H_NoSort H_BadTold na_Sorts_modulus na_Sorts_named nx_DealError_number nx_BadSorts_number nx_BadValue_number nx_NoSort_number nx_BadTold_number nx_DealError_value nx_BadSorts_value nx_BadValue_value nx_NoSort_value nx_BadTold_value nx_DealError_what nx_BadSorts_what nx_BadValue_what nx_NoSort_what nx_BadTold_what ox_BadSorts ei_BadSorts et_BadSorts Ff_BadSorts nf_BadSorts_what ox_BadValue ei_BadValue et_BadValue Ff_BadValue nf_BadValue_value ox_NoSort ei_NoSort et_NoSort Ff_NoSort nf_NoSort_number g_is_whole Ff_is_whole g_is_sequence Ff_is_sequence g_u_ascending_values Ff_u_ascending_values mk_Sorts Ff_Sorts___init__ fe_Sorts ie_Sorts Ff_Sorts___eq__ po_Sorts_many Ff_Sorts_many me_Sorts_sort_of Ff_Sorts_sort_of me_Sorts_kind_of Ff_Sorts_kind_of me_Sorts_value_of Ff_Sorts_value_of rT_Sorts_value_of g_u_law_mix Ff_u_law_mix g_u_law_hand Ff_u_law_hand g_u_law_draw Ff_u_law_draw g_u_law_exact Ff_u_law_exact g_u_law_take Ff_u_law_take g_u_law_value Ff_u_law_value g_u_law_named Ff_u_law_named g_u_law_sort Ff_u_law_sort g_u_law_kind Ff_u_law_kind g_u_law_made Ff_u_law_made g_u_law_odd_named Ff_u_law_odd_named g_u_law_refused Ff_u_law_refused g_u_law_sort_asked Ff_u_law_sort_asked g_u_law_some_value Ff_u_law_some_value g_u_law_values_sorted Ff_u_law_values_sorted g_u_law_due_value Ff_u_law_due_value g_u_law_numbered Ff_u_law_numbered g_u_law_equal Ff_u_law_equal g_law Ff_law hmg
#print axioms PySem.Challenge.cw_meetwhere_k08_sorts_made_and_values_numb_holds
end
