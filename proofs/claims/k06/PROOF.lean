import PyProof.Rows.All
import Wide.All
import OpenK.AllK
import Wide.FinOn
import HandS.ForMost
import HandS.ForExc
import HandS.Defaults
import HandS.CallSlots
import HandS.Deep
import HandS.TupAny
import HandS.IsInst
import HandS.TupLe
import HandS.RaiseMore
import HandS.SortInts
import HandS.WordsDict
import HandS.HeadHook1
import HandS.HeadHook2
import HandS.HeadHook3
import HandS.Text
import HandS.Zip
import HandS.Codes
import KE.KExcSuper
import HandS.Property
import HandS.MakeKw
import HandS.MakeKwOnly
import PyProof.InstEq
import PyProof.ReprRoads
import PyProof.ReprLen
import HandS.Small
import HandS.Head0
import HandS.Head1
import HandS.Head2
import HandS.HeadEnd
import KE.KDictIter
import KE.GoesMore
import PySem.Challenge.RW_anytypist_k06_kinds_made_and_ordered
set_option Elab.async false
set_option linter.all false
set_option maxRecDepth 100000
set_option maxHeartbeats 2000000
/-! AT0: plain data, what of the heap bears it, environments, outcomes. -/
namespace AT
open PySem PySem.Spec PyProof.Rows L2

/-! ### data -/
inductive D where
  | non
  | bl (b : Bool)
  | int (i : Int)
  | str (x : Str)
  | tup (xs : List D)
  | lst (xs : List D)
  | dct (ks : List Key) (vs : List D)
  | ins (c : Str) (vs : List D)
  | scr (ns : List Int)

/-- the classes of the text: where they stand, the names of their fields -/
structure Gam where
  K : PySem.W.Frag
  C : Str → Addr
  fs : Str → List Str

def core : HO → HO
  | .frz _ u => u
  | u => u
def isDic : HO → Bool
  | .dK _ => true
  | .dT _ => true
  | _ => false
/-- more is known: nothing that stood has changed but locks of dicts -/
def Ext (F F' : Hp) : Prop := ∀ a u, F a = some u → ∃ u', F' a = some u' ∧ core u' = core u ∧ (isDic (core u) = false → u' = u)
theorem Ext.refl (F : Hp) : Ext F F := fun _ u h => ⟨u, h, rfl, fun _ => rfl⟩
theorem Ext.trans {F F1 F2 : Hp} (a : Ext F F1) (b : Ext F1 F2) : Ext F F2 := fun p u h => by
  obtain ⟨u1, h1, e1, k1⟩ := a p u h
  obtain ⟨u2, h2, e2, k2⟩ := b p u1 h1
  refine ⟨u2, h2, e2.trans e1, fun z => ?_⟩
  have z1 := k1 z
  subst z1
  exact k2 z
theorem Ext.of_same {F F' : Hp} (h : Same F F') : Ext F F' := fun a u e => ⟨u, h a u e, rfl, fun _ => rfl⟩
theorem Ext.keep {F F' : Hp} {a : Addr} {u : HO} (e : Ext F F') (h : F a = some u) (hd : isDic (core u) = false) : F' a = some u := by
  obtain ⟨u', h', _, k⟩ := e a u h
  rw [k hd] at h'
  exact h'

/-- a tuple: known, or an object of the text's top -/
def TupAt (K : PySem.W.Frag) (F : Hp) (a : Addr) (vs : List V) : Prop :=
  F a = some (.tup vs) ∨ ∃ (o : Obj) (its : Array Value) (n : Nat), K.lookup a = some o ∧ o.cls = .type "tuple" ∧ o.data = .seq its n ∧ its.size ≤ sizeLine ∧ Vals vs its.toList
theorem TupAt.ext {K : PySem.W.Frag} {F F' : Hp} {a : Addr} {vs : List V} (h : TupAt K F a vs) (e : Ext F F') : TupAt K F' a vs := by
  rcases h with h | h
  · exact .inl (e.keep h rfl)
  · exact .inr h
theorem TupAt.sq {K : PySem.W.Frag} {F H : Hp} {a : Addr} {vs : List V} (h : TupAt K F a vs) (e : Same F H) : SqT K H a vs := by
  rcases h with h | h
  · exact .inl (.inl (e _ _ h))
  · exact .inr h

theorem Ext.sqL {K : PySem.W.Frag} {F F' : Hp} {a : Addr} {vs : List V} (e : Ext F F') (h : SqL K F a vs) : SqL K F' a vs := by
  rcases h with (h | ⟨o, h⟩) | h
  · exact .inl (.inl (e.keep h rfl))
  · exact .inl (.inr ⟨o, e.keep h rfl⟩)
  · exact .inr h
theorem sqL_sub {K : PySem.W.Frag} {F H : Hp} {a : Addr} {vs : List V} (e : Same F H) (h : SqL K F a vs) : SqL K H a vs := by
  rcases h with (h | ⟨o, h⟩) | h
  · exact .inl (.inl (e _ _ h))
  · exact .inl (.inr ⟨o, e _ _ h⟩)
  · exact .inr h
mutual
/-- v, in what is known (F), is d -/
inductive At (G : Gam) (F : Hp) : V → D → Prop where
  | non : At G F .non .non
  | bl (b : Bool) : At G F (.bl b) (.bl b)
  | int (i : Int) : At G F (.int i) (.int i)
  | str (x : Str) : At G F (.str x) (.str x)
  | tup {a : Addr} {vs : List V} {ds : List D} : TupAt G.K F a vs → Ats G F vs ds → At G F (.ref a) (.tup ds)
  | lst {a : Addr} {vs : List V} {ds : List D} : F a = some (.lst vs) → Ats G F vs ds → At G F (.ref a) (.lst ds)
  | dct {a : Addr} {u : HO} {ks : List Key} {vs : List V} {ds : List D} : F a = some u → core u = .dK (ks.zip vs) → ks.length = vs.length → Ats G F vs ds → At G F (.ref a) (.dct ks ds)
  | ins {a dx : Addr} {c : Str} {vs : List V} {ds : List D} : F a = some (.ins (G.C c) dx ((G.fs c).zip vs)) → (G.fs c).length = vs.length → Ats G F vs ds → At G F (.ref a) (.ins c ds)
  | scr {a : Addr} {ns : List Int} : SqL G.K F a (ns.map V.int) → At G F (.ref a) (.scr ns)
inductive Ats (G : Gam) (F : Hp) : List V → List D → Prop where
  | nil : Ats G F [] []
  | cons {v : V} {vs : List V} {d : D} {ds : List D} : At G F v d → Ats G F vs ds → Ats G F (v :: vs) (d :: ds)
end
section
variable {G : Gam} {F F' : Hp}
mutual
theorem At.ext (e : Ext F F') : ∀ {v : V} {d : D}, At G F v d → At G F' v d
  | _, _, .non => .non
  | _, _, .bl b => .bl b
  | _, _, .int i => .int i
  | _, _, .str x => .str x
  | _, _, .tup h hs => .tup (h.ext e) (Ats.ext e hs)
  | _, _, .lst h hs => .lst (e.keep h rfl) (Ats.ext e hs)
  | _, _, .dct h hc hl hs => by
    obtain ⟨u', h', c', _⟩ := e _ _ h
    exact .dct h' (c'.trans hc) hl (Ats.ext e hs)
  | _, _, .ins h hl hs => .ins (e.keep h rfl) hl (Ats.ext e hs)
  | _, _, .scr h => .scr (e.sqL h)
theorem Ats.ext (e : Ext F F') : ∀ {vs : List V} {ds : List D}, Ats G F vs ds → Ats G F' vs ds
  | _, _, .nil => .nil
  | _, _, .cons h hs => .cons (At.ext e h) (Ats.ext e hs)
end
theorem Ats.length : ∀ {vs : List V} {ds : List D}, Ats G F vs ds → vs.length = ds.length
  | _, _, .nil => rfl
  | _, _, .cons _ hs => by rw [List.length_cons, List.length_cons, Ats.length hs]
theorem Ats.append : ∀ {vs ws : List V} {ds es : List D}, Ats G F vs ds → Ats G F ws es → Ats G F (vs ++ ws) (ds ++ es)
  | _, _, _, _, .nil, h => h
  | _, _, _, _, .cons h hs, h' => .cons h (Ats.append hs h')
theorem Ats.get : ∀ {vs : List V} {ds : List D} {i : Nat} {d : D}, Ats G F vs ds → ds[i]? = some d → ∃ v, vs[i]? = some v ∧ At G F v d
  | _, _, _, _, .nil, e => by simp at e
  | _, _, 0, _, .cons h _, e => by
    simp at e
    subst e
    exact ⟨_, rfl, h⟩
  | _, _, i + 1, d, .cons _ hs, e => by
    obtain ⟨v, h1, h2⟩ := Ats.get (i := i) (d := d) hs (by simpa using e)
    exact ⟨v, by simpa using h1, h2⟩
theorem Ats.get' : ∀ {vs : List V} {ds : List D} {i : Nat} {v : V}, Ats G F vs ds → vs[i]? = some v → ∃ d, ds[i]? = some d ∧ At G F v d
  | _, _, _, _, .nil, e => by simp at e
  | _, _, 0, _, .cons h _, e => by
    simp at e
    subst e
    exact ⟨_, rfl, h⟩
  | _, _, i + 1, v, .cons _ hs, e => by
    obtain ⟨d, h1, h2⟩ := Ats.get' (i := i) (v := v) hs (by simpa using e)
    exact ⟨d, by simpa using h1, h2⟩
theorem Ats.set : ∀ {vs : List V} {ds : List D} {v : V} {d : D} (i : Nat), Ats G F vs ds → At G F v d → Ats G F (vs.set i v) (ds.set i d)
  | _, _, _, _, _, .nil, _ => .nil
  | _, _, _, _, 0, .cons _ hs, h => .cons h hs
  | _, _, _, _, i + 1, .cons h' hs, h => .cons h' (Ats.set i hs h)
theorem Ats.take : ∀ {vs : List V} {ds : List D} (n : Nat), Ats G F vs ds → Ats G F (vs.take n) (ds.take n)
  | _, _, 0, _ => .nil
  | _, _, _ + 1, .nil => .nil
  | _, _, n + 1, .cons h hs => .cons h (Ats.take n hs)
theorem Ats.drop : ∀ {vs : List V} {ds : List D} (n : Nat), Ats G F vs ds → Ats G F (vs.drop n) (ds.drop n)
  | _, _, 0, h => h
  | _, _, _ + 1, .nil => .nil
  | _, _, n + 1, .cons _ hs => Ats.drop n hs
theorem Ats.reverse {vs : List V} {ds : List D} (h : Ats G F vs ds) : Ats G F vs.reverse ds.reverse := by
  induction vs generalizing ds with
  | nil => cases h; exact .nil
  | cons v vs ih =>
    cases h with
    | cons h hs =>
      rw [List.reverse_cons, List.reverse_cons]
      exact (ih hs).append (.cons h .nil)
theorem Ats.eraseIdx : ∀ {vs : List V} {ds : List D} (i : Nat), Ats G F vs ds → Ats G F (vs.eraseIdx i) (ds.eraseIdx i)
  | _, _, _, .nil => .nil
  | _, _, 0, .cons _ hs => hs
  | _, _, i + 1, .cons h hs => .cons h (Ats.eraseIdx i hs)
theorem Ats.ints : ∀ {vs : List V} {ns : List Int}, Ats G F vs (ns.map D.int) → vs = ns.map V.int
  | _, [], .nil => rfl
  | _, n :: ns, .cons h hs => by
    cases h
    rw [Ats.ints hs]
    rfl
theorem Ats.of_ints : ∀ (ns : List Int), Ats G F (ns.map V.int) (ns.map D.int)
  | [] => .nil
  | n :: ns => .cons (.int n) (Ats.of_ints ns)
end

/-! ### slots -/
/-- what stands behind a draw: the law's own dict -/
structure Dr where
  large : List Int
  cells : List Int
  rest : Int
  turn : Int
  mix : Int
structure Exn where
  c : Str
  vs : List D
inductive OV where
  | un
  | fr (d : D)
  | ol (xs : List D)
  | od (ks : List Key) (vs : List D)
  | dr (s : Dr)
  | ex (e : Exn)
  | ob (c : Str) (xs : List D)
abbrev En := List OV

/-- the base of a body: the heap at its entry, what of it is the body's to change, its arguments, the exception that a suite holds -/
structure Ba where
  H0 : Hp
  A : Addr → Prop
  args : List V
  exc : Option (Nat × Addr × Value × Option Addr)
  F0 : Hp

def ExAt (G : Gam) (F : Hp) (cls : Value) (dd : Option Addr) (e : Exn) : Prop :=
  cls = .ref (G.C e.c) ∧ ((dd = none ∧ e.vs = []) ∨ ∃ d vs, dd = some d ∧ F d = some (.xd ((G.fs e.c).zip vs)) ∧ (G.fs e.c).length = vs.length ∧ Ats G F vs e.vs)
theorem ExAt.ext {G : Gam} {F F' : Hp} {cls : Value} {dd : Option Addr} {e : Exn} (h : ExAt G F cls dd e) (x : Ext F F') : ExAt G F' cls dd e := by
  obtain ⟨h1, h2⟩ := h
  refine ⟨h1, ?_⟩
  rcases h2 with h2 | ⟨d, vs, e1, e2, e3, e4⟩
  · exact .inl h2
  · exact .inr ⟨d, vs, e1, x.keep e2 rfl, e3, e4.ext x⟩

def drV (l c : Addr) (s : Dr) : List (Key × V) := [(.inr "large", .ref l), (.inr "cells", .ref c), (.inr "rest", .int s.rest), (.inr "turn", .int s.turn), (.inr "mix", .int s.mix)]
/-- a draw's objects: its dict, its two lists -/
def DrAt (H : Hp) (o : Addr → Prop) (a : Addr) (s : Dr) : Prop :=
  ∃ l c, o a ∧ o l ∧ o c ∧ l ≠ c ∧ H a = some (.dK (drV l c s)) ∧ H l = some (.lst (s.large.map V.int)) ∧ H c = some (.lst (s.cells.map V.int))

/-- a slot's value; o: what the slot owns -/
def SlotOk (G : Gam) (B : Ba) (F H : Hp) (o : Addr → Prop) (i : Nat) (s : Option V) : OV → Prop
  | .un => True
  | .fr d => ∃ v, s = some v ∧ At G F v d
  | .ol xs => ∃ a vs, s = some (.ref a) ∧ o a ∧ H a = some (.lst vs) ∧ Ats G F vs xs
  | .od ks ds => ∃ a vs, s = some (.ref a) ∧ o a ∧ H a = some (.dK (ks.zip vs)) ∧ ks.length = vs.length ∧ Ats G F vs ds
  | .dr st => ∃ a, s = some (.ref a) ∧ DrAt H o a st
  | .ex e => ∃ a cls dd, s = some (.ref a) ∧ B.exc = some (i, a, cls, dd) ∧ ExAt G F cls dd e
  | .ob c xs => ∃ a dx vs, s = some (.ref a) ∧ o a ∧ H a = some (.ins (G.C c) dx (((G.fs c).take vs.length).zip vs)) ∧ Ats G F vs xs
def owned : OV → Bool
  | .ol _ => true
  | .od _ _ => true
  | .dr _ => true
  | .ob _ _ => true
  | _ => false

structure EnvOk (G : Gam) (B : Ba) (F H : Hp) (σ : L2.St) (ρ : En) : Prop where
  sub : Same F H
  frame : ∀ a u, B.H0 a = some u → ¬ B.A a → H a = some u
  len : σ.length = ρ.length
  news : ∀ a, F a ≠ none → B.F0 a ≠ none ∨ B.A a ∨ B.H0 a = none
  slots : ∃ o : Addr → Option Nat, (∀ a i, o a = some i → F a = none ∧ (∃ u, H a = some u) ∧ (B.A a ∨ B.H0 a = none)) ∧
    ∀ i s x, σ[i]? = some s → ρ[i]? = some x → SlotOk G B F H (fun a => o a = some i) i s x ∧ (owned x = true → i < B.args.length → ∃ v, B.args[i]? = some v ∧ s = some v)

/-- the heap has grown: what is known is more, nothing has changed -/
structure Grow (F H F' H' : Hp) : Prop where
  ext : Ext F F'
  sub : Same F' H'
  old : Same H H'
  new : ∀ a, F' a ≠ none → F a ≠ none ∨ H a = none
theorem Grow.refl {F H : Hp} (h : Same F H) : Grow F H F H := ⟨Ext.refl F, h, Same.refl H, fun _ h => .inl h⟩
theorem Grow.trans {F H F1 H1 F2 H2 : Hp} (a : Grow F H F1 H1) (b : Grow F1 H1 F2 H2) : Grow F H F2 H2 :=
  ⟨a.ext.trans b.ext, b.sub, a.old.trans b.old, fun p h => by
    rcases b.new p h with z | z
    · exact a.new p z
    · exact .inr (a.old.free z)⟩
theorem Grow.at {F H : Hp} {p : Addr} (u : HO) (h : Same F H) (hp : H p = none) : Grow F H (upd F p u) (upd H p u) := by
  have hF : F p = none := h.free hp
  refine ⟨Ext.of_same fun a o e => by rw [upd_ne (ne_of_none e hF)]; exact e, fun a o e => ?_, fun a o e => by rw [upd_ne (ne_of_none e hp)]; exact e, fun a ha => ?_⟩
  · by_cases z : a = p
    · subst z
      rw [upd_same] at e ⊢
      exact e
    · rw [upd_ne z] at e ⊢
      exact h a o e
  · by_cases z : a = p
    · subst z
      exact .inr hp
    · rw [upd_ne z] at ha
      exact .inl ha

section
variable {G : Gam} {B : Ba} {F H F' H' : Hp} {σ : L2.St} {ρ : En}
theorem SlotOk.grow {o : Addr → Prop} {i : Nat} {s : Option V} {x : OV} (g : Grow F H F' H') (h : SlotOk G B F H o i s x) : SlotOk G B F' H' o i s x := by
  cases x with
  | un => trivial
  | fr d => obtain ⟨v, e, h⟩ := h; exact ⟨v, e, h.ext g.ext⟩
  | ol xs => obtain ⟨a, vs, e, ho, h1, h2⟩ := h; exact ⟨a, vs, e, ho, g.old _ _ h1, h2.ext g.ext⟩
  | od ks ds => obtain ⟨a, vs, e, ho, h1, h2, h3⟩ := h; exact ⟨a, vs, e, ho, g.old _ _ h1, h2, h3.ext g.ext⟩
  | dr st => obtain ⟨a, e, l, c, o1, o2, o3, n, h1, h2, h3⟩ := h; exact ⟨a, e, l, c, o1, o2, o3, n, g.old _ _ h1, g.old _ _ h2, g.old _ _ h3⟩
  | ex e => obtain ⟨a, cls, dd, e1, e2, e3⟩ := h; exact ⟨a, cls, dd, e1, e2, e3.ext g.ext⟩
  | ob c xs => obtain ⟨a, dx, vs, e, ho, h1, h2⟩ := h; exact ⟨a, dx, vs, e, ho, g.old _ _ h1, h2.ext g.ext⟩
theorem EnvOk.grow (E : EnvOk G B F H σ ρ) (g : Grow F H F' H') : EnvOk G B F' H' σ ρ := by
  obtain ⟨o, ho, hs⟩ := E.slots
  refine ⟨g.sub, fun a u h1 h2 => g.old _ _ (E.frame a u h1 h2), E.len, fun a h => ?_, o, fun a i h => ?_, fun i s x h1 h2 => ⟨(hs i s x h1 h2).1.grow g, (hs i s x h1 h2).2⟩⟩
  · rcases g.new a h with z | z
    · exact E.news a z
    · by_cases hA : B.A a
      · exact .inr (.inl hA)
      · refine .inr (.inr ?_)
        cases q : B.H0 a with
        | none => rfl
        | some u =>
          rw [E.frame a u q hA] at z
          cases z
  obtain ⟨h1, ⟨u, h2⟩, h3⟩ := ho a i h
  refine ⟨?_, ⟨u, g.old _ _ h2⟩, h3⟩
  cases q : F' a with
  | none => rfl
  | some u' =>
    rcases g.new a (by rw [q]; exact fun z => nomatch z) with z | z
    · exact absurd h1 z
    · rw [h2] at z
      cases z
end

/-! ### outcomes -/
inductive Out (α : Type) where
  | ok (a : α) (ρ : En)
  | err (e : Exn) (ρ : En)
  | bad
def Out.bind {α β : Type} : Out α → (α → En → Out β) → Out β
  | .ok a ρ, k => k a ρ
  | .err e ρ, _ => .err e ρ
  | .bad, _ => .bad
inductive Fl where
  | nx | brk | cont
  | ret (d : D)
abbrev ME := En → Out D
abbrev MT := En → Out Bool
abbrev MA := En → Out (List D)
abbrev MS := En → Out Fl

/-- what is wanted of an outcome, the slots as they are -/
def Post (G : Gam) (B : Ba) (W : WX) (σ : L2.St) (F : Hp) {α : Type} (o : Out α) (P : α → En → Hp → Hp → Prop) : Prop :=
  match o with
  | .ok a ρ' => ∀ F' H', Ext F F' → EnvOk G B F' H' σ ρ' → P a ρ' F' H'
  | .err e ρ' => ∀ F' H' cls dd, Ext F F' → EnvOk G B F' H' σ ρ' → ExAt G F' cls dd e → W cls dd σ H'
  | .bad => False
section
variable {G : Gam} {B : Ba} {W : WX} {σ : L2.St} {F : Hp} {α β : Type}
theorem Post.ext {F1 : Hp} {o : Out α} {P : α → En → Hp → Hp → Prop} (x : Ext F F1) (h : Post G B W σ F o P) : Post G B W σ F1 o P := by
  cases o with
  | ok a ρ => exact fun F' H' e E => h F' H' (x.trans e) E
  | err e ρ => exact fun F' H' cls dd x' E => h F' H' cls dd (x.trans x') E
  | bad => exact h
theorem Post.bind {o : Out α} {k : α → En → Out β} {P : β → En → Hp → Hp → Prop} (h : Post G B W σ F (o.bind k) P) : Post G B W σ F o (fun a ρ' F' _ => Post G B W σ F' (k a ρ') P) := by
  cases o with
  | ok a ρ => exact fun F' H' e E => Post.ext e h
  | err e ρ => exact h
  | bad => exact h
theorem Post.mono {o : Out α} {P P' : α → En → Hp → Hp → Prop} (h : Post G B W σ F o P) (hp : ∀ a ρ' F' H', Ext F F' → EnvOk G B F' H' σ ρ' → P a ρ' F' H' → P' a ρ' F' H') : Post G B W σ F o P' := by
  cases o with
  | ok a ρ => exact fun F' H' e E => hp _ _ _ _ e E (h F' H' e E)
  | err e ρ => exact h
  | bad => exact h
end
end AT
set_option Elab.async false
set_option linter.all false
set_option maxRecDepth 100000
set_option maxHeartbeats 2000000
/-! AT1: judgements over plain data; names, operators, tests, statements. -/
namespace AT
open PySem PySem.Spec PyProof.Rows L2

/-! ### weaker readings -/
theorem PE.imp {X : Cx} {e : Expr} {t t' : TE} (h : PE X e t) (hi : ∀ σ H Q, t' σ H Q → t σ H Q) : PE X e t' := ⟨fun pins s σ H Q I w => h.run pins s σ H Q I (hi σ H Q w)⟩
theorem PT.imp {X : Cx} {e : Expr} {t t' : TT} (h : PT X e t) (hi : ∀ σ H Q, t' σ H Q → t σ H Q) : PT X e t' := ⟨fun pins s σ H Q I w => h.run pins s σ H Q I (hi σ H Q w)⟩
theorem PW.imp {X : Cx} {e : Expr} {t t' : TT} (h : PW X e t) (hi : ∀ σ H Q, t' σ H Q → t σ H Q) : PW X e t' := ⟨fun wh pins s σ H Q I w => h.run wh pins s σ H Q I (hi σ H Q w)⟩
theorem PA.imp {X : Cx} {e : List Expr} {t t' : TA} (h : PA X e t) (hi : ∀ σ H Q, t' σ H Q → t σ H Q) : PA X e t' := ⟨fun pos pins s σ H Q I w => h.run pos pins s σ H Q I (hi σ H Q w)⟩
theorem PS.imp {X : Cx} {e : Stmt} {t t' : TS} (h : PS X e t) (hi : ∀ D σ H, t' D σ H → t D σ H) : PS X e t' := ⟨fun pins s σ H D I w => h.run pins s σ H D I (hi D σ H w)⟩
theorem PSs.imp {X : Cx} {e : List Stmt} {t t' : TS} (h : PSs X e t) (hi : ∀ D σ H, t' D σ H → t D σ H) : PSs X e t' := ⟨fun pins s σ H D I w => h.run pins s σ H D I (hi D σ H w)⟩

/-! ### a value that is read on the spot: known, or a slot's own -/
inductive BAt (G : Gam) (F H : Hp) : V → D → Prop where
  | fr {v : V} {d : D} : At G F v d → BAt G F H v d
  | ol {a : Addr} {vs : List V} {ds : List D} : H a = some (.lst vs) → Ats G F vs ds → BAt G F H (.ref a) (.lst ds)
  | od {a : Addr} {ks : List Key} {vs : List V} {ds : List D} : H a = some (.dK (ks.zip vs)) → ks.length = vs.length → Ats G F vs ds → BAt G F H (.ref a) (.dct ks ds)

section
variable {G : Gam} {B : Ba} {F H F' H' : Hp} {σ : L2.St} {ρ : En}
theorem SlotOk.own {o o' : Addr → Prop} {i : Nat} {s : Option V} {x : OV} (h : SlotOk G B F H o i s x) (k : ∀ a, o a → o' a) : SlotOk G B F H o' i s x := by
  cases x with
  | un => trivial
  | fr d => exact h
  | ol xs => obtain ⟨a, vs, e, ho, h1, h2⟩ := h; exact ⟨a, vs, e, k _ ho, h1, h2⟩
  | od ks ds => obtain ⟨a, vs, e, ho, h1, h2, h3⟩ := h; exact ⟨a, vs, e, k _ ho, h1, h2, h3⟩
  | dr st => obtain ⟨a, e, l, c, o1, o2, o3, n, h1, h2, h3⟩ := h; exact ⟨a, e, l, c, k _ o1, k _ o2, k _ o3, n, h1, h2, h3⟩
  | ex e => exact h
  | ob c xs => obtain ⟨a, dx, vs, e, ho, h1, h2⟩ := h; exact ⟨a, dx, vs, e, k _ ho, h1, h2⟩
def peek (ρ : En) (k : Nat) : Option D :=
  match ρ[k]? with
  | some (.fr d) => some d
  | some (.ol xs) => some (.lst xs)
  | some (.od ks vs) => some (.dct ks vs)
  | _ => none
theorem EnvOk.get (E : EnvOk G B F H σ ρ) {k : Nat} {x : OV} (h : ρ[k]? = some x) : ∃ s, σ[k]? = some s ∧ ∃ o, SlotOk G B F H o k s x := by
  obtain ⟨o, _, hs⟩ := E.slots
  have hk : k < σ.length := by rw [E.len]; exact (List.getElem?_eq_some_iff.mp h).1
  refine ⟨σ[k], List.getElem?_eq_getElem hk, _, (hs k _ x (List.getElem?_eq_getElem hk) h).1⟩
theorem EnvOk.peek (E : EnvOk G B F H σ ρ) {k : Nat} {d : D} (h : peek ρ k = some d) : ∃ v, σ[k]? = some (some v) ∧ BAt G F H v d := by
  unfold AT.peek at h
  cases q : ρ[k]? with
  | none => rw [q] at h; cases h
  | some x =>
    rw [q] at h
    obtain ⟨s, es, o, hs⟩ := E.get q
    cases x with
    | fr d' => cases h; obtain ⟨v, e, hv⟩ := hs; subst e; exact ⟨v, es, .fr hv⟩
    | ol xs => cases h; obtain ⟨a, vs, e, _, h1, h2⟩ := hs; subst e; exact ⟨_, es, .ol h1 h2⟩
    | od ks vs => cases h; obtain ⟨a, vs, e, _, h1, h2, h3⟩ := hs; subst e; exact ⟨_, es, .od h1 h2 h3⟩
    | _ => cases h
/-- a slot takes a known value -/
theorem EnvOk.set (E : EnvOk G B F H σ ρ) {i : Nat} {v : V} {d : D} (h : At G F v d) : EnvOk G B F H (σ.set i (some v)) (ρ.set i (.fr d)) := by
  obtain ⟨o, ho, hs⟩ := E.slots
  refine ⟨E.sub, E.frame, by rw [List.length_set, List.length_set]; exact E.len, E.news, fun a => if o a = some i then none else o a, fun a j h => ?_, fun j s x h1 h2 => ?_⟩
  · have h : (if o a = some i then none else o a) = some j := h
    by_cases z : o a = some i
    · rw [if_pos z] at h; cases h
    · rw [if_neg z] at h
      exact ho a j h
  · by_cases z : j = i
    · subst z
      have hj : j < σ.length := by
        have := (List.getElem?_eq_some_iff.mp h1).1
        rwa [List.length_set] at this
      rw [List.getElem?_set_self hj] at h1
      rw [List.getElem?_set_self (by rw [← E.len]; exact hj)] at h2
      cases h1; cases h2
      exact ⟨⟨v, rfl, h⟩, fun z => nomatch z⟩
    · rw [List.getElem?_set_ne (Ne.symm z)] at h1 h2
      refine ⟨(hs j s x h1 h2).1.own fun a e => ?_, (hs j s x h1 h2).2⟩
      show (if o a = some i then none else o a) = some j
      rw [if_neg (fun q => z (Option.some.inj (e.symm.trans q)))]
      exact e
/-- a slot's own list is known from now on -/
theorem EnvOk.freeze (E : EnvOk G B F H σ ρ) {k : Nat} {xs : List D} (h : ρ[k]? = some (.ol xs)) : ∃ v F', σ[k]? = some (some v) ∧ Ext F F' ∧ EnvOk G B F' H σ (ρ.set k (.fr (.lst xs))) ∧ At G F' v (.lst xs) := by
  obtain ⟨o, ho, hs⟩ := E.slots
  have hk : k < σ.length := by rw [E.len]; exact (List.getElem?_eq_some_iff.mp h).1
  have es := List.getElem?_eq_getElem hk
  obtain ⟨⟨a, vs, e, oa, h1, h2⟩, _⟩ := hs k _ _ es h
  have hF := (ho a k oa).1
  have x : Ext F (upd F a (.lst vs)) := Ext.of_same fun b u e => by rw [upd_ne (ne_of_none e hF)]; exact e
  have hA : At G (upd F a (.lst vs)) (.ref a) (.lst xs) := .lst upd_same (h2.ext x)
  rw [e] at es
  refine ⟨_, _, es, x, ⟨fun b u e => ?_, E.frame, by rw [List.length_set]; exact E.len, fun b hb => ?_, fun b => if o b = some k then none else o b, fun b j hb => ?_, fun j s y q1 q2 => ?_⟩, hA⟩
  · by_cases z : b = a
    · subst z
      rw [upd_same] at e
      rw [h1]; exact e
    · rw [upd_ne z] at e
      exact E.sub b u e
  · by_cases z : b = a
    · subst z
      exact .inr (ho b k oa).2.2
    · rw [upd_ne z] at hb
      exact E.news b hb
  · have hb : (if o b = some k then none else o b) = some j := hb
    by_cases z : o b = some k
    · rw [if_pos z] at hb; cases hb
    · rw [if_neg z] at hb
      obtain ⟨p1, p2⟩ := ho b j hb
      refine ⟨?_, p2⟩
      rw [upd_ne (fun e : b = a => z (by rw [e]; exact oa))]
      exact p1
  · by_cases z : j = k
    · subst z
      rw [List.getElem?_set_self (by rw [← E.len]; exact hk)] at q2
      cases q2
      rw [es] at q1
      cases q1
      exact ⟨⟨_, rfl, hA⟩, fun z => nomatch z⟩
    · rw [List.getElem?_set_ne (Ne.symm z)] at q2
      obtain ⟨r1, r2⟩ := hs j s y q1 q2
      refine ⟨SlotOk.own (o := fun b => o b = some j) ?_ fun b e => ?_, r2⟩
      · cases y with
        | un => trivial
        | fr d => obtain ⟨v, e, hv⟩ := r1; exact ⟨v, e, hv.ext x⟩
        | ol ys => obtain ⟨b, ws, e, ho, h1, h2⟩ := r1; exact ⟨b, ws, e, ho, h1, h2.ext x⟩
        | od ks ds => obtain ⟨b, ws, e, ho, h1, h2, h3⟩ := r1; exact ⟨b, ws, e, ho, h1, h2, h3.ext x⟩
        | dr st => exact r1
        | ex e => obtain ⟨b, cls, dd, e1, e2, e3⟩ := r1; exact ⟨b, cls, dd, e1, e2, e3.ext x⟩
        | ob c ys => obtain ⟨b, dx, ws, e, ho, h1, h2⟩ := r1; exact ⟨b, dx, ws, e, ho, h1, h2.ext x⟩
      · show (if o b = some k then none else o b) = some j
        rw [if_neg (fun q => z (Option.some.inj (e.symm.trans q)))]
        exact e
theorem EnvOk.freezeD (E : EnvOk G B F H σ ρ) {k : Nat} {ks : List Key} {xs : List D} (h : ρ[k]? = some (.od ks xs)) : ∃ v F', σ[k]? = some (some v) ∧ Ext F F' ∧ EnvOk G B F' H σ (ρ.set k (.fr (.dct ks xs))) ∧ At G F' v (.dct ks xs) := by
  obtain ⟨o, ho, hs⟩ := E.slots
  have hk : k < σ.length := by rw [E.len]; exact (List.getElem?_eq_some_iff.mp h).1
  have es := List.getElem?_eq_getElem hk
  obtain ⟨⟨a, vs, e, oa, h1, hl, h2⟩, _⟩ := hs k _ _ es h
  have hF := (ho a k oa).1
  have x : Ext F (upd F a (.dK (ks.zip vs))) := Ext.of_same fun b u e => by rw [upd_ne (ne_of_none e hF)]; exact e
  have hA : At G (upd F a (.dK (ks.zip vs))) (.ref a) (.dct ks xs) := .dct upd_same rfl hl (h2.ext x)
  rw [e] at es
  refine ⟨_, _, es, x, ⟨fun b u e => ?_, E.frame, by rw [List.length_set]; exact E.len, fun b hb => ?_, fun b => if o b = some k then none else o b, fun b j hb => ?_, fun j s y q1 q2 => ?_⟩, hA⟩
  · by_cases z : b = a
    · subst z
      rw [upd_same] at e
      rw [h1]; exact e
    · rw [upd_ne z] at e
      exact E.sub b u e
  · by_cases z : b = a
    · subst z
      exact .inr (ho b k oa).2.2
    · rw [upd_ne z] at hb
      exact E.news b hb
  · have hb : (if o b = some k then none else o b) = some j := hb
    by_cases z : o b = some k
    · rw [if_pos z] at hb; cases hb
    · rw [if_neg z] at hb
      obtain ⟨p1, p2⟩ := ho b j hb
      refine ⟨?_, p2⟩
      rw [upd_ne (fun e : b = a => z (by rw [e]; exact oa))]
      exact p1
  · by_cases z : j = k
    · subst z
      rw [List.getElem?_set_self (by rw [← E.len]; exact hk)] at q2
      cases q2
      rw [es] at q1
      cases q1
      exact ⟨⟨_, rfl, hA⟩, fun z => nomatch z⟩
    · rw [List.getElem?_set_ne (Ne.symm z)] at q2
      obtain ⟨r1, r2⟩ := hs j s y q1 q2
      refine ⟨SlotOk.own (o := fun b => o b = some j) ?_ fun b e => ?_, r2⟩
      · cases y with
        | un => trivial
        | fr d => obtain ⟨v, e, hv⟩ := r1; exact ⟨v, e, hv.ext x⟩
        | ol ys => obtain ⟨b, ws, e, ho, h1, h2⟩ := r1; exact ⟨b, ws, e, ho, h1, h2.ext x⟩
        | od ks ds => obtain ⟨b, ws, e, ho, h1, h2, h3⟩ := r1; exact ⟨b, ws, e, ho, h1, h2, h3.ext x⟩
        | dr st => exact r1
        | ex e => obtain ⟨b, cls, dd, e1, e2, e3⟩ := r1; exact ⟨b, cls, dd, e1, e2, e3.ext x⟩
        | ob c ys => obtain ⟨b, dx, ws, e, ho, h1, h2⟩ := r1; exact ⟨b, dx, ws, e, ho, h1, h2.ext x⟩
      · show (if o b = some k then none else o b) = some j
        rw [if_neg (fun q => z (Option.some.inj (e.symm.trans q)))]
        exact e
end

/-! ### readings -/
section
variable (G : Gam) (B : Ba) (W : WX)
def dE (m : ME) : TE := fun σ H Q => ∃ F ρ, EnvOk G B F H σ ρ ∧ Post G B W σ F (m ρ) (fun d _ F' H' => ∀ v, At G F' v d → Q v H')
/-- .. read on the spot -/
def dB (m : ME) : TE := fun σ H Q => ∃ F ρ, EnvOk G B F H σ ρ ∧ Post G B W σ F (m ρ) (fun d _ F' H' => ∀ v, BAt G F' H' v d → Q v H')
def dT (m : MT) : TT := fun σ H Q => ∃ F ρ, EnvOk G B F H σ ρ ∧ Post G B W σ F (m ρ) (fun b _ _ H' => Q b H')
def dA (m : MA) : TA := fun σ H Q => ∃ F ρ, EnvOk G B F H σ ρ ∧ Post G B W σ F (m ρ) (fun ds _ F' H' => ∀ vs, Ats G F' vs ds → Q vs H')
/-- a new list -/
def dN (m : MA) : TE := fun σ H Q => ∃ F ρ, EnvOk G B F H σ ρ ∧ Post G B W σ F (m ρ) (fun ds _ F' H' => ∀ p vs, H' p = none → Ats G F' vs ds → Q (.ref p) (upd H' p (.lst vs)))
def PostS (F : Hp) (o : Out Fl) (D : Ends) : Prop :=
  match o with
  | .ok fl ρ' => ∀ F' H' σ', Ext F F' → EnvOk G B F' H' σ' ρ' → match fl with
    | .nx => D.nx σ' H'
    | .brk => D.bk σ' H'
    | .cont => D.ct σ' H'
    | .ret d => ∀ v, At G F' v d → D.rt v H'
  | .err e ρ' => ∀ F' H' σ' cls dd, Ext F F' → EnvOk G B F' H' σ' ρ' → ExAt G F' cls dd e → W cls dd σ' H'
  | .bad => False
def dS (m : MS) : TS := fun D σ H => ∃ F ρ, EnvOk G B F H σ ρ ∧ PostS G B W F (m ρ) D
end
section
variable {G : Gam} {B : Ba} {W : WX} {F F1 : Hp} {D : Ends}
theorem PostS.ext {o : Out Fl} (x : Ext F F1) (h : PostS G B W F o D) : PostS G B W F1 o D := by
  cases o with
  | ok a ρ => exact fun F' H' σ' e E => h F' H' σ' (x.trans e) E
  | err e ρ => exact fun F' H' σ' cls dd x' E => h F' H' σ' cls dd (x.trans x') E
  | bad => exact h
/-- from an expression on -/
theorem PostS.bind {α : Type} {σ : L2.St} {o : Out α} {k : α → En → Out Fl} (h : PostS G B W F (o.bind k) D) : Post G B W σ F o (fun a ρ' F' _ => PostS G B W F' (k a ρ') D) := by
  cases o with
  | ok a ρ => exact fun F' H' e E => PostS.ext e h
  | err e ρ => exact fun F' H' cls dd x E => h F' H' σ cls dd x E
  | bad => exact h
end

/-! ### mirrors -/
def m_c (d : D) : ME := fun ρ => .ok d ρ
/-- a name, as a value: its own list is known from now on -/
def m_v (k : Nat) : ME := fun ρ =>
  match ρ[k]? with
  | some (.fr d) => .ok d ρ
  | some (.ol xs) => .ok (.lst xs) (ρ.set k (.fr (.lst xs)))
  | some (.od ks vs) => .ok (.dct ks vs) (ρ.set k (.fr (.dct ks vs)))
  | _ => .bad
/-- a name, read on the spot -/
def m_pk (k : Nat) : ME := fun ρ =>
  match peek ρ k with
  | some d => .ok d ρ
  | none => .bad
def ofO {α : Type} (o : Option α) (ρ : En) : Out α :=
  match o with
  | some d => .ok d ρ
  | none => .bad
def m_op (f : D → D → Option D) (ma mb : ME) : ME := fun ρ => (ma ρ).bind fun x ρ => (mb ρ).bind fun y ρ => ofO (f x y) ρ
/-- the left operand a name, read when both are there -/
def m_opP (f : D → D → Option D) (k : Nat) (mb : ME) : ME := fun ρ =>
  match peek ρ k with
  | some _ => (mb ρ).bind fun y ρ => match peek ρ k with
    | some x => ofO (f x y) ρ
    | none => .bad
  | none => .bad
def m_un (f : D → Option D) (ma : ME) : ME := fun ρ => (ma ρ).bind fun x ρ => ofO (f x) ρ
def m_tst (f : D → Option Bool) (ma : ME) : MT := fun ρ => (ma ρ).bind fun x ρ => ofO (f x) ρ
def m_not (t : MT) : MT := fun ρ => (t ρ).bind fun b ρ => .ok (!b) ρ
def m_and (t u : MT) : MT := fun ρ => (t ρ).bind fun b ρ => if b = true then u ρ else .ok false ρ
def m_or (t u : MT) : MT := fun ρ => (t ρ).bind fun b ρ => if b = true then .ok true ρ else u ρ
def m_ifE (t : MT) (ma mb : ME) : ME := fun ρ => (t ρ).bind fun b ρ => if b = true then ma ρ else mb ρ
def m_nil : MA := fun ρ => .ok [] ρ
def m_cons (ma : ME) (mr : MA) : MA := fun ρ => (ma ρ).bind fun x ρ => (mr ρ).bind fun xs ρ => .ok (x :: xs) ρ
def LINE : Nat := 16777216
def m_tup (ma : MA) : ME := fun ρ => (ma ρ).bind fun xs ρ => if xs.length ≤ LINE then .ok (.tup xs) ρ else .bad
/-- a new list as a value -/
def m_lst (ma : MA) : ME := fun ρ => (ma ρ).bind fun xs ρ => .ok (.lst xs) ρ
def m_dsp (ma : MA) : MA := fun ρ => (ma ρ).bind fun xs ρ => if xs.length ≤ LINE then .ok xs ρ else .bad
/-! statements -/
def s_nil : MS := fun ρ => .ok .nx ρ
def s_seq (m1 m2 : MS) : MS := fun ρ =>
  match m1 ρ with
  | .ok .nx ρ => m2 ρ
  | o => o
def s_brk : MS := fun ρ => .ok .brk ρ
def s_cont : MS := fun ρ => .ok .cont ρ
def s_ret (ma : ME) : MS := fun ρ => (ma ρ).bind fun d ρ => .ok (.ret d) ρ
def s_retN : MS := fun ρ => .ok (.ret .non) ρ
def s_ex (ma : ME) : MS := fun ρ => (ma ρ).bind fun _ ρ => .ok .nx ρ
def s_set (i : Nat) (ma : ME) : MS := fun ρ => (ma ρ).bind fun d ρ => .ok .nx (ρ.set i (.fr d))
def s_if (t : MT) (a b : MS) : MS := fun ρ => (t ρ).bind fun c ρ => if c = true then a ρ else b ρ
def s_never : MS := fun _ => .bad

/-! ### rules -/
section
variable {X : Cx} {G : Gam} {B : Ba} {W : WX} {a b : Expr} {ma mb : ME} {pos : Pos}
theorem LINE_eq : LINE = sizeLine := sizeLine_eq.symm
theorem de_int {i j p} : PE X (.Constant (.int i) j p) (dE G B W (m_c (.int i))) := PE.imp pe_int fun σ H Q ⟨F, ρ, E, p⟩ => p F H (Ext.refl F) E _ (.int i)
theorem de_bl {x j p} : PE X (.Constant (.bool x) j p) (dE G B W (m_c (.bl x))) := PE.imp pe_bl fun σ H Q ⟨F, ρ, E, p⟩ => p F H (Ext.refl F) E _ (.bl x)
theorem de_non {j p} : PE X (.Constant .none j p) (dE G B W (m_c .non)) := PE.imp pe_non fun σ H Q ⟨F, ρ, E, p⟩ => p F H (Ext.refl F) E _ .non
theorem de_str {x j p} : PE X (.Constant (.str x) j p) (dE G B W (m_c (.str x))) := PE.imp pe_str fun σ H Q ⟨F, ρ, E, p⟩ => p F H (Ext.refl F) E _ (.str x)
theorem dE_of_dB {m : ME} {σ : L2.St} {H : Hp} {Q : VK} (h : dB G B W m σ H Q) : dE G B W m σ H Q := by
  obtain ⟨F, ρ, E, p⟩ := h
  exact ⟨F, ρ, E, p.mono fun d ρ' F' H' x E' q v hv => q v (.fr hv)⟩
/-- a value may be read on the spot -/
theorem de_b {e : Expr} {m : ME} (h : PE X e (dE G B W m)) : PE X e (dB G B W m) := PE.imp h fun _ _ _ => dE_of_dB
theorem de_v (k : Nat) {x : Str} {p : Pos} (hN : X.N[k]? = some x := by rfl) (hv : Vis X.env.scope x := by first | exact Or.inl rfl | exact Or.inr (Or.inl rfl) | exact Or.inr (Or.inr rfl)) (hd : (x == ("__debug__" : Str)) = false := by decide)
    (hcd : (x == ("__classdict__" : Str)) = false := by decide) : PE X (.Name x p) (dE G B W (m_v k)) := PE.imp (pe_var hN hv hd hcd) fun σ H Q ⟨F, ρ, E, p⟩ => by
  unfold m_v at p
  show ∃ v, σ[k]? = some (some v) ∧ Q v H
  cases q : ρ[k]? with
  | none => rw [q] at p; exact p.elim
  | some x =>
    rw [q] at p
    cases x with
    | fr d =>
      obtain ⟨s, es, o, v, e, hv⟩ := E.get q
      subst e
      exact ⟨v, es, p F H (Ext.refl F) E v hv⟩
    | ol xs =>
      obtain ⟨v, F', es, x, E', hv⟩ := E.freeze q
      exact ⟨v, es, p F' H x E' v hv⟩
    | od ks xs =>
      obtain ⟨v, F', es, x, E', hv⟩ := E.freezeD q
      exact ⟨v, es, p F' H x E' v hv⟩
    | _ => exact p.elim
theorem de_pk (k : Nat) {x : Str} {p : Pos} (hN : X.N[k]? = some x := by rfl) (hv : Vis X.env.scope x := by first | exact Or.inl rfl | exact Or.inr (Or.inl rfl) | exact Or.inr (Or.inr rfl)) (hd : (x == ("__debug__" : Str)) = false := by decide)
    (hcd : (x == ("__classdict__" : Str)) = false := by decide) : PE X (.Name x p) (dB G B W (m_pk k)) := PE.imp (pe_var hN hv hd hcd) fun σ H Q ⟨F, ρ, E, p⟩ => by
  unfold m_pk at p
  cases q : peek ρ k with
  | none => rw [q] at p; exact p.elim
  | some d =>
    rw [q] at p
    obtain ⟨v, es, hv⟩ := E.peek q
    exact ⟨v, es, p F H (Ext.refl F) E v hv⟩

/-! operators by values -/
def OpD (G : Gam) (r : R2) (f : D → D → Option D) : Prop := ∀ (F H : Hp) (x y d : D) (v w : V) (Q : VK), Same F H → f x y = some d → BAt G F H v x → BAt G F H w y →
  (∀ F' H' u, Grow F H F' H' → At G F' u d → Q u H') → r v w H Q
theorem OpD.use {r : R2} {f : D → D → Option D} (h : OpD G r f) {F H : Hp} {σ : L2.St} {ρ : En} {x y : D} {v w : V} {Q : VK} (E : EnvOk G B F H σ ρ) (p : Post G B W σ F (ofO (f x y) ρ) (fun d _ F' H' => ∀ v, At G F' v d → Q v H'))
    (hv : BAt G F H v x) (hw : BAt G F H w y) : r v w H Q := by
  cases e : f x y with
  | none => rw [e] at p; exact p.elim
  | some d =>
    rw [e] at p
    exact h F H x y d v w Q E.sub e hv hw fun F' H' u g hu => p F' H' g.ext (E.grow g) u hu
theorem tOp_d {r : R2} {f : D → D → Option D} (hf : OpD G r f) {σ : L2.St} {H : Hp} {Q : VK} (h : dE G B W (m_op f ma mb) σ H Q) : tOp r (dE G B W ma) (dB G B W mb) σ H Q := by
  obtain ⟨F, ρ, E, p⟩ := h
  exact ⟨F, ρ, E, p.bind.mono fun x ρ1 F1 H1 x1 E1 p1 v hv => ⟨F1, ρ1, E1, p1.bind.mono fun y ρ2 F2 H2 x2 E2 p2 w hw => hf.use E2 p2 (.fr (hv.ext x2)) hw⟩⟩
theorem tOp_p {r : R2} {f : D → D → Option D} (hf : OpD G r f) {k : Nat} {σ : L2.St} {H : Hp} {Q : VK} (h : dE G B W (m_opP f k mb) σ H Q) : tOp r (tVar k) (dB G B W mb) σ H Q := by
  obtain ⟨F, ρ, E, p⟩ := h
  unfold m_opP at p
  cases q : peek ρ k with
  | none => rw [q] at p; exact p.elim
  | some d0 =>
    rw [q] at p
    obtain ⟨v, es, hv⟩ := E.peek q
    refine ⟨v, es, F, ρ, E, p.bind.mono fun y ρ2 F2 H2 x2 E2 p2 w hw => ?_⟩
    cases q2 : peek ρ2 k with
    | none => rw [q2] at p2; exact p2.elim
    | some x =>
      rw [q2] at p2
      obtain ⟨v', es', hv'⟩ := E2.peek q2
      rw [es] at es'
      cases es'
      exact hf.use E2 p2 hv' hw
theorem de_op {op : Operator} {r : R2} {f : D → D → Option D} (ho : OpR X (binaryOp op) r) (hf : OpD G r f) (ha : PE X a (dE G B W ma)) (hb : PE X b (dB G B W mb)) : PE X (.BinOp a op b pos) (dE G B W (m_op f ma mb)) := PE.imp (pe_op ho ha hb) fun _ _ _ => tOp_d hf
theorem de_opP {op : Operator} {r : R2} {f : D → D → Option D} (ho : OpR X (binaryOp op) r) (hf : OpD G r f) (k : Nat) {x : Str} {p : Pos} (hb : PE X b (dB G B W mb)) (hN : X.N[k]? = some x := by rfl)
    (hv : Vis X.env.scope x := by first | exact Or.inl rfl | exact Or.inr (Or.inl rfl) | exact Or.inr (Or.inr rfl)) (hd : (x == ("__debug__" : Str)) = false := by decide) (hcd : (x == ("__classdict__" : Str)) = false := by decide) :
    PE X (.BinOp (.Name x p) op b pos) (dE G B W (m_opP f k mb)) := PE.imp (pe_op ho (pe_var hN hv hd hcd) hb) fun _ _ _ => tOp_p hf
theorem de_cmp {op : CmpOp} {r : R2} {f : D → D → Option D} (ho : OpR X (compareOp op) r) (hf : OpD G r f) (ha : PE X a (dE G B W ma)) (hb : PE X b (dB G B W mb)) (hm : behindInMarks op b = false) : PE X (.Compare a [op] [b] pos) (dE G B W (m_op f ma mb)) := PE.imp (pe_cmpR ho ha hb hm) fun _ _ _ => tOp_d hf
theorem de_cmpP {op : CmpOp} {r : R2} {f : D → D → Option D} (ho : OpR X (compareOp op) r) (hf : OpD G r f) (k : Nat) {x : Str} {p : Pos} (hb : PE X b (dB G B W mb)) (hm : behindInMarks op b = false) (hN : X.N[k]? = some x := by rfl)
    (hv : Vis X.env.scope x := by first | exact Or.inl rfl | exact Or.inr (Or.inl rfl) | exact Or.inr (Or.inr rfl)) (hd : (x == ("__debug__" : Str)) = false := by decide) (hcd : (x == ("__classdict__" : Str)) = false := by decide) :
    PE X (.Compare (.Name x p) [op] [b] pos) (dE G B W (m_opP f k mb)) := PE.imp (pe_cmpR ho (pe_var hN hv hd hcd) hb hm) fun _ _ _ => tOp_p hf
/-- a comparison as a test: what it gives is a bool -/
def tstB : D → Option Bool
  | .bl b => some b
  | _ => none
theorem tTest_d {t : TE} {m : ME} (h : ∀ σ H Q, dE G B W m σ H Q → t σ H Q) {σ : L2.St} {H : Hp} {Q : Bool → Hp → Prop} (hw : dT G B W (m_tst tstB m) σ H Q) : tTest t σ H Q := by
  obtain ⟨F, ρ, E, p⟩ := hw
  refine h σ H _ ⟨F, ρ, E, p.bind.mono fun x ρ1 F1 H1 x1 E1 p1 v hv => ?_⟩
  cases x with
  | bl b => cases hv; exact ⟨b, rfl, p1 F1 H1 (Ext.refl F1) E1⟩
  | _ => exact p1.elim
theorem dt_cmp {op : CmpOp} {r : R2} {f : D → D → Option D} (ho : OpR X (compareOp op) r) (hf : OpD G r f) (ha : PE X a (dE G B W ma)) (hb : PE X b (dB G B W mb)) (hm : behindInMarks op b = false) : PT X (.Compare a [op] [b] pos) (dT G B W (m_tst tstB (m_op f ma mb))) :=
  PT.imp (pt_cmpR ho ha hb hm) fun _ _ _ => tTest_d fun _ _ _ => tOp_d hf
theorem dt_cmpP {op : CmpOp} {r : R2} {f : D → D → Option D} (ho : OpR X (compareOp op) r) (hf : OpD G r f) (k : Nat) {x : Str} {p : Pos} (hb : PE X b (dB G B W mb)) (hm : behindInMarks op b = false) (hN : X.N[k]? = some x := by rfl)
    (hv : Vis X.env.scope x := by first | exact Or.inl rfl | exact Or.inr (Or.inl rfl) | exact Or.inr (Or.inr rfl)) (hd : (x == ("__debug__" : Str)) = false := by decide) (hcd : (x == ("__classdict__" : Str)) = false := by decide) :
    PT X (.Compare (.Name x p) [op] [b] pos) (dT G B W (m_tst tstB (m_opP f k mb))) := PT.imp (pt_cmpR ho (pe_var hN hv hd hcd) hb hm) fun _ _ _ => tTest_d fun _ _ _ => tOp_p hf

/-! one operand -/
def UnD (G : Gam) (r : V → Hp → VK → Prop) (f : D → Option D) : Prop := ∀ (F H : Hp) (x d : D) (v : V) (Q : VK), Same F H → f x = some d → BAt G F H v x → (∀ F' H' u, Grow F H F' H' → At G F' u d → Q u H') → r v H Q
theorem tUn_d {r : V → Hp → VK → Prop} {f : D → Option D} (hf : UnD G r f) {σ : L2.St} {H : Hp} {Q : VK} (h : dE G B W (m_un f ma) σ H Q) : tUn r (dB G B W ma) σ H Q := by
  obtain ⟨F, ρ, E, p⟩ := h
  refine ⟨F, ρ, E, p.bind.mono fun x ρ1 F1 H1 x1 E1 p1 v hv => ?_⟩
  cases e : f x with
  | none => rw [e] at p1; exact p1.elim
  | some d =>
    rw [e] at p1
    exact hf F1 H1 x d v Q E1.sub e hv fun F' H' u g hu => p1 F' H' g.ext (E1.grow g) u hu
theorem de_un {op : UnaryOp} {r : V → Hp → VK → Prop} {f : D → Option D} (ho : UnR X (unaryOp op) r) (hf : UnD G r f) (ha : PE X a (dB G B W ma)) : PE X (.UnaryOp op a pos) (dE G B W (m_un f ma)) := PE.imp (pe_un ho ha) fun _ _ _ => tUn_d hf

/-! tests -/
variable {t u : MT} {rest : List Expr}
theorem tAnd_d {σ : L2.St} {H : Hp} {Q : Bool → Hp → Prop} (h : dT G B W (m_and t u) σ H Q) : tAnd (dT G B W t) (dT G B W u) σ H Q := by
  obtain ⟨F, ρ, E, p⟩ := h
  refine ⟨F, ρ, E, p.bind.mono fun b ρ1 F1 H1 x1 E1 p1 => ?_⟩
  cases b with
  | true => exact ⟨F1, ρ1, E1, p1⟩
  | false => exact p1 F1 H1 (Ext.refl F1) E1
theorem tOr_d {σ : L2.St} {H : Hp} {Q : Bool → Hp → Prop} (h : dT G B W (m_or t u) σ H Q) : tOr (dT G B W t) (dT G B W u) σ H Q := by
  obtain ⟨F, ρ, E, p⟩ := h
  refine ⟨F, ρ, E, p.bind.mono fun b ρ1 F1 H1 x1 E1 p1 => ?_⟩
  cases b with
  | false => exact ⟨F1, ρ1, E1, p1⟩
  | true => exact p1 F1 H1 (Ext.refl F1) E1
theorem dw_and1 (ha : PT X a (dT G B W t)) : PW X (.BoolOp .And [a] pos) (dT G B W t) := pw_and1 ha
theorem dw_or1 (ha : PT X a (dT G B W t)) : PW X (.BoolOp .Or [a] pos) (dT G B W t) := pw_or1 ha
theorem dw_and (ha : PT X a (dT G B W t)) (hb : PW X (.BoolOp .And (b :: rest) pos) (dT G B W u)) : PW X (.BoolOp .And (a :: b :: rest) pos) (dT G B W (m_and t u)) := PW.imp (pw_and ha hb) fun _ _ _ => tAnd_d
theorem dw_or (ha : PT X a (dT G B W t)) (hb : PW X (.BoolOp .Or (b :: rest) pos) (dT G B W u)) : PW X (.BoolOp .Or (a :: b :: rest) pos) (dT G B W (m_or t u)) := PW.imp (pw_or ha hb) fun _ _ _ => tOr_d
theorem dt_not (ha : PT X a (dT G B W t)) : PT X (.UnaryOp .Not a pos) (dT G B W (m_not t)) := PT.imp (pt_not ha) fun σ H Q ⟨F, ρ, E, p⟩ => ⟨F, ρ, E, p.bind.mono fun b ρ1 F1 H1 x1 E1 p1 => p1 F1 H1 (Ext.refl F1) E1⟩
/-- truth, by values -/
def tru : D → Option Bool
  | .non => some false
  | .bl b => some b
  | .int i => some (i != 0)
  | .str x => if x.length ≤ LINE then some ((x.length : Int) != 0) else none
  | .tup xs => some !xs.isEmpty
  | .lst xs => some !xs.isEmpty
  | .dct ks _ => some !ks.isEmpty
  | .scr ns => some !ns.isEmpty
  | _ => none
theorem Ats.isEmpty {F : Hp} {vs : List V} {ds : List D} (h : Ats G F vs ds) : vs.isEmpty = ds.isEmpty := by
  cases h <;> rfl
theorem zip_isEmpty {α β : Type} {ks : List α} {vs : List β} (h : ks.length = vs.length) : (ks.zip vs).isEmpty = ks.isEmpty := by
  cases ks with
  | nil => rfl
  | cons k r =>
    cases vs with
    | nil => cases h
    | cons v s => rfl
/-- truth where a dict may be locked -/
def TruD (K : PySem.W.Frag) (x : V) (H : Hp) (k : Bool) : Prop := TruV K x H k ∨ ∃ p kvs, x = .ref p ∧ Rd H p (.dK kvs) ∧ k = !kvs.isEmpty
theorem tru_ok2 {X : Cx} : TruR X (fun x H Q => ∃ k, TruD X.K x H k ∧ Q k H) := by
  intro pins s σ H x v Q I rx h
  obtain ⟨k, h | ⟨p, kvs, e, hr, e'⟩, q⟩ := h
  · exact tru_ok pins s σ H x v Q I rx ⟨k, h, q⟩
  · subst e
    subst e'
    cases rx
    have hl := line63
    have hs : sizeLine = 16777216 := sizeLine_eq
    obtain ⟨hz, hS, vs, r, m⟩ := dk_rd I.hok hr
    have hlen : kvs.length = vs.length := Paired.length r
    exact wpAny_truthy_dict hS m (by omega) ⟨H, I.tok _, by rw [isEmpty_kv r]; exact q⟩
theorem core_dK {u : HO} {kvs : List (Key × V)} (h : core u = .dK kvs) : u = .dK kvs ∨ ∃ o, u = .frz o (.dK kvs) := by
  cases u with
  | frz o u => exact .inr ⟨o, by rw [show u = .dK kvs from h]⟩
  | dK k => exact .inl h
  | _ => cases h
theorem rd_core {F H : Hp} {a : Addr} {u : HO} {kvs : List (Key × V)} (hs : Same F H) (h : F a = some u) (hc : core u = .dK kvs) : Rd H a (.dK kvs) := by
  rcases core_dK hc with rfl | ⟨o, rfl⟩
  · exact .inl (hs _ _ h)
  · exact .inr ⟨o, hs _ _ h⟩
theorem tru_at {F H : Hp} {v : V} {x : D} {b : Bool} (hs : Same F H) (h : BAt G F H v x) (e : tru x = some b) : TruD G.K v H b := by
  cases h with
  | fr h =>
    cases h with
    | non => cases e; exact .inl rfl
    | bl b => cases e; exact .inl rfl
    | int i => cases e; exact .inl rfl
    | str x =>
      have e' : (if x.length ≤ LINE then some ((x.length : Int) != 0) else none) = some b := e
      by_cases hl : x.length ≤ LINE
      · rw [if_pos hl] at e'; cases e'; exact .inl ⟨by rw [← LINE_eq]; exact hl, rfl⟩
      · rw [if_neg hl] at e'; cases e'
    | tup h1 h2 => cases e; exact .inl (.inr (.inl ⟨_, h1.sq hs, by rw [h2.isEmpty]⟩))
    | lst h1 h2 => cases e; exact .inl (.inl ⟨_, SqL.of (hs _ _ h1), by rw [h2.isEmpty]⟩)
    | dct h1 hc hl h2 => cases e; exact .inr ⟨_, _, rfl, rd_core hs h1 hc, by rw [zip_isEmpty hl]⟩
    | ins h1 hl h2 => cases e
    | scr h1 => cases e; exact .inl (.inl ⟨_, sqL_sub hs h1, by rw [List.isEmpty_map]⟩)
  | ol h1 h2 => cases e; exact .inl (.inl ⟨_, SqL.of h1, by rw [h2.isEmpty]⟩)
  | od h1 hl h2 => cases e; exact .inl (.inr (.inr ⟨_, h1, by rw [zip_isEmpty hl]⟩))
/-- an expression's truth -/
theorem dt_tru (hG : X.K = G.K) (ha : PE X a (dB G B W ma)) (he : ∀ whole, isTrue a X.env whole = (do let v ← whole; standAt a.pos; holding [v] (truthy v)) := by intro _; rfl) : PT X a (dT G B W (m_tst tru ma)) := by
  refine ⟨fun pins s σ H Q I h => ?_⟩
  obtain ⟨F, ρ, E, p⟩ := h
  refine isTrue_plain (thn (ha.run pins s σ H (fun v H1 => ∃ k, TruD X.K v H1 k ∧ Q k H1) I ⟨F, ρ, E, p.bind.mono fun x ρ1 F1 H1 x1 E1 p1 v hv => ?_⟩) fun v s1 ⟨x, H1, I1, r1, q1⟩ => tru_ok2 pins s1 σ H1 x v Q I1 r1 q1) (he _)
  cases e : tru x with
  | none => rw [e] at p1; exact p1.elim
  | some b =>
    rw [e] at p1
    exact ⟨b, by rw [hG]; exact tru_at E1.sub hv e, p1 F1 H1 (Ext.refl F1) E1⟩
theorem de_ifE {c : Expr} (hc : PT X c (dT G B W t)) (ha : PE X a (dE G B W ma)) (hb : PE X b (dE G B W mb)) : PE X (.IfExp c a b pos) (dE G B W (m_ifE t ma mb)) := PE.imp (pe_ifExp hc ha hb) fun σ H Q ⟨F, ρ, E, p⟩ => ⟨F, ρ, E, p.bind.mono fun b ρ1 F1 H1 x1 E1 p1 => by
  cases b with
  | true => exact ⟨F1, ρ1, E1, p1⟩
  | false => exact ⟨F1, ρ1, E1, p1⟩⟩

/-! arguments, displays -/
variable {e : Expr} {es : List Expr} {mr : MA}
theorem da_nil : PA X [] (dA G B W m_nil) := PA.imp pa_nil fun σ H Q ⟨F, ρ, E, p⟩ => p F H (Ext.refl F) E _ .nil
theorem da_cons (ha : PE X e (dE G B W ma)) (hr : PA X es (dA G B W mr)) (hs : starEach (e :: es) X.env = (false, eval e X.env) :: starEach es X.env := by rfl) : PA X (e :: es) (dA G B W (m_cons ma mr)) :=
  PA.imp (pa_cons ha hr hs) fun σ H Q ⟨F, ρ, E, p⟩ => ⟨F, ρ, E, p.bind.mono fun x ρ1 F1 H1 x1 E1 p1 v hv => ⟨F1, ρ1, E1, p1.bind.mono fun xs ρ2 F2 H2 x2 E2 p2 vs hvs => p2 F2 H2 (Ext.refl F2) E2 _ (.cons (hv.ext x2) hvs)⟩⟩
theorem de_tup {x1} (h : PA X es (dA G B W mr)) : PE X (.Tuple es x1 pos) (dE G B W (m_tup mr)) := PE.imp (pe_tup h) fun σ H Q ⟨F, ρ, E, p⟩ => ⟨F, ρ, E, p.bind.mono fun ds ρ1 F1 H1 x1 E1 p1 vs hv => by
  by_cases hl : ds.length ≤ LINE
  · rw [if_pos hl] at p1
    refine ⟨by rw [hv.length, ← LINE_eq]; exact hl, fun q hq => ?_⟩
    have g := Grow.at (.tup vs) E1.sub hq
    exact p1 _ _ g.ext (E1.grow g) _ (.tup (.inl upd_same) (hv.ext g.ext))
  · rw [if_neg hl] at p1
    exact p1.elim⟩
theorem dn_dsp (h : PA X es (dA G B W mr)) : PE X (.List es pos) (dN G B W (m_dsp mr)) := PE.imp (pe_lst h) fun σ H Q ⟨F, ρ, E, p⟩ => ⟨F, ρ, E, p.bind.mono fun ds ρ1 F1 H1 x1 E1 p1 vs hv => by
  by_cases hl : ds.length ≤ LINE
  · rw [if_pos hl] at p1
    refine ⟨by rw [hv.length, ← LINE_eq]; exact hl, fun q hq => ?_⟩
    exact p1 F1 H1 (Ext.refl F1) E1 q vs hq hv
  · rw [if_neg hl] at p1
    exact p1.elim⟩
/-- a new list as a value -/
theorem de_lst (h : PE X e (dN G B W mr)) : PE X e (dE G B W (m_lst mr)) := PE.imp h fun σ H Q ⟨F, ρ, E, p⟩ => ⟨F, ρ, E, p.bind.mono fun ds ρ1 F1 H1 x1 E1 p1 q vs hq hv => by
  have g := Grow.at (.lst vs) E1.sub hq
  exact p1 _ _ g.ext (E1.grow g) _ (.lst upd_same (hv.ext g.ext))⟩

/-! ### statements -/
variable {st : Stmt} {sts : List Stmt} {m1 m2 : MS}
theorem ds_nil : PSs X [] (dS G B W s_nil) := PSs.imp pss_nil fun D σ H ⟨F, ρ, E, p⟩ => p F H σ (Ext.refl F) E
theorem ds_cons (h1 : PS X st (dS G B W m1)) (h2 : PSs X sts (dS G B W m2)) : PSs X (st :: sts) (dS G B W (s_seq m1 m2)) := PSs.imp (pss_cons h1 h2) fun D σ H ⟨F, ρ, E, p⟩ => by
  refine ⟨F, ρ, E, ?_⟩
  have p' : PostS G B W F (match m1 ρ with | .ok .nx ρ => m2 ρ | o => o) D := p
  cases q : m1 ρ with
  | bad => rw [q] at p'; exact p'.elim
  | err e ρ1 => rw [q] at p'; exact p'
  | ok fl ρ1 =>
    rw [q] at p'
    cases fl with
    | nx => exact fun F' H' σ' x E' => ⟨F', ρ1, E', PostS.ext x p'⟩
    | brk => exact p'
    | cont => exact p'
    | ret d => exact p'
theorem ds_one (h1 : PS X st (dS G B W m1)) : PSs X [st] (dS G B W m1) := pss_one h1
theorem ds_never : PS X st (dS G B W s_never) := PS.imp ps_never fun D σ H ⟨F, ρ, E, p⟩ => p
theorem ds_pass : PS X (.Pass pos) (dS G B W s_nil) := PS.imp ps_pass fun D σ H ⟨F, ρ, E, p⟩ => p F H σ (Ext.refl F) E
theorem ds_brk : PS X (.Break pos) (dS G B W s_brk) := PS.imp ps_break fun D σ H ⟨F, ρ, E, p⟩ => p F H σ (Ext.refl F) E
theorem ds_cont : PS X (.Continue pos) (dS G B W s_cont) := PS.imp ps_continue fun D σ H ⟨F, ρ, E, p⟩ => p F H σ (Ext.refl F) E
theorem ds_ret (h : PE X e (dE G B W ma)) : PS X (.Return (some e) pos) (dS G B W (s_ret ma)) := PS.imp (ps_ret h) fun D σ H ⟨F, ρ, E, p⟩ => ⟨F, ρ, E, (PostS.bind p).mono fun d ρ1 F1 H1 x1 E1 p1 v hv => p1 F1 H1 σ (Ext.refl F1) E1 v hv⟩
theorem ds_retN : PS X (.Return none pos) (dS G B W s_retN) := PS.imp ps_retN fun D σ H ⟨F, ρ, E, p⟩ => p F H σ (Ext.refl F) E _ .non
theorem ds_ex (h : PE X e (dE G B W ma)) (hs : swapsWith e none pos.line X.env = pure false := by rfl) : PS X (.Expr e pos) (dS G B W (s_ex ma)) := PS.imp (ps_expr h hs) fun D σ H ⟨F, ρ, E, p⟩ => ⟨F, ρ, E, (PostS.bind p).mono fun d ρ1 F1 H1 x1 E1 p1 v hv => p1 F1 H1 σ (Ext.refl F1) E1⟩
theorem ds_if {c : Expr} {sa sb : List Stmt} (hc : PT X c (dT G B W t)) (h1 : PSs X sa (dS G B W m1)) (h2 : PSs X sb (dS G B W m2)) : PS X (.If c sa sb pos) (dS G B W (s_if t m1 m2)) := PS.imp (ps_if hc h1 h2) fun D σ H ⟨F, ρ, E, p⟩ => ⟨F, ρ, E, (PostS.bind p).mono fun b ρ1 F1 H1 x1 E1 p1 => by
  cases b with
  | true => exact ⟨F1, ρ1, E1, p1⟩
  | false => exact ⟨F1, ρ1, E1, p1⟩⟩
theorem ds_set (i : Nat) {x : Str} {pos' : Pos} (h : PE X e (dE G B W ma)) (hN : X.N.Nodup) (hi : X.N[i]? = some x := by rfl) (hx : Loc X.env.scope x := by first | exact .inl rfl | exact .inr rfl) (hs : swapsWith e (some (.Name x pos')) pos.line X.env = pure false := by rfl)
    (hf : X.fn x = true ∨ X.env.scope.names.lookup x = some .local := by first | exact .inl rfl | exact .inr rfl) : PS X (.Assign [.Name x pos'] e pos) (dS G B W (s_set i ma)) :=
  PS.imp (ps_set hN hi hx h hs hf) fun D σ H ⟨F, ρ, E, p⟩ => ⟨F, ρ, E, (PostS.bind p).mono fun d ρ1 F1 H1 x1 E1 p1 v hv => p1 F1 H1 _ (Ext.refl F1) (E1.set hv)⟩
end
end AT
set_option Elab.async false
set_option linter.all false
set_option maxRecDepth 100000
set_option maxHeartbeats 2000000
/-! AT2: a def's promise, its call; loops. -/
namespace AT
open PySem PySem.Spec PyProof.Rows L2

/-! ### what a def promises -/
def argOk : OV → Bool
  | .ob _ _ => true
  | .fr _ => true
  | .ol _ => true
  | .od _ _ => true
  | .dr _ => true
  | _ => false
def B0 : Ba := ⟨fun _ => none, fun _ => False, [], none, fun _ => none⟩
theorem SlotOk.ba {G : Gam} {B B' : Ba} {F H : Hp} {o : Addr → Prop} {i j : Nat} {s : Option V} {x : OV} (ha : argOk x = true) (h : SlotOk G B F H o i s x) : SlotOk G B' F H o j s x := by
  cases x with
  | fr d => exact h
  | ol xs => exact h
  | od ks ds => exact h
  | dr st => exact h
  | ob c xs => exact h
  | _ => cases ha
theorem argOk_of {x : OV} (h : owned x = true) : argOk x = true := by
  cases x with
  | ol xs => rfl
  | od ks ds => rfl
  | dr st => rfl
  | ob c xs => rfl
  | _ => cases h
/-- the first argument may own objects: they come back as they stand behind the call -/
structure Ret (G : Gam) (F H : Hp) (o : Addr → Prop) (vs : List V) (outs : List OV) (F' H' : Hp) : Prop where
  ext : Ext F F'
  sub : Same F' H'
  frame : ∀ a u, H a = some u → ¬ o a → H' a = some u
  new : ∀ a, F' a ≠ none → F a ≠ none ∨ o a ∨ H a = none
  back : ∃ o' : Addr → Prop, (∀ a, o' a → F' a = none ∧ (∃ u, H' a = some u) ∧ (o a ∨ H a = none)) ∧ ∀ v x, vs[0]? = some v → outs[0]? = some x → owned x = true → SlotOk G B0 F' H' o' 0 (some v) x
def spOf (G : Gam) (n : Nat) (Fm : List OV → Out D) : Sp := fun vs H Q E => vs.length = n ∧ ∃ (F : Hp) (o : Addr → Prop) (args : List OV), Same F H ∧ args.length = n ∧ (∀ a, o a → F a = none ∧ ∃ u, H a = some u) ∧
  (∀ i v x, vs[i]? = some v → args[i]? = some x → argOk x = true ∧ SlotOk G B0 F H (fun a => i = 0 ∧ o a) 0 (some v) x) ∧
  match Fm args with
  | .ok d outs => ∀ F' H' v, Ret G F H o vs outs F' H' → At G F' v d → Q v H'
  | .err e outs => ∀ F' H' cls dd, Ret G F H o vs outs F' H' → ExAt G F' cls dd e → E cls dd H'
  | .bad => False
/-- a body as a function of the arguments -/
def runF (n N : Nat) (m : MS) : List OV → Out D := fun args =>
  match m (args ++ List.replicate (N - n) .un) with
  | .ok .nx ρ => .ok .non (ρ.take n)
  | .ok (.ret d) ρ => .ok d (ρ.take n)
  | .ok _ _ => .bad
  | .err e ρ => .err e (ρ.take n)
  | .bad => .bad
section
variable {P : Program} {w : World} {K : PySem.W.Frag} {mg : Str → Option Value} {base : Heap} {G : Gam}
open Classical in
/-- the state at a body's entry -/
theorem entry {N ps : List Str} {F H : Hp} {o : Addr → Prop} {vs : List V} {args : List OV} (hp : ps.length ≤ N.length) (hv : vs.length = ps.length) (hs : Same F H) (ha : args.length = ps.length) (ho : ∀ a, o a → F a = none ∧ ∃ u, H a = some u)
    (hx : ∀ i v x, vs[i]? = some v → args[i]? = some x → argOk x = true ∧ SlotOk G B0 F H (fun a => i = 0 ∧ o a) 0 (some v) x) :
    EnvOk G ⟨H, o, vs, none, F⟩ F H (L2.start N vs) (args ++ List.replicate (N.length - ps.length) .un) := by
  refine ⟨hs, fun a u h _ => h, ?_, fun a h => .inl h, fun a => if o a then some 0 else none, fun a i h => ?_, fun i s x h1 h2 => ?_⟩
  · unfold L2.start
    rw [List.length_append, List.length_append, List.length_map, List.length_replicate, List.length_replicate, hv, ha]
  · have h : (if o a then some 0 else none) = some i := h
    by_cases z : o a
    · obtain ⟨h1, h2⟩ := ho a z
      exact ⟨h1, h2, .inl z⟩
    · rw [if_neg z] at h
      cases h
  · by_cases hi : i < ps.length
    · unfold L2.start at h1
      rw [List.getElem?_append_left (by rw [List.length_map, hv]; exact hi), List.getElem?_map] at h1
      rw [List.getElem?_append_left (by rw [ha]; exact hi)] at h2
      cases q : vs[i]? with
      | none => rw [q] at h1; cases h1
      | some v =>
        rw [q] at h1
        cases h1
        obtain ⟨k1, k2⟩ := hx i v x q h2
        refine ⟨(SlotOk.ba k1 k2).own fun a e => ?_, fun _ _ => ⟨v, rfl, rfl⟩⟩
        obtain ⟨rfl, z⟩ := e
        exact if_pos z
    · rw [List.getElem?_append_right (by rw [ha]; omega)] at h2
      rw [List.getElem?_replicate] at h2
      split at h2
      · cases h2
        exact ⟨trivial, fun z => nomatch z⟩
      · cases h2
/-- behind a body -/
theorem leave {N ps : List Str} {F H F' H' : Hp} {o : Addr → Prop} {vs : List V} {σ' : L2.St} {ρ' : En} (hv : vs.length = ps.length) (x : Ext F F') (E : EnvOk G ⟨H, o, vs, none, F⟩ F' H' σ' ρ') : Ret G F H o vs (ρ'.take ps.length) F' H' := by
  obtain ⟨ow, h1, h2⟩ := E.slots
  refine ⟨x, E.sub, E.frame, E.news, fun a => ow a = some 0, fun a h => h1 a 0 h, fun v y e1 e2 e3 => ?_⟩
  have hl : 0 < vs.length := (List.getElem?_eq_some_iff.mp e1).1
  rw [List.getElem?_take_of_lt (by omega)] at e2
  have hk : 0 < σ'.length := by rw [E.len]; exact (List.getElem?_eq_some_iff.mp e2).1
  obtain ⟨k1, k2⟩ := h2 0 _ y (List.getElem?_eq_getElem hk) e2
  obtain ⟨v', ev, es⟩ := k2 e3 hl
  have e1' : vs[0]? = some v := e1
  have ev' : vs[0]? = some v' := ev
  rw [e1'] at ev'
  cases ev'
  rw [es] at k1
  exact SlotOk.ba (argOk_of e3) k1
/-- THE RULE for a def: its body's mirror -/
theorem fn_d {x qual : Str} {params : Arguments} {body : List Stmt} {scope : Scope} {dvs : List V} {kws : List (Str × V)} {f : Addr} {fd : FuncData} {N ps : List Str} {k : Nat} {m : MS}
    (F : FunD K x qual params body scope dvs kws f fd) (S : FnScope N ps scope)
    (hm : ∀ (cdv : Value) (A : Around) (outer : List Env) (s : Shared) (H : Hp) (E : XK) (B : Ba), Room k (A.deeper (envOfC qual scope s.heap.objs.size f cdv)) → B.args.length = ps.length ∧ B.exc = none →
      PSs (cxOf (L2.CX P w) P w K mg base N qual scope f cdv A outer s H E) body (dS G B (fun cls d _ H => E cls d H) m)) : FnOk P w K mg base (L2.CX P w) (k + 1) f fd ps (spOf G ps.length (runF ps.length N.length m)) := by
  have hp : ps.length ≤ N.length := by
    have e := congrArg List.length S.pre
    rw [List.length_take] at e
    omega
  refine F.ok S (fun vs H Q E h => h.1) fun cdv A outer s H vs Q E hr h => ?_
  obtain ⟨hv, F, o, args, hs, ha, ho, hx, q⟩ := h
  refine ⟨_, hm cdv A outer s H E ⟨H, o, vs, none, F⟩ hr ⟨hv, rfl⟩, F, _, entry hp hv hs ha ho hx, ?_⟩
  unfold runF at q
  cases e : m (args ++ List.replicate (N.length - ps.length) .un) with
  | bad => rw [e] at q; exact q.elim
  | err ex ρ => rw [e] at q; exact fun F' H' σ' cls dd x E' hE => q F' H' cls dd (leave (N := N) hv x E') hE
  | ok fl ρ =>
    rw [e] at q
    cases fl with
    | nx => exact fun F' H' σ' x E' => q F' H' .non (leave (N := N) hv x E') .non
    | ret d => exact fun F' H' σ' x E' v hd => q F' H' v (leave (N := N) hv x E') hd
    | brk => exact q.elim
    | cont => exact q.elim
end

/-! ### calls -/
/-- arguments known, none owned -/
def m_call (Fm : List OV → Out D) (ma : MA) : ME := fun ρ => (ma ρ).bind fun ds ρ =>
  match Fm (ds.map .fr) with
  | .ok d _ => .ok d ρ
  | .err e _ => .err e ρ
  | .bad => .bad
/-- the first argument the k-th slot, with all that it owns -/
def m_callO (Fm : List OV → Out D) (k : Nat) (ma : MA) : ME := fun ρ =>
  match ρ[k]? with
  | some x0 => if argOk x0 = true then (ma ρ).bind fun ds ρ => match ρ[k]? with
    | some x => if owned x = true then (match Fm (x :: ds.map .fr) with
      | .ok d (y :: _) => if owned y = true then .ok d (ρ.set k y) else .bad
      | .err e (y :: _) => if owned y = true then .err e (ρ.set k y) else .bad
      | _ => .bad) else .bad
    | none => .bad else .bad
  | none => .bad
section
variable {G : Gam} {B : Ba} {W : WX} {σ : L2.St} {F H : Hp} {ρ : En}
theorem Ats.args {vs : List V} {ds : List D} (h : Ats G F vs ds) (o : Addr → Prop) : ∀ (i : Nat) (v : V) (x : OV), vs[i]? = some v → (ds.map OV.fr)[i]? = some x → argOk x = true ∧ SlotOk G B0 F H o 0 (some v) x := fun i v x h1 h2 => by
  rw [List.getElem?_map] at h2
  obtain ⟨d, e1, e2⟩ := h.get' h1
  rw [e1] at h2
  cases h2
  exact ⟨rfl, v, rfl, e2⟩
/-- behind a call that owned nothing -/
theorem EnvOk.ret {F' H' : Hp} {vs : List V} {outs : List OV} (E : EnvOk G B F H σ ρ) (r : Ret G F H (fun _ => False) vs outs F' H') : EnvOk G B F' H' σ ρ :=
  E.grow ⟨r.ext, r.sub, fun a u h => r.frame a u h (fun z => z), fun a h => by
    rcases r.new a h with z | z | z
    · exact .inl z
    · exact z.elim
    · exact .inr z⟩
theorem SlotOk.keep {F' H' : Hp} {o : Addr → Prop} {i : Nat} {s : Option V} {x : OV} (x0 : Ext F F') (k : ∀ a u, o a → H a = some u → H' a = some u) (h : SlotOk G B F H o i s x) : SlotOk G B F' H' o i s x := by
  cases x with
  | un => trivial
  | fr d => obtain ⟨v, e, h⟩ := h; exact ⟨v, e, h.ext x0⟩
  | ol xs => obtain ⟨a, vs, e, ho, h1, h2⟩ := h; exact ⟨a, vs, e, ho, k _ _ ho h1, h2.ext x0⟩
  | od ks ds => obtain ⟨a, vs, e, ho, h1, h2, h3⟩ := h; exact ⟨a, vs, e, ho, k _ _ ho h1, h2, h3.ext x0⟩
  | dr st => obtain ⟨a, e, l, c, o1, o2, o3, n, h1, h2, h3⟩ := h; exact ⟨a, e, l, c, o1, o2, o3, n, k _ _ o1 h1, k _ _ o2 h2, k _ _ o3 h3⟩
  | ex e => obtain ⟨a, cls, dd, e1, e2, e3⟩ := h; exact ⟨a, cls, dd, e1, e2, e3.ext x0⟩
  | ob c xs => obtain ⟨a, dx, vs, e, ho, h1, h2⟩ := h; exact ⟨a, dx, vs, e, ho, k _ _ ho h1, h2.ext x0⟩
open Classical in
/-- behind a call that owned what the k-th slot owns -/
theorem EnvOk.retO {F' H' : Hp} {vs : List V} {outs : List OV} {k : Nat} {v0 : V} {y : OV} {ow : Addr → Option Nat} (E : EnvOk G B F H σ ρ)
    (ho : ∀ a i, ow a = some i → F a = none ∧ (∃ u, H a = some u) ∧ (B.A a ∨ B.H0 a = none))
    (hs : ∀ i s x, σ[i]? = some s → ρ[i]? = some x → SlotOk G B F H (fun a => ow a = some i) i s x ∧ (owned x = true → i < B.args.length → ∃ v, B.args[i]? = some v ∧ s = some v))
    (r : Ret G F H (fun a => ow a = some k) vs outs F' H') (hk : ∃ x, ρ[k]? = some x ∧ owned x = true) (es : σ[k]? = some (some v0)) (h0 : vs[0]? = some v0) (hy : outs[0]? = some y) (oy : owned y = true) : EnvOk G B F' H' σ (ρ.set k y) := by
  obtain ⟨o', ho', hb⟩ := r.back
  have hA : ∀ a, ow a = some k → B.A a ∨ B.H0 a = none := fun a h => (ho a k h).2.2
  have nA : ∀ a u, B.H0 a = some u → ¬ B.A a → ¬ ow a = some k := fun a u h1 h2 h3 => by
    rcases hA a h3 with z | z
    · exact h2 z
    · rw [h1] at z; cases z
  have old : ∀ a, H a = none → B.A a ∨ B.H0 a = none := fun a h => by
    by_cases z : B.A a
    · exact .inl z
    · refine .inr ?_
      cases q : B.H0 a with
      | none => rfl
      | some u => rw [E.frame a u q z] at h; cases h
  refine ⟨r.sub, fun a u h1 h2 => r.frame a u (E.frame a u h1 h2) (nA a u h1 h2), by rw [List.length_set]; exact E.len, fun a h => ?_, fun a => if o' a then some k else if ow a = some k then none else ow a, fun a i h => ?_, fun i s x h1 h2 => ?_⟩
  · rcases r.new a h with z | z | z
    · exact E.news a z
    · exact .inr (hA a z)
    · exact .inr (old a z)
  · have h : (if o' a then some k else if ow a = some k then none else ow a) = some i := h
    by_cases z : o' a
    · obtain ⟨z1, z2, z3⟩ := ho' a z
      refine ⟨z1, z2, ?_⟩
      rcases z3 with z3 | z3
      · exact hA a z3
      · exact old a z3
    · rw [if_neg z] at h
      by_cases z2 : ow a = some k
      · rw [if_pos z2] at h; cases h
      · rw [if_neg z2] at h
        obtain ⟨p1, ⟨u, p2⟩, p3⟩ := ho a i h
        refine ⟨?_, ⟨u, r.frame a u p2 z2⟩, p3⟩
        cases q : F' a with
        | none => rfl
        | some u' =>
          rcases r.new a (by rw [q]; exact fun z => nomatch z) with z | z | z
          · exact absurd p1 z
          · exact absurd z z2
          · rw [p2] at z; cases z
  · have hkl : k < ρ.length := by
      obtain ⟨x, q, _⟩ := hk
      exact (List.getElem?_eq_some_iff.mp q).1
    by_cases z : i = k
    · subst z
      rw [List.getElem?_set_self hkl] at h2
      cases h2
      rw [es] at h1
      cases h1
      refine ⟨(SlotOk.ba (argOk_of oy) (hb v0 y h0 hy oy)).own fun a e => if_pos e, fun _ hl => ?_⟩
      obtain ⟨x, q, ox⟩ := hk
      exact (hs i _ x es q).2 ox hl
    · rw [List.getElem?_set_ne (Ne.symm z)] at h2
      obtain ⟨q1, q2⟩ := hs i s x h1 h2
      refine ⟨((SlotOk.keep r.ext (fun a u e hu => r.frame a u hu fun e2 => ?_) q1)).own fun a e => ?_, q2⟩
      · have e : ow a = some i := e
        rw [e] at e2
        exact z (Option.some.inj e2)
      · have e : ow a = some i := e
        have n2 : ¬ ow a = some k := fun e2 => z (Option.some.inj (e.symm.trans e2))
        have n1 : ¬ o' a := fun h => by
          obtain ⟨_, ⟨u, p2⟩, p3⟩ := ho' a h
          rcases p3 with p3 | p3
          · exact n2 p3
          · obtain ⟨_, ⟨u', p4⟩, _⟩ := ho a i e
            rw [p4] at p3; cases p3
        show (if o' a then some k else if ow a = some k then none else ow a) = some i
        rw [if_neg n1, if_neg n2]
        exact e
/-- a call's promise, from the arguments -/
theorem sp_pure {Fm : List OV → Out D} {n : Nat} {vs : List V} {ds : List D} {Q : VK} (E : EnvOk G B F H σ ρ) (ha : Ats G F vs ds) (hn : ds.length = n)
    (p : Post G B W σ F (match Fm (ds.map .fr) with | .ok d _ => .ok d ρ | .err e _ => .err e ρ | .bad => .bad) (fun d _ F' H' => ∀ v, At G F' v d → Q v H')) : spOf G n Fm vs H Q (fun cls d H => W cls d σ H) := by
  refine ⟨ha.length.trans hn, F, fun _ => False, ds.map .fr, E.sub, by rw [List.length_map]; exact hn, fun _ z => z.elim, fun i v x h1 h2 => ha.args _ i v x h1 h2, ?_⟩
  · cases e : Fm (ds.map .fr) with
    | bad => rw [e] at p; exact p.elim
    | ok d outs => rw [e] at p; exact fun F' H' v r hv => p F' H' r.ext (E.ret r) v hv
    | err ex outs => rw [e] at p; exact fun F' H' cls dd r hx => p F' H' cls dd r.ext (E.ret r) hx
end
section
variable {X : Cx} {G : Gam} {B : Ba} {W : WX} {Fm : List OV → Out D} {k : Nat} {f : Addr} {fd : FuncData} {ps : List Str} {x : Str} {p pos : Pos} {e : Expr} {es : List Expr} {ma : MA} {n : Nat}
def lenOk (n : Nat) (ma : MA) : MA := fun ρ => (ma ρ).bind fun ds ρ => if ds.length = n then .ok ds ρ else .bad
/-- f(..), no argument owned -/
theorem tCall_d {σ : L2.St} {H : Hp} {Q : VK} (h : dE G B W (m_call Fm (lenOk n ma)) σ H Q) : (dA G B W ma) σ H fun vs H1 => spOf G n Fm (vs ++ []) H1 Q (fun cls d H => W cls d σ H) := by
  obtain ⟨F, ρ, E, q⟩ := h
  have q' : Post G B W σ F ((ma ρ).bind fun ds ρ => if ds.length = n then (match Fm (ds.map .fr) with | .ok d _ => .ok d ρ | .err e _ => .err e ρ | .bad => .bad) else .bad) (fun d _ F' H' => ∀ v, At G F' v d → Q v H') := by
    unfold m_call lenOk at q
    cases z : ma ρ with
    | bad => rw [z] at q; exact q
    | err e ρ' => rw [z] at q; exact q
    | ok ds ρ' =>
      rw [z] at q
      show Post G B W σ F (if ds.length = n then _ else _) _
      have q2 : Post G B W σ F ((if ds.length = n then Out.ok ds ρ' else .bad).bind fun ds ρ => match Fm (ds.map .fr) with | .ok d _ => .ok d ρ | .err e _ => .err e ρ | .bad => .bad) (fun d _ F' H' => ∀ v, At G F' v d → Q v H') := q
      by_cases hl : ds.length = n
      · rw [if_pos hl] at q2 ⊢; exact q2
      · rw [if_neg hl] at q2 ⊢; exact q2
  refine ⟨F, ρ, E, q'.bind.mono fun ds ρ1 F1 H1 x1 E1 p1 vs hv => ?_⟩
  show spOf G n Fm (vs ++ []) H1 Q _
  rw [List.append_nil]
  by_cases hl : ds.length = n
  · rw [if_pos hl] at p1
    exact sp_pure E1 hv hl p1
  · rw [if_neg hl] at p1
    exact p1.elim
theorem de_call (FO : FnOk X.prog X.w X.K X.mg X.base (L2.CX X.prog X.w) k f fd ps (spOf G n Fm)) (hr : Room k X.A) (hm : X.mg x = some (.ref f)) (hk : PySem.W.keepIn X.K (.ref f) = true) (hb : Binds X.K fd ps []) (tk : Takes X W)
    (ha : PA X (e :: es) (dA G B W ma)) (hg : Gl X x := by rfl) (hdb : (x == ("__debug__" : Str)) = false := by decide) (he : starEach (e :: es) X.env = (false, eval e X.env) :: starEach es X.env := by rfl) (hpl : (backTo pos (starEach es X.env)).any (·.1) = false := by rfl) :
    PE X (.Call (.Name x p) (e :: es) [] pos) (dE G B W (m_call Fm (lenOk n ma))) := PE.imp (pe_callSD FO hr hg hm hk hb .nil (fun σ => passAt tk σ) ha hdb he hpl) fun _ _ _ h => tCall_d h
/-- arguments of which the first is the k-th slot, owned -/
theorem tCallO_d {σ : L2.St} {H : Hp} {Q : VK} {j : Nat} (h : dE G B W (m_callO Fm j (lenOk n ma)) σ H Q) : (tCons (tVar j) (dA G B W ma)) σ H fun vs H1 => spOf G (n + 1) Fm (vs ++ []) H1 Q (WE W σ) := by
  obtain ⟨F, ρ, E, q⟩ := h
  unfold m_callO at q
  cases z0 : ρ[j]? with
  | none => rw [z0] at q; exact q.elim
  | some x0 =>
    rw [z0] at q
    have q : Post G B W σ F (if argOk x0 = true then _ else _) _ := q
    by_cases a0 : argOk x0 = true
    · rw [if_pos a0] at q
      have hv0 : ∃ v0, σ[j]? = some (some v0) := by
        obtain ⟨s, es, o, hs⟩ := E.get z0
        cases x0 with
        | fr d => obtain ⟨v, e, _⟩ := hs; exact ⟨v, by rw [es, e]⟩
        | ol xs => obtain ⟨a, _, e, _⟩ := hs; exact ⟨_, by rw [es, e]⟩
        | od ks xs => obtain ⟨a, _, e, _⟩ := hs; exact ⟨_, by rw [es, e]⟩
        | dr st => obtain ⟨a, e, _⟩ := hs; exact ⟨_, by rw [es, e]⟩
        | ob c xs => obtain ⟨a, _, _, e, _⟩ := hs; exact ⟨_, by rw [es, e]⟩
        | _ => cases a0
      obtain ⟨v0, es⟩ := hv0
      refine ⟨v0, es, F, ρ, E, ?_⟩
      refine Post.mono (Post.bind (Post.bind q)) fun ds ρ1 F1 H1 x1 E1 p1 vs hv => ?_
      show spOf G (n + 1) Fm ((v0 :: vs) ++ []) H1 Q (WE W σ)
      rw [List.append_nil]
      by_cases hl : ds.length = n
      · rw [if_pos hl] at p1
        have p2 := p1 F1 H1 (Ext.refl F1) E1
        cases z1 : ρ1[j]? with
        | none => simp only [z1] at p2; exact p2.elim
        | some x =>
          simp only [z1] at p2
          by_cases ox : owned x = true
          · rw [if_pos ox] at p2
            obtain ⟨ow, ho, hs⟩ := E1.slots
            have hx := (hs j _ x es z1).1
            refine ⟨by rw [List.length_cons, hv.length, hl], F1, fun a => ow a = some j, x :: ds.map .fr, E1.sub, by rw [List.length_cons, List.length_map, hl], fun a h => ⟨(ho a j h).1, (ho a j h).2.1⟩, fun i v y h1 h2 => ?_, ?_⟩
            · cases i with
              | zero =>
                have h1 : some v0 = some v := h1
                have h2 : some x = some y := h2
                cases h1
                cases h2
                exact ⟨argOk_of ox, (SlotOk.ba (argOk_of ox) hx).own fun a e => ⟨rfl, e⟩⟩
              | succ i => exact hv.args _ i v y (by simpa using h1) (by simpa using h2)
            · cases e : Fm (x :: ds.map .fr) with
              | bad => rw [e] at p2; exact p2.elim
              | ok d outs =>
                rw [e] at p2
                cases outs with
                | nil => exact p2.elim
                | cons y r =>
                  simp only at p2
                  by_cases oy : owned y = true
                  · rw [if_pos oy] at p2
                    exact fun F' H' v r hv => p2 F' H' r.ext (E1.retO ho hs r ⟨x, z1, ox⟩ es rfl rfl oy) v hv
                  · rw [if_neg oy] at p2; exact p2.elim
              | err ex outs =>
                rw [e] at p2
                cases outs with
                | nil => exact p2.elim
                | cons y r =>
                  simp only at p2
                  by_cases oy : owned y = true
                  · rw [if_pos oy] at p2
                    exact fun F' H' cls dd r hx => p2 F' H' cls dd r.ext (E1.retO ho hs r ⟨x, z1, ox⟩ es rfl rfl oy) hx
                  · rw [if_neg oy] at p2; exact p2.elim
          · rw [if_neg ox] at p2; exact p2.elim
      · rw [if_neg hl] at p1; exact p1.elim
    · rw [if_neg a0] at q; exact q.elim
theorem de_callO (j : Nat) {y : Str} {py : Pos} (FO : FnOk X.prog X.w X.K X.mg X.base (L2.CX X.prog X.w) k f fd ps (spOf G (n + 1) Fm)) (hr : Room k X.A) (hm : X.mg x = some (.ref f)) (hk : PySem.W.keepIn X.K (.ref f) = true) (hb : Binds X.K fd ps []) (tk : Takes X W)
    (ha : PA X es (dA G B W ma)) (hN : X.N[j]? = some y := by rfl) (hv : Vis X.env.scope y := by first | exact Or.inl rfl | exact Or.inr (Or.inl rfl) | exact Or.inr (Or.inr rfl)) (hd : (y == ("__debug__" : Str)) = false := by decide)
    (hcd : (y == ("__classdict__" : Str)) = false := by decide) (hg : Gl X x := by rfl) (hdb : (x == ("__debug__" : Str)) = false := by decide) (he : starEach (.Name y py :: es) X.env = (false, eval (.Name y py) X.env) :: starEach es X.env := by rfl)
    (hpl : (backTo pos (starEach es X.env)).any (·.1) = false := by rfl) :
    PE X (.Call (.Name x p) (.Name y py :: es) [] pos) (dE G B W (m_callO Fm j (lenOk n ma))) := PE.imp (pe_callSD FO hr hg hm hk hb .nil (fun σ => passAt tk σ) (pa_cons (pe_var hN hv hd hcd) ha he) hdb he hpl) fun _ _ _ h => tCallO_d h
end

/-! ### loops -/
/-- what a loop walks, item by item -/
def Walks (G : Gam) (J : It) (F0 : Hp) (ds : List D) : Prop := ∀ i F H, Ext F0 F → Same F H →
  (∀ d, ds[i]? = some d → J.go i H ∧ ∀ v H2, J.yld i H v H2 → ∃ F2, Grow F H F2 H2 ∧ At G F2 v d) ∧ (ds.length ≤ i → J.stop i H)
def dI (G : Gam) (B : Ba) (W : WX) (mi : MA) : TI := fun σ H R => ∃ F ρ, EnvOk G B F H σ ρ ∧ Post G B W σ F (mi ρ) (fun ds _ F' H' => ∀ J, Walks G J F' ds → R J H')
/-- a target: it takes a value, or can't -/
abbrev MG := D → En → Option En
/-- but at ks nothing has changed -/
def Off (ks : List Nat) (σ σ' : L2.St) : Prop := σ'.length = σ.length ∧ ∀ j, j ∉ ks → σ'[j]? = σ[j]?
theorem Off.refl {ks : List Nat} {σ : L2.St} : Off ks σ σ := ⟨rfl, fun _ _ => rfl⟩
theorem Off.trans {ks ls : List Nat} {σ σ1 σ2 : L2.St} (a : Off ks σ σ1) (b : Off ls σ1 σ2) : Off (ks ++ ls) σ σ2 :=
  ⟨b.1.trans a.1, fun j h => (b.2 j fun z => h (List.mem_append_right _ z)).trans (a.2 j fun z => h (List.mem_append_left _ z))⟩
def dG (G : Gam) (B : Ba) (ks : List Nat) (g : MG) : TG := fun v σ H Q => ∃ F ρ d ρ', EnvOk G B F H σ ρ ∧ At G F v d ∧ g d ρ = some ρ' ∧ ∀ F' H' σ', Ext F F' → Off ks σ σ' → EnvOk G B F' H' σ' ρ' → Q σ' H'
abbrev MGs := List D → En → Option En
def dGs (G : Gam) (B : Ba) (ks : List Nat) (g : MGs) : TGs := fun vs σ H Q => ∃ F ρ ds ρ', EnvOk G B F H σ ρ ∧ Ats G F vs ds ∧ g ds ρ = some ρ' ∧ ∀ F' H' σ', Ext F F' → Off ks σ σ' → EnvOk G B F' H' σ' ρ' → Q σ' H'
def g_name (i : Nat) : MG := fun d ρ => some (ρ.set i (.fr d))
def g_nil : MGs := fun ds ρ => if ds.isEmpty then some ρ else none
def g_cons (g : MG) (r : MGs) : MGs := fun ds ρ =>
  match ds with
  | d :: ds => (g d ρ).bind fun ρ => r ds ρ
  | [] => none
def g_tup (n : Nat) (r : MGs) : MG := fun d ρ =>
  match d with
  | .tup ds => if ds.length = n then r ds ρ else none
  | _ => none
def forF (g : MG) (body : MS) : List D → En → Out Fl
  | [], ρ => .ok .nx ρ
  | d :: ds, ρ => match g d ρ with
    | none => .bad
    | some ρ => match body ρ with
      | .ok .nx ρ => forF g body ds ρ
      | .ok .cont ρ => forF g body ds ρ
      | .ok .brk ρ => .ok .nx ρ
      | .ok (.ret d) ρ => .ok (.ret d) ρ
      | .err e ρ => .err e ρ
      | .bad => .bad
def s_for (mi : MA) (g : MG) (body : MS) : MS := fun ρ => (mi ρ).bind fun ds ρ => forF g body ds ρ
/-- at most n turns -/
def whileF (c : MT) (body : MS) : Nat → En → Out Fl
  | 0, _ => .bad
  | n + 1, ρ => match c ρ with
    | .bad => .bad
    | .err e ρ => .err e ρ
    | .ok false ρ => .ok .nx ρ
    | .ok true ρ => match body ρ with
      | .ok .nx ρ => whileF c body n ρ
      | .ok .cont ρ => whileF c body n ρ
      | .ok .brk ρ => .ok .nx ρ
      | .ok (.ret d) ρ => .ok (.ret d) ρ
      | .err e ρ => .err e ρ
      | .bad => .bad
section
variable {X : Cx} {G : Gam} {B : Ba} {W : WX} {tg : Expr} {g : MG} {gs : MGs} {pos : Pos}
theorem PG.imp {X : Cx} {e : Expr} {t t' : TG} (h : PG X e t) (hi : ∀ v σ H Q, t' v σ H Q → t v σ H Q) : PG X e t' := ⟨fun pins s σ H v u Q I r w => h.run pins s σ H v u Q I r (hi v σ H Q w)⟩
theorem PGs.imp {X : Cx} {e : List Expr} {t t' : TGs} (h : PGs X e t) (hi : ∀ v σ H Q, t' v σ H Q → t v σ H Q) : PGs X e t' := ⟨fun pins s σ H v u Q I r w => h.run pins s σ H v u Q I r (hi v σ H Q w)⟩
theorem PI.imp {X : Cx} {tg e : Expr} {t t' : TI} (h : PI X tg e t) (hi : ∀ σ H Q, t' σ H Q → t σ H Q) : PI X tg e t' := ⟨fun pins s σ H R I w => h.run pins s σ H R I (hi σ H R w)⟩
theorem dg_name (i : Nat) {x : Str} {p : Pos} (hN : X.N.Nodup) (hi : X.N[i]? = some x := by rfl) (hx : Loc X.env.scope x := by first | exact .inl rfl | exact .inr rfl)
    (hf : X.fn x = true ∨ X.env.scope.names.lookup x = some .local := by first | exact .inl rfl | exact .inr rfl) : PG X (.Name x p) (dG G B [i] (g_name i)) :=
  PG.imp (pg_name hN hi hx hf) fun v σ H Q ⟨F, ρ, d, ρ', E, hv, e, q⟩ => by
    cases e
    exact q F H _ (Ext.refl F) ⟨List.length_set, fun j h => List.getElem?_set_ne fun z => h (by rw [z]; exact List.mem_cons_self)⟩ (E.set hv)
theorem dgs_nil : PGs X [] (dGs G B [] g_nil) := PGs.imp pgs_nil fun vs σ H Q ⟨F, ρ, ds, ρ', E, hv, e, q⟩ => by
  cases hv with
  | nil =>
    cases e
    exact ⟨rfl, q F H σ (Ext.refl F) Off.refl E⟩
  | cons _ _ => cases e
theorem dgs_cons {e : Expr} {es : List Expr} {ks ls : List Nat} (h1 : PG X e (dG G B ks g)) (h2 : PGs X es (dGs G B ls gs)) (hs : (assignEach (e :: es) X.env).map (·.2) = assign e X.env :: (assignEach es X.env).map (·.2) := by rfl) : PGs X (e :: es) (dGs G B (ks ++ ls) (g_cons g gs)) :=
  PGs.imp (pgs_cons h1 h2 hs) (by
    rintro vs0 σ H Q ⟨F, ρ, ds0, ρ', E, hv, e, q⟩
    cases hv with
    | nil => cases e
    | @cons v vs d ds hd hr =>
      have e : (g d ρ).bind (fun ρ => gs ds ρ) = some ρ' := e
      obtain ⟨ρ1, e1, e2⟩ := Option.bind_eq_some_iff.mp e
      exact ⟨v, vs, rfl, F, ρ, d, ρ1, E, hd, e1, fun F1 H1 σ1 x1 o1 E1 => ⟨F1, ρ1, ds, ρ', E1, hr.ext x1, e2, fun F2 H2 σ2 x2 o2 E2 => q F2 H2 σ2 (x1.trans x2) (o1.trans o2) E2⟩⟩)
theorem dg_tup {es : List Expr} {ks : List Nat} {k n : Nat} (hG : X.K = G.K) (hc : X.calm = true) (h : PGs X es (dGs G B ks gs)) (hn : (assignEach es X.env).length = n := by rfl) (hst : (assignEach es X.env).findIdx? (·.1) = none := by rfl) : PG X (.Tuple es k pos) (dG G B ks (g_tup n gs)) :=
  PG.imp (pg_tup hc h hn hst) (by
    rintro v0 σ H Q ⟨F, ρ, d0, ρ', E, hv, e, q⟩
    cases hv with
    | @tup a vs ds h1 h2 =>
      have e : (if ds.length = n then gs ds ρ else none) = some ρ' := e
      by_cases hl : ds.length = n
      · rw [if_pos hl] at e
        exact ⟨a, vs, rfl, by rw [hG]; exact h1.sq E.sub, h2.length.trans hl, F, ρ, ds, ρ', E, h2, e, q⟩
      · rw [if_neg hl] at e; cases e
    | _ => cases e)
theorem ds_for {ks : List Nat} {iter : Expr} {body : List Stmt} {mi : MA} {m : MS} (hp : PassesOwn (model X.prog X.w) X.A X.env X.xe) (hc : X.calm = true) (hi : PI X tg iter (dI G B W mi)) (hg : PG X tg (dG G B ks g)) (hb : PSs X body (dS G B W m))
    (hs : ∀ x, foldedSetIterable iter X.env x = pure x := by intro _; rfl) : PS X (.For tg iter body [] pos) (dS G B W (s_for mi g m)) := PS.imp (ps_for hp hc hi hg hb hs) fun D σ H ⟨F, ρ, E, p⟩ => by
  refine ⟨F, ρ, E, (PostS.bind p).mono fun ds ρ1 F1 H1 x1 E1 p1 J hJ => ?_⟩
  refine ⟨fun i n σ H => n + i = ds.length ∧ ∃ F ρ, Ext F1 F ∧ EnvOk G B F H σ ρ ∧ PostS G B W F (forF g m (ds.drop i) ρ) D, ⟨ds.length, by omega, F1, ρ1, Ext.refl F1, E1, p1⟩, ?_⟩
  rintro i n σ2 H2 ⟨hn, F2, ρ2, x2, E2, p2⟩
  obtain ⟨w1, w2⟩ := hJ i F2 H2 x2 E2.sub
  by_cases hi : i < ds.length
  · refine .inr ?_
    have hd : ds.drop i = ds[i] :: ds.drop (i + 1) := List.drop_eq_getElem_cons hi
    obtain ⟨go, yl⟩ := w1 ds[i] (List.getElem?_eq_getElem hi)
    rw [hd] at p2
    unfold forF at p2
    refine ⟨go, fun σ' H' => ∃ F ρ, Ext F1 F ∧ EnvOk G B F H' σ' ρ ∧ PostS G B W F (forF g m (ds.drop (i + 1)) ρ) D, fun σ' H' h => ⟨n - 1, by omega, by omega, h⟩, fun v H3 hy => ?_⟩
    obtain ⟨F3, gr, hv⟩ := yl v H3 hy
    cases eg : g ds[i] ρ2 with
    | none => simp only [eg] at p2; exact p2.elim
    | some ρ3 =>
      simp only [eg] at p2
      refine ⟨F3, ρ2, ds[i], ρ3, E2.grow gr, hv, eg, fun F4 H4 σ4 x4 _ E4 => ⟨F4, ρ3, E4, ?_⟩⟩
      cases em : m ρ3 with
      | bad => simp only [em] at p2; exact p2.elim
      | err ex ρ5 => simp only [em] at p2; exact PostS.ext (gr.ext.trans x4) p2
      | ok fl ρ5 =>
        simp only [em] at p2
        cases fl with
        | nx => exact fun F6 H6 σ6 x6 E6 => ⟨F6, ρ5, ((x2.trans gr.ext).trans x4).trans x6, E6, PostS.ext ((gr.ext.trans x4).trans x6) p2⟩
        | cont => exact fun F6 H6 σ6 x6 E6 => ⟨F6, ρ5, ((x2.trans gr.ext).trans x4).trans x6, E6, PostS.ext ((gr.ext.trans x4).trans x6) p2⟩
        | brk => exact fun F6 H6 σ6 x6 E6 => p2 F6 H6 σ6 ((gr.ext.trans x4).trans x6) E6
        | ret d => exact fun F6 H6 σ6 x6 E6 => p2 F6 H6 σ6 ((gr.ext.trans x4).trans x6) E6
  · have hl : ds.length ≤ i := by omega
    rw [List.drop_eq_nil_of_le hl] at p2
    exact .inl ⟨w2 hl, p2 F2 H2 σ2 (Ext.refl F2) E2⟩
theorem ds_while {c : Expr} {body : List Stmt} {mc : MT} {m : MS} (n : Nat) (hp : PassesOwn (model X.prog X.w) X.A X.env X.xe) (hc : PT X c (dT G B W mc)) (hb : PSs X body (dS G B W m)) : PS X (.While c body [] pos) (dS G B W (whileF mc m n)) := PS.imp (ps_while hp hc hb) fun D σ H ⟨F, ρ, E, p⟩ => by
  refine ⟨fun n σ H => ∃ F ρ, EnvOk G B F H σ ρ ∧ PostS G B W F (whileF mc m n ρ) D, ⟨n, F, ρ, E, p⟩, ?_⟩
  rintro n σ1 H1 ⟨F1, ρ1, E1, p1⟩
  cases n with
  | zero => exact p1.elim
  | succ n =>
    unfold whileF at p1
    refine ⟨F1, ρ1, E1, ?_⟩
    cases ec : mc ρ1 with
    | bad => simp only [ec] at p1; exact p1.elim
    | err ex ρ2 => simp only [ec] at p1; exact fun F' H' cls dd x E => p1 F' H' σ1 cls dd x E
    | ok b ρ2 =>
      simp only [ec] at p1
      cases b with
      | false => exact fun F' H' x E => p1 F' H' σ1 x E
      | true =>
        refine fun F2 H2 x2 E2 => ⟨fun σ' H' => ∃ F ρ, EnvOk G B F H' σ' ρ ∧ PostS G B W F (whileF mc m n ρ) D, fun σ' H' h => ⟨n, Nat.lt_succ_self n, h⟩, F2, ρ2, E2, ?_⟩
        simp only at p1
        cases em : m ρ2 with
        | bad => simp only [em] at p1; exact p1.elim
        | err ex ρ3 => simp only [em] at p1; exact PostS.ext x2 p1
        | ok fl ρ3 =>
          simp only [em] at p1
          cases fl with
          | nx => exact fun F4 H4 σ4 x4 E4 => ⟨F4, ρ3, E4, PostS.ext (x2.trans x4) p1⟩
          | cont => exact fun F4 H4 σ4 x4 E4 => ⟨F4, ρ3, E4, PostS.ext (x2.trans x4) p1⟩
          | brk => exact fun F4 H4 σ4 x4 E4 => p1 F4 H4 σ4 (x2.trans x4) E4
          | ret d => exact fun F4 H4 σ4 x4 E4 => p1 F4 H4 σ4 (x2.trans x4) E4
end
end AT
set_option Elab.async false
set_option linter.all false
set_option maxRecDepth 100000
set_option maxHeartbeats 2000000
/-! AT3: comprehensions; what is walked. -/
namespace AT
open PySem PySem.Spec PyProof.Rows L2

/-! ### slots set aside -/
def wipeE (ρ : En) : List Nat → En
  | [] => ρ
  | i :: r => (wipeE ρ r).set i .un
def plainAt (ρ : En) (i : Nat) : Bool :=
  match ρ[i]? with
  | some .un => true
  | some (.fr _) => true
  | _ => false
/-- the slots vs as they stand in ρ0 -/
def restE (ρ ρ0 : En) : List Nat → En
  | [] => ρ
  | i :: r => match ρ0[i]? with
    | some x => (restE ρ ρ0 r).set i x
    | none => restE ρ ρ0 r
theorem wipeE_length (ρ : En) : ∀ vs : List Nat, (wipeE ρ vs).length = ρ.length
  | [] => rfl
  | i :: r => by
    show ((wipeE ρ r).set i .un).length = _
    rw [List.length_set, wipeE_length ρ r]
theorem restE_length (ρ ρ0 : En) : ∀ vs : List Nat, (restE ρ ρ0 vs).length = ρ.length
  | [] => rfl
  | i :: r => by
    unfold restE
    split
    · rw [List.length_set, restE_length ρ ρ0 r]
    · exact restE_length ρ ρ0 r
theorem wipe_at (σ : L2.St) (j : Nat) : ∀ vs : List Nat, (wipe σ vs)[j]? = if j ∈ vs then σ[j]?.map (fun _ => none) else σ[j]?
  | [] => by simp [wipe]
  | i :: r => by
    show ((wipe σ r).set i none)[j]? = _
    rw [List.getElem?_set]
    have ih := wipe_at σ j r
    by_cases e : i = j
    · subst e
      rw [if_pos rfl, if_pos (List.mem_cons_self), wipe_length]
      by_cases hl : i < σ.length
      · rw [if_pos hl, List.getElem?_eq_getElem hl] <;> rfl
      · rw [if_neg hl, List.getElem?_eq_none (by omega)] <;> rfl
    · rw [if_neg e, ih]
      by_cases hj : j ∈ r
      · rw [if_pos hj, if_pos (List.mem_cons_of_mem _ hj)]
      · rw [if_neg hj, if_neg (fun h => (List.mem_cons.mp h).elim (fun z => e z.symm) hj)]
theorem wipeE_at (ρ : En) (j : Nat) : ∀ vs : List Nat, (wipeE ρ vs)[j]? = if j ∈ vs then ρ[j]?.map (fun _ => .un) else ρ[j]?
  | [] => by simp [wipeE]
  | i :: r => by
    show ((wipeE ρ r).set i .un)[j]? = _
    rw [List.getElem?_set]
    have ih := wipeE_at ρ j r
    by_cases e : i = j
    · subst e
      rw [if_pos rfl, if_pos (List.mem_cons_self), wipeE_length]
      by_cases hl : i < ρ.length
      · rw [if_pos hl, List.getElem?_eq_getElem hl] <;> rfl
      · rw [if_neg hl, List.getElem?_eq_none (by omega)] <;> rfl
    · rw [if_neg e, ih]
      by_cases hj : j ∈ r
      · rw [if_pos hj, if_pos (List.mem_cons_of_mem _ hj)]
      · rw [if_neg hj, if_neg (fun h => (List.mem_cons.mp h).elim (fun z => e z.symm) hj)]
theorem restE_at (ρ ρ0 : En) (hl : ρ.length = ρ0.length) (j : Nat) : ∀ vs : List Nat, (restE ρ ρ0 vs)[j]? = if j ∈ vs then ρ0[j]? else ρ[j]?
  | [] => by simp [restE]
  | i :: r => by
    unfold restE
    have ih := restE_at ρ ρ0 hl j r
    cases q : ρ0[i]? with
    | none =>
      simp only
      rw [ih]
      by_cases e : j = i
      · subst e
        have h1 : ρ[j]? = none := List.getElem?_eq_none (by rw [hl]; exact List.getElem?_eq_none_iff.mp q)
        rw [if_pos (List.mem_cons_self), q, h1]
        split <;> rfl
      · by_cases hj : j ∈ r
        · rw [if_pos hj, if_pos (List.mem_cons_of_mem _ hj)]
        · rw [if_neg hj, if_neg (fun h => (List.mem_cons.mp h).elim e hj)]
    | some x =>
      simp only
      rw [List.getElem?_set, restE_length]
      by_cases e : i = j
      · subst e
        have hi := (List.getElem?_eq_some_iff.mp q).1
        rw [if_pos rfl, if_pos (List.mem_cons_self), if_pos (by rw [hl]; exact hi), q]
      · rw [if_neg e, ih]
        by_cases hj : j ∈ r
        · rw [if_pos hj, if_pos (List.mem_cons_of_mem _ hj)]
        · rw [if_neg hj, if_neg (fun h => (List.mem_cons.mp h).elim (fun z => e z.symm) hj)]
section
variable {G : Gam} {B : Ba} {F H F' H' : Hp} {σ : L2.St} {ρ ρ' : En}
theorem EnvOk.wipe (E : EnvOk G B F H σ ρ) (vs : List Nat) : EnvOk G B F H (L2.wipe σ vs) (wipeE ρ vs) := by
  obtain ⟨o, ho, hs⟩ := E.slots
  refine ⟨E.sub, E.frame, by rw [wipe_length, wipeE_length]; exact E.len, E.news, o, ho, fun i s x h1 h2 => ?_⟩
  rw [wipe_at] at h1
  rw [wipeE_at] at h2
  by_cases hi : i ∈ vs
  · rw [if_pos hi] at h1 h2
    cases q : ρ[i]? with
    | none => rw [q] at h2; cases h2
    | some y =>
      rw [q] at h2
      cases h2
      exact ⟨trivial, fun z => nomatch z⟩
  · rw [if_neg hi] at h1 h2
    exact hs i s x h1 h2
theorem EnvOk.rest {vs : List Nat} (E : EnvOk G B F H σ ρ) (E' : EnvOk G B F' H' (L2.wipe σ vs) ρ') (x : Ext F F') (hp : vs.all (plainAt ρ) = true) : EnvOk G B F' H' σ (restE ρ' ρ vs) := by
  obtain ⟨o, ho, hs⟩ := E'.slots
  obtain ⟨o0, _, hs0⟩ := E.slots
  have hl : ρ'.length = ρ.length := by rw [← E'.len, wipe_length, E.len]
  refine ⟨E'.sub, E'.frame, by rw [restE_length, hl]; exact E.len, E'.news, o, ho, fun i s y h1 h2 => ?_⟩
  rw [restE_at _ _ hl] at h2
  by_cases hi : i ∈ vs
  · rw [if_pos hi] at h2
    have hpi := List.all_eq_true.mp hp i hi
    unfold plainAt at hpi
    rw [h2] at hpi
    obtain ⟨k1, k2⟩ := hs0 i s y h1 h2
    cases y with
    | un => exact ⟨trivial, fun z => nomatch z⟩
    | fr d =>
      obtain ⟨v, e, hv⟩ := k1
      exact ⟨⟨v, e, hv.ext x⟩, fun z => nomatch z⟩
    | _ => cases hpi
  · rw [if_neg hi] at h2
    exact hs i s y (by rw [wipe_at, if_neg hi]; exact h1) h2
/-- a base of one's own, from here on -/
theorem EnvOk.base (E : EnvOk G B F H σ ρ) : ∃ A : Addr → Prop, EnvOk G ⟨H, A, B.args, B.exc, F⟩ F H σ ρ ∧ (∀ a, A a → F a = none ∧ (∃ u, H a = some u)) ∧
    ∀ F' H' σ' ρ', EnvOk G ⟨H, A, B.args, B.exc, F⟩ F' H' σ' ρ' → EnvOk G B F' H' σ' ρ' := by
  obtain ⟨o, ho, hs⟩ := E.slots
  have old : ∀ a, H a = none → B.A a ∨ B.H0 a = none := fun a h => by
    by_cases z : B.A a
    · exact .inl z
    · refine .inr ?_
      cases q : B.H0 a with
      | none => rfl
      | some u => rw [E.frame a u q z] at h; cases h
  have hA : ∀ a, (∃ i, o a = some i) → B.A a ∨ B.H0 a = none := fun a ⟨i, h⟩ => (ho a i h).2.2
  refine ⟨fun a => ∃ i, o a = some i, ⟨E.sub, fun a u h _ => h, E.len, fun a h => .inl h, o, fun a i h => ⟨(ho a i h).1, (ho a i h).2.1, .inl ⟨i, h⟩⟩, fun i s x h1 h2 => ?_⟩, fun a ⟨i, h⟩ => ⟨(ho a i h).1, (ho a i h).2.1⟩, fun F' H' σ' ρ' E' => ?_⟩
  · obtain ⟨k1, k2⟩ := hs i s x h1 h2
    refine ⟨?_, k2⟩
    cases x with
    | ex e => exact k1
    | un => exact k1
    | fr d => exact k1
    | ol xs => exact k1
    | od ks ds => exact k1
    | dr st => exact k1
    | ob c xs => exact k1
  · obtain ⟨o', ho', hs'⟩ := E'.slots
    refine ⟨E'.sub, fun a u h1 h2 => E'.frame a u (E.frame a u h1 h2) fun z => ?_, E'.len, fun a h => ?_, o', fun a i h => ⟨(ho' a i h).1, (ho' a i h).2.1, ?_⟩, fun i s x h1 h2 => ?_⟩
    · rcases hA a z with q | q
      · exact h2 q
      · rw [h1] at q; cases q
    · rcases E'.news a h with z | z | z
      · exact E.news a z
      · exact .inr (hA a z)
      · exact .inr (old a z)
    · rcases (ho' a i h).2.2 with z | z
      · exact hA a z
      · exact old a z
    · obtain ⟨k1, k2⟩ := hs' i s x h1 h2
      refine ⟨?_, k2⟩
      cases x with
      | ex e => exact k1
      | un => exact k1
      | fr d => exact k1
      | ol xs => exact k1
      | od ks ds => exact k1
      | dr st => exact k1
      | ob c xs => exact k1
end
def less (H : Hp) (D : Addr) : Hp := fun a => if a = D then none else H a
theorem less_ne {H : Hp} {D a : Addr} (h : a ≠ D) : less H D a = H a := by unfold less; exact if_neg h
theorem less_self {H : Hp} {D : Addr} : less H D D = none := by unfold less; exact if_pos rfl
theorem less_upd {H : Hp} {D : Addr} {u : HO} (h : H D = none) : less (upd H D u) D = H := by
  funext a
  by_cases z : a = D
  · subst z; rw [less_self, h]
  · rw [less_ne z, upd_ne z]
theorem upd_less {H : Hp} {D : Addr} {u : HO} (h : H D = some u) : upd (less H D) D u = H := by
  funext a
  by_cases z : a = D
  · subst z; rw [upd_same, h]
  · rw [upd_ne z, less_ne z]
theorem less_upd_same {H : Hp} {D : Addr} {u : HO} : less (upd H D u) D = less H D := by
  funext a
  by_cases z : a = D
  · subst z; rw [less_self, less_self]
  · rw [less_ne z, less_ne z, upd_ne z]
section
variable {G : Gam} {B : Ba} {F H F' H' : Hp} {σ σ' : L2.St} {ρ ρ' : En}
/-- beside an object D of which nothing knows: in and out -/
theorem EnvOk.into {D : Addr} {u0 : HO} (E : EnvOk G B F (less H D) σ ρ) (h0 : H D = some u0) : ∃ A : Addr → Prop, EnvOk G ⟨H, A, B.args, B.exc, F⟩ F H σ ρ ∧
    ∀ F' H' σ' ρ', EnvOk G ⟨H, A, B.args, B.exc, F⟩ F' H' σ' ρ' → EnvOk G B F' (less H' D) σ' ρ' ∧ H' D = some u0 := by
  obtain ⟨o, ho, hs⟩ := E.slots
  have old : ∀ a, less H D a = none → B.A a ∨ B.H0 a = none := fun a h => by
    by_cases z : B.A a
    · exact .inl z
    · refine .inr ?_
      cases q : B.H0 a with
      | none => rfl
      | some u => rw [E.frame a u q z] at h; cases h
  have hA : ∀ a, (∃ i, o a = some i) → B.A a ∨ B.H0 a = none := fun a ⟨i, h⟩ => (ho a i h).2.2
  have nD : ∀ a u, less H D a = some u → a ≠ D := fun a u h z => by rw [z, less_self] at h; cases h
  have oD : ∀ i, o D ≠ some i := fun i h => by
    obtain ⟨_, ⟨u, h2⟩, _⟩ := ho D i h
    exact nD D u h2 rfl
  have fD : F D = none := by
    cases q : F D with
    | none => rfl
    | some u => exact (nD D u (E.sub D u q) rfl).elim
  refine ⟨fun a => ∃ i, o a = some i, ⟨fun a u h => ?_, fun a u h _ => h, E.len, fun a h => .inl h, o, fun a i h => ?_, fun i s x h1 h2 => ?_⟩, fun F' H' σ' ρ' E' => ?_⟩
  · have h' := E.sub a u h
    rw [less_ne (nD a u h')] at h'
    exact h'
  · obtain ⟨p1, ⟨u, p2⟩, _⟩ := ho a i h
    refine ⟨p1, ⟨u, ?_⟩, .inl ⟨i, h⟩⟩
    rw [less_ne (nD a u p2)] at p2
    exact p2
  · obtain ⟨k1, k2⟩ := hs i s x h1 h2
    refine ⟨?_, k2⟩
    have k1 := SlotOk.keep (H' := H) (Ext.refl F) (fun a u _ h => by
      rw [less_ne (nD a u h)] at h
      exact h) k1
    cases x with
    | ex e => exact k1
    | un => exact k1
    | fr d => exact k1
    | ol xs => exact k1
    | od ks ds => exact k1
    | dr st => exact k1
    | ob c xs => exact k1
  · obtain ⟨o', ho', hs'⟩ := E'.slots
    have keepD : H' D = some u0 := E'.frame D u0 h0 fun ⟨i, z⟩ => oD i z
    have fD' : F' D = none := by
      cases q : F' D with
      | none => rfl
      | some u =>
        rcases E'.news D (by rw [q]; exact fun z => nomatch z) with z | z | z
        · exact (z fD).elim
        · obtain ⟨i, z⟩ := z; exact (oD i z).elim
        · exact absurd (h0.symm.trans z) fun z => nomatch z
    have oD' : ∀ i, o' D ≠ some i := fun i z => by
      rcases (ho' D i z).2.2 with z | z
      · obtain ⟨i, z⟩ := z; exact oD i z
      · exact absurd (h0.symm.trans z) fun z => nomatch z
    have old' : ∀ a, H a = none → B.A a ∨ B.H0 a = none := fun a h => old a (by
      by_cases z : a = D
      · rw [z]; exact less_self
      · rw [less_ne z]; exact h)
    refine ⟨⟨fun a u h => ?_, fun a u h1 h2 => ?_, E'.len, fun a h => ?_, o', fun a i h => ?_, fun i s x h1 h2 => ?_⟩, keepD⟩
    · have z : a ≠ D := fun z => by rw [z, fD'] at h; cases h
      rw [less_ne z]
      exact E'.sub a u h
    · have h3 := E.frame a u h1 h2
      have z := nD a u h3
      rw [less_ne z] at h3 ⊢
      exact E'.frame a u h3 fun z => by
        rcases hA a z with q | q
        · exact h2 q
        · rw [h1] at q; cases q
    · rcases E'.news a h with z | z | z
      · exact E.news a z
      · exact .inr (hA a z)
      · exact .inr (old' a z)
    · obtain ⟨p1, ⟨u, p2⟩, p3⟩ := ho' a i h
      have z : a ≠ D := fun z => by rw [z] at h; exact oD' i h
      refine ⟨p1, ⟨u, by rw [less_ne z]; exact p2⟩, ?_⟩
      rcases p3 with z | z
      · exact hA a z
      · exact old' a z
    · obtain ⟨k1, k2⟩ := hs' i s x h1 h2
      refine ⟨?_, k2⟩
      have k1 := SlotOk.keep (H' := less H' D) (Ext.refl F') (fun a u h hu => by
        have z : a ≠ D := fun z => by rw [z] at h; exact oD' i h
        rw [less_ne z]
        exact hu) k1
      cases x with
      | ex e => exact k1
      | un => exact k1
      | fr d => exact k1
      | ol xs => exact k1
      | od ks ds => exact k1
      | dr st => exact k1
      | ob c xs => exact k1
end

/-! ### comprehensions -/
def lcF (vs : List Nat) (g : MG) (tt : MT) (me : ME) : List D → En → Out (List D)
  | [], ρ => .ok [] ρ
  | d :: ds, ρ => match g d ρ with
    | none => .bad
    | some ρ => match tt ρ with
      | .ok true ρ => match me ρ with
        | .ok x ρ => match lcF vs g tt me ds (wipeE ρ vs) with
          | .ok xs ρ => .ok (x :: xs) ρ
          | _ => .bad
        | _ => .bad
      | .ok false ρ => lcF vs g tt me ds (wipeE ρ vs)
      | _ => .bad
/-- [elt for g in mi if tt], its own names in the slots vs -/
def m_lc (vs : List Nat) (mi : MA) (g : MG) (tt : MT) (me : ME) : MA := fun ρ => (mi ρ).bind fun ds ρ0 =>
  if vs.all (plainAt ρ0) = true then
    if ds.length ≤ LINE then match lcF vs g tt me ds (wipeE ρ0 vs) with
      | .ok xs ρ => .ok xs (restE ρ ρ0 vs)
      | _ => .bad
    else .bad
  else .bad
def m_yes : MT := fun ρ => .ok true ρ
def W0 : WX := fun _ _ _ _ => False
theorem Off.wipe {ks vs : List Nat} {σ σ' : L2.St} (h : Off ks σ σ') (hk : ∀ j ∈ ks, j ∈ vs) : L2.wipe σ' vs = L2.wipe σ vs := by
  apply List.ext_getElem?
  intro j
  rw [wipe_at, wipe_at]
  by_cases hj : j ∈ vs
  · rw [if_pos hj, if_pos hj]
    by_cases hl : j < σ.length
    · rw [List.getElem?_eq_getElem hl, List.getElem?_eq_getElem (by rw [h.1]; exact hl)] <;> rfl
    · have h1 := h.1; rw [List.getElem?_eq_none (l := σ') (by omega), List.getElem?_eq_none (l := σ) (by omega)]
  · rw [if_neg hj, if_neg hj]
    exact h.2 j fun z => hj (hk j z)
theorem wipe_wipe (σ : L2.St) (vs : List Nat) : L2.wipe (L2.wipe σ vs) vs = L2.wipe σ vs := by
  apply List.ext_getElem?
  intro j
  rw [wipe_at, wipe_at]
  by_cases hj : j ∈ vs
  · rw [if_pos hj, if_pos hj, Option.map_map]; rfl
  · rw [if_neg hj, if_neg hj]
section
variable {G : Gam} {W : WX}
/-- the reading of a comprehension, from the readings of its parts at any base -/
theorem tLc_d {B : Ba} {vs ks : List Nat} {mi : MA} {g : MG} {tt : MT} {me : ME} {wi : TI} {tg : TG} {t2 : TT} {te : TE} (hk : ∀ j ∈ ks, j ∈ vs) (hi : ∀ σ H R, dI G B W mi σ H R → wi σ H R)
    (hg : ∀ B', B'.args.length = B.args.length → ∀ v σ H Q, dG G B' ks g v σ H Q → tg v σ H Q) (ht : ∀ B', B'.args.length = B.args.length → ∀ σ H Q, dT G B' W0 tt σ H Q → t2 σ H Q) (he : ∀ B', B'.args.length = B.args.length → ∀ σ H Q, dE G B' W0 me σ H Q → te σ H Q)
    {σ : L2.St} {H : Hp} {Q : VK} (h : dN G B W (m_lc vs mi g tt me) σ H Q) : tLc wi tg t2 te vs σ H Q := by
  obtain ⟨F, ρ, E, p⟩ := h
  refine hi σ H _ ⟨F, ρ, E, Post.mono (Post.bind p) fun ds ρ0 F1 H1 x1 E1 p1 J hJ C hC => ?_⟩
  have hp : vs.all (plainAt ρ0) = true := Decidable.byContradiction fun z => by rw [if_neg z] at p1; exact p1
  rw [if_pos hp] at p1
  have hl : ds.length ≤ LINE := Decidable.byContradiction fun z => by rw [if_neg z] at p1; exact p1
  rw [if_pos hl] at p1
  cases ec : lcF vs g tt me ds (wipeE ρ0 vs) with
  | bad => rw [ec] at p1; exact p1.elim
  | err e r => rw [ec] at p1; exact p1.elim
  | ok all ρE =>
    rw [ec] at p1
    refine ⟨fun i m H => m + i = ds.length ∧ ∃ acc da dr F ρ, H C = some (.lst acc) ∧ Ats G F acc da ∧ acc.length ≤ i ∧ Ext F1 F ∧ EnvOk G B F (less H C) (L2.wipe σ vs) ρ ∧ lcF vs g tt me (ds.drop i) ρ = .ok dr ρE ∧ da ++ dr = all,
      ⟨ds.length, rfl, [], [], all, F1, _, upd_same, .nil, Nat.le_refl _, Ext.refl F1, (by
        show EnvOk G B F1 (less (upd H1 C (.lst [])) C) _ _
        rw [less_upd hC]
        exact E1.wipe vs), ec, rfl⟩, ?_⟩
    rintro i m H2 ⟨hm, acc, da, dr, F2, ρ2, hD, hA, hlen, x2, E2, el, ea⟩
    obtain ⟨A, E3, out⟩ := E2.into hD
    obtain ⟨w1, w2⟩ := hJ i F2 H2 x2 E3.sub
    by_cases hi' : i < ds.length
    · refine .inr ?_
      have hd : ds.drop i = ds[i] :: ds.drop (i + 1) := List.drop_eq_getElem_cons hi'
      obtain ⟨go, yl⟩ := w1 ds[i] (List.getElem?_eq_getElem hi')
      rw [hd] at el
      unfold lcF at el
      refine ⟨go, fun H' => ∃ acc da dr F ρ, H' C = some (.lst acc) ∧ Ats G F acc da ∧ acc.length ≤ i + 1 ∧ Ext F1 F ∧ EnvOk G B F (less H' C) (L2.wipe σ vs) ρ ∧ lcF vs g tt me (ds.drop (i + 1)) ρ = .ok dr ρE ∧ da ++ dr = all,
        fun H' h => ⟨m - 1, by omega, by omega, h⟩, fun v H3 hy => ?_⟩
      obtain ⟨F3, gr, hv⟩ := yl v H3 hy
      cases eg : g ds[i] ρ2 with
      | none => rw [eg] at el; cases el
      | some ρ3 =>
        simp only [eg] at el
        refine hg ⟨H2, A, B.args, B.exc, F2⟩ rfl v _ H3 _ ⟨F3, ρ2, ds[i], ρ3, E3.grow gr, hv, eg, fun F4 H4 σ4 x4 o4 E4 => ?_⟩
        have hw : L2.wipe σ4 vs = L2.wipe σ vs := (o4.wipe hk).trans (wipe_wipe σ vs)
        refine ⟨hw, ht ⟨H2, A, B.args, B.exc, F2⟩ rfl _ _ _ ⟨F4, ρ3, E4, ?_⟩⟩
        cases et : tt ρ3 with
        | bad => simp only [et] at el; cases el
        | err e r => simp only [et] at el; cases el
        | ok b ρ5 =>
          simp only [et] at el
          refine fun F5 H5 x5 E5 => ?_
          cases b with
          | false =>
            rw [if_neg (fun z => nomatch z)]
            obtain ⟨E6, hD6⟩ := out F5 H5 σ4 ρ5 E5
            have x6 : Ext F2 F5 := (gr.ext.trans x4).trans x5
            refine ⟨acc, da, dr, F5, _, hD6, hA.ext x6, by omega, x2.trans x6, ?_, el, ea⟩
            rw [← hw]
            exact E6.wipe vs
          | true =>
            rw [if_pos rfl]
            refine he ⟨H2, A, B.args, B.exc, F2⟩ rfl _ _ _ ⟨F5, ρ5, E5, ?_⟩
            cases em : me ρ5 with
            | bad => simp only [em] at el; cases el
            | err e r => simp only [em] at el; cases el
            | ok y ρ6 =>
              simp only [em] at el
              refine fun F6 H6 x6 E6 vy hy => ?_
              obtain ⟨E7, hD7⟩ := out F6 H6 σ4 ρ6 E6
              have x7 : Ext F2 F6 := ((gr.ext.trans x4).trans x5).trans x6
              cases er : lcF vs g tt me (ds.drop (i + 1)) (wipeE ρ6 vs) with
              | bad => simp only [er] at el; cases el
              | err e r => simp only [er] at el; cases el
              | ok xs ρ8 =>
                simp only [er] at el
                cases el
                refine ⟨acc, hD7, ?_, acc ++ [vy], da ++ [y], xs, F6, wipeE ρ6 vs, upd_same, (hA.ext x7).append (.cons hy .nil), by rw [List.length_append]; simp; omega, x2.trans x7, ?_, er, by rw [List.append_assoc]; exact ea⟩
                · rw [← LINE_eq]; omega
                · rw [less_upd_same, ← hw]
                  exact E7.wipe vs
    · have hle : ds.length ≤ i := by omega
      rw [List.drop_eq_nil_of_le hle] at el
      cases el
      rw [List.append_nil] at ea
      subst ea
      refine .inl ⟨w2 hle, ?_⟩
      have E4 := EnvOk.rest E1 E2 x2 hp
      have q := p1 F2 _ x2 E4 C acc less_self hA
      rw [upd_less hD] at q
      exact q
end
end AT
set_option Elab.async false
set_option linter.all false
set_option maxRecDepth 100000
set_option maxHeartbeats 2000000
/-! AT4: new objects in slots; lists that change. -/
namespace AT
open PySem PySem.Spec PyProof.Rows L2
theorem PTs.imp {X : Cx} {e : List Expr} {t t' : TT} (h : PTs X e t) (hi : ∀ σ H Q, t' σ H Q → t σ H Q) : PTs X e t' := ⟨fun pins s σ H Q I w => h.run pins s σ H Q I (hi σ H Q w)⟩
section
variable {G : Gam} {B : Ba} {F H F' H' : Hp} {σ σ' : L2.St} {ρ ρ' : En}
/-- a slot takes objects that are new -/
theorem EnvOk.setNew {n : Addr → Prop} {i : Nat} {v : V} {x : OV} (E : EnvOk G B F H σ ρ) (hs' : Same H H') (hn : ∀ a, n a → H a = none ∧ ∃ u, H' a = some u) (sl : SlotOk G B F H' n i (some v) x) (hi : B.args.length ≤ i) :
    EnvOk G B F H' (σ.set i (some v)) (ρ.set i x) := by
  classical
  obtain ⟨o, ho, hs⟩ := E.slots
  have old : ∀ a, H a = none → B.A a ∨ B.H0 a = none := fun a h => by
    by_cases z : B.A a
    · exact .inl z
    · refine .inr ?_
      cases q : B.H0 a with
      | none => rfl
      | some u => rw [E.frame a u q z] at h; cases h
  have ne : ∀ a j, o a = some j → ¬ n a := fun a j h z => by
    obtain ⟨_, ⟨u, h2⟩, _⟩ := ho a j h
    rw [(hn a z).1] at h2; cases h2
  refine ⟨fun a u h => hs' a u (E.sub a u h), fun a u h1 h2 => hs' a u (E.frame a u h1 h2), by rw [List.length_set, List.length_set]; exact E.len, E.news,
    fun a => if n a then some i else if o a = some i then none else o a, fun a j h => ?_, fun j s y h1 h2 => ?_⟩
  · have h : (if n a then some i else if o a = some i then none else o a) = some j := h
    by_cases z : n a
    · refine ⟨?_, (hn a z).2, old a (hn a z).1⟩
      cases q : F a with
      | none => rfl
      | some u =>
        have h2 := E.sub a u q
        rw [(hn a z).1] at h2; cases h2
    · rw [if_neg z] at h
      by_cases z2 : o a = some i
      · rw [if_pos z2] at h; cases h
      · rw [if_neg z2] at h
        obtain ⟨p1, ⟨u, p2⟩, p3⟩ := ho a j h
        exact ⟨p1, ⟨u, hs' a u p2⟩, p3⟩
  · by_cases z : j = i
    · subst z
      have hj : j < σ.length := by
        have := (List.getElem?_eq_some_iff.mp h1).1
        rwa [List.length_set] at this
      rw [List.getElem?_set_self hj] at h1
      rw [List.getElem?_set_self (by rw [← E.len]; exact hj)] at h2
      cases h1
      cases h2
      exact ⟨sl.own fun a e => if_pos e, fun _ hl => absurd hl (by omega)⟩
    · rw [List.getElem?_set_ne (Ne.symm z)] at h1 h2
      obtain ⟨k1, k2⟩ := hs j s y h1 h2
      refine ⟨(SlotOk.keep (Ext.refl F) (fun a u _ h => hs' a u h) k1).own fun a e => ?_, k2⟩
      have e : o a = some j := e
      show (if n a then some i else if o a = some i then none else o a) = some j
      rw [if_neg (ne a j e), if_neg (fun q => z (Option.some.inj (e.symm.trans q)))]
      exact e
theorem Same.upd' {H : Hp} {p : Addr} {u : HO} (h : H p = none) : Same H (upd H p u) := fun a o e => by rw [upd_ne (ne_of_none e h)]; exact e
theorem EnvOk.setL {i : Nat} {p : Addr} {vs : List V} {xs : List D} (E : EnvOk G B F H σ ρ) (hp : H p = none) (h : Ats G F vs xs) (hi : B.args.length ≤ i) : EnvOk G B F (upd H p (.lst vs)) (σ.set i (some (.ref p))) (ρ.set i (.ol xs)) :=
  E.setNew (n := fun a => a = p) (Same.upd' hp) (fun a e => by subst e; exact ⟨hp, _, upd_same⟩) ⟨p, vs, rfl, rfl, upd_same, h⟩ hi
theorem EnvOk.setD {i : Nat} {p : Addr} {ks : List Key} {vs : List V} {xs : List D} (E : EnvOk G B F H σ ρ) (hp : H p = none) (hl : ks.length = vs.length) (h : Ats G F vs xs) (hi : B.args.length ≤ i) : EnvOk G B F (upd H p (.dK (ks.zip vs))) (σ.set i (some (.ref p))) (ρ.set i (.od ks xs)) :=
  E.setNew (n := fun a => a = p) (Same.upd' hp) (fun a e => by subst e; exact ⟨hp, _, upd_same⟩) ⟨p, vs, rfl, rfl, upd_same, hl, h⟩ hi
/-- an object that a slot owns changes -/
theorem EnvOk.change {k : Nat} {a : Addr} {u : HO} {x y : OV} {s : Option V} {o : Addr → Option Nat} (E : EnvOk G B F H σ ρ) (ho : ∀ a i, o a = some i → F a = none ∧ (∃ u, H a = some u) ∧ (B.A a ∨ B.H0 a = none))
    (hs : ∀ i s x, σ[i]? = some s → ρ[i]? = some x → SlotOk G B F H (fun a => o a = some i) i s x ∧ (owned x = true → i < B.args.length → ∃ v, B.args[i]? = some v ∧ s = some v))
    (ek : ρ[k]? = some x) (es : σ[k]? = some s) (ox : owned x = true) (oa : o a = some k) (sl : SlotOk G B F (upd H a u) (fun b => o b = some k) k s y) : EnvOk G B F (upd H a u) σ (ρ.set k y) := by
  have hF := (ho a k oa).1
  have hk : k < ρ.length := (List.getElem?_eq_some_iff.mp ek).1
  refine ⟨fun b w h => by rw [upd_ne (ne_of_none h hF)]; exact E.sub b w h, fun b w h1 h2 => ?_, by rw [List.length_set]; exact E.len, E.news, o, fun b i h => ?_, fun i s' z h1 h2 => ?_⟩
  · have z : b ≠ a := fun z => by
      subst z
      rcases (ho b k oa).2.2 with q | q
      · exact h2 q
      · rw [h1] at q; cases q
    rw [upd_ne z]
    exact E.frame b w h1 h2
  · obtain ⟨p1, ⟨w, p2⟩, p3⟩ := ho b i h
    refine ⟨p1, ?_, p3⟩
    by_cases z : b = a
    · subst z; exact ⟨_, upd_same⟩
    · exact ⟨w, by rw [upd_ne z]; exact p2⟩
  · by_cases z : i = k
    · subst z
      rw [List.getElem?_set_self hk] at h2
      cases h2
      rw [es] at h1
      cases h1
      exact ⟨sl, fun _ hl => (hs i _ x es ek).2 ox hl⟩
    · rw [List.getElem?_set_ne (Ne.symm z)] at h2
      obtain ⟨k1, k2⟩ := hs i s' _ h1 h2
      refine ⟨SlotOk.keep (Ext.refl F) (fun b w hb h => ?_) k1, k2⟩
      have hb : o b = some i := hb
      rw [upd_ne (fun e => by rw [e, oa] at hb; exact z (Option.some.inj hb).symm)]
      exact h
theorem EnvOk.olst {k : Nat} {xs : List D} (E : EnvOk G B F H σ ρ) (h : ρ[k]? = some (.ol xs)) : ∃ a vs, σ[k]? = some (some (.ref a)) ∧ H a = some (.lst vs) ∧ Ats G F vs xs ∧ ∀ vs' xs', Ats G F vs' xs' → EnvOk G B F (upd H a (.lst vs')) σ (ρ.set k (.ol xs')) := by
  obtain ⟨o, ho, hs⟩ := E.slots
  have hk : k < σ.length := by rw [E.len]; exact (List.getElem?_eq_some_iff.mp h).1
  have es := List.getElem?_eq_getElem hk
  obtain ⟨⟨a, vs, e, oa, h1, h2⟩, _⟩ := hs k _ _ es h
  have es' : σ[k]? = some (some (.ref a)) := by rw [es, e]
  exact ⟨a, vs, es', h1, h2, fun vs' xs' h' => E.change ho hs h es' rfl oa ⟨a, vs', rfl, oa, upd_same, h'⟩⟩
theorem EnvOk.odct {k : Nat} {ks : List Key} {xs : List D} (E : EnvOk G B F H σ ρ) (h : ρ[k]? = some (.od ks xs)) : ∃ a vs, σ[k]? = some (some (.ref a)) ∧ H a = some (.dK (ks.zip vs)) ∧ ks.length = vs.length ∧ Ats G F vs xs ∧
    ∀ ks' vs' xs', ks'.length = vs'.length → Ats G F vs' xs' → EnvOk G B F (upd H a (.dK (ks'.zip vs'))) σ (ρ.set k (.od ks' xs')) := by
  obtain ⟨o, ho, hs⟩ := E.slots
  have hk : k < σ.length := by rw [E.len]; exact (List.getElem?_eq_some_iff.mp h).1
  have es := List.getElem?_eq_getElem hk
  obtain ⟨⟨a, vs, e, oa, h1, hl, h2⟩, _⟩ := hs k _ _ es h
  have es' : σ[k]? = some (some (.ref a)) := by rw [es, e]
  exact ⟨a, vs, es', h1, hl, h2, fun ks' vs' xs' hl' h' => E.change ho hs h es' rfl oa ⟨a, vs', rfl, oa, upd_same, hl', h'⟩⟩
end

/-! ### mirrors -/
/-- a name takes a new list -/
def s_setO (i : Nat) (ma : MA) : MS := fun ρ => (ma ρ).bind fun xs ρ => .ok .nx (ρ.set i (.ol xs))
/-- the k-th slot's own list changes: f with the value of m, what is there; it gives what is left and what comes out -/
def m_mut1 (f : List D → List D → Option (List D × D)) (k : Nat) (ma : MA) : ME := fun ρ =>
  match ρ[k]? with
  | some (.ol _) => (ma ρ).bind fun ys ρ => match ρ[k]? with
    | some (.ol xs) => match f xs ys with
      | some (xs', d) => .ok d (ρ.set k (.ol xs'))
      | none => .bad
    | _ => .bad
  | _ => .bad
def m_lstB (ma : ME) : MA := fun ρ => (ma ρ).bind fun x ρ => match x with
  | .lst xs => .ok xs ρ
  | _ => .bad

section
variable {X : Cx} {G : Gam} {B : Ba} {W : WX} {a b e : Expr} {es : List Expr} {ma mb : ME} {mr : MA} {pos : Pos}
theorem ds_setO (i : Nat) {x : Str} {pos' : Pos} (hB : B.args.length ≤ i) (h : PE X e (dN G B W mr)) (hN : X.N.Nodup) (hi : X.N[i]? = some x := by rfl) (hx : Loc X.env.scope x := by first | exact .inl rfl | exact .inr rfl) (hs : swapsWith e (some (.Name x pos')) pos.line X.env = pure false := by rfl)
    (hf : X.fn x = true ∨ X.env.scope.names.lookup x = some .local := by first | exact .inl rfl | exact .inr rfl) : PS X (.Assign [.Name x pos'] e pos) (dS G B W (s_setO i mr)) :=
  PS.imp (ps_set hN hi hx h hs hf) fun D σ H ⟨F, ρ, E, p⟩ => ⟨F, ρ, E, (PostS.bind p).mono fun xs ρ1 F1 H1 x1 E1 p1 q vs hq hv => p1 F1 _ _ (Ext.refl F1) (E1.setL hq hv hB)⟩
/-! comprehensions -/
variable {elt tg iter : Expr} {ifs : List Expr} {scope : Scope} {own : List (Str × Nat)} {ks : List Nat} {mi : MA} {g : MG} {tt : MT} {me : ME}
theorem pts_yes : PTs X [] (dT G B W m_yes) := PTs.imp pts_nil fun σ H Q ⟨F, ρ, E, p⟩ => p F H (Ext.refl F) E
theorem pts_t {c : Expr} {t : MT} (h : PT X c (dT G B W t)) : PTs X [c] (dT G B W t) := pts_one h
/-- the readings of a comprehension's parts, at any base -/
structure LcB (X : Cx) (G : Gam) (n : Nat) (scope : Scope) (tg : Expr) (ifs : List Expr) (elt : Expr) (ks : List Nat) (g : MG) (tt : MT) (me : ME) : Prop where
  hg : ∀ (s : Shared) (H : Hp) (C : Addr) (cl : List (Str × Addr)) (fp : List Addr) (B : Ba), B.args.length = n → PG (X.blk s H scope (compEnvC scope cl C X.env) fp) tg (dG G B ks g)
  ht : ∀ (s : Shared) (H : Hp) (C : Addr) (cl : List (Str × Addr)) (fp : List Addr) (B : Ba), B.args.length = n → PTs (X.blk s H scope (compEnvC scope cl C X.env) fp) ifs (dT G B W0 tt)
  he : ∀ (s : Shared) (H : Hp) (C : Addr) (cl : List (Str × Addr)) (fp : List Addr) (B : Ba), B.args.length = n → PE (X.blk s H scope (compEnvC scope cl C X.env) fp) elt (dE G B W0 me)
def uG (G : Gam) (n : Nat) (ks : List Nat) (g : MG) : TG := fun v σ H Q => ∃ B : Ba, B.args.length = n ∧ dG G B ks g v σ H Q
def uT (G : Gam) (n : Nat) (tt : MT) : TT := fun σ H Q => ∃ B : Ba, B.args.length = n ∧ dT G B W0 tt σ H Q
def uE (G : Gam) (n : Nat) (me : ME) : TE := fun σ H Q => ∃ B : Ba, B.args.length = n ∧ dE G B W0 me σ H Q
theorem dn_lc (hc : X.calm = true) (hN : X.N.Nodup) (ok : BlkOk X.N X.env.scope scope own) (hk : ∀ j ∈ ks, j ∈ own.map (·.2)) (hi : PI X tg iter (dI G B W mi)) (L : LcB X G B.args.length scope tg ifs elt ks g tt me)
    (hs : ∀ x, foldedSetIterable iter X.env x = pure x := by intro _; rfl) : PE X (.ListComp elt [⟨tg, iter, ifs, 0⟩] scope pos) (dN G B W (m_lc (own.map (·.2)) mi g tt me)) :=
  PE.imp (pe_lc (g := uG G B.args.length ks g) (tt := uT G B.args.length tt) (te := uE G B.args.length me) hc hN hi ok
    (fun s H C cl fp => ⟨fun pins s' σ H' v u Q I r ⟨B', hb, w⟩ => (L.hg s H C cl fp B' hb).run pins s' σ H' v u Q I r w⟩)
    (fun s H C cl fp => ⟨fun pins s' σ H' Q I ⟨B', hb, w⟩ => (L.ht s H C cl fp B' hb).run pins s' σ H' Q I w⟩)
    (fun s H C cl fp => ⟨fun pins s' σ H' Q I ⟨B', hb, w⟩ => (L.he s H C cl fp B' hb).run pins s' σ H' Q I w⟩) hs)
    fun σ H Q h => tLc_d hk (fun _ _ _ w => w) (fun B' hb v σ H Q w => ⟨B', hb, w⟩) (fun B' hb σ H Q w => ⟨B', hb, w⟩) (fun B' hb σ H Q w => ⟨B', hb, w⟩) h
/-- name = [..] on one line -/
theorem ds_setLc (i : Nat) {x : Str} {px spos : Pos} (hB : B.args.length ≤ i) (hc : X.calm = true) (hN : X.N.Nodup) (hsw : swapsWith (.ListComp elt [⟨tg, iter, ifs, 0⟩] scope pos) (some (.Name x px)) spos.line X.env = pure true) (ok : BlkOk X.N X.env.scope scope own) (hk : ∀ j ∈ ks, j ∈ own.map (·.2))
    (hi : PI X tg iter (dI G B W mi)) (L : LcB X G B.args.length scope tg ifs elt ks g tt me) (hy : X.N[i]? = some x := by rfl) (hyl : X.env.scope.names.lookup x = some .local := by rfl)
    (hs : ∀ x, foldedSetIterable iter X.env x = pure x := by intro _; rfl) : PS X (.Assign [.Name x px] (.ListComp elt [⟨tg, iter, ifs, 0⟩] scope pos) spos) (dS G B W (s_setO i (m_lc (own.map (·.2)) mi g tt me))) :=
  PS.imp (ps_setLc (g := uG G B.args.length ks g) (tt := uT G B.args.length tt) (te := uE G B.args.length me) hc hN hy hyl hsw hi ok
    (fun s H C cl fp => ⟨fun pins s' σ H' v u Q I r ⟨B', hb, w⟩ => (L.hg s H C cl fp B' hb).run pins s' σ H' v u Q I r w⟩)
    (fun s H C cl fp => ⟨fun pins s' σ H' Q I ⟨B', hb, w⟩ => (L.ht s H C cl fp B' hb).run pins s' σ H' Q I w⟩)
    (fun s H C cl fp => ⟨fun pins s' σ H' Q I ⟨B', hb, w⟩ => (L.he s H C cl fp B' hb).run pins s' σ H' Q I w⟩) hs)
    fun D σ H ⟨F, ρ, E, p⟩ => tLc_d (B := B) (W := W) hk (fun _ _ _ w => w) (fun B' hb v σ H Q w => ⟨B', hb, w⟩) (fun B' hb σ H Q w => ⟨B', hb, w⟩) (fun B' hb σ H Q w => ⟨B', hb, w⟩)
      ⟨F, ρ, E, (PostS.bind p).mono fun xs ρ1 F1 H1 x1 E1 p1 q vs hq hv => p1 F1 _ _ (Ext.refl F1) (E1.setL hq hv hB)⟩

/-! ### two names at once -/
def s_par (i j : Nat) (ma : MA) : MS := fun ρ => (ma ρ).bind fun ds ρ => match ds with
  | [x, y] => .ok .nx ((ρ.set i (.fr x)).set j (.fr y))
  | _ => .bad
theorem ds_par (i j : Nat) {x y : Str} {px py pt : Pos} {kt k2 pt2} (hc : X.calm = true) (hN : X.N.Nodup) (ha : PA X [a, b] (dA G B W mr)) (hij : i ≠ j := by decide) (hi : X.N[i]? = some x := by rfl) (hj : X.N[j]? = some y := by rfl)
    (hx : X.env.scope.names.lookup x = some .local := by rfl) (hy : X.env.scope.names.lookup y = some .local := by rfl)
    (hw : swappedStores [.Tuple [.Name x px, .Name y py] kt pt] (.Tuple [a, b] k2 pt2) X.env = pure (some [x, y]) := by rfl)
    (hs : swapsWithSole [.Tuple [.Name x px, .Name y py] kt pt] (.Tuple [a, b] k2 pt2) pos.line X.env = pure false := by rfl) :
    PS X (.Assign [.Tuple [.Name x px, .Name y py] kt pt] (.Tuple [a, b] k2 pt2) pos) (dS G B W (s_par i j mr)) :=
  PS.imp (ps_par hc hN hi hj hij hx hy ha hw hs) fun D σ H ⟨F, ρ, E, p⟩ => ⟨F, ρ, E, (PostS.bind p).mono fun ds ρ1 F1 H1 x1 E1 p1 vs hv => by
    cases hv with
    | nil => exact p1.elim
    | cons h1 hv =>
      cases hv with
      | nil => exact p1.elim
      | cons h2 hv =>
        cases hv with
        | cons _ _ => exact p1.elim
        | nil => exact ⟨_, _, rfl, p1 F1 H1 _ (Ext.refl F1) ((E1.set h1).set h2)⟩⟩

/-! ### lists that change -/
/-- a list's method by values, as a function: what is left, what comes out -/
def MutD (G : Gam) (r : V → List V → Hp → VK → Prop) (f : List D → List D → Option (List D × D)) : Prop := ∀ (F H : Hp) (a : Addr) (vs ws : List V) (xs ys xs' : List D) (d : D) (Q : VK), Same F H → H a = some (.lst vs) → F a = none → Ats G F vs xs → Ats G F ws ys → f xs ys = some (xs', d) →
  (∀ v vs', Ats G F vs' xs' → At G F v d → Q v (upd H a (.lst vs'))) → r (.ref a) ws H Q
theorem EnvOk.olstF {G : Gam} {B : Ba} {F H : Hp} {σ : L2.St} {ρ : En} {k : Nat} {xs : List D} {a : Addr} (E : EnvOk G B F H σ ρ) (h : ρ[k]? = some (.ol xs)) (es : σ[k]? = some (some (.ref a))) : F a = none := by
  obtain ⟨o, ho, hs⟩ := E.slots
  obtain ⟨⟨b, vs, e, oa, h1, h2⟩, _⟩ := hs k _ _ es h
  cases e
  exact (ho a k oa).1
theorem tMut_d {T : String} {r : V → List V → Hp → VK → Prop} {f : List D → List D → Option (List D × D)} {k : Nat} (hT : T = "list") (hf : MutD G r f) {σ : L2.St} {H : Hp} {Q : VK} (h : dE G B W (m_mut1 f k mr) σ H Q) : tBM X.K T r (tVar k) (dA G B W mr) σ H Q := by
  obtain ⟨F, ρ, E, p⟩ := h
  unfold m_mut1 at p
  cases q : ρ[k]? with
  | none => rw [q] at p; exact p.elim
  | some x0 =>
    rw [q] at p
    cases x0 with
    | ol xs0 =>
      obtain ⟨a, vs0, es, hH0, _, _⟩ := E.olst q
      subst hT
      refine ⟨.ref a, es, .inl ⟨rfl, vs0, SqL.of hH0⟩, F, ρ, E, p.bind.mono fun ys ρ2 F2 H2 x2 E2 p2 ws hw => ?_⟩
      cases q2 : ρ2[k]? with
      | none => rw [q2] at p2; exact p2.elim
      | some x =>
        rw [q2] at p2
        cases x with
        | ol xs =>
          obtain ⟨a', vs, es', hH, hA, ch⟩ := E2.olst q2
          rw [es] at es'
          cases es'
          simp only at p2
          cases q3 : f xs ys with
          | none => rw [q3] at p2; exact p2.elim
          | some r3 =>
            obtain ⟨xs', d⟩ := r3
            rw [q3] at p2
            exact hf F2 H2 a vs ws xs ys xs' d Q E2.sub hH (E2.olstF q2 es) hA hw q3 fun v vs' h' hd => p2 F2 _ (Ext.refl F2) (ch vs' xs' h') v hd
        | _ => exact p2.elim
    | _ => exact p.elim
/-! the methods -/
def mAppend (xs ys : List D) : Option (List D × D) :=
  match ys with
  | [y] => if xs.length < LINE then some (xs ++ [y], .non) else none
  | _ => none
def mPop0 (xs ys : List D) : Option (List D × D) :=
  match ys with
  | [.int 0] => match xs with
    | x :: r => some (r, x)
    | [] => none
  | _ => none
theorem md_append : MutD G rAppend mAppend := by
  intro F H a vs ws xs ys xs' d Q hs hH hF hA hw e q
  unfold mAppend at e
  cases hw with
  | nil => cases e
  | cons h hr =>
    cases hr with
    | cons _ _ => cases e
    | nil =>
      simp only at e
      split at e
      · cases e
        rename_i hl
        exact ⟨a, vs, _, rfl, rfl, hH, by rw [hA.length, ← LINE_eq]; exact hl, q _ _ (hA.append (.cons h .nil)) .non⟩
      · cases e
theorem md_pop0 : MutD G rPopAt mPop0 := by
  intro F H a vs ws xs ys xs' d Q hs hH hF hA hw e q
  unfold mPop0 at e
  split at e
  · split at e
    · cases e
      cases hw with
      | cons h hr =>
        cases h
        cases hr
        cases hA with
        | @cons v vs _ _ hd hA => exact ⟨a, v :: vs, 0, 0, v, rfl, rfl, hH, by decide, by decide, by simp [seqIndex?], rfl, q _ _ hA hd⟩
    · cases e
  · cases e
theorem de_append (k : Nat) {x : Str} {p apos cpos : Pos} (ha : PA X (e :: es) (dA G B W mr)) (hN : X.N[k]? = some x := by rfl) (hv : Vis X.env.scope x := by first | exact Or.inl rfl | exact Or.inr (Or.inl rfl) | exact Or.inr (Or.inr rfl)) (hd : (x == ("__debug__" : Str)) = false := by decide)
    (hcd : (x == ("__classdict__" : Str)) = false := by decide) (hbase : attributeBase (.Name x p) "append" X.env (eval (.Name x p) X.env) = eval (.Name x p) X.env := by rfl)
    (hfew : ((backTo cpos (starEach (e :: es) X.env)).all (fun x => !x.1) && (backToKw cpos (keywordEach [] X.env)).all (fun x => x.1.isSome)
      && decide ((e :: es).length + ([] : List Keyword).length + (if ([] : List Keyword).isEmpty then 0 else 1) < 30)) = true := by rfl)
    (hline : (apos.endLine == cpos.line) = true := by rfl) (hs : starEach (e :: es) X.env = (false, eval e X.env) :: starEach es X.env := by rfl) (hplain : (backTo cpos (starEach es X.env)).any (·.1) = false := by rfl) :
    PE X (.Call (.Attribute (.Name x p) "append" apos) (e :: es) [] cpos) (dE G B W (m_mut1 mAppend k mr)) :=
  PE.imp (pe_bm PySem.F.plainAttrs_list PySem.F.slot_list_append PySem.F.type_list_append mt_append (pe_var hN hv hd hcd) ha hbase hfew hline hs hplain) fun _ _ _ h => tMut_d rfl md_append h
/-! name[i] = v: v first, then the list, then i -/
def s_ixset (k : Nat) (mv mi : ME) : MS := fun ρ => (mv ρ).bind fun d ρ => match ρ[k]? with
  | some (.ol _) => (mi ρ).bind fun i ρ => match i with
    | .int i => match ρ[k]? with
      | some (.ol xs) => match ixN xs.length i with
        | some j => .ok .nx (ρ.set k (.ol (xs.set j d)))
        | none => .bad
      | _ => .bad
    | _ => .bad
  | _ => .bad
theorem ds_ixset (k : Nat) {x : Str} {p tpos : Pos} {value ix : Expr} {mi : ME} (hv : PE X value (dE G B W ma)) (hi : PE X ix (dE G B W mi)) (hN : X.N[k]? = some x := by rfl)
    (hvis : Vis X.env.scope x := by first | exact Or.inl rfl | exact Or.inr (Or.inl rfl) | exact Or.inr (Or.inr rfl)) (hd : (x == ("__debug__" : Str)) = false := by decide) (hcd : (x == ("__classdict__" : Str)) = false := by decide)
    (has : ∀ v, assign (.Subscript (.Name x p) ix tpos) X.env v = (do
      let ov ← holding [v] (eval (.Name x p) X.env)
      let iv ← holding [v, ov] (eval ix X.env)
      standAt tpos
      holding [v, ov, iv] (setItem ov iv v)
      release [v, ov, iv] []) := by intro _; rfl)
    (hs : swapsWithSole [.Subscript (.Name x p) ix tpos] value pos.line X.env = pure false := by rfl) (hw : swappedStores [.Subscript (.Name x p) ix tpos] value X.env = pure none := by rfl)
    (h1 : (assignEach [.Subscript (.Name x p) ix tpos] X.env).map (·.2) = [assign (.Subscript (.Name x p) ix tpos) X.env] := by rfl) :
    PS X (.Assign [.Subscript (.Name x p) ix tpos] value pos) (dS G B W (s_ixset k ma mi)) :=
  PS.imp (ps_asg hv (pg_sub (pe_var hN hvis hd hcd) hi set_list has) hs hw h1) fun D σ H ⟨F, ρ, E, q⟩ => ⟨F, ρ, E, (PostS.bind q).mono fun d ρ1 F1 H1 x1 E1 p1 v hv => by
    cases z : ρ1[k]? with
    | none => rw [z] at p1; exact p1.elim
    | some y =>
      rw [z] at p1
      cases y with
      | ol xs0 =>
        obtain ⟨a, vs0, es, hH0, _, _⟩ := E1.olst z
        refine ⟨.ref a, es, F1, ρ1, E1, (PostS.bind p1).mono fun i ρ2 F2 H2 x2 E2 p2 w hw => ?_⟩
        cases hw with
        | int i =>
          simp only at p2
          cases z2 : ρ2[k]? with
          | none => rw [z2] at p2; exact p2.elim
          | some y =>
            rw [z2] at p2
            cases y with
            | ol xs =>
              simp only at p2
              obtain ⟨a', vs, es', hH, hA, ch⟩ := E2.olst z2
              rw [es] at es'
              cases es'
              cases z3 : ixN xs.length i with
              | none => rw [z3] at p2; exact p2.elim
              | some j =>
                rw [z3] at p2
                exact ⟨a, vs, i, j, rfl, rfl, hH, by rw [hA.length]; exact z3, p2 F2 _ _ (Ext.refl F2) (ch _ _ (hA.set j (hv.ext x2)))⟩
            | _ => exact p2.elim
        | _ => exact p2.elim
      | _ => exact p1.elim⟩
end
end AT
set_option Elab.async false
set_option linter.all false
set_option maxRecDepth 100000
set_option maxHeartbeats 2000000
/-! AT5: operators, subscripts, built-in functions by data. -/
namespace AT
open PySem PySem.Spec PyProof.Rows L2

/-! ### data as the library has it -/
mutual
def py : D → PyData
  | .non => .none
  | .bl b => .bool b
  | .int i => .int i
  | .str x => .str x
  | .tup xs => .tuple (pys xs)
  | .lst xs => .list (pys xs)
  | _ => .none
def pys : List D → List PyData
  | [] => []
  | x :: r => py x :: pys r
end
mutual
/-- flat to the depth n: none, bools, ints, texts, tuples, lists -/
def okD : Nat → D → Bool
  | _, .non => true
  | _, .bl _ => true
  | _, .int _ => true
  | _, .str x => PyData.strOk x
  | n + 1, .tup xs => okDs n xs
  | n + 1, .lst xs => okDs n xs
  | _, _ => false
def okDs : Nat → List D → Bool
  | _, [] => true
  | n, x :: r => okD n x && okDs n r
end
mutual
def eqvD : D → D → Bool
  | .non, .non => true
  | .bl a, .bl b => a == b
  | .bl a, .int j => (if a then 1 else 0) == j
  | .int i, .bl b => i == (if b then 1 else 0)
  | .int i, .int j => i == j
  | .str x, .str y => x == y
  | .tup xs, .tup ys => eqvDs xs ys
  | .lst xs, .lst ys => eqvDs xs ys
  | _, _ => false
def eqvDs : List D → List D → Bool
  | [], [] => true
  | x :: xs, y :: ys => eqvD x y && eqvDs xs ys
  | _, _ => false
end
mutual
theorem okD_shape : ∀ (n : Nat) (d : D), okD n d = true → (py d).canLay0 = true ∧ (py d).depth ≤ n
  | n, .non, _ => ⟨by simp [py, PyData.canLay0], by simp [py, PyData.depth]⟩
  | n, .bl b, _ => ⟨by simp [py, PyData.canLay0], by simp [py, PyData.depth]⟩
  | n, .int i, _ => ⟨by simp [py, PyData.canLay0], by simp [py, PyData.depth]⟩
  | n, .str x, h => ⟨by simpa [py, PyData.canLay0, okD] using h, by simp [py, PyData.depth]⟩
  | n + 1, .tup xs, h => by
    have := okDs_shape n xs (by simpa [okD] using h)
    exact ⟨by simpa [py, PyData.canLay0] using this.1, by simp [py, PyData.depth]; exact this.2⟩
  | n + 1, .lst xs, h => by
    have := okDs_shape n xs (by simpa [okD] using h)
    exact ⟨by simpa [py, PyData.canLay0] using this.1, by simp [py, PyData.depth]; exact this.2⟩
  | 0, .tup xs, h => by simp [okD] at h
  | 0, .lst xs, h => by simp [okD] at h
  | _, .dct _ _, h => by simp [okD] at h
  | _, .ins _ _, h => by simp [okD] at h
  | _, .scr _, h => by simp [okD] at h
theorem okDs_shape : ∀ (n : Nat) (ds : List D), okDs n ds = true → PyData.canLayAll0 (pys ds) = true ∧ PyData.depthAll (pys ds) ≤ n
  | n, [], _ => ⟨by simp [pys, PyData.canLayAll0], by simp [pys, PyData.depthAll]⟩
  | n, d :: ds, h => by
    have h' : okD n d = true ∧ okDs n ds = true := by simpa [okDs] using h
    have h1 := okD_shape n d h'.1
    have h2 := okDs_shape n ds h'.2
    exact ⟨by simp [pys, PyData.canLayAll0, h1.1, h2.1], by simp only [pys, PyData.depthAll]; exact Nat.max_le.mpr ⟨h1.2, h2.2⟩⟩
end
theorem okD_shaped {d : D} (h : okD 64 d = true) : SeqAt.shaped (py d) = true := by
  obtain ⟨h1, h2⟩ := okD_shape 64 d h
  unfold SeqAt.shaped
  rw [h1, decide_eq_true h2] <;> rfl
mutual
theorem eqv_py : ∀ (n m : Nat) (d e : D), okD n d = true → okD m e = true → PyData.eqv (py d) (py e) = eqvD d e
  | n, m, .non, .non, _, _ => by simp [py, PyData.eqv, eqvD]
  | n, m, .non, .bl _, _, _ => by simp [py, PyData.eqv, eqvD]
  | n, m, .non, .int _, _, _ => by simp [py, PyData.eqv, eqvD]
  | n, m, .non, .str _, _, _ => by simp [py, PyData.eqv, eqvD]
  | n, m, .non, .tup _, _, _ => by simp [py, PyData.eqv, eqvD]
  | n, m, .non, .lst _, _, _ => by simp [py, PyData.eqv, eqvD]
  | n, m, .bl _, .non, _, _ => by simp [py, PyData.eqv, eqvD]
  | n, m, .bl _, .bl _, _, _ => by simp [py, PyData.eqv, eqvD]
  | n, m, .bl _, .int _, _, _ => by simp [py, PyData.eqv, eqvD]
  | n, m, .bl _, .str _, _, _ => by simp [py, PyData.eqv, eqvD]
  | n, m, .bl _, .tup _, _, _ => by simp [py, PyData.eqv, eqvD]
  | n, m, .bl _, .lst _, _, _ => by simp [py, PyData.eqv, eqvD]
  | n, m, .int _, .non, _, _ => by simp [py, PyData.eqv, eqvD]
  | n, m, .int _, .bl _, _, _ => by simp [py, PyData.eqv, eqvD]
  | n, m, .int _, .int _, _, _ => by simp [py, PyData.eqv, eqvD]
  | n, m, .int _, .str _, _, _ => by simp [py, PyData.eqv, eqvD]
  | n, m, .int _, .tup _, _, _ => by simp [py, PyData.eqv, eqvD]
  | n, m, .int _, .lst _, _, _ => by simp [py, PyData.eqv, eqvD]
  | n, m, .str _, .non, _, _ => by simp [py, PyData.eqv, eqvD]
  | n, m, .str _, .bl _, _, _ => by simp [py, PyData.eqv, eqvD]
  | n, m, .str _, .int _, _, _ => by simp [py, PyData.eqv, eqvD]
  | n, m, .str _, .str _, _, _ => by simp [py, PyData.eqv, eqvD]
  | n, m, .str _, .tup _, _, _ => by simp [py, PyData.eqv, eqvD]
  | n, m, .str _, .lst _, _, _ => by simp [py, PyData.eqv, eqvD]
  | n, m, .tup _, .non, _, _ => by simp [py, PyData.eqv, eqvD]
  | n, m, .tup _, .bl _, _, _ => by simp [py, PyData.eqv, eqvD]
  | n, m, .tup _, .int _, _, _ => by simp [py, PyData.eqv, eqvD]
  | n, m, .tup _, .str _, _, _ => by simp [py, PyData.eqv, eqvD]
  | n, m, .tup _, .lst _, _, _ => by simp [py, PyData.eqv, eqvD]
  | n, m, .lst _, .non, _, _ => by simp [py, PyData.eqv, eqvD]
  | n, m, .lst _, .bl _, _, _ => by simp [py, PyData.eqv, eqvD]
  | n, m, .lst _, .int _, _, _ => by simp [py, PyData.eqv, eqvD]
  | n, m, .lst _, .str _, _, _ => by simp [py, PyData.eqv, eqvD]
  | n, m, .lst _, .tup _, _, _ => by simp [py, PyData.eqv, eqvD]
  | n + 1, m + 1, .tup xs, .tup ys, h1, h2 => by simp only [py, PyData.eqv, eqvD]; exact eqv_pys n m xs ys (by simpa [okD] using h1) (by simpa [okD] using h2)
  | n + 1, m + 1, .lst xs, .lst ys, h1, h2 => by simp only [py, PyData.eqv, eqvD]; exact eqv_pys n m xs ys (by simpa [okD] using h1) (by simpa [okD] using h2)
  | 0, _, .tup _, .tup _, h, _ => by simp [okD] at h
  | _ + 1, 0, .tup _, .tup _, _, h => by simp [okD] at h
  | 0, _, .lst _, .lst _, h, _ => by simp [okD] at h
  | _ + 1, 0, .lst _, .lst _, _, h => by simp [okD] at h
  | _, _, .dct _ _, _, h, _ => by simp [okD] at h
  | _, _, .ins _ _, _, h, _ => by simp [okD] at h
  | _, _, .scr _, _, h, _ => by simp [okD] at h
  | _, _, _, .dct _ _, _, h => by simp [okD] at h
  | _, _, _, .ins _ _, _, h => by simp [okD] at h
  | _, _, _, .scr _, _, h => by simp [okD] at h
theorem eqv_pys : ∀ (n m : Nat) (d e : List D), okDs n d = true → okDs m e = true → PyData.eqvAll (pys d) (pys e) = eqvDs d e
  | n, m, [], [], _, _ => by simp [pys, PyData.eqvAll, eqvDs]
  | n, m, [], _ :: _, _, _ => by simp [pys, PyData.eqvAll, eqvDs]
  | n, m, _ :: _, [], _, _ => by simp [pys, PyData.eqvAll, eqvDs]
  | n, m, x :: xs, y :: ys, h1, h2 => by
    have h1' : okD n x = true ∧ okDs n xs = true := by simpa [okDs] using h1
    have h2' : okD m y = true ∧ okDs m ys = true := by simpa [okDs] using h2
    simp only [pys, PyData.eqvAll, eqvDs, eqv_py n m x y h1'.1 h2'.1, eqv_pys n m xs ys h1'.2 h2'.2]
end
section
variable {G : Gam} {F H : Hp}
mutual
theorem dp_at (hs : Same F H) : ∀ (n : Nat) {v : V} {d : D}, At G F v d → okD n d = true → Dp G.K H v (py d)
  | _, _, _, .non, _ => by simp only [py]; exact .non
  | _, _, _, .bl b, _ => by simp only [py]; exact .bl b
  | _, _, _, .int i, _ => by simp only [py]; exact .int i
  | _, _, _, .str x, _ => by simp only [py]; exact .str x
  | n + 1, _, _, .tup h hs', o => by simp only [py]; exact .tup (h.sq hs) (dps_at hs n hs' (by simpa [okD] using o))
  | n + 1, _, _, .lst h hs', o => by simp only [py]; exact .lst (SqL.of (hs _ _ h)) (dps_at hs n hs' (by simpa [okD] using o))
  | 0, _, _, .tup _ _, o => by simp [okD] at o
  | 0, _, _, .lst _ _, o => by simp [okD] at o
  | _, _, _, .dct _ _ _ _, o => by simp [okD] at o
  | _, _, _, .ins _ _ _, o => by simp [okD] at o
  | _, _, _, .scr _, o => by simp [okD] at o
theorem dps_at (hs : Same F H) : ∀ (n : Nat) {vs : List V} {ds : List D}, Ats G F vs ds → okDs n ds = true → DpAll G.K H vs (pys ds)
  | _, _, _, .nil, _ => by simp only [pys]; exact .nil
  | n, _, _, .cons h hs', o => by
    simp only [okDs, Bool.and_eq_true] at o
    simp only [pys]
    exact .cons (dp_at hs n h o.1) (dps_at hs n hs' o.2)
end
theorem dp_bat (hs : Same F H) {n : Nat} {v : V} {d : D} (h : BAt G F H v d) (o : okD n d = true) : Dp G.K H v (py d) := by
  cases h with
  | fr h => exact dp_at hs n h o
  | ol h1 h2 =>
    cases n with
    | zero => simp [okD] at o
    | succ n => simp only [py]; exact .lst (SqL.of h1) (dps_at hs n h2 (by simpa [okD] using o))
  | od h1 hl h2 => simp [okD] at o
end

/-! ### operators -/
def eqF (x y : D) : Option D := if okD 64 x = true ∧ okD 64 y = true then some (.bl (eqvD x y)) else none
def neF (x y : D) : Option D := if okD 64 x = true ∧ okD 64 y = true then some (.bl (!eqvD x y)) else none
def isF (x y : D) : Option D :=
  match x, y with
  | .non, .non => some (.bl true)
  | _, .non => some (.bl false)
  | .bl a, .bl b => some (.bl (decide (a = b)))
  | _, _ => none
def isntF (x y : D) : Option D :=
  match x, y with
  | .non, .non => some (.bl false)
  | _, .non => some (.bl true)
  | .bl a, .bl b => some (.bl (!decide (a = b)))
  | _, _ => none
def iF (g : Int → Int → Int) (x y : D) : Option D :=
  match x, y with
  | .int i, .int j => some (.int (g i j))
  | _, _ => none
def iC (C : Int → Int → Bool) (g : Int → Int → Int) (x y : D) : Option D :=
  match x, y with
  | .int i, .int j => if C i j = true then some (.int (g i j)) else none
  | _, _ => none
def cF (g : Int → Int → Bool) (x y : D) : Option D :=
  match x, y with
  | .int i, .int j => some (.bl (g i j))
  | _, _ => none
def addF (x y : D) : Option D :=
  match x, y with
  | .int i, .int j => some (.int (i + j))
  | .str i, .str j => if i.length + j.length ≤ LINE then some (.str (i ++ j)) else none
  | .tup i, .tup j => if i.length + j.length ≤ LINE then some (.tup (i ++ j)) else none
  | _, _ => none
/-- two lists: a new one -/
def catF (x y : D) : Option (List D) :=
  match x, y with
  | .lst i, .lst j => if i.length + j.length ≤ LINE then some (i ++ j) else none
  | _, _ => none
section
variable {G : Gam}
theorem opd_I {C : Int → Int → Prop} {Cb : Int → Int → Bool} {g : Int → Int → Int} (hC : ∀ i j, Cb i j = true → C i j) : OpD G (rI C fun i j => .int (g i j)) (iC Cb g) := by
  intro F H x y d v w Q hs e hv hw q
  unfold iC at e
  split at e
  · split at e
    · rename_i hc
      cases e
      cases hv with
      | fr hv => cases hv; cases hw with
        | fr hw => cases hw; exact ⟨_, _, rfl, rfl, hC _ _ hc, q F H _ (Grow.refl hs) (.int _)⟩
    · cases e
  · cases e
theorem opd_I0 {g : Int → Int → Int} : OpD G (rI0 fun i j => .int (g i j)) (iF g) := by
  intro F H x y d v w Q hs e hv hw q
  unfold iF at e
  split at e
  · cases e
    cases hv with
    | fr hv => cases hv; cases hw with
      | fr hw => cases hw; exact ⟨_, _, rfl, rfl, q F H _ (Grow.refl hs) (.int _)⟩
  · cases e
theorem opd_B0 {g : Int → Int → Bool} : OpD G (rI0 fun i j => .bl (g i j)) (cF g) := by
  intro F H x y d v w Q hs e hv hw q
  unfold cF at e
  split at e
  · cases e
    cases hv with
    | fr hv => cases hv; cases hw with
      | fr hw => cases hw; exact ⟨_, _, rfl, rfl, q F H _ (Grow.refl hs) (.bl _)⟩
  · cases e
theorem opd_eq : OpD G (rEqD G.K) eqF := by
  intro F H x y d v w Q hs e hv hw q
  unfold eqF at e
  split at e
  · rename_i h
    cases e
    exact ⟨py x, py y, dp_bat hs hv h.1, dp_bat hs hw h.2, okD_shaped h.1, okD_shaped h.2, by rw [eqv_py _ _ _ _ h.1 h.2]; exact q F H _ (Grow.refl hs) (.bl _)⟩
  · cases e
theorem opd_ne : OpD G (rNeD G.K) neF := by
  intro F H x y d v w Q hs e hv hw q
  unfold neF at e
  split at e
  · rename_i h
    cases e
    exact ⟨py x, py y, dp_bat hs hv h.1, dp_bat hs hw h.2, okD_shaped h.1, okD_shaped h.2, by rw [eqv_py _ _ _ _ h.1 h.2]; exact q F H _ (Grow.refl hs) (.bl _)⟩
  · cases e
def rIs : R2 := fun x y H Q => (y = .non ∧ Q (.bl (decide (x = .non))) H) ∨ ∃ a b, x = .bl a ∧ y = .bl b ∧ Q (.bl (decide (a = b))) H
def rIsnt : R2 := fun x y H Q => (y = .non ∧ Q (.bl (!decide (x = .non))) H) ∨ ∃ a b, x = .bl a ∧ y = .bl b ∧ Q (.bl (!decide (a = b))) H
theorem or_is {X : Cx} : OpR X (compareOp .Is) rIs := OpR.or op_isN op_is_bl
theorem or_isnt {X : Cx} : OpR X (compareOp .IsNot) rIsnt := OpR.or op_notN op_isnot_bl
theorem bat_non {F H : Hp} {v : V} {x : D} (h : BAt G F H v x) : decide (v = .non) = (match x with | .non => true | _ => false) := by
  cases h with
  | fr h => cases h <;> simp
  | ol _ _ => simp
  | od _ _ _ => simp
theorem opd_is : OpD G rIs isF := by
  intro F H x y d v w Q hs e hv hw q
  have hn := bat_non hv
  unfold isF at e
  split at e
  · cases e
    cases hw with
    | fr hw => cases hw; exact .inl ⟨rfl, by rw [hn]; exact q F H _ (Grow.refl hs) (.bl _)⟩
  · rename_i z
    cases e
    cases hw with
    | fr hw =>
      cases hw
      refine .inl ⟨rfl, ?_⟩
      rw [hn]
      cases x <;> first | exact q F H _ (Grow.refl hs) (.bl _) | exact (z rfl).elim
  · cases e
    cases hv with
    | fr hv => cases hv; cases hw with
      | fr hw => cases hw; exact .inr ⟨_, _, rfl, rfl, q F H _ (Grow.refl hs) (.bl _)⟩
  · cases e
theorem opd_isnt : OpD G rIsnt isntF := by
  intro F H x y d v w Q hs e hv hw q
  have hn := bat_non hv
  unfold isntF at e
  split at e
  · cases e
    cases hw with
    | fr hw => cases hw; exact .inl ⟨rfl, by rw [hn]; exact q F H _ (Grow.refl hs) (.bl _)⟩
  · rename_i z
    cases e
    cases hw with
    | fr hw =>
      cases hw
      refine .inl ⟨rfl, ?_⟩
      rw [hn]
      cases x <;> first | exact q F H _ (Grow.refl hs) (.bl _) | exact (z rfl).elim
  · cases e
    cases hv with
    | fr hv => cases hv; cases hw with
      | fr hw => cases hw; exact .inr ⟨_, _, rfl, rfl, q F H _ (Grow.refl hs) (.bl _)⟩
  · cases e
def rAddA (K : PySem.W.Frag) : R2 := fun x y H Q => ((rI0 fun i j => .int (i + j)) x y H Q ∨ (∃ i j, x = .str i ∧ y = .str j ∧ i.length + j.length ≤ sizeLine ∧ Q (.str (i ++ j)) H)) ∨ rCatA K x y H Q
theorem or_add {X : Cx} : OpR X (binaryOp .Add) (rAddA X.K) := OpR.or (OpR.or op_add op_add_str) op_catA
theorem opd_add : OpD G (rAddA G.K) addF := by
  intro F H x y d v w Q hs e hv hw q
  unfold addF at e
  split at e
  · cases e
    cases hv with
    | fr hv => cases hv; cases hw with
      | fr hw => cases hw; exact .inl (.inl ⟨_, _, rfl, rfl, q F H _ (Grow.refl hs) (.int _)⟩)
  · split at e
    · rename_i hl
      cases e
      cases hv with
      | fr hv => cases hv; cases hw with
        | fr hw => cases hw; exact .inl (.inr ⟨_, _, rfl, rfl, by rw [← LINE_eq]; exact hl, q F H _ (Grow.refl hs) (.str _)⟩)
    · cases e
  · split at e
    · rename_i hl
      cases e
      cases hv with
      | fr hv => cases hv with
        | @tup a vs _ ha hA => cases hw with
          | fr hw => cases hw with
            | @tup b ws _ hb hB =>
              refine .inr ⟨a, b, vs, ws, rfl, rfl, ha.sq hs, hb.sq hs, by rw [hA.length, hB.length, ← LINE_eq]; exact hl, fun z => ?_, fun z1 z2 => ?_, fun z1 z2 p hp => ?_⟩
              · subst z
                cases hA
                exact q F H _ (Grow.refl hs) (.tup hb hB)
              · subst z2
                cases hB
                rw [List.append_nil] at q
                exact q F H _ (Grow.refl hs) (.tup ha hA)
              · have g := Grow.at (.tup (vs ++ ws)) hs hp
                exact q _ _ _ g (.tup (.inl upd_same) ((hA.ext g.ext).append (hB.ext g.ext)))
    · cases e
  · cases e
end
section
variable {X : Cx} {G : Gam} {B : Ba} {W : WX} {a b : Expr} {ma mb : ME} {pos : Pos}
/-- two-place operations whose outcome is a new list -/
def m_opN (f : D → D → Option (List D)) (ma mb : ME) : MA := fun ρ => (ma ρ).bind fun x ρ => (mb ρ).bind fun y ρ => ofO (f x y) ρ
def m_opNP (f : D → D → Option (List D)) (k : Nat) (mb : ME) : MA := fun ρ =>
  match peek ρ k with
  | some _ => (mb ρ).bind fun y ρ => match peek ρ k with
    | some x => ofO (f x y) ρ
    | none => .bad
  | none => .bad
def OpN (G : Gam) (r : R2) (f : D → D → Option (List D)) : Prop := ∀ (F H : Hp) (x y : D) (ds : List D) (v w : V) (Q : VK), Same F H → f x y = some ds → BAt G F H v x → BAt G F H w y →
  (∀ p vs, H p = none → Ats G F vs ds → Q (.ref p) (upd H p (.lst vs))) → r v w H Q
theorem opn_cat : OpN G rCat catF := by
  intro F H x y d v w Q hs e hv hw q
  unfold catF at e
  split at e
  · split at e
    · rename_i hl
      cases e
      rename_i i j
      have h1 : ∃ a vs, v = .ref a ∧ H a = some (.lst vs) ∧ Ats G F vs i := by
        cases hv with
        | fr hv => cases hv with
          | lst h h2 => exact ⟨_, _, rfl, hs _ _ h, h2⟩
        | ol h h2 => exact ⟨_, _, rfl, h, h2⟩
      have h2 : ∃ a vs, w = .ref a ∧ H a = some (.lst vs) ∧ Ats G F vs j := by
        cases hw with
        | fr hv => cases hv with
          | lst h h2 => exact ⟨_, _, rfl, hs _ _ h, h2⟩
        | ol h h2 => exact ⟨_, _, rfl, h, h2⟩
      obtain ⟨a, vs, rfl, ha, hA⟩ := h1
      obtain ⟨b, ws, rfl, hb, hB⟩ := h2
      exact ⟨a, b, vs, ws, rfl, rfl, ha, hb, by rw [hA.length, hB.length, ← LINE_eq]; exact hl, fun p hp => q p _ hp (hA.append hB)⟩
    · cases e
  · cases e
theorem tOpN_d {r : R2} {f : D → D → Option (List D)} (hf : OpN G r f) {σ : L2.St} {H : Hp} {Q : VK} (h : dN G B W (m_opN f ma mb) σ H Q) : tOp r (dE G B W ma) (dB G B W mb) σ H Q := by
  obtain ⟨F, ρ, E, p⟩ := h
  refine ⟨F, ρ, E, p.bind.mono fun x ρ1 F1 H1 x1 E1 p1 v hv => ⟨F1, ρ1, E1, p1.bind.mono fun y ρ2 F2 H2 x2 E2 p2 w hw => ?_⟩⟩
  cases e : f x y with
  | none => rw [e] at p2; exact p2.elim
  | some ds =>
    rw [e] at p2
    exact hf F2 H2 x y ds v w Q E2.sub e (.fr (hv.ext x2)) hw fun p vs hp ha => p2 F2 H2 (Ext.refl F2) E2 p vs hp ha
theorem tOpN_p {r : R2} {f : D → D → Option (List D)} (hf : OpN G r f) {k : Nat} {σ : L2.St} {H : Hp} {Q : VK} (h : dN G B W (m_opNP f k mb) σ H Q) : tOp r (tVar k) (dB G B W mb) σ H Q := by
  obtain ⟨F, ρ, E, p⟩ := h
  unfold m_opNP at p
  cases q : peek ρ k with
  | none => rw [q] at p; exact p.elim
  | some d0 =>
    rw [q] at p
    obtain ⟨v, es, hv⟩ := E.peek q
    refine ⟨v, es, F, ρ, E, p.bind.mono fun y ρ2 F2 H2 x2 E2 p2 w hw => ?_⟩
    cases q2 : peek ρ2 k with
    | none => rw [q2] at p2; exact p2.elim
    | some x =>
      rw [q2] at p2
      obtain ⟨v', es', hv'⟩ := E2.peek q2
      rw [es] at es'
      cases es'
      cases e : f x y with
      | none => simp only [e] at p2; exact p2.elim
      | some ds =>
        simp only [e] at p2
        exact hf F2 H2 x y ds v w Q E2.sub e hv' hw fun p vs hp ha => p2 F2 H2 (Ext.refl F2) E2 p vs hp ha
theorem dn_cat (ha : PE X a (dE G B W ma)) (hb : PE X b (dB G B W mb)) : PE X (.BinOp a .Add b pos) (dN G B W (m_opN catF ma mb)) := PE.imp (pe_op op_cat ha hb) fun _ _ _ => tOpN_d opn_cat
theorem dn_catP (k : Nat) {x : Str} {p : Pos} (hb : PE X b (dB G B W mb)) (hN : X.N[k]? = some x := by rfl)
    (hv : Vis X.env.scope x := by first | exact Or.inl rfl | exact Or.inr (Or.inl rfl) | exact Or.inr (Or.inr rfl)) (hd : (x == ("__debug__" : Str)) = false := by decide) (hcd : (x == ("__classdict__" : Str)) = false := by decide) :
    PE X (.BinOp (.Name x p) .Add b pos) (dN G B W (m_opNP catF k mb)) := PE.imp (pe_op op_cat (pe_var hN hv hd hcd) hb) fun _ _ _ => tOpN_p opn_cat
end
end AT
set_option Elab.async false
set_option linter.all false
set_option maxRecDepth 100000
set_option maxHeartbeats 2000000
/-! AT6: in, chains, isinstance, calls of built-in things, subscripts, slices. -/
namespace AT
open PySem PySem.Spec PyProof.Rows L2

/-! ### x in y -/
def flatD : D → Bool
  | .non => true
  | .bl _ => true
  | .int _ => true
  | .str _ => true
  | _ => false
def hasStr (x y : Str) : Bool := !(Builtin.Str.occurrences y x 0 y.length 1).isEmpty
def inB (x y : D) : Option Bool :=
  match y with
  | .lst ys => if okD 64 x = true ∧ okD 64 (.lst ys) = true then some (ys.any fun z => eqvD z x) else none
  | .tup ys => if flatD x = true ∧ ys.all flatD = true then some (ys.any fun z => eqvD z x) else none
  | .str b => match x with
    | .str a => some (hasStr a b)
    | _ => none
  | _ => none
def inF (x y : D) : Option D := (inB x y).map .bl
def ninF (x y : D) : Option D := (inB x y).map fun b => .bl (!b)
section
variable {G : Gam} {F H : Hp}
theorem flat_at {v : V} {d : D} (h : At G F v d) (f : flatD d = true) : flatV v = true := by
  cases h <;> first | rfl | (simp [flatD] at f)
theorem flat_ats : ∀ {vs : List V} {ds : List D}, Ats G F vs ds → ds.all flatD = true → vs.all flatV = true
  | _, _, .nil, _ => rfl
  | _, _, .cons h hs, f => by
    simp only [List.all_cons, Bool.and_eq_true] at f ⊢
    exact ⟨flat_at h f.1, flat_ats hs f.2⟩
theorem eqV_at {v w : V} {d e : D} (h : At G F v d) (h' : At G F w e) (f : flatD d = true) (f' : flatD e = true) : eqV v w = eqvD d e := by
  cases h <;> first
    | (cases h' <;> first | (simp [eqV, eqvD]; done) | (simp [flatD] at f'))
    | (simp [flatD] at f)
theorem inV_at {w : V} {e : D} (h' : At G F w e) (f' : flatD e = true) : ∀ {vs : List V} {ds : List D}, Ats G F vs ds → ds.all flatD = true → inV w vs = ds.any fun z => eqvD z e
  | _, _, .nil, _ => rfl
  | _, _, .cons h hs, f => by
    simp only [List.all_cons, Bool.and_eq_true] at f
    unfold inV
    rw [List.any_cons, List.any_cons, eqV_at h h' f.1 f', ← inV_at h' f' hs f.2] <;> rfl
theorem any_pys (n m : Nat) {x : D} (hx : okD m x = true) : ∀ (ds : List D), okDs n ds = true → ((pys ds).any fun z => PyData.eqv z (py x)) = ds.any fun z => eqvD z x
  | [], _ => by simp [pys]
  | d :: ds, h => by
    simp only [okDs, Bool.and_eq_true] at h
    simp only [pys, List.any_cons, eqv_py n m d x h.1 hx, any_pys n m hx ds h.2]
def rInA (K : PySem.W.Frag) (b : Bool) : R2 := fun x y H Q => ((if b then rNotInD K else rInD K) x y H Q ∨ rIn K b x y H Q) ∨ (∃ i j, x = .str i ∧ y = .str j ∧ Q (.bl (if b then !hasStr i j else hasStr i j)) H)
theorem or_in {X : Cx} (hu : X.A.units + 65 < cLine) : OpR X (compareOp .In) (rInA X.K false) := OpR.or (OpR.or (op_inD hu) op_in_seq) (by
  intro pins s σ H x y v u Q I rx ry h
  exact op_in_str pins s σ H x y v u Q I rx ry h)
theorem or_nin {X : Cx} (hu : X.A.units + 65 < cLine) : OpR X (compareOp .NotIn) (rInA X.K true) := OpR.or (OpR.or (op_notInD hu) op_notIn_seq) (by
  intro pins s σ H x y v u Q I rx ry h
  exact op_notin_str pins s σ H x y v u Q I rx ry h)
theorem in_core {b : Bool} {x y : D} {v w : V} {Q : VK} {k : Bool} (hs : Same F H) (e : inB x y = some k) (hv : BAt G F H v x) (hw : BAt G F H w y) (q : Q (.bl (if b then !k else k)) H) : rInA G.K b v w H Q := by
  unfold inB at e
  split at e
  · split at e
    · rename_i ys h
      cases e
      refine .inl (.inl ?_)
      have h2 : okDs 63 ys = true := by simpa [okD] using h.2
      have hd := dp_bat hs hv h.1
      have he := dp_bat hs hw h.2
      have hq := any_pys 63 64 h.1 ys h2
      cases b with
      | true => exact ⟨py x, pys ys, hd, by simpa only [py] using he, okD_shaped h.1, by simpa only [py] using okD_shaped h.2, by rw [hq]; exact q⟩
      | false => exact ⟨py x, pys ys, hd, by simpa only [py] using he, okD_shaped h.1, by simpa only [py] using okD_shaped h.2, by rw [hq]; exact q⟩
    · cases e
  · split at e
    · rename_i ys h
      cases e
      refine .inl (.inr ?_)
      have hv' : At G F v x := by
        cases hv with
        | fr hv => exact hv
        | ol _ _ => simp [flatD] at h
        | od _ _ _ => simp [flatD] at h
      cases hw with
      | fr hw => cases hw with
        | @tup a vs _ ha hA => exact ⟨a, vs, rfl, .inr (ha.sq hs), flat_at hv' h.1, flat_ats hA h.2, by rw [inV_at hv' h.1 hA h.2]; exact q⟩
    · cases e
  · split at e
    · cases e
      cases hv with
      | fr hv => cases hv; cases hw with
        | fr hw => cases hw; exact .inr ⟨_, _, rfl, rfl, q⟩
    · cases e
  · cases e
theorem opd_in : OpD G (rInA G.K false) inF := by
  intro F H x y d v w Q hs e hv hw q
  unfold inF at e
  cases z : inB x y with
  | none => rw [z] at e; cases e
  | some k =>
    rw [z] at e
    cases e
    exact in_core (b := false) hs z hv hw (q F H _ (Grow.refl hs) (.bl _))
theorem opd_nin : OpD G (rInA G.K true) ninF := by
  intro F H x y d v w Q hs e hv hw q
  unfold ninF at e
  cases z : inB x y with
  | none => rw [z] at e; cases e
  | some k =>
    rw [z] at e
    cases e
    exact in_core (b := true) hs z hv hw (q F H _ (Grow.refl hs) (.bl _))
end

/-! ### a < b < c -/
def m_chain (f f' : D → D → Option D) (ma mb mc : ME) : ME := fun ρ => (ma ρ).bind fun x ρ => (mb ρ).bind fun y ρ => match f x y with
  | some (.bl true) => (mc ρ).bind fun z ρ => ofO (f' y z) ρ
  | some (.bl false) => .ok (.bl false) ρ
  | _ => .bad
section
variable {X : Cx} {G : Gam} {B : Ba} {W : WX} {a b c e : Expr} {es : List Expr} {ma mb mc : ME} {mr : MA} {pos p : Pos} {x : Str}
theorem tChain_d {r r' : R2} {f f' : D → D → Option D} (hf : OpD G r f) (hf' : OpD G r' f') {σ : L2.St} {H : Hp} {Q : VK} (h : dE G B W (m_chain f f' ma mb mc) σ H Q) : tChain r r' (dE G B W ma) (dE G B W mb) (dB G B W mc) σ H Q := by
  obtain ⟨F, ρ, E, p⟩ := h
  refine ⟨F, ρ, E, p.bind.mono fun x ρ1 F1 H1 x1 E1 p1 v hv => ⟨F1, ρ1, E1, p1.bind.mono fun y ρ2 F2 H2 x2 E2 p2 w hw => ?_⟩⟩
  cases e : f x y with
  | none => rw [e] at p2; exact p2.elim
  | some d =>
    rw [e] at p2
    cases d with
    | bl k =>
      refine hf F2 H2 x y (.bl k) v w _ E2.sub e (.fr (hv.ext x2)) (.fr hw) fun F3 H3 u g hu => ?_
      cases hu
      refine ⟨k, rfl, ?_⟩
      cases k with
      | true =>
        rw [if_pos rfl]
        refine ⟨F3, ρ2, E2.grow g, (Post.ext g.ext p2).bind.mono fun z ρ4 F4 H4 x4 E4 p4 w' hw' => ?_⟩
        exact hf'.use E4 p4 (.fr (hw.ext (g.ext.trans x4))) hw'
      | false =>
        rw [if_neg (fun z => nomatch z)]
        exact p2 F3 H3 g.ext (E2.grow g) _ (.bl false)
    | _ => exact p2.elim
theorem de_chain {op op' : CmpOp} {r r' : R2} {f f' : D → D → Option D} (ho : OpR X (compareOp op) r) (hf : OpD G r f) (ho' : OpR X (compareOp op') r') (hf' : OpD G r' f') (ha : PE X a (dE G B W ma)) (hb : PE X b (dE G B W mb)) (hc : PE X c (dB G B W mc))
    (hm : lastMarks [op, op'] [b, c] = false := by with_unfolding_all rfl) : PE X (.Compare a [op, op'] [b, c] pos) (dE G B W (m_chain f f' ma mb mc)) := PE.imp (pe_chain ho ho' ha hb hc hm) fun _ _ _ => tChain_d hf hf'
theorem dt_chain {op op' : CmpOp} {r r' : R2} {f f' : D → D → Option D} (ho : OpR X (compareOp op) r) (hf : OpD G r f) (ho' : OpR X (compareOp op') r') (hf' : OpD G r' f') (ha : PE X a (dE G B W ma)) (hb : PE X b (dE G B W mb)) (hc : PE X c (dB G B W mc))
    (hm : lastMarks [op, op'] [b, c] = false := by with_unfolding_all rfl) : PT X (.Compare a [op, op'] [b, c] pos) (dT G B W (m_tst tstB (m_chain f f' ma mb mc))) := PT.imp (pt_chain ho ho' ha hb hc hm) fun _ _ _ => tTest_d fun _ _ _ => tChain_d hf hf'
/-! and, or of bools as values -/
def m_andV (ma mb : ME) : ME := fun ρ => (ma ρ).bind fun x ρ => match x with
  | .bl true => mb ρ
  | .bl false => .ok (.bl false) ρ
  | _ => .bad
def m_orV (ma mb : ME) : ME := fun ρ => (ma ρ).bind fun x ρ => match x with
  | .bl true => .ok (.bl true) ρ
  | .bl false => mb ρ
  | _ => .bad
theorem tAndV_d {σ : L2.St} {H : Hp} {Q : VK} (h : dE G B W (m_andV ma mb) σ H Q) : tAndV (dE G B W ma) (dE G B W mb) σ H Q := by
  obtain ⟨F, ρ, E, p⟩ := h
  refine ⟨F, ρ, E, p.bind.mono fun x ρ1 F1 H1 x1 E1 p1 v hv => ?_⟩
  cases hv with
  | bl k =>
    refine ⟨k, rfl, ?_⟩
    cases k with
    | true => exact ⟨F1, ρ1, E1, p1⟩
    | false => exact p1 F1 H1 (Ext.refl F1) E1 _ (.bl false)
  | _ => exact p1.elim
theorem tOrV_d {σ : L2.St} {H : Hp} {Q : VK} (h : dE G B W (m_orV ma mb) σ H Q) : tOrV (dE G B W ma) (dE G B W mb) σ H Q := by
  obtain ⟨F, ρ, E, p⟩ := h
  refine ⟨F, ρ, E, p.bind.mono fun x ρ1 F1 H1 x1 E1 p1 v hv => ?_⟩
  cases hv with
  | bl k =>
    refine ⟨k, rfl, ?_⟩
    cases k with
    | false => exact ⟨F1, ρ1, E1, p1⟩
    | true => exact p1 F1 H1 (Ext.refl F1) E1 _ (.bl true)
  | _ => exact p1.elim
theorem de_and1 (ha : PE X a (dE G B W ma)) : PE X (.BoolOp .And [a] pos) (dE G B W ma) := pe_one ha
theorem de_or1 (ha : PE X a (dE G B W ma)) : PE X (.BoolOp .Or [a] pos) (dE G B W ma) := pe_one ha
theorem de_and (ha : PE X a (dE G B W ma)) (hb : PE X (.BoolOp .And (b :: es) pos) (dE G B W mb)) : PE X (.BoolOp .And (a :: b :: es) pos) (dE G B W (m_andV ma mb)) := PE.imp (pe_and ha hb) fun _ _ _ => tAndV_d
theorem de_or (ha : PE X a (dE G B W ma)) (hb : PE X (.BoolOp .Or (b :: es) pos) (dE G B W mb)) : PE X (.BoolOp .Or (a :: b :: es) pos) (dE G B W (m_orV ma mb)) := PE.imp (pe_or ha hb) fun _ _ _ => tOrV_d
/-- not a, as a value -/
def m_notV (t : MT) : ME := fun ρ => (t ρ).bind fun b ρ => .ok (.bl (!b)) ρ

/-! ### calls of built-in things -/
def CalD (G : Gam) (r : List V → Hp → VK → Prop) (f : D → Option D) : Prop := ∀ (F H : Hp) (x d : D) (v : V) (Q : VK), Same F H → f x = some d → BAt G F H v x → (∀ F' H' u, Grow F H F' H' → At G F' u d → Q u H') → r [v] H Q
def CalN (G : Gam) (r : List V → Hp → VK → Prop) (f : D → Option (List D)) : Prop := ∀ (F H : Hp) (x : D) (ds : List D) (v : V) (Q : VK), Same F H → f x = some ds → BAt G F H v x → (∀ p vs, H p = none → Ats G F vs ds → Q (.ref p) (upd H p (.lst vs))) → r [v] H Q
def CalA (G : Gam) (r : List V → Hp → VK → Prop) (f : List D → Option D) : Prop := ∀ (F H : Hp) (xs : List D) (d : D) (vs : List V) (Q : VK), Same F H → f xs = some d → Ats G F vs xs → (∀ F' H' u, Grow F H F' H' → At G F' u d → Q u H') → r vs H Q
def m_unN (f : D → Option (List D)) (ma : ME) : MA := fun ρ => (ma ρ).bind fun x ρ => ofO (f x) ρ
def m_biA (f : List D → Option D) (mr : MA) : ME := fun ρ => (mr ρ).bind fun xs ρ => ofO (f xs) ρ
section
variable {r : List V → Hp → VK → Prop} {f : D → Option D} {fN : D → Option (List D)} {fA : List D → Option D}
theorem tCB1_d (hf : CalD G r f) {σ : L2.St} {H : Hp} {Q : VK} (h : dE G B W (m_un f ma) σ H Q) : tCB r (tCons (dB G B W ma) tNil) σ H Q := by
  obtain ⟨F, ρ, E, p⟩ := h
  refine ⟨F, ρ, E, p.bind.mono fun x ρ1 F1 H1 x1 E1 p1 v hv => ?_⟩
  cases e : f x with
  | none => rw [e] at p1; exact p1.elim
  | some d =>
    rw [e] at p1
    exact hf F1 H1 x d v Q E1.sub e hv fun F' H' u g hu => p1 F' H' g.ext (E1.grow g) u hu
theorem tCBN_d (hf : CalN G r fN) {σ : L2.St} {H : Hp} {Q : VK} (h : dN G B W (m_unN fN ma) σ H Q) : tCB r (tCons (dB G B W ma) tNil) σ H Q := by
  obtain ⟨F, ρ, E, p⟩ := h
  refine ⟨F, ρ, E, p.bind.mono fun x ρ1 F1 H1 x1 E1 p1 v hv => ?_⟩
  cases e : fN x with
  | none => rw [e] at p1; exact p1.elim
  | some d =>
    rw [e] at p1
    exact hf F1 H1 x d v Q E1.sub e hv fun p vs hp hA => p1 F1 H1 (Ext.refl F1) E1 p vs hp hA
theorem tCBA_d (hf : CalA G r fA) {σ : L2.St} {H : Hp} {Q : VK} (h : dE G B W (m_biA fA mr) σ H Q) : tCB r (dA G B W mr) σ H Q := by
  obtain ⟨F, ρ, E, p⟩ := h
  refine ⟨F, ρ, E, p.bind.mono fun xs ρ1 F1 H1 x1 E1 p1 vs hv => ?_⟩
  cases e : fA xs with
  | none => rw [e] at p1; exact p1.elim
  | some d =>
    rw [e] at p1
    exact hf F1 H1 xs d vs Q E1.sub e hv fun F' H' u g hu => p1 F' H' g.ext (E1.grow g) u hu
theorem de_bi1 {id : String} (hc : CallR X (.builtin id) r) (hf : CalD G r f) (hm : X.mg x = none) (hv : bootBuiltins x = some (.builtin id)) (ha : PE X a (dB G B W ma)) (hg : Gl X x := by rfl) (hn : x ≠ "__name__" := by decide) (hdb : (x == ("__debug__" : Str)) = false := by decide)
    (he : starEach [a] X.env = (false, eval a X.env) :: starEach [] X.env := by rfl) : PE X (.Call (.Name x p) [a] [] pos) (dE G B W (m_un f ma)) := PE.imp (pe_callB hc hg hm hv (pa_cons ha pa_nil he) hn hdb he rfl) fun _ _ _ => tCB1_d hf
theorem de_ty1 {T : String} (hc : CallR X (.type T) r) (hf : CalD G r f) (hm : X.mg x = none) (hv : bootBuiltins x = some (.type T)) (ha : PE X a (dB G B W ma)) (hg : Gl X x := by rfl) (hn : x ≠ "__name__" := by decide) (hdb : (x == ("__debug__" : Str)) = false := by decide)
    (he : starEach [a] X.env = (false, eval a X.env) :: starEach [] X.env := by rfl) : PE X (.Call (.Name x p) [a] [] pos) (dE G B W (m_un f ma)) := PE.imp (pe_callTy hc hg hm hv (pa_cons ha pa_nil he) hn hdb he rfl) fun _ _ _ => tCB1_d hf
theorem dn_bi1 {id : String} (hc : CallR X (.builtin id) r) (hf : CalN G r fN) (hm : X.mg x = none) (hv : bootBuiltins x = some (.builtin id)) (ha : PE X a (dB G B W ma)) (hg : Gl X x := by rfl) (hn : x ≠ "__name__" := by decide) (hdb : (x == ("__debug__" : Str)) = false := by decide)
    (he : starEach [a] X.env = (false, eval a X.env) :: starEach [] X.env := by rfl) : PE X (.Call (.Name x p) [a] [] pos) (dN G B W (m_unN fN ma)) := PE.imp (pe_callB hc hg hm hv (pa_cons ha pa_nil he) hn hdb he rfl) fun _ _ _ => tCBN_d hf
theorem dn_ty1 {T : String} (hc : CallR X (.type T) r) (hf : CalN G r fN) (hm : X.mg x = none) (hv : bootBuiltins x = some (.type T)) (ha : PE X a (dB G B W ma)) (hg : Gl X x := by rfl) (hn : x ≠ "__name__" := by decide) (hdb : (x == ("__debug__" : Str)) = false := by decide)
    (he : starEach [a] X.env = (false, eval a X.env) :: starEach [] X.env := by rfl) : PE X (.Call (.Name x p) [a] [] pos) (dN G B W (m_unN fN ma)) := PE.imp (pe_callTy hc hg hm hv (pa_cons ha pa_nil he) hn hdb he rfl) fun _ _ _ => tCBN_d hf
theorem de_biA {id : String} (hc : CallR X (.builtin id) r) (hf : CalA G r fA) (hm : X.mg x = none) (hv : bootBuiltins x = some (.builtin id)) (ha : PA X (e :: es) (dA G B W mr)) (hg : Gl X x := by rfl) (hn : x ≠ "__name__" := by decide) (hdb : (x == ("__debug__" : Str)) = false := by decide)
    (he : starEach (e :: es) X.env = (false, eval e X.env) :: starEach es X.env := by rfl) (hpl : (backTo pos (starEach es X.env)).any (·.1) = false := by rfl) : PE X (.Call (.Name x p) (e :: es) [] pos) (dE G B W (m_biA fA mr)) := PE.imp (pe_callB hc hg hm hv ha hn hdb he hpl) fun _ _ _ => tCBA_d hf
end

/-! the functions -/
def lenF : D → Option D
  | .str x => if x.length ≤ LINE then some (.int x.length) else none
  | .tup xs => some (.int xs.length)
  | .lst xs => some (.int xs.length)
  | .scr xs => some (.int xs.length)
  | .dct ks _ => some (.int ks.length)
  | _ => none
def rLenA (K : PySem.W.Frag) : List V → Hp → VK → Prop := fun xs H Q => (∃ x n, xs = [x] ∧ LenV K x H n ∧ Q (.int n) H) ∨ ∃ a kvs, xs = [V.ref a] ∧ Rd H a (.dK kvs) ∧ Q (.int kvs.length) H
theorem cr_len : CallR X (.builtin "len") (rLenA X.K) := CallR.or call_len (by
  intro pins s σ H xs us Q I r h
  obtain ⟨a, kvs, rfl, ha, q⟩ := h
  obtain ⟨u, rfl, ru⟩ := vals1 r
  cases ru
  exact d_len I ha fun t s' I' => ⟨.int kvs.length, H, I', ⟨t, rfl⟩, q⟩)
theorem zip_len {α β : Type} {ks : List α} {vs : List β} (h : ks.length = vs.length) : (ks.zip vs).length = ks.length := by rw [List.length_zip, ← h, Nat.min_self]
theorem cd_len : CalD G (rLenA G.K) lenF := by
  intro F H x d v Q hs e hv q
  cases hv with
  | fr hv =>
    cases hv with
    | str x =>
      have e' : (if x.length ≤ LINE then some (D.int x.length) else none) = some d := e
      by_cases hl : x.length ≤ LINE
      · rw [if_pos hl] at e'; cases e'; exact .inl ⟨_, x.length, rfl, ⟨by rw [← LINE_eq]; exact hl, rfl⟩, q F H _ (Grow.refl hs) (.int _)⟩
      · rw [if_neg hl] at e'; cases e'
    | tup h1 h2 => cases e; exact .inl ⟨_, _, rfl, .inr ⟨_, h1.sq hs, rfl⟩, by rw [h2.length]; exact q F H _ (Grow.refl hs) (.int _)⟩
    | lst h1 h2 => cases e; exact .inl ⟨_, _, rfl, .inl ⟨_, SqL.of (hs _ _ h1), rfl⟩, by rw [h2.length]; exact q F H _ (Grow.refl hs) (.int _)⟩
    | scr h1 => cases e; exact .inl ⟨_, _, rfl, .inl ⟨_, sqL_sub hs h1, rfl⟩, by rw [List.length_map]; exact q F H _ (Grow.refl hs) (.int _)⟩
    | dct h1 hc hl h2 => cases e; exact .inr ⟨_, _, rfl, rd_core hs h1 hc, by rw [zip_len hl]; exact q F H _ (Grow.refl hs) (.int _)⟩
    | _ => cases e
  | ol h1 h2 => cases e; exact .inl ⟨_, _, rfl, .inl ⟨_, SqL.of h1, rfl⟩, by rw [h2.length]; exact q F H _ (Grow.refl hs) (.int _)⟩
  | od h1 hl h2 => cases e; exact .inr ⟨_, _, rfl, .inl h1, by rw [zip_len hl]; exact q F H _ (Grow.refl hs) (.int _)⟩
/-- a list's items, read on the spot -/
theorem bat_lst {F H : Hp} {v : V} {xs : List D} (hs : Same F H) (h : BAt G F H v (.lst xs)) : ∃ a vs, v = .ref a ∧ H a = some (.lst vs) ∧ Ats G F vs xs := by
  cases h with
  | fr h => cases h with
    | lst h h2 => exact ⟨_, _, rfl, hs _ _ h, h2⟩
  | ol h h2 => exact ⟨_, _, rfl, h, h2⟩
theorem bat_tup {F H : Hp} {v : V} {xs : List D} (hs : Same F H) (h : BAt G F H v (.tup xs)) : ∃ a vs, v = .ref a ∧ SqT G.K H a vs ∧ Ats G F vs xs ∧ At G F v (.tup xs) := by
  cases h with
  | fr h => cases h with
    | tup h h2 => exact ⟨_, _, rfl, h.sq hs, h2, .tup h h2⟩
def absF : D → Option D
  | .int i => some (.int (if i < 0 then -i else i))
  | _ => none
theorem cd_abs : CalD G (fun xs H Q => ∃ i, xs = [.int i] ∧ Q (.int (if i < 0 then -i else i)) H) absF := by
  intro F H x d v Q hs e hv q
  unfold absF at e
  split at e
  · cases e
    cases hv with
    | fr hv => cases hv; exact ⟨_, rfl, q F H _ (Grow.refl hs) (.int _)⟩
  · cases e
def intF : D → Option D
  | .int i => some (.int i)
  | .bl k => some (.int (if k then 1 else 0))
  | _ => none
theorem cd_int : CalD G (fun xs H Q => (∃ i, xs = [.int i] ∧ Q (.int i) H) ∨ ∃ k, xs = [.bl k] ∧ Q (.int (if k then 1 else 0)) H) intF := by
  intro F H x d v Q hs e hv q
  unfold intF at e
  split at e
  · cases e
    cases hv with
    | fr hv => cases hv; exact .inl ⟨_, rfl, q F H _ (Grow.refl hs) (.int _)⟩
  · cases e
    cases hv with
    | fr hv => cases hv; exact .inr ⟨_, rfl, q F H _ (Grow.refl hs) (.int _)⟩
  · cases e
/-- ints of a list -/
def intsOf : List D → Option (List Int)
  | [] => some []
  | .int i :: r => (intsOf r).map (i :: ·)
  | _ :: _ => none
theorem intsOf_eq : ∀ {xs : List D} {ns : List Int}, intsOf xs = some ns → xs = ns.map .int
  | [], ns, h => by cases h; rfl
  | .int i :: r, ns, h => by
    have h : (intsOf r).map (i :: ·) = some ns := h
    cases q : intsOf r with
    | none => rw [q] at h; cases h
    | some ms => rw [q] at h; cases h; rw [intsOf_eq q]; rfl
  | .non :: _, _, h => by cases h
  | .bl _ :: _, _, h => by cases h
  | .str _ :: _, _, h => by cases h
  | .tup _ :: _, _, h => by cases h
  | .lst _ :: _, _, h => by cases h
  | .dct _ _ :: _, _, h => by cases h
  | .ins _ _ :: _, _, h => by cases h
  | .scr _ :: _, _, h => by cases h
theorem intsOf_map : ∀ ns : List Int, intsOf (ns.map .int) = some ns
  | [] => rfl
  | n :: ns => by show (intsOf (ns.map .int)).map (n :: ·) = _; rw [intsOf_map ns]; rfl
def blsOf : List D → Option (List Bool)
  | [] => some []
  | .bl i :: r => (blsOf r).map (i :: ·)
  | _ :: _ => none
theorem blsOf_eq : ∀ {xs : List D} {ns : List Bool}, blsOf xs = some ns → xs = ns.map .bl
  | [], ns, h => by cases h; rfl
  | .bl i :: r, ns, h => by
    have h : (blsOf r).map (i :: ·) = some ns := h
    cases q : blsOf r with
    | none => rw [q] at h; cases h
    | some ms => rw [q] at h; cases h; rw [blsOf_eq q]; rfl
  | .non :: _, _, h => by cases h
  | .int _ :: _, _, h => by cases h
  | .str _ :: _, _, h => by cases h
  | .tup _ :: _, _, h => by cases h
  | .lst _ :: _, _, h => by cases h
  | .dct _ _ :: _, _, h => by cases h
  | .ins _ _ :: _, _, h => by cases h
  | .scr _ :: _, _, h => by cases h
theorem blsOf_map : ∀ ns : List Bool, blsOf (ns.map .bl) = some ns
  | [] => rfl
  | n :: ns => by show (blsOf (ns.map .bl)).map (n :: ·) = _; rw [blsOf_map ns]; rfl
theorem Ats.bls : ∀ {vs : List V} {ns : List Bool} {F : Hp}, Ats G F vs (ns.map D.bl) → vs = ns.map V.bl
  | _, [], _, .nil => rfl
  | _, n :: ns, _, .cons h hs => by
    cases h
    rw [Ats.bls hs]
    rfl
def lstF (f : List D → Option D) : D → Option D
  | .lst xs => f xs
  | _ => none
def sumF : D → Option D := lstF fun xs => (intsOf xs).map fun ns => .int ns.sum
def anyF : D → Option D := lstF fun xs => (blsOf xs).map fun ns => .bl (ns.any id)
def allF : D → Option D := lstF fun xs => (blsOf xs).map fun ns => .bl (ns.all id)
def maxL : List Int → Option Int
  | [] => none
  | n :: ns => some (ns.foldl max n)
def minL : List Int → Option Int
  | [] => none
  | n :: ns => some (ns.foldl min n)
def maxF : D → Option D := lstF fun xs => (intsOf xs).bind fun ns => (maxL ns).map .int
def minF : D → Option D := lstF fun xs => (intsOf xs).bind fun ns => (minL ns).map .int
theorem cd_sum : CalD G (rSum G.K) sumF := by
  intro F H x d v Q hs e hv q
  cases x with
  | lst xs =>
    have e : (intsOf xs).map (fun ns => D.int ns.sum) = some d := e
    cases z : intsOf xs with
    | none => rw [z] at e; cases e
    | some ns =>
      rw [z] at e
      cases e
      obtain ⟨a, vs, rfl, ha, hA⟩ := bat_lst hs hv
      rw [intsOf_eq z] at hA
      rw [hA.ints] at ha
      exact ⟨a, ns, rfl, SqL.of ha, q F H _ (Grow.refl hs) (.int _)⟩
  | _ => cases e
theorem cd_any : CalD G (rAny G.K) anyF := by
  intro F H x d v Q hs e hv q
  cases x with
  | lst xs =>
    have e : (blsOf xs).map (fun ns => D.bl (ns.any id)) = some d := e
    cases z : blsOf xs with
    | none => rw [z] at e; cases e
    | some ns =>
      rw [z] at e
      cases e
      obtain ⟨a, vs, rfl, ha, hA⟩ := bat_lst hs hv
      rw [blsOf_eq z] at hA
      rw [hA.bls] at ha
      exact ⟨a, ns, rfl, SqL.of ha, q F H _ (Grow.refl hs) (.bl _)⟩
  | _ => cases e
theorem cd_all : CalD G (rAll G.K) allF := by
  intro F H x d v Q hs e hv q
  cases x with
  | lst xs =>
    have e : (blsOf xs).map (fun ns => D.bl (ns.all id)) = some d := e
    cases z : blsOf xs with
    | none => rw [z] at e; cases e
    | some ns =>
      rw [z] at e
      cases e
      obtain ⟨a, vs, rfl, ha, hA⟩ := bat_lst hs hv
      rw [blsOf_eq z] at hA
      rw [hA.bls] at ha
      exact ⟨a, ns, rfl, SqL.of ha, q F H _ (Grow.refl hs) (.bl _)⟩
  | _ => cases e
theorem foldl_max_spec : ∀ (ns : List Int) (n : Int), (∀ m ∈ n :: ns, m ≤ ns.foldl max n) ∧ ns.foldl max n ∈ n :: ns
  | [], n => ⟨fun m h => by simp at h; subst h; exact Int.le_refl _, by simp⟩
  | k :: ns, n => by
    obtain ⟨h1, h2⟩ := foldl_max_spec ns (max n k)
    refine ⟨fun m h => ?_, ?_⟩
    · show m ≤ ns.foldl max (max n k)
      have h0 := h1 (max n k) List.mem_cons_self
      rcases List.mem_cons.mp h with e | h
      · subst e; exact Int.le_trans (Int.le_max_left m k) h0
      · rcases List.mem_cons.mp h with e | h
        · subst e; exact Int.le_trans (Int.le_max_right n m) h0
        · exact h1 m (List.mem_cons_of_mem _ h)
    · show ns.foldl max (max n k) ∈ n :: k :: ns
      rcases List.mem_cons.mp h2 with e | h
      · rw [e]
        rcases Int.le_total n k with z | z
        · rw [Int.max_eq_right z]; simp
        · rw [Int.max_eq_left z]; simp
      · exact List.mem_cons_of_mem _ (List.mem_cons_of_mem _ h)
theorem foldl_min_spec : ∀ (ns : List Int) (n : Int), (∀ m ∈ n :: ns, ns.foldl min n ≤ m) ∧ ns.foldl min n ∈ n :: ns
  | [], n => ⟨fun m h => by simp at h; subst h; exact Int.le_refl _, by simp⟩
  | k :: ns, n => by
    obtain ⟨h1, h2⟩ := foldl_min_spec ns (min n k)
    refine ⟨fun m h => ?_, ?_⟩
    · show ns.foldl min (min n k) ≤ m
      have h0 := h1 (min n k) List.mem_cons_self
      rcases List.mem_cons.mp h with e | h
      · subst e; exact Int.le_trans h0 (Int.min_le_left m k)
      · rcases List.mem_cons.mp h with e | h
        · subst e; exact Int.le_trans h0 (Int.min_le_right n m)
        · exact h1 m (List.mem_cons_of_mem _ h)
    · show ns.foldl min (min n k) ∈ n :: k :: ns
      rcases List.mem_cons.mp h2 with e | h
      · rw [e]
        rcases Int.le_total n k with z | z
        · rw [Int.min_eq_left z]; simp
        · rw [Int.min_eq_right z]; simp
      · exact List.mem_cons_of_mem _ (List.mem_cons_of_mem _ h)
theorem cd_max : CalD G (rMax G.K) maxF := by
  intro F H x d v Q hs e hv q
  cases x with
  | lst xs =>
    have e : (intsOf xs).bind (fun ns => (maxL ns).map .int) = some d := e
    cases z : intsOf xs with
    | none => rw [z] at e; cases e
    | some ns =>
      rw [z] at e
      cases ns with
      | nil => cases e
      | cons n ns =>
        cases e
        obtain ⟨a, vs, rfl, ha, hA⟩ := bat_lst hs hv
        rw [intsOf_eq z] at hA
        rw [hA.ints] at ha
        obtain ⟨h1, h2⟩ := foldl_max_spec ns n
        refine ⟨a, n :: ns, rfl, SqL.of ha, by simp, fun m hm hle => ?_⟩
        have e : m = ns.foldl max n := Int.le_antisymm (h1 m hm) (hle _ h2)
        rw [e]
        exact q F H _ (Grow.refl hs) (.int _)
  | _ => cases e
theorem cd_min : CalD G (rMin G.K) minF := by
  intro F H x d v Q hs e hv q
  cases x with
  | lst xs =>
    have e : (intsOf xs).bind (fun ns => (minL ns).map .int) = some d := e
    cases z : intsOf xs with
    | none => rw [z] at e; cases e
    | some ns =>
      rw [z] at e
      cases ns with
      | nil => cases e
      | cons n ns =>
        cases e
        obtain ⟨a, vs, rfl, ha, hA⟩ := bat_lst hs hv
        rw [intsOf_eq z] at hA
        rw [hA.ints] at ha
        obtain ⟨h1, h2⟩ := foldl_min_spec ns n
        refine ⟨a, n :: ns, rfl, SqL.of ha, by simp, fun m hm hle => ?_⟩
        have e : m = ns.foldl min n := Int.le_antisymm (hle _ h2) (h1 m hm)
        rw [e]
        exact q F H _ (Grow.refl hs) (.int _)
  | _ => cases e
def max2F (xs : List D) : Option D :=
  match xs with
  | [.int i, .int j] => some (.int (max i j))
  | _ => none
def min2F (xs : List D) : Option D :=
  match xs with
  | [.int i, .int j] => some (.int (min i j))
  | _ => none
theorem ca_max2 : CalA G (fun xs H Q => ∃ i j, xs = [.int i, .int j] ∧ Q (.int (if j > i then j else i)) H) max2F := by
  intro F H xs d vs Q hs e hv q
  unfold max2F at e
  split at e
  · cases e
    cases hv with
    | cons h hv => cases h; cases hv with
      | cons h hv =>
        cases h; cases hv
        rename_i i j
        refine ⟨i, j, rfl, ?_⟩
        have z : (if j > i then j else i) = max i j := by
          by_cases h : j > i
          · rw [if_pos h, Int.max_eq_right (Int.le_of_lt h)]
          · rw [if_neg h, Int.max_eq_left (Int.not_lt.mp h)]
        rw [z]
        exact q F H _ (Grow.refl hs) (.int _)
  · cases e
theorem ca_min2 : CalA G (fun xs H Q => ∃ i j, xs = [.int i, .int j] ∧ Q (.int (if j < i then j else i)) H) min2F := by
  intro F H xs d vs Q hs e hv q
  unfold min2F at e
  split at e
  · cases e
    cases hv with
    | cons h hv => cases h; cases hv with
      | cons h hv =>
        cases h; cases hv
        rename_i i j
        refine ⟨i, j, rfl, ?_⟩
        have z : (if j < i then j else i) = min i j := by
          by_cases h : j < i
          · rw [if_pos h, Int.min_eq_right (Int.le_of_lt h)]
          · rw [if_neg h, Int.min_eq_left (Int.not_lt.mp h)]
        rw [z]
        exact q F H _ (Grow.refl hs) (.int _)
  · cases e
/-- list(x), x a list or a tuple of known things; of the script -/
def listF : D → Option (List D)
  | .lst xs => some xs
  | .tup xs => some xs
  | .scr ns => some (ns.map .int)
  | _ => none
theorem cn_list : CalN G (fun xs H Q => ∃ p ys, xs = [.ref p] ∧ (SqL G.K H p ys ∨ SqT G.K H p ys) ∧ ∀ l, H l = none → Q (.ref l) (upd H l (.lst ys))) listF := by
  intro F H x ds v Q hs e hv q
  cases x with
  | lst xs =>
    cases e
    obtain ⟨a, vs, rfl, ha, hA⟩ := bat_lst hs hv
    exact ⟨a, vs, rfl, .inl (SqL.of ha), fun l hl => q l vs hl hA⟩
  | tup xs =>
    cases e
    obtain ⟨a, vs, rfl, ha, hA, _⟩ := bat_tup hs hv
    exact ⟨a, vs, rfl, .inr ha, fun l hl => q l vs hl hA⟩
  | scr ns =>
    cases e
    cases hv with
    | fr hv => cases hv with
      | scr h => exact ⟨_, _, rfl, .inl (sqL_sub hs h), fun l hl => q l _ hl (Ats.of_ints ns)⟩
  | _ => cases e
/-- tuple(x) -/
def tupF : D → Option D
  | .lst xs => if xs.length ≤ LINE then some (.tup xs) else none
  | .tup xs => some (.tup xs)
  | _ => none
theorem cd_tup : CalD G (fun xs H Q => ∃ p ys, xs = [.ref p] ∧ ((SqL G.K H p ys ∧ ∀ l, H l = none → Q (.ref l) (upd H l (.tup ys))) ∨ (SqT G.K H p ys ∧ Q (.ref p) H))) tupF := by
  intro F H x d v Q hs e hv q
  cases x with
  | lst xs =>
    have e : (if xs.length ≤ LINE then some (D.tup xs) else none) = some d := e
    split at e
    · cases e
      obtain ⟨a, vs, rfl, ha, hA⟩ := bat_lst hs hv
      exact ⟨a, vs, rfl, .inl ⟨SqL.of ha, fun l hl => by
        have g := Grow.at (.tup vs) hs hl
        exact q _ _ _ g (.tup (.inl upd_same) (hA.ext g.ext))⟩⟩
    · cases e
  | tup xs =>
    cases e
    obtain ⟨a, vs, rfl, ha, hA, h⟩ := bat_tup hs hv
    exact ⟨a, vs, rfl, .inr ⟨ha, q F H _ (Grow.refl hs) h⟩⟩
  | _ => cases e
/-! sorted(xs), ints -/
def insI (n : Int) : List Int → List Int
  | [] => [n]
  | m :: r => if n ≤ m then n :: m :: r else m :: insI n r
def srtI : List Int → List Int
  | [] => []
  | n :: r => insI n (srtI r)
theorem insI_perm (n : Int) : ∀ xs, (insI n xs).Perm (n :: xs)
  | [] => .refl _
  | m :: r => by
    unfold insI
    split
    · exact .refl _
    · exact ((insI_perm n r).cons m).trans (.swap n m r)
theorem srtI_perm : ∀ xs, (srtI xs).Perm xs
  | [] => .refl _
  | n :: r => (insI_perm n (srtI r)).trans ((srtI_perm r).cons n)
theorem insI_sorted (n : Int) : ∀ xs : List Int, xs.Pairwise (· ≤ ·) → (insI n xs).Pairwise (· ≤ ·)
  | [], _ => by simp [insI]
  | m :: r, h => by
    unfold insI
    split
    · rename_i hle
      refine List.pairwise_cons.mpr ⟨fun k hk => ?_, h⟩
      rcases List.mem_cons.mp hk with e | hk
      · rw [e]; exact hle
      · exact Int.le_trans hle ((List.pairwise_cons.mp h).1 k hk)
    · rename_i hle
      refine List.pairwise_cons.mpr ⟨fun k hk => ?_, insI_sorted n r (List.pairwise_cons.mp h).2⟩
      rcases List.mem_cons.mp ((insI_perm n r).mem_iff.mp hk) with e | hk
      · rw [e]; omega
      · exact (List.pairwise_cons.mp h).1 k hk
theorem srtI_sorted : ∀ xs, (srtI xs).Pairwise (· ≤ ·)
  | [] => .nil
  | n :: r => insI_sorted n _ (srtI_sorted r)
theorem sorted_unique : ∀ {xs ys : List Int}, xs.Perm ys → xs.Pairwise (· ≤ ·) → ys.Pairwise (· ≤ ·) → xs = ys
  | [], ys, p, _, _ => by rw [p.nil_eq]
  | x :: xs, [], p, _, _ => by exact absurd p.eq_nil (by simp)
  | x :: xs, y :: ys, p, h1, h2 => by
    have e : x = y := by
      apply Int.le_antisymm
      · rcases List.mem_cons.mp (p.mem_iff.mpr List.mem_cons_self) with e | h
        · rw [e]; exact Int.le_refl _
        · exact (List.pairwise_cons.mp h1).1 y h
      · rcases List.mem_cons.mp (p.mem_iff.mp List.mem_cons_self) with e | h
        · rw [e]; exact Int.le_refl _
        · exact (List.pairwise_cons.mp h2).1 x h
    subst e
    rw [sorted_unique (p.cons_inv) (List.pairwise_cons.mp h1).2 (List.pairwise_cons.mp h2).2]
def sortedIF : D → Option (List D)
  | .lst xs => (intsOf xs).map fun ns => (srtI ns).map .int
  | _ => none
theorem cn_sortedI : CalN G (rSortedI G.K) sortedIF := by
  intro F H x ds v Q hs e hv q
  cases x with
  | lst xs =>
    have e : (intsOf xs).map (fun ns => (srtI ns).map D.int) = some ds := e
    cases z : intsOf xs with
    | none => rw [z] at e; cases e
    | some ns =>
      rw [z] at e
      cases e
      obtain ⟨a, vs, rfl, ha, hA⟩ := bat_lst hs hv
      rw [intsOf_eq z] at hA
      rw [hA.ints] at ha
      refine ⟨a, ns, rfl, SqL.of ha, fun ns' p hp hs' hn => ?_⟩
      rw [sorted_unique (hp.trans (srtI_perm ns).symm) hs' (srtI_sorted ns)]
      exact q p _ hn (Ats.of_ints _)
  | _ => cases e
def divmodF (xs : List D) : Option D :=
  match xs with
  | [.int i, .int j] => if 0 < j ∧ j < 1073741824 then some (.tup [.int (i / j), .int (i % j)]) else none
  | _ => none
theorem ca_divmod : CalA G (fun xs H Q => ∃ i j, xs = [.int i, .int j] ∧ CDiv i j ∧ ∀ p, H p = none → Q (.ref p) (upd H p (.tup [.int (i / j), .int (i % j)]))) divmodF := by
  intro F H xs d vs Q hs e hv q
  unfold divmodF at e
  split at e
  · split at e
    · rename_i i j hc
      cases e
      cases hv with
      | cons h hv => cases h; cases hv with
        | cons h hv =>
          cases h; cases hv
          refine ⟨i, j, rfl, hc, fun p hp => ?_⟩
          have g := Grow.at (.tup [.int (i / j), .int (i % j)]) hs hp
          exact q _ _ _ g (.tup (.inl upd_same) (.cons (.int _) (.cons (.int _) .nil)))
    · cases e
  · cases e
def strF : D → Option D
  | .int i => if i.natAbs.log2 < 1920 then some (.str (toString i)) else none
  | .str a => some (.str a)
  | _ => none
theorem cd_str : CalD G (fun xs H Q => (∃ i : Int, xs = [.int i] ∧ i.natAbs.log2 < 1920 ∧ Q (.str (toString i)) H) ∨ ∃ a, xs = [.str a] ∧ Q (.str a) H) strF := by
  intro F H x d v Q hs e hv q
  unfold strF at e
  split at e
  · split at e
    · rename_i h
      cases e
      cases hv with
      | fr hv => cases hv; exact .inl ⟨_, rfl, h, q F H _ (Grow.refl hs) (.str _)⟩
    · cases e
  · cases e
    cases hv with
    | fr hv => cases hv; exact .inr ⟨_, rfl, q F H _ (Grow.refl hs) (.str _)⟩
  · cases e
end
end AT
set_option Elab.async false
set_option linter.all false
set_option maxRecDepth 100000
set_option maxHeartbeats 2000000
/-! AT7: isinstance, subscripts, slices, what is walked. -/
namespace AT
open PySem PySem.Spec PyProof.Rows L2

/-! ### isinstance -/
structure InsF (K : PySem.W.Frag) (C : Addr) : Prop where
  cls : Cls K C
  ha : PySem.W.findIn K (.ref C) "__class__" = some (some (.builtin "object.__class__"))
  hn : PySem.W.specialIn K (.builtin "object.__class__") "__get__" = some (some (.builtin "getset_descriptor.__get__"))
  htk : PySem.W.takesIn K (.builtin "object.__class__") = some true
  hm : PySem.W.mroIn K C (.type "object") = some true
def insB (K : PySem.W.Frag) (c : Str) : Bool := (He.Fa.cls c).ok K && (He.eqO (PySem.W.findIn K (.ref (He.ga K c)) "__class__") (some (some (.builtin "object.__class__"))) &&
  (He.eqO (PySem.W.specialIn K (.builtin "object.__class__") "__get__") (some (some (.builtin "getset_descriptor.__get__"))) && (decide (PySem.W.takesIn K (.builtin "object.__class__") = some true) && decide (PySem.W.mroIn K (He.ga K c) (.type "object") = some true))))
theorem insB_ok {K : PySem.W.Frag} {c : Str} (h : insB K c = true) : InsF K (He.ga K c) := by
  obtain ⟨h1, h⟩ := He.ba h
  obtain ⟨h2, h⟩ := He.ba h
  obtain ⟨h3, h⟩ := He.ba h
  obtain ⟨h4, h5⟩ := He.ba h
  exact ⟨He.cls_ok h1, He.eqO_ok h2, He.eqO_ok h3, of_decide_eq_true h4, of_decide_eq_true h5⟩
def tyD (G : Gam) : D → Value
  | .non => .type "NoneType"
  | .bl _ => .type "bool"
  | .int _ => .type "int"
  | .str _ => .type "str"
  | .tup _ => .type "tuple"
  | .lst _ => .type "list"
  | .dct _ _ => .type "dict"
  | .scr _ => .type "list"
  | .ins c _ => .ref (G.C c)
/-- what a class says of data: of a built-in type's, of the own classes' -/
structure IsTab where
  tb : String → Bool
  cs : List (Str × Bool)
def isB (t : IsTab) : D → Option Bool
  | .non => some (t.tb "NoneType")
  | .bl _ => some (t.tb "bool")
  | .int _ => some (t.tb "int")
  | .str _ => some (t.tb "str")
  | .tup _ => some (t.tb "tuple")
  | .lst _ => some (t.tb "list")
  | .scr _ => some (t.tb "list")
  | .dct _ _ => some (t.tb "dict")
  | .ins c _ => t.cs.lookup c
def isaF (t : IsTab) (x : D) : Option D := (isB t x).map .bl
/-- one class, or several -/
def chkIs (K : PySem.W.Frag) (t : IsTab) (k : Value → Option Bool) : Bool :=
  (["NoneType", "bool", "int", "str", "tuple", "list", "dict"].all fun T => decide (k (.type T) = some (t.tb T))) && t.cs.all fun p => insB K p.1 && decide (k (.ref (He.ga K p.1)) = some p.2)
theorem lookup_mem' {α β : Type} [BEq α] [LawfulBEq α] {a : α} {b : β} : ∀ {l : List (α × β)}, l.lookup a = some b → (a, b) ∈ l
  | [], h => by cases h
  | (x, y) :: r, h => by
    rw [List.lookup_cons] at h
    split at h
    · rename_i e
      have e := eq_of_beq e
      cases h
      rw [e]
      exact List.mem_cons_self
    · exact List.mem_cons_of_mem _ (lookup_mem' h)
section
variable {G : Gam} {F H : Hp}
theorem chk_ok {t : IsTab} {k : Value → Option Bool} (hC : G.C = He.ga G.K) (h : chkIs G.K t k = true) {x : D} {b : Bool} (e : isB t x = some b) : k (tyD G x) = some b ∧ ∀ c vs, x = .ins c vs → InsF G.K (G.C c) := by
  obtain ⟨h1, h2⟩ := He.ba h
  have tb : ∀ T ∈ ["NoneType", "bool", "int", "str", "tuple", "list", "dict"], k (.type T) = some (t.tb T) := fun T hT => of_decide_eq_true (List.all_eq_true.mp h1 T hT)
  cases x with
  | ins c vs =>
    obtain ⟨q1, q2⟩ := He.ba (List.all_eq_true.mp h2 _ (lookup_mem' e))
    have q3 := insB_ok q1
    refine ⟨?_, fun c' vs' e' => ?_⟩
    · show k (.ref (G.C c)) = some b
      rw [hC]
      exact of_decide_eq_true q2
    · cases e'
      rw [hC]
      exact q3
  | _ =>
    cases e
    exact ⟨tb _ (by simp), fun _ _ z => nomatch z⟩
theorem tyx_at (hs : Same F H) {v : V} {x : D} (h : BAt G F H v x) (hi : ∀ c vs, x = .ins c vs → InsF G.K (G.C c)) : TyX G.K H v (tyD G x) := by
  cases h with
  | fr h =>
    cases h with
    | non => exact .base .non
    | bl b => exact .base (.bl b)
    | int i => exact .base (.int i)
    | str x => exact .base (.str x)
    | tup h1 h2 =>
      rcases h1 with h1 | ⟨o, its, n, e1, e2, _⟩
      · exact .base (.tup (hs _ _ h1))
      · exact .kTuple e1 e2
    | lst h1 h2 => exact .base (.lst (hs _ _ h1))
    | dct h1 hc hl h2 =>
      rcases rd_core hs h1 hc with h | ⟨o, h⟩
      · exact .base (.dK h)
      · exact .fDict h
    | ins h1 hl h2 =>
      have f := hi _ _ rfl
      exact .base (.ins (hs _ _ h1) f.cls f.ha f.hn f.htk f.hm)
    | scr h1 =>
      rcases sqL_sub hs h1 with (h | ⟨o, h⟩) | ⟨o, its, n, e1, e2, _⟩
      · exact .base (.lst h)
      · exact .base (.frz h)
      · exact .kList e1 e2
  | ol h1 h2 => exact .base (.lst h1)
  | od h1 hl h2 => exact .base (.dK h1)
end
section
variable {X : Cx} {G : Gam} {B : Ba} {W : WX} {a b e : Expr} {es : List Expr} {ma mb : ME} {mr : MA} {pos p q : Pos} {x : Str}
/-- isinstance(a, T): T a value that is known -/
theorem de_isa {t : IsTab} {c : V} {u : Value} (hG : X.K = G.K) (hC : G.C = He.ga G.K) (hc : chkIs G.K t (fun v => PySem.W.kitOne G.K v u) = true) (hu : ClsV c u) (hm : X.mg "isinstance" = none) (ha : PE X a (dB G B W ma)) (hb : PE X b (tC c)) (hg : Gl X "isinstance" := by rfl)
    (he : starEach [a, b] X.env = (false, eval a X.env) :: starEach [b] X.env := by rfl) (he2 : starEach [b] X.env = (false, eval b X.env) :: starEach [] X.env := by rfl) (hpl : (backTo pos (starEach [b] X.env)).any (·.1) = false := by rfl) :
    PE X (.Call (.Name "isinstance" p) [a, b] [] pos) (dE G B W (m_un (isaF t) ma)) :=
  PE.imp (pe_callB call_isi hg hm (by decide +kernel) (pa_cons ha (pa_cons hb pa_nil he2) he) (by decide) (by decide) he hpl) fun σ H Q ⟨F, ρ, E, p⟩ => ⟨F, ρ, E, p.bind.mono fun x ρ1 F1 H1 x1 E1 p1 v hv => by
    unfold isaF at p1
    cases z : isB t x with
    | none => rw [z] at p1; exact p1.elim
    | some k =>
      rw [z] at p1
      obtain ⟨k1, k2⟩ := chk_ok hC hc z
      exact ⟨v, c, tyD G x, u, k, rfl, hu, by rw [hG]; exact tyx_at E1.sub hv k2, by rw [hG]; exact k1, p1 F1 H1 (Ext.refl F1) E1 _ (.bl k)⟩⟩
/-- isinstance(a, (T, ..)) -/
theorem de_isaT {t : IsTab} {cs : List V} {us : List Value} {ta : TA} {xk tp} (hG : X.K = G.K) (hC : G.C = He.ga G.K) (hc : chkIs G.K t (fun v => PySem.W.kitAny G.K v us) = true) (hu : Paired ClsV cs us) (hm : X.mg "isinstance" = none) (ha : PE X a (dB G B W ma)) (hb : PA X es (fun _ H Q => Q cs H)) (hl : cs.length ≤ LINE := by decide) (hg : Gl X "isinstance" := by rfl)
    (he : starEach [a, .Tuple es xk tp] X.env = (false, eval a X.env) :: starEach [.Tuple es xk tp] X.env := by rfl) (he2 : starEach [.Tuple es xk tp] X.env = (false, eval (.Tuple es xk tp) X.env) :: starEach [] X.env := by rfl) (hpl : (backTo pos (starEach [.Tuple es xk tp] X.env)).any (·.1) = false := by rfl) :
    PE X (.Call (.Name "isinstance" p) [a, .Tuple es xk tp] [] pos) (dE G B W (m_un (isaF t) ma)) :=
  PE.imp (pe_callB call_isiT hg hm (by decide +kernel) (pa_cons ha (pa_cons (pe_tup hb) pa_nil he2) he) (by decide) (by decide) he hpl) fun σ H Q ⟨F, ρ, E, p⟩ => ⟨F, ρ, E, p.bind.mono fun x ρ1 F1 H1 x1 E1 p1 v hv => by
    unfold isaF at p1
    cases z : isB t x with
    | none => rw [z] at p1; exact p1.elim
    | some k =>
      rw [z] at p1
      obtain ⟨k1, k2⟩ := chk_ok hC hc z
      refine ⟨by rw [← LINE_eq]; exact hl, fun r hr => ?_⟩
      have g := Grow.at (.tup cs) E1.sub hr
      have hv' : BAt G F1 (upd H1 r (.tup cs)) v x := by
        cases hv with
        | fr h => exact .fr h
        | ol h1 h2 => exact .ol (g.old _ _ h1) h2
        | od h1 hl h2 => exact .od (g.old _ _ h1) hl h2
      exact ⟨v, r, cs, tyD G x, us, k, rfl, upd_same, hu, by rw [hG]; exact tyx_at (fun a u h => g.old a u (E1.sub a u h)) hv' k2, by rw [hG]; exact k1, p1 _ _ g.ext (E1.grow g) _ (.bl k)⟩⟩

/-! ### subscripts -/
def lookK : List Key → List D → Key → Option D
  | k :: ks, v :: vs, j => if k = j then some v else lookK ks vs j
  | _, _, _ => none
def keyD : D → Option Key
  | .int i => some (.inl i)
  | .str x => some (.inr x)
  | _ => none
def ixF (x i : D) : Option D :=
  match x with
  | .dct ks vs => (keyD i).bind fun k => lookK ks vs k
  | .lst xs => match i with
    | .int i => atI xs i
    | _ => none
  | .tup xs => match i with
    | .int i => atI xs i
    | _ => none
  | .scr ns => match i with
    | .int i => (atI ns i).map .int
    | _ => none
  | .str z => match i with
    | .int i => if z.length ≤ LINE then (atI z.cps.toList i).map fun c => .str ⟨#[c]⟩ else none
    | _ => none
  | _ => none
def rIxDct : R2 := fun x y H Q => ∃ a v, x = .ref a ∧ DGet H a y (some v) ∧ Q v H
theorem ix_dct (hu : X.A.units + 1 < cLine) : IxR X rIxDct := by
  intro value slice pins s σ H x y v u Q I rx ry h hs
  obtain ⟨a, w, rfl, g, q⟩ := h
  obtain rfl : v = Value.ref a := rx
  exact tail_any (dict_typeIs I g) slot_dict_getitem.lookup (d_getItem hu I g ry fun w' s3 I3 rw' => ⟨w, H, I3, rw', q⟩) hs
def rIxA (K : PySem.W.Frag) : R2 := fun x y H Q => rIx K x y H Q ∨ rIxDct x y H Q
theorem ix_any (hu : X.A.units + 1 < cLine) : IxR X (rIxA X.K) := IxR.or ix_seq (ix_dct hu)
theorem Ats.atI {F : Hp} {vs : List V} {ds : List D} {i : Int} {d : D} (h : Ats G F vs ds) (e : L2.atI ds i = some d) : ∃ v, L2.atI vs i = some v ∧ At G F v d := by
  unfold L2.atI at e ⊢
  rw [h.length]
  cases z : ixN ds.length i with
  | none => rw [z] at e; cases e
  | some j =>
    rw [z] at e
    exact h.get e
theorem lookK_at {F : Hp} : ∀ {ks : List Key} {vs : List V} {ds : List D} {k : Key} {d : D}, ks.length = vs.length → Ats G F vs ds → lookK ks ds k = some d → ∃ v, valV (ks.zip vs) k = some v ∧ At G F v d
  | [], _, _, _, _, _, _, e => by cases e
  | _ :: _, [], _, _, _, hl, _, _ => by cases hl
  | k' :: ks, v :: vs, _, k, d, hl, .cons (d := d') (ds := ds) h hs, e => by
    have e : (if k' = k then some d' else lookK ks ds k) = some d := e
    by_cases z : k' = k
    · rw [if_pos z] at e
      cases e
      exact ⟨v, valV_pos (p := (k', v)) z, h⟩
    · rw [if_neg z] at e
      obtain ⟨w, h1, h2⟩ := lookK_at (by simpa using hl) hs e
      exact ⟨w, by
        show valV ((k', v) :: ks.zip vs) k = some w
        rw [valV_neg (p := (k', v)) z]
        exact h1, h2⟩
theorem keyD_at {F H : Hp} {v : V} {d : D} {k : Key} (h : BAt G F H v d) (e : keyD d = some k) : v = kV k := by
  cases h with
  | fr h => cases h <;> first | (cases e; rfl) | cases e
  | ol _ _ => cases e
  | od _ _ _ => cases e
theorem opd_ix : OpD G (rIxA G.K) ixF := by
  intro F H x y d v w Q hs e hv hw q
  unfold ixF at e
  split at e
  · rename_i ks ds
    cases z : keyD y with
    | none => rw [z] at e; cases e
    | some k =>
      rw [z] at e
      have ek := keyD_at hw z
      subst ek
      cases hv with
      | fr hv => cases hv with
        | dct h1 hc hl h2 =>
          obtain ⟨u, g, hu⟩ := lookK_at hl h2 e
          exact .inr ⟨_, u, rfl, .inl ⟨_, k, rd_core hs h1 hc, rfl, g.symm⟩, q F H u (Grow.refl hs) hu⟩
      | od h1 hl h2 =>
        obtain ⟨u, g, hu⟩ := lookK_at hl h2 e
        exact .inr ⟨_, u, rfl, .inl ⟨_, k, .inl h1, rfl, g.symm⟩, q F H u (Grow.refl hs) hu⟩
  · split at e
    · obtain ⟨a, vs, rfl, ha, hA⟩ := bat_lst hs hv
      obtain ⟨u, g, hu⟩ := hA.atI e
      cases hw with
      | fr hw => cases hw; exact .inl (.inl ⟨a, vs, _, u, rfl, rfl, SqL.of ha, g, q F H u (Grow.refl hs) hu⟩)
    · cases e
  · split at e
    · obtain ⟨a, vs, rfl, ha, hA, _⟩ := bat_tup hs hv
      obtain ⟨u, g, hu⟩ := hA.atI e
      cases hw with
      | fr hw => cases hw; exact .inl (.inr (.inl ⟨a, vs, _, u, rfl, rfl, ha, g, q F H u (Grow.refl hs) hu⟩))
    · cases e
  · split at e
    · rename_i ns y0 i
      cases hv with
      | fr hv => cases hv with
        | @scr a _ h1 =>
          have e' : atI (ns.map D.int) i = some d := by
            unfold atI at e ⊢
            rw [List.length_map]
            cases z : ixN ns.length i with
            | none => rw [z] at e; cases e
            | some j =>
              rw [z] at e
              show (ns.map D.int)[j]? = some d
              rw [List.getElem?_map]
              exact e
          obtain ⟨u, g, hu⟩ := (Ats.of_ints (G := G) (F := F) ns).atI e'
          cases hw with
          | fr hw => cases hw; exact .inl (.inl ⟨a, _, _, u, rfl, rfl, sqL_sub hs h1, g, q F H u (Grow.refl hs) hu⟩)
    · cases e
  · split at e
    · split at e
      · rename_i z y0 i hl
        cases ec : atI z.cps.toList i with
        | none => rw [ec] at e; cases e
        | some c =>
          rw [ec] at e
          cases e
          cases hv with
          | fr hv => cases hv; cases hw with
            | fr hw => cases hw; exact .inl (.inr (.inr ⟨z, i, c, rfl, rfl, by rw [← LINE_eq]; exact hl, ec, q F H _ (Grow.refl hs) (.str _)⟩))
      · cases e
    · cases e
  · cases e
theorem de_ix (hG : X.K = G.K) (hu : X.A.units + 1 < cLine) (ha : PE X a (dE G B W ma)) (hb : PE X b (dB G B W mb)) (hs : PlainIx b) : PE X (.Subscript a b pos) (dE G B W (m_op ixF ma mb)) := PE.imp (pe_ix (ix_any hu) ha hb hs) fun σ H Q h => by rw [hG]; exact tOp_d opd_ix h
theorem de_ixP (hG : X.K = G.K) (hu : X.A.units + 1 < cLine) (k : Nat) (hb : PE X b (dB G B W mb)) (hs : PlainIx b) (hN : X.N[k]? = some x := by rfl)
    (hv : Vis X.env.scope x := by first | exact Or.inl rfl | exact Or.inr (Or.inl rfl) | exact Or.inr (Or.inr rfl)) (hd : (x == ("__debug__" : Str)) = false := by decide) (hcd : (x == ("__classdict__" : Str)) = false := by decide) :
    PE X (.Subscript (.Name x p) b pos) (dE G B W (m_opP ixF k mb)) := PE.imp (pe_ix (ix_any hu) (pe_var hN hv hd hcd) hb hs) fun σ H Q h => by rw [hG]; exact tOp_p opd_ix h
end
end AT
set_option Elab.async false
set_option linter.all false
set_option maxRecDepth 100000
set_option maxHeartbeats 2000000
/-! AT8: slices, what is walked. -/
namespace AT
open PySem PySem.Spec PyProof.Rows L2
/-! ### slices -/
def cutD {α : Type} (xs : List α) (lo hi : Option Int) : List α := (xs.drop (HT.sIx xs.length 0 lo)).take (HT.sIx xs.length xs.length hi - HT.sIx xs.length 0 lo)
abbrev MO := En → Out (Option Int)
def m_no : MO := fun ρ => .ok none ρ
def m_pt (ma : ME) : MO := fun ρ => (ma ρ).bind fun x ρ => match x with
  | .int i => .ok (some i) ρ
  | _ => .bad
def slF (x : D) (lo hi : Option Int) : Option D :=
  match x with
  | .tup xs => some (.tup (cutD xs lo hi))
  | .str z => if z.length ≤ LINE then some (.str (Txt.slice z lo hi)) else none
  | _ => none
def slN (x : D) (lo hi : Option Int) : Option (List D) :=
  match x with
  | .lst xs => some (cutD xs lo hi)
  | _ => none
def m_sl (ma : ME) (mlo mhi : MO) : ME := fun ρ => (ma ρ).bind fun x ρ => (mlo ρ).bind fun l ρ => (mhi ρ).bind fun u ρ => ofO (slF x l u) ρ
def m_slN (ma : ME) (mlo mhi : MO) : MA := fun ρ => (ma ρ).bind fun x ρ => (mlo ρ).bind fun l ρ => (mhi ρ).bind fun u ρ => ofO (slN x l u) ρ
/-- of a name, read on the spot -/
def m_slNP (k : Nat) (mlo mhi : MO) : MA := fun ρ => match peek ρ k with
  | some _ => (mlo ρ).bind fun l ρ => (mhi ρ).bind fun u ρ => match peek ρ k with
    | some x => ofO (slN x l u) ρ
    | none => .bad
  | none => .bad
section
variable {X : Cx} {G : Gam} {B : Ba} {W : WX} {a b e : Expr} {lo hi : Option Expr} {es : List Expr} {ma mb : ME} {mr : MA} {mlo mhi : MO} {pos p p2 q : Pos} {x : Str}
def dO (G : Gam) (B : Ba) (W : WX) (m : MO) : TO := fun σ H Q => ∃ F ρ, EnvOk G B F H σ ρ ∧ Post G B W σ F (m ρ) (fun o _ _ H' => Q o H')
theorem PO.imp {X : Cx} {e : Option Expr} {t t' : TO} (h : PO X e t) (hi : ∀ σ H Q, t' σ H Q → t σ H Q) : PO X e t' := ⟨fun pins s σ H Q I w => h.run pins s σ H Q I (hi σ H Q w)⟩
theorem do_no : PO X none (dO G B W m_no) := PO.imp po_none fun σ H Q ⟨F, ρ, E, p⟩ => p F H (Ext.refl F) E
theorem do_pt (ha : PE X a (dE G B W ma)) : PO X (some a) (dO G B W (m_pt ma)) := PO.imp (po_some ha) fun σ H Q ⟨F, ρ, E, p⟩ => ⟨F, ρ, E, p.bind.mono fun x ρ1 F1 H1 x1 E1 p1 v hv => by
  cases hv with
  | int i => exact ⟨i, rfl, p1 F1 H1 (Ext.refl F1) E1⟩
  | _ => exact p1.elim⟩
def rSlA2 (K : PySem.W.Frag) : V → Option Int → Option Int → Hp → VK → Prop := fun x lo hi H Q => rSlA K x lo hi H Q ∨ ∃ z, x = .str z ∧ z.length ≤ sizeLine ∧ Q (.str (Txt.slice z lo hi)) H
theorem sl_any : SlR X (rSlA2 X.K) := SlR.or sl_tupA C8.sl_txt
theorem Ats.cut {F : Hp} {vs : List V} {ds : List D} (h : Ats G F vs ds) (lo hi : Option Int) : Ats G F (cutV vs lo hi) (cutD ds lo hi) := by
  unfold cutV cutD
  rw [h.length]
  exact (h.drop _).take _
theorem de_sl (hG : X.K = G.K) (he : PE X a (dE G B W ma)) (hl : PO X lo (dO G B W mlo)) (hu : PO X hi (dO G B W mhi)) : PE X (.Subscript a (.Slice lo hi none p2) pos) (dE G B W (m_sl ma mlo mhi)) :=
  PE.imp (pe_slice sl_any he hl hu) fun σ H Q ⟨F, ρ, E, p⟩ => ⟨F, ρ, E, p.bind.mono fun x ρ1 F1 H1 x1 E1 p1 v hv => ⟨F1, ρ1, E1, p1.bind.mono fun l ρ2 F2 H2 x2 E2 p2 => ⟨F2, ρ2, E2, p2.bind.mono fun u ρ3 F3 H3 x3 E3 p3 => by
    have hv3 : At G F3 v x := hv.ext (x2.trans x3)
    cases x with
    | tup xs =>
      cases hv3 with
      | @tup a vs _ h1 h2 =>
        have p3' : Post G B W σ F3 (.ok (.tup (cutD xs l u)) ρ3) (fun d _ F' H' => ∀ v, At G F' v d → Q v H') := p3
        refine .inl ⟨a, vs, rfl, by rw [hG]; exact h1.sq E3.sub, fun z => ?_, fun z q hq => ?_⟩
        · refine p3' F3 H3 (Ext.refl F3) E3 _ ?_
          have e : cutD xs l u = xs := by
            unfold cutD
            rw [← h2.length, z.1, z.2, h2.length]
            simp
          rw [e]
          exact .tup h1 h2
        · have g := Grow.at (.tup (cutV vs l u)) E3.sub hq
          exact p3' _ _ g.ext (E3.grow g) _ (.tup (.inl upd_same) ((h2.cut l u).ext g.ext))
    | str z =>
      cases hv3
      have p3' : Post G B W σ F3 (ofO (if z.length ≤ LINE then some (D.str (Txt.slice z l u)) else none) ρ3) (fun d _ F' H' => ∀ v, At G F' v d → Q v H') := p3
      by_cases hz : z.length ≤ LINE
      · rw [if_pos hz] at p3'
        exact .inr ⟨z, rfl, by rw [← LINE_eq]; exact hz, p3' F3 H3 (Ext.refl F3) E3 _ (.str _)⟩
      · rw [if_neg hz] at p3'
        exact p3'.elim
    | _ => exact p3.elim⟩⟩⟩
theorem slN_core {F H : Hp} {σ : L2.St} {ρ : En} {v : V} {x : D} {l u : Option Int} {Q : VK} (hG : X.K = G.K) (E : EnvOk G B F H σ ρ) (hv : BAt G F H v x) (p : Post G B W σ F (ofO (slN x l u) ρ) (fun ds _ F' H' => ∀ p vs, H' p = none → Ats G F' vs ds → Q (.ref p) (upd H' p (.lst vs)))) : rSlL X.K v l u H Q := by
  cases x with
  | lst xs =>
    have p' : Post G B W σ F (.ok (cutD xs l u) ρ) (fun ds _ F' H' => ∀ p vs, H' p = none → Ats G F' vs ds → Q (.ref p) (upd H' p (.lst vs))) := p
    obtain ⟨a, vs, rfl, ha, hA⟩ := bat_lst E.sub hv
    exact ⟨a, vs, rfl, SqL.of ha, fun q hq => p' F H (Ext.refl F) E q _ hq (hA.cut l u)⟩
  | _ => exact p.elim
theorem dn_sl (hG : X.K = G.K) (he : PE X a (dE G B W ma)) (hl : PO X lo (dO G B W mlo)) (hu : PO X hi (dO G B W mhi)) : PE X (.Subscript a (.Slice lo hi none p2) pos) (dN G B W (m_slN ma mlo mhi)) :=
  PE.imp (pe_slice sl_list he hl hu) fun σ H Q ⟨F, ρ, E, p⟩ => ⟨F, ρ, E, p.bind.mono fun x ρ1 F1 H1 x1 E1 p1 v hv => ⟨F1, ρ1, E1, p1.bind.mono fun l ρ2 F2 H2 x2 E2 p2 => ⟨F2, ρ2, E2, p2.bind.mono fun u ρ3 F3 H3 x3 E3 p3 => slN_core hG E3 (.fr (hv.ext (x2.trans x3))) p3⟩⟩⟩
theorem dn_slP (hG : X.K = G.K) (k : Nat) (hl : PO X lo (dO G B W mlo)) (hu : PO X hi (dO G B W mhi)) (hN : X.N[k]? = some x := by rfl)
    (hv : Vis X.env.scope x := by first | exact Or.inl rfl | exact Or.inr (Or.inl rfl) | exact Or.inr (Or.inr rfl)) (hd : (x == ("__debug__" : Str)) = false := by decide) (hcd : (x == ("__classdict__" : Str)) = false := by decide) :
    PE X (.Subscript (.Name x p) (.Slice lo hi none p2) pos) (dN G B W (m_slNP k mlo mhi)) :=
  PE.imp (pe_slice sl_list (pe_var hN hv hd hcd) hl hu) fun σ H Q ⟨F, ρ, E, p⟩ => by
    unfold m_slNP at p
    cases q : peek ρ k with
    | none => rw [q] at p; exact p.elim
    | some d0 =>
      rw [q] at p
      obtain ⟨v, es, hv⟩ := E.peek q
      refine ⟨v, es, F, ρ, E, p.bind.mono fun l ρ2 F2 H2 x2 E2 p2 => ⟨F2, ρ2, E2, p2.bind.mono fun u ρ3 F3 H3 x3 E3 p3 => ?_⟩⟩
      cases q3 : peek ρ3 k with
      | none => simp only [q3] at p3; exact p3.elim
      | some x =>
        simp only [q3] at p3
        obtain ⟨v', es', hv'⟩ := E3.peek q3
        rw [es] at es'
        cases es'
        exact slN_core hG E3 hv' p3

/-! ### what is walked -/
def itemsF : D → Option (List D)
  | .lst xs => some xs
  | .tup xs => some xs
  | .scr ns => some (ns.map .int)
  | .str z => some (z.cps.toList.map fun c => .str ⟨#[c]⟩)
  | _ => none
def m_it (ma : ME) : MA := fun ρ => (ma ρ).bind fun x ρ => ofO (itemsF x) ρ
theorem walks_list {F0 : Hp} {K : PySem.W.Frag} {a : Addr} {vs : List V} {ds : List D} (h : SqL K F0 a vs) (hA : Ats G F0 vs ds) : Walks G (Itl K a) F0 ds := by
  intro i F H x hs
  have hH : SqL K H a vs := sqL_sub hs (x.sqL h)
  refine ⟨fun d hd => ?_, fun hl => ⟨vs, hH, by rw [hA.length]; exact hl⟩⟩
  obtain ⟨v, e, hv⟩ := hA.get hd
  refine ⟨⟨vs, v, hH, e⟩, fun w H2 ⟨e1, e2⟩ => ?_⟩
  have e3 := e2 vs hH
  rw [e] at e3
  cases e3
  subst e1
  exact ⟨F, Grow.refl hs, hv.ext x⟩
theorem walks_tup {F0 : Hp} {a : Addr} {vs : List V} {ds : List D} (h : TupAt G.K F0 a vs) (hA : Ats G F0 vs ds) : Walks G (Itt G.K a) F0 ds := by
  intro i F H x hs
  have hH : SqT G.K H a vs := (h.ext x).sq hs
  refine ⟨fun d hd => ?_, fun hl => ⟨vs, hH, by rw [hA.length]; exact hl⟩⟩
  obtain ⟨v, e, hv⟩ := hA.get hd
  refine ⟨⟨vs, v, hH, e⟩, fun w H2 ⟨e1, e2⟩ => ?_⟩
  have e3 := e2 vs hH
  rw [e] at e3
  cases e3
  subst e1
  exact ⟨F, Grow.refl hs, hv.ext x⟩
theorem walks_str {F0 : Hp} (z : Str) : Walks G (Its z) F0 (z.cps.toList.map fun c => .str ⟨#[c]⟩) := by
  intro i F H x hs
  refine ⟨fun d hd => ?_, fun hl => by show z.cps.size ≤ i; simpa using hl⟩
  rw [List.getElem?_map] at hd
  cases q : z.cps.toList[i]? with
  | none => rw [q] at hd; cases hd
  | some c =>
    rw [q] at hd
    cases hd
    have hi : i < z.cps.size := by
      have := (List.getElem?_eq_some_iff.mp q).1
      simpa using this
    refine ⟨hi, fun w H2 ⟨e1, c', e2, e3⟩ => ?_⟩
    subst e1
    have e4 : z.cps.toList[i]? = some c' := by simpa using e2
    rw [q] at e4
    cases e4
    subst e3
    exact ⟨F, Grow.refl hs, .str _⟩
theorem dE_ok {m : ME} {σ : L2.St} {H F : Hp} {ρ : En} {Q : VK} (E : EnvOk G B F H σ ρ) (h : Post G B W σ F (m ρ) (fun d _ F' H' => ∀ v, At G F' v d → Q v H')) : dE G B W m σ H Q := ⟨F, ρ, E, h⟩
variable {tg : Expr}
theorem di_it (hG : X.K = G.K) (ha : PE X a (dE G B W ma)) : PI X tg a (dI G B W (m_it ma)) := by
  refine ⟨fun pins s σ H R I ⟨F, ρ, E, p⟩ => ?_⟩
  -- the kind is known ahead
  have p0 := Post.bind (k := fun x ρ => ofO (itemsF x) ρ) p
  cases em : ma ρ with
  | bad => rw [em] at p0; exact p0.elim
  | err e ρ1 => exact (pi_list ha).run pins s σ H R I (dE_ok E (by rw [em] at p0 ⊢; exact p0))
  | ok d ρ1 =>
    rw [em] at p0
    have key : ∀ F' H', Ext F F' → EnvOk G B F' H' σ ρ1 → Post G B W σ F' (ofO (itemsF d) ρ1) (fun ds _ F' H' => ∀ J, Walks G J F' ds → R J H') := p0
    cases d with
    | lst xs =>
      refine (pi_list ha).run pins s σ H R I (dE_ok E ?_)
      rw [em]
      intro F1 H1 x1 E1 v hv
      cases hv with
      | @lst a vs _ h1 h2 => exact ⟨a, rfl, ⟨vs, SqL.of (E1.sub _ _ h1)⟩, key F1 H1 x1 E1 F1 H1 (Ext.refl F1) E1 _ (walks_list (SqL.of h1) h2)⟩
    | scr ns =>
      refine (pi_list ha).run pins s σ H R I (dE_ok E ?_)
      rw [em]
      intro F1 H1 x1 E1 v hv
      cases hv with
      | @scr a _ h1 => exact ⟨a, rfl, ⟨_, by rw [hG]; exact sqL_sub E1.sub h1⟩, key F1 H1 x1 E1 F1 H1 (Ext.refl F1) E1 _ (by rw [hG]; exact walks_list h1 (Ats.of_ints ns))⟩
    | tup xs =>
      refine (pi_tup ha).run pins s σ H R I (dE_ok E ?_)
      rw [em]
      intro F1 H1 x1 E1 v hv
      cases hv with
      | @tup a vs _ h1 h2 => exact ⟨a, rfl, ⟨vs, by rw [hG]; exact h1.sq E1.sub⟩, key F1 H1 x1 E1 F1 H1 (Ext.refl F1) E1 _ (by rw [hG]; exact walks_tup h1 h2)⟩
    | str z =>
      refine (pi_str ha).run pins s σ H R I (dE_ok E ?_)
      rw [em]
      intro F1 H1 x1 E1 v hv
      cases hv
      exact ⟨z, rfl, key F1 H1 x1 E1 F1 H1 (Ext.refl F1) E1 _ (walks_str z)⟩
    | _ => exact (pi_list ha).run pins s σ H R I (dE_ok E (by
        rw [em]
        intro F1 H1 x1 E1 v hv
        exact False.elim (key F1 H1 x1 E1)))
/-! ranges -/
def okR (i : Int) : Bool := decide (-(2 ^ 62) ≤ i) && decide (i < 2 ^ 62)
def rngL (lo : Int) (n : Nat) : List D := (List.range n).map fun k => .int (lo + (k : Nat))
theorem okR_ok {i : Int} (h : okR i = true) : -(2 ^ 62) ≤ i ∧ i < 2 ^ 62 := by
  obtain ⟨h1, h2⟩ := Bool.and_eq_true_iff.mp h
  exact ⟨of_decide_eq_true h1, of_decide_eq_true h2⟩
theorem walks_rng {F0 : Hp} (lo : Int) (n : Nat) : Walks G (Itr lo n) F0 (rngL lo n) := by
  intro i F H x hs
  unfold rngL
  refine ⟨fun d hd => ?_, fun hl => by show n ≤ i; simpa using hl⟩
  rw [List.getElem?_map] at hd
  have hi : i < n := by
    by_cases h : i < n
    · exact h
    · rw [List.getElem?_eq_none (by simpa using h)] at hd; cases hd
  rw [List.getElem?_range hi] at hd
  cases hd
  exact ⟨hi, fun w H2 ⟨e1, e2⟩ => by subst e1; subst e2; exact ⟨F, Grow.refl hs, .int _⟩⟩
def m_rng1 (mr : MA) : MA := fun ρ => (mr ρ).bind fun xs ρ => match intsOf xs with
  | some [j] => if okR j = true then .ok (rngL 0 j.toNat) ρ else .bad
  | _ => .bad
def m_rng2 (mr : MA) : MA := fun ρ => (mr ρ).bind fun xs ρ => match intsOf xs with
  | some [i, j] => if okR i = true ∧ okR j = true then .ok (rngL i (j - i).toNat) ρ else .bad
  | _ => .bad
theorem di_rng1 (ha : PE X a (dE G B W ma)) (hm : X.mg "range" = none) (hg : Gl X "range" := by rfl) (hs : starEach [a] X.env = [(false, eval a X.env)] := by rfl) : PI X tg (.Call (.Name "range" p) [a] [] pos) (dI G B W (m_rng1 (m_cons ma m_nil))) :=
  PI.imp (pi_range1 hg hm (da_cons ha da_nil hs) hs) fun σ H R ⟨F, ρ, E, p⟩ => ⟨F, ρ, E, Post.mono (Post.bind p) fun ds ρ1 F1 H1 x1 E1 p1 vs hv => by
    split at p1
    · rename_i j hj
      split at p1
      · rename_i z
        rw [intsOf_eq hj] at hv
        exact ⟨j, hv.ints, (okR_ok z).1, (okR_ok z).2, p1 F1 H1 (Ext.refl F1) E1 _ (walks_rng 0 j.toNat)⟩
      · exact p1.elim
    · exact p1.elim⟩
theorem di_rng2 (ha : PE X a (dE G B W ma)) (hb : PE X b (dE G B W mb)) (hm : X.mg "range" = none) (hg : Gl X "range" := by rfl) (hs : starEach [a, b] X.env = [(false, eval a X.env), (false, eval b X.env)] := by rfl) (hs2 : starEach [b] X.env = [(false, eval b X.env)] := by rfl) :
    PI X tg (.Call (.Name "range" p) [a, b] [] pos) (dI G B W (m_rng2 (m_cons ma (m_cons mb m_nil)))) :=
  PI.imp (pi_range2 hg hm (da_cons ha (da_cons hb da_nil hs2) (by rw [hs, hs2])) hs hs2) fun σ H R ⟨F, ρ, E, p⟩ => ⟨F, ρ, E, Post.mono (Post.bind p) fun ds ρ1 F1 H1 x1 E1 p1 vs hv => by
    split at p1
    · rename_i i j hj
      split at p1
      · rename_i z
        rw [intsOf_eq hj] at hv
        obtain ⟨a1, a2⟩ := okR_ok z.1
        obtain ⟨b1, b2⟩ := okR_ok z.2
        exact ⟨i, j, hv.ints, ⟨a1, a2, b1, b2⟩, p1 F1 H1 (Ext.refl F1) E1 _ (walks_rng i (j - i).toNat)⟩
      · exact p1.elim
    · exact p1.elim⟩
/-! enumerate, zip -/
def m_en (ma : ME) : MA := fun ρ => (ma ρ).bind fun x ρ => match x with
  | .lst xs => .ok (xs.zipIdx.map fun p => .tup [.int (p.2 : Nat), p.1]) ρ
  | _ => .bad
theorem walks_enum {F0 : Hp} {a : Addr} {vs : List V} {ds : List D} (h : SqL G.K F0 a vs) (hA : Ats G F0 vs ds) : Walks G (Ite G.K a) F0 (ds.zipIdx.map fun p => .tup [.int (p.2 : Nat), p.1]) := by
  intro i F H x hs
  have hH : SqL G.K H a vs := sqL_sub hs (x.sqL h)
  refine ⟨fun d hd => ?_, fun hl => ⟨vs, hH, by rw [hA.length]; simpa using hl⟩⟩
  rw [List.getElem?_map, List.getElem?_zipIdx] at hd
  cases q : ds[i]? with
  | none => rw [q] at hd; cases hd
  | some d0 =>
    rw [q] at hd
    cases hd
    obtain ⟨v, e, hv⟩ := hA.get q
    refine ⟨⟨vs, v, hH, e⟩, fun w H2 ⟨T, x', e1, hT, e2, e3⟩ => ?_⟩
    have e4 := e3 vs hH
    rw [e] at e4
    cases e4
    subst e1
    subst e2
    have g := Grow.at (.tup [.int (i : Nat), v]) hs hT
    exact ⟨_, g, .tup (.inl upd_same) (.cons (by simpa using At.int _) (.cons ((hv.ext x).ext g.ext) .nil))⟩
variable {elts : List Expr} {kk : Nat} {tpos : Pos}
theorem di_en (hG : X.K = G.K) (ha : PE X a (dE G B W ma)) (hm : X.mg "enumerate" = none) (hg : Gl X "enumerate" := by rfl) (hs : starEach [a] X.env = [(false, eval a X.env)] := by rfl) : PI X (.Tuple elts kk tpos) (.Call (.Name "enumerate" p) [a] [] pos) (dI G B W (m_en ma)) :=
  PI.imp (pi_enum hg hm (pa_cons ha pa_nil hs) hs) fun σ H R ⟨F, ρ, E, p⟩ => ⟨F, ρ, E, Post.mono (Post.bind p) fun d ρ1 F1 H1 x1 E1 p1 v hv => by
    cases hv with
    | @lst a vs _ h1 h2 => exact ⟨a, vs, rfl, SqL.of (E1.sub _ _ h1), p1 F1 H1 (Ext.refl F1) E1 _ (by rw [hG]; exact walks_enum (SqL.of h1) h2)⟩
    | _ => exact p1.elim⟩
end
end AT
set_option Elab.async false
set_option linter.all false
set_option maxRecDepth 100000
set_option maxHeartbeats 2000000
/-! AE: an own error whose __init__ says super().__init__(text), then lays one attribute. -/
namespace AT
namespace Er
open PySem PySem.W PySem.Calls PyProof.Rows PySem.HandSPX
def eA (n : Str) (p1 p2 : Pos) : Arguments := { posonlyargs := [], args := [{ arg := "self", annotation := none, pos := p1 }, { arg := n, annotation := none, pos := p2 }], vararg := none, kwonlyargs := [], kw_defaults := [], kwarg := none, defaults := [] }
structure EP where
  p0 : Pos
  p1 : Pos
  p2 : Pos
  p3 : Pos
  p4 : Pos
  p5 : Pos
  q1 : Pos
  q2 : Pos
  q3 : Pos
  q4 : Pos
  r1 : Pos
  r2 : Pos
def eB (n msg : Str) (e : EP) : List Stmt := [.Expr (.Call (.Attribute (.Call (.Name "super" e.p0) [] [] e.p1) "__init__" e.p2) [.Constant (.str msg) 0 e.p3] [] e.p4) e.p5, .Assign [.Attribute (.Name "self" e.q1) n e.q2] (.Name n e.q3) e.q4]
def eCall (msg : Str) (e : EP) : Expr := .Call (.Attribute (.Call (.Name "super" e.p0) [] [] e.p1) "__init__" e.p2) [.Constant (.str msg) 0 e.p3] [] e.p4
structure PosOk (n msg : Str) (sc : Scope) (e : EP) : Prop where
  call : ∃ pl : Sem Bool, ∀ env, eval (eCall msg e) env = (do
      let ov ← attributeBase (.Call (.Name "super" e.p0) [] [] e.p1) "__init__" env (eval (.Call (.Name "super" e.p0) [] [] e.p1) env)
      standAt e.p2.atName
      let (f, first) ← holding [ov] (getMethod ov "__init__" pl)
      callWith e.p4 f first (backTo e.p4 (starEach [.Constant (.str msg) 0 e.p3] env)) [])
  inter : ∀ q L f cd cc, interactive (ksEnv q sc L f cd cc) = false
  sw1 : ∀ env, swapsWith (eCall msg e) none e.p5.line env = pure false
  sw2 : ∀ env, swapsWith (.Name n e.q3) (some (.Attribute (.Name "self" e.q1) n e.q2)) e.q4.line env = pure false
def Bnd (n : Str) : Prop := ∀ (qual : Str) (r1 r2 : Pos) (body : List Stmt) (sc : Scope) (doc pm cd ct : Value) (an : Option Addr) (cc : Addr) (a v : Value),
  bindArgs (ksFn "__init__" qual (eA n r1 r2) body sc .none .none doc pm an cd ct cc) ⟨[a, v], []⟩ = pure [(("self" : Str), a), (n, v)]
theorem bnd_part : Bnd "part" := fun _ _ _ _ _ _ _ _ _ _ _ _ _ => rfl
theorem bnd_at : Bnd "at" := fun _ _ _ _ _ _ _ _ _ _ _ _ _ => rfl
theorem bnd_row : Bnd "row" := fun _ _ _ _ _ _ _ _ _ _ _ _ _ => rfl
theorem bnd_key : Bnd "key" := fun _ _ _ _ _ _ _ _ _ _ _ _ _ => rfl
theorem bnd_most : Bnd "most" := fun _ _ _ _ _ _ _ _ _ _ _ _ _ => rfl
structure ErrT (P : Program) (K : Frag) (mg : Str → Option Value) (x n msg qual : Str) (C fI cc cda : Addr) (sc : Scope) (e : EP) : Prop where
  gC : mg x = some (.ref C)
  gS : mg "super" = none
  cls : ∃ nm q N bs bm sn sub ab col dd k0 k1 k2 k3 k5, K.lookup C = some (excClassObj nm q C N bs bm true sn sub ab col dd k0 k1 k2 k3 k5 "ValueError.__new__") ∧ refsVE bm = true
  sa : findIn K (.ref C) "__setattr__" = some (some (.builtin "object.__setattr__"))
  noN : findIn K (.ref C) n = some none
  iC : findIn K (.ref C) "__init__" = some (some (.ref fI))
  tC : typeIn K (.ref fI) = some (.type "function")
  kC : keepIn K (.ref C) = true
  exC : subIn K (.ref C) (.type "BaseException") = some true
  tyC : typeIn K (.ref C) = some (.type "type")
  sup : ks_superIn K C C "__init__" = some (some (.builtin "ValueError.__init__"))
  veC : subIn K (.ref C) (.type "ValueError") = some true
  selfC : mroIn K C (.ref C) = some true
  inC : excInitIn K C [.type "ValueError", .type "Exception", .type "BaseException", .type "object"] "ValueError.__new__" = true
  noany : nsIn K cStatics "thirdparty.any" = some none
  fn : ∃ (oc : Value) (od : Option Addr) (doc pm : Value) (an : Option Addr) (ct : Value) (osl : Array (Option Value)),
    K.lookup fI = some ⟨oc, od, .func (ksFn "__init__" qual (eA n e.r1 e.r2) (eB n msg e) sc .none .none doc pm an (.ref cda) ct cc), osl⟩ ∧ codeIn K (.ref cda) qual = true
  cell : ∃ cl cld csl, K.lookup cc = some ⟨cl, cld, .cell (some (.ref C)), csl⟩
  code : ∃ ccl cdd vs ccs file tf, K.lookup cda = some ⟨ccl, cdd, .fields vs, ccs⟩ ∧ vs[2]? = some (.str file tf) ∧ ((P.main.file : Str) == file) = true
  htop : (P.main.scope.names.lookup ("super" : Str)).isSome = false
  sk : sc.kind = .function
  sg : sc.isGenerator = false
  sco : sc.isCoroutine = false
  s1 : sc.names.lookup ("super" : Str) = some .globalImplicit
  s2 : sc.names.lookup ("__class__" : Str) = some .free
  s3 : sc.names.lookup ("self" : Str) = some .local
  s4 : sc.names.lookup n = some .local
  s5 : sc.names.all (fun x => decide (x.2 ≠ .cell)) = true
  bnd : Bnd n
  pk : PosOk n msg sc e
  n1 : (n == ("self" : Str)) = false
  n2 : (n == ("__debug__" : Str)) = false
structure InitE (h h' : Heap) (x C dx t1 : Addr) (n : Str) (v : Value) : Prop where
  keep : ∀ b o, b ≠ x → h.get? b = some o → h'.get? b = some o
  obj : h'.get? x = some { cls := .ref C, dict := some dx, data := .fields #[.ref t1, .none, .none, .none, .bool false, .none] }
  dbig : h.objs.size ≤ dx
  dne : dx ≠ x
  ns : h'.Ns1 dx (fun y => if y = n then some v else none)
section
variable {prog : Program} {w : World} {A : Around} {E : Value → Shared → Prop} {R : Result → Shared → Prop} {s : Shared} {K : Frag} {mg mb : Str → Option Value} {x0 n msg qual : Str} {C fI cc cda : Addr} {sc : Scope} {e : EP}
theorem err_init (T : ErrT prog K mg x0 n msg qual C fI cc cda sc e) {x t0 : Addr} {v : Value} (X : K.In s.heap) (hlim : s.heap.NoLimit) (hG : s.heap.Ns mainGlobals mg) (hB : s.heap.Ns builtinsNs mb) (hbb : ∀ y : Str, y ≠ "__name__" → mb y = bootBuiltins y)
    (hboot : bootBuiltins "super" = some (.type "super"))
    (hx : s.heap.get? x = some (excO C t0)) (hnx : K.lookup x = none) (hroom : A.depth < recursionLimit) (hxg : x ≠ mainGlobals) (hxb : x ≠ builtinsNs)
    (hq : ∀ h' tk dx t1, InitE s.heap h' x C dx t1 n v → R (.ok (.ret .none)) { s with heap := h', toks := tk }) :
    codeAny (model prog w) A (.call (.ref fI) ⟨[.ref x, v], []⟩) R s := by
  obtain ⟨oc, od, doc, pm, an, ct, osl, ho, hcd⟩ := T.fn
  obtain ⟨nm, q, N, bs, bm, sn, sub, ab, col, dd, k0, k1, k2, k3, k5, hC, hbm⟩ := T.cls
  obtain ⟨cl, cld, csl, hcell⟩ := T.cell
  obtain ⟨ccl, cdd, vs, ccs, file, tf, hcode, hvs, hfile⟩ := T.code
  have hcl : clsIn K C = some { name := nm, bases := bs, mro := .ref C :: bm, ns := N, qualname := q, hasDict := true, slotNames := sn, subclasses := sub, abstract := ab, collection := col, hasDel := false } := by unfold clsIn; rw [hC] <;> rfl
  have hne : ∀ y ∈ sc.names, y.2 ≠ .cell := fun y hy => of_decide_eq_true (List.all_eq_true.mp T.s5 y hy)
  have hn0 : (n == ("self" : Str)) = false := T.n1
  refine ks_codeAny_call_defAt (fd := ksFn "__init__" qual (eA n e.r1 e.r2) (eB n msg e) sc .none .none doc pm an (.ref cda) ct cc) (body := eB n msg e) (binds := [("self", .ref x), (n, v)]) hroom (X _ _ ho) rfl hlim (codeRec_of X hcd) rfl
    (BindsTo.of_eq (T.bnd _ _ _ _ _ _ _ _ _ _ _ _ _)) hne (fun y hy => ?_) (fun h₁ hns hk₁ => ?_) T.sco T.sg T.sk
  · rcases List.mem_cons.mp hy with rfl | hy
    · exact T.s3
    · rcases List.mem_cons.mp hy with rfl | hy
      · exact T.s4
      · cases hy
  obtain ⟨hp, g, dr, tk0, os⟩ := s
  -- beside the heap ahead of the object
  have hxL : hp.objs.size ≠ x := Nat.ne_of_gt (Heap.lt_size hx)
  have FG : Fr (hideAll hp [x]) hp.objs.size h₁ (fun y => ([("self", Value.ref x), (n, v)] : List (Str × Value)).reverse.lookup y) := ⟨hns, fun b o eb => hk₁ b o (of_hideAll _ eb), Nat.le_of_eq (hideAll_size _ _)⟩
  have N0 : News (hideAll hp [x]) hp.objs.size h₁ [(x, excObj C t0 none .none)] := fun p hp' => by
    rcases List.mem_cons.mp hp' with rfl | z
    · exact ⟨hk₁ _ _ hx, hxL.symm, hideAll_none _ List.mem_cons_self⟩
    · cases z
  have X0 : K.In (hideAll hp [x]) := fun b o eb => hideAll_get _ (X b o eb) (fun z => by
    rcases List.mem_cons.mp z with rfl | z
    · rw [hnx] at eb; cases eb
    · cases z)
  have mself : ([("self", Value.ref x), (n, v)] : List (Str × Value)).reverse.lookup ("self" : Str) = some (.ref x) := by
    show List.lookup ("self" : Str) [(n, v), ("self", Value.ref x)] = _
    rw [List.lookup_cons]
    have z : (("self" : Str) == n) = false := by
      cases q : (("self" : Str) == n) with
      | false => rfl
      | true => rw [eq_of_beq q] at hn0; simp at hn0
    rw [z]
    rfl
  have mn : ([("self", Value.ref x), (n, v)] : List (Str × Value)).reverse.lookup n = some v := by
    show List.lookup n [(n, v), ("self", Value.ref x)] = _
    rw [List.lookup_cons, beq_self_eq_true]
  show _root_.PySem.wpAt _ _ _ (execs (eB n msg e) (ksEnv qual sc hp.objs.size fI (.ref cda) cc)) _ _ _
  have X₁ : K.In h₁ := X0.keeps FG.keep
  have I₁ : InstAt h₁ x (excObj C t0 none .none) C none := InstAt.of_exc0 N0 List.mem_cons_self
  obtain ⟨pl, hcall⟩ := T.pk.call
  refine ks_wpAt_execs_cons (ks_wpAt_Expr_any (ks_wpAt_MethodCall (pl := pl) ?_ (hcall _)) (T.pk.inter _ _ _ _ _) (T.pk.sw1 _))
  -- super()
  obtain ⟨oD, hD1, hD2⟩ : ∃ oD, h₁.get? C = some oD ∧ oD.data = .cls _ := ⟨_, X₁ _ _ hC, rfl⟩
  refine ks_wpAt_super_base (env := ksEnv qual sc hp.objs.size fI (.ref cda) cc) T.s1 T.s2 (by decide) rfl (X₁ _ _ ho) rfl rfl rfl (X₁ _ _ hcode) rfl hvs hfile T.htop ?_
  refine ks_loadName_global T.sk T.s1 (loadGlobal_builtin (env := ksEnv qual sc hp.objs.size fI (.ref cda) cc) (hG.keeps hk₁) T.gS (hB.keeps hk₁) ((hbb _ (by decide +kernel)).trans hboot) ⟨rfl, ?_⟩)
  refine wpAny_loadName_free T.sk T.s2 rfl ⟨_, X₁ _ _ hcell, rfl⟩ ?_
  refine wpAny_loadName_local T.sk T.s3 FG.ns mself ?_
  refine ks_wpAny_isType_cls hD1 hD2 ⟨rfl, ?_⟩
  refine ks_wpAny_call_super hD1 hD2 I₁.at_ I₁.cls (fun c ec => ?_) (looks_mroIn X₁ T.selfC) (fun h₂ e2 k2 => ?_)
  · cases ec
  obtain ⟨F2, N2, l2⟩ := ks_newsPush (s := ⟨h₁, g, dr, 0, os⟩) FG N0 rfl e2 k2
  have I₂ : InstAt h₂ x (excObj C t0 none .none) C none := InstAt.of_exc0 N2 (.tail _ List.mem_cons_self)
  -- its __init__
  refine kxs_method (s := ⟨h₂, g, dr, _, os⟩) kxs_ValueError F2 X0 N2 List.mem_cons_self I₂ T.noany T.sup T.veC (by decide) (fun u h₃ F3 N3 l3 => ?_)
  show wpAny _ _ (callWith _ (.ref u) [] _ []) _ _ _
  refine kxs_callWith1 (s := ⟨h₃, g, dr, _, os⟩) N3 List.mem_cons_self ?_ rfl rfl
  show wpAny _ _ (spliced [(false, eval (.Constant (.str msg) 0 e.p3) _)]) _ _ _
  refine spliced_cons (Constant_str (spliced_nil ⟨kxs_at N3 List.mem_cons_self, ?_⟩))
  refine kxs_call (s := ⟨h₃, g, dr, _, os⟩) F3 X0 N3 F.excBase_ValueError T.inC List.mem_cons_self (.tail (Nat.ne_of_gt (l3 _ (.tail _ List.mem_cons_self))) (.tail (Nat.ne_of_gt (l2 _ List.mem_cons_self)) (.head (fun _ z => nomatch z)))) (by rw [sizeLine_eq]; exact (by decide : 1 ≤ 16777216)) (fun t1 h₄ F4 N4 l4 => ?_)
  -- self.n = n
  have X₄ : K.In h₄ := X0.keeps F4.keep
  have hx₄ : h₄.get? x = some (excO C t1) := (N4 _ (.tail _ (.tail _ (.tail _ List.mem_cons_self)))).1
  show _root_.PySem.wpAt _ _ _ (execs (.Assign _ _ _ :: []) _) _ _ _
  refine ks_wpAt_execs_cons (_root_.PySem.wpAt_of_wpAny ?_)
  refine plainObj_wpAny_Assign_Attribute ?_ (T.pk.sw2 _)
  refine wpAny_Name (wpAny_loadName_local T.sk T.s4 F4.ns mn ?_) T.n2
  refine wpAny_Name (wpAny_loadName_local T.sk T.s3 F4.ns mself ?_) (by decide)
  refine set_plain X₄ (ox := excO C t1) (od := none) ⟨hx₄, rfl, rfl, trivial⟩ T.sa ?_
  refine exc_osa X₄ hx₄ hcl (show refsVE (.ref C :: bm) = true from hbm) rfl T.noN (fun h₅ tk₅ dx k₅ dn dne hx₅ hn₅ => ?_)
  refine _root_.PySem.wpAt_of_wpAny ?_
  show wpAny _ _ (execs _ _) _ _ _
  refine wpAny_execs_nil (hq h₅ tk₅ dx t1 ⟨fun b o hb eb => k₅ b o hb (F4.keep b o (hideAll_get _ eb (fun z => ?_))), hx₅, ?_, dne, hn₅⟩)
  · rcases List.mem_cons.mp z with z | z
    · exact hb z
    · cases z
  · have := F4.ns.lt
    exact Nat.le_of_lt (Nat.lt_of_lt_of_le this dn)
/-- what a call of the class leaves -/
structure MadeE (h h' : Heap) (o C d : Addr) (n : Str) (v : Value) : Prop where
  keep : ∀ b o', h.get? b = some o' → h'.get? b = some o'
  new : h.objs.size ≤ o
  obj : ∃ oe vs, h'.get? o = some oe ∧ oe.cls = .ref C ∧ oe.dict = some d ∧ oe.data = .fields vs ∧ vs[1]? = some .none
  dbig : h.objs.size ≤ d
  dne : d ≠ o
  ns : h'.Ns1 d (fun y => if y = n then some v else none)
theorem err_made (T : ErrT prog K mg x0 n msg qual C fI cc cda sc e) {v : Value} (X : K.In s.heap) (hlim : s.heap.NoLimit) (hG : s.heap.Ns mainGlobals mg) (hB : s.heap.Ns builtinsNs mb) (hbb : ∀ y : Str, y ≠ "__name__" → mb y = bootBuiltins y)
    (hboot : bootBuiltins "super" = some (.type "super")) (hroom : A.depth + 1 < recursionLimit)
    (hq : ∀ h' tk o d, MadeE s.heap h' o C d n v → R (.ok (.ret (.ref o))) { s with heap := h', toks := tk }) :
    codeAny (model prog w) A (.call (.ref C) ⟨[v], []⟩) R s := by
  obtain ⟨nm, q, N, bs, bm, sn, sub, ab, col, dd, k0, k1, k2, k3, k5, hC, hbm⟩ := T.cls
  obtain ⟨hp, g, dr, tk, os⟩ := s
  have k : ∀ b o, hp.get? b = some o → ((hp.push (kdv_tup [v])).push (excO C hp.objs.size)).get? b = some o := fun b o eb => Heap.get?_push_of_some _ (Heap.get?_push_of_some _ eb)
  have hget : ((hp.push (kdv_tup [v])).push (excO C hp.objs.size)).get? (hp.objs.size + 1) = some (excO C hp.objs.size) := by heap_get
  have big : ∀ {b : Addr} {o : Obj}, hp.get? b = some o → b ≠ hp.objs.size + 1 := fun eb => Nat.ne_of_lt (Nat.lt_succ_of_lt (Heap.lt_size eb))
  have hnx : K.lookup (hp.objs.size + 1) = none := by
    cases eo : K.lookup (hp.objs.size + 1) with
    | none => rfl
    | some o => exact absurd rfl (big (X _ _ eo))
  have gne : hp.objs.size + 1 ≠ mainGlobals := by
    obtain ⟨o, es, ep, eo, _⟩ := hG
    exact (big eo).symm
  have bne : hp.objs.size + 1 ≠ builtinsNs := by
    obtain ⟨o, es, ep, eo, _⟩ := hB
    exact (big eo).symm
  refine call_own F.excBase_ValueError (fun Y => refsVE_contains Y bm hbm) (X _ _ hC) (looks_findIn X T.iC) (fun self => bind_fn X self T.tC) (by rw [sizeLine_eq]; exact (by decide : 1 ≤ 16777216)) ?_
  refine err_init (s := ⟨(hp.push (kdv_tup [v])).push (excO C hp.objs.size), g, dr, tk, os⟩) T (X.keeps k) (hlim.keeps k) (hG.keeps k) (hB.keeps k) hbb hboot hget hnx ?_ gne bne fun h' tk' dx t1 M => ?_
  · show A.depth + 1 < recursionLimit
    exact hroom
  · have old : ∀ b o, hp.get? b = some o → h'.get? b = some o := fun b o eb => M.keep b o (big eb) (k b o eb)
    have z : hp.objs.size + 1 + 1 ≤ dx := by
      have q := M.dbig
      simpa only [Heap.size_push] using q
    exact ⟨rfl, hq h' tk' (hp.objs.size + 1) dx ⟨old, Nat.le_succ _, ⟨_, _, M.obj, rfl, rfl, rfl, rfl⟩, by show hp.objs.size ≤ dx; omega, M.dne, M.ns⟩⟩
end
end Er
open PySem PySem.Spec PyProof.Rows L2
theorem boot_super : bootBuiltins "super" = some (.type "super") := by decide +kernel
theorem relO_one {n : Str} {v : V} {v' : Value} (r : RelV v v') (f : Str) : RelO (List.lookup f [(n, v)]) (if f = n then some v' else none) := by
  by_cases hw : f = n
  · subst hw
    rw [if_pos rfl, List.lookup_cons, beq_self_eq_true]
    exact r
  · rw [if_neg hw, List.lookup_cons]
    have qw : (f == n) = false := by simpa using hw
    rw [qw]
    trivial
section
variable {X : Cx} {x0 n msg qual : Str} {C fI cc cda : Addr} {sc : Scope} {e0 : Er.EP}
def tMkErr (C : Addr) (n : Str) (ta : TA) : L2.St → Hp → XK → Prop := fun σ H Q => ta σ H fun vs H1 => ∃ v, vs = [v] ∧ ∀ d, H1 d = none → Q (.ref C) (some d) (upd H1 d (.xd [(n, v)]))
theorem pmk_err {a : Expr} {ta : TA} {p pos : Pos} {k : Nat} (T : Er.ErrT X.prog X.K X.mg x0 n msg qual C fI cc cda sc e0) (hr : Room k X.A) (ha : PA X [a] ta) (hg : Gl X x0 := by rfl) (hdb : (x0 == ("__debug__" : Str)) = false := by decide)
    (he : starEach (a :: []) X.env = (false, eval a X.env) :: starEach [] X.env := by rfl) (hpl : (backTo pos (starEach [] X.env)).any (·.1) = false := by rfl) :
    PMk X (.Call (.Name x0 p) [a] [] pos) (tMkErr C n ta) := by
  intro pins s σ H Q I h
  refine wpAny_Call_Name_kw (ld_glob I hg T.gC ?_ hdb)
  refine PySem.W.callWith_K (h₀ := X.base) I.ok.mod.kin T.kC (thn (ha.run pos pins s σ H _ I h) fun us s1 hh => ?_) he hpl
  obtain ⟨vs, H1, I1, r1, v, ev, q1⟩ := hh
  subst ev
  refine ⟨I1.kIn, ?_⟩
  cases r1 with
  | cons rv rn =>
    rename_i v' us'
    cases rn
    show wpAny _ _ (call (.ref C) [v']) _ _ _
    have hlim := I1.nolimit
    have hG := I1.mod.glob.keeps I1.bk
    obtain ⟨mb, hB, hbb⟩ := I1.mod.blt
    have hB := hB.keeps I1.bk
    obtain ⟨hp, g, dr, tk, os⟩ := s1
    refine wpAny_call (Er.err_made T I1.kIn hlim hG hB hbb boot_super (by have := hr.dp; omega) fun h' tk' o d M => ?_)
    show MkP X pins σ Q (.ref o) ⟨h', g, dr, tk', os⟩
    obtain ⟨oe, fv, hoe, hc, hd, hdat, h1⟩ := M.obj
    have hns := M.ns
    obtain ⟨G', g1, g2⟩ := restrict h' fun b => decide (b ≠ o)
    have gk : ∀ b, b ≠ o → G'.get? b = h'.get? b := fun b hb => g1 b (decide_eq_true hb)
    have ge : G'.get? o = none := g2 o (by simp)
    have old : ∀ b o', hp.get? b = some o' → G'.get? b = some o' := fun b o' q => (gk b (Nat.ne_of_lt (Nat.lt_of_lt_of_le (Heap.lt_size q) M.new))).trans (M.keep b o' q)
    have ob : ObjOk X.prog X.w (upd H1 d (.xd [(n, v)])) G' d (.xd [(n, v)]) := ⟨_, hns.at (fun o' q => (gk d M.dne).trans q), fun f => relO_one rv f⟩
    have J : Inv X pins σ (upd H1 d (.xd [(n, v)])) ⟨G', g, dr, tk', os⟩ := I1.laid (t' := tk') old M.dbig ob
    refine ⟨o, oe, fv, ⟨G', g, dr, tk', os⟩, _, .ref C, some d, rfl, J, fun b o' q => ?_, ge, hoe, ⟨hc, hd⟩, hdat, h1, ?_, rfl, I1.bare, raises_own T.exC T.tyC, q1 d (I1.hok.fresh M.dbig)⟩
    · by_cases hb : b = o
      · have q' : G'.get? b = some o' := q
        rw [hb, ge] at q'
        cases q'
      · exact (gk b hb).symm.trans q
    · rw [upd_ne (Ne.symm M.dne)]
      exact I1.hok.fresh M.new
end
end AT
set_option Elab.async false
set_option linter.all false
set_option maxRecDepth 100000
set_option maxHeartbeats 2000000
/-! AI: instances of the text's classes. -/
namespace AT
open PySem PySem.Spec PyProof.Rows L2
theorem putF_new {f : Str} {v : V} : ∀ {fs : List (Str × V)}, (∀ p ∈ fs, p.1 ≠ f) → putF f v fs = fs ++ [(f, v)]
  | [], _ => rfl
  | (g, x) :: r, h => by
    unfold putF
    rw [if_neg (h (g, x) List.mem_cons_self), putF_new fun p hp => h p (List.mem_cons_of_mem _ hp)]
    rfl
theorem zip_snoc {α β : Type} : ∀ {xs : List α} {ys : List β} {x : α} {y : β}, xs.length = ys.length → (xs ++ [x]).zip (ys ++ [y]) = xs.zip ys ++ [(x, y)]
  | [], [], _, _, _ => rfl
  | a :: xs, b :: ys, x, y, h => by
    show (a, b) :: (xs ++ [x]).zip (ys ++ [y]) = _
    rw [zip_snoc (by simpa using h)]
    rfl
  | [], _ :: _, _, _, h => by cases h
  | _ :: _, [], _, _, h => by cases h
theorem putF_zip {fs : List Str} {vs : List V} {f : Str} {v : V} (nd : fs.Nodup) (h : fs[vs.length]? = some f) : putF f v ((fs.take vs.length).zip vs) = (fs.take (vs ++ [v]).length).zip (vs ++ [v]) := by
  have hl : vs.length < fs.length := (List.getElem?_eq_some_iff.mp h).1
  have e : fs.take (vs.length + 1) = fs.take vs.length ++ [f] := by
    rw [List.take_add_one, h]
    rfl
  rw [List.length_append, List.length_singleton, e, zip_snoc (by rw [List.length_take]; omega)]
  apply putF_new
  rintro ⟨g, x⟩ hp z
  have hg := (List.of_mem_zip hp).1
  have z : g = f := z
  subst z
  obtain ⟨j, hj, ej⟩ := List.mem_iff_getElem.mp hg
  rw [List.length_take] at hj
  rw [List.getElem_take] at ej
  have e1 : fs[j]? = some g := by rw [List.getElem?_eq_getElem (by omega), ej]
  have := (List.getElem?_inj (by omega) nd).mp (e1.trans h.symm)
  omega
section
variable {G : Gam} {B : Ba} {F H F' H' : Hp} {σ σ' : L2.St} {ρ ρ' : En}
theorem EnvOk.oob {k : Nat} {c : Str} {xs : List D} (E : EnvOk G B F H σ ρ) (h : ρ[k]? = some (.ob c xs)) : ∃ a dx vs, σ[k]? = some (some (.ref a)) ∧ H a = some (.ins (G.C c) dx (((G.fs c).take vs.length).zip vs)) ∧ Ats G F vs xs ∧
    ∀ vs' xs', Ats G F vs' xs' → EnvOk G B F (upd H a (.ins (G.C c) dx (((G.fs c).take vs'.length).zip vs'))) σ (ρ.set k (.ob c xs')) := by
  obtain ⟨o, ho, hs⟩ := E.slots
  have hk : k < σ.length := by rw [E.len]; exact (List.getElem?_eq_some_iff.mp h).1
  have es := List.getElem?_eq_getElem hk
  obtain ⟨⟨a, dx, vs, e, oa, h1, h2⟩, _⟩ := hs k _ _ es h
  have es' : σ[k]? = some (some (.ref a)) := by rw [es, e]
  exact ⟨a, dx, vs, es', h1, h2, fun vs' xs' h' => E.change ho hs h es' rfl oa ⟨a, dx, vs', rfl, oa, upd_same, h'⟩⟩
end
/-- self.f = value, self in the slot k under way: f is the i-th field of c -/
def s_fset (k : Nat) (c : Str) (i : Nat) (ma : ME) : MS := fun ρ => (ma ρ).bind fun d ρ => match ρ[k]? with
  | some (.ob c' xs) => if c' = c ∧ xs.length = i then .ok .nx (ρ.set k (.ob c (xs ++ [d]))) else .bad
  | _ => .bad
/-- a field of an instance of c -/
def fldF (c : Str) (i : Nat) (x : D) : Option D :=
  match x with
  | .ins c' xs => if c' = c then xs[i]? else none
  | _ => none
/-- a property, a method of c: a def with the instance first -/
def m_prop (c : Str) (Fm : List OV → Out D) (ma : ME) : ME := fun ρ => (ma ρ).bind fun x ρ => match x with
  | .ins c' xs => if c' = c then match Fm [.fr x] with
    | .ok d _ => .ok d ρ
    | _ => .bad else .bad
  | _ => .bad
def m_meth (c : Str) (Fm : List OV → Out D) (ma : ME) (mr : MA) : ME := fun ρ => (ma ρ).bind fun x ρ => match x with
  | .ins c' xs => if c' = c then (mr ρ).bind fun ds ρ => (match Fm (.fr (.ins c' xs) :: ds.map .fr) with
    | .ok d _ => .ok d ρ
    | .err e _ => .err e ρ
    | .bad => .bad) else .bad
  | _ => .bad
/-- c(..): n fields -/
def mkOut (c : Str) (n : Nat) (Fm : List OV → Out D) (ds : List D) (ρ : En) : Out D :=
  match Fm (.ob c [] :: ds.map .fr) with
  | .ok .non (.ob c' xs :: _) => if c' = c ∧ xs.length = n then .ok (.ins c xs) ρ else .bad
  | .err e _ => .err e ρ
  | _ => .bad
def m_make (c : Str) (n : Nat) (Fm : List OV → Out D) (mr : MA) : ME := fun ρ => (mr ρ).bind fun ds ρ => mkOut c n Fm ds ρ
section
variable {X : Cx} {G : Gam} {B : Ba} {W : WX} {a b e o : Expr} {es : List Expr} {ma mb : ME} {mr : MA} {pos p apos : Pos} {x c f m : Str} {Fm : List OV → Out D} {k n i : Nat}
theorem ds_fset (k : Nat) (c : Str) (i : Nat) {pos' : Pos} (hG : X.K = G.K) (hC : Cls G.K (G.C c)) (hn : NoAttr G.K (G.C c) f) (hf : (G.fs c)[i]? = some f) (hnd : (G.fs c).Nodup) (hl : (G.fs c).length < 1000) (hv : PE X e (dE G B W ma)) (hN : X.N[k]? = some x := by rfl)
    (hvis : Vis X.env.scope x := by first | exact Or.inl rfl | exact Or.inr (Or.inl rfl) | exact Or.inr (Or.inr rfl)) (hd : (x == ("__debug__" : Str)) = false := by decide) (hcd : (x == ("__classdict__" : Str)) = false := by decide)
    (hs : swapsWith e (some (.Attribute (.Name x p) f pos')) pos.line X.env = pure false := by rfl) : PS X (.Assign [.Attribute (.Name x p) f pos'] e pos) (dS G B W (s_fset k c i ma)) :=
  PS.imp (ps_fld (pe_var hN hvis hd hcd) hv hs) fun D σ H ⟨F, ρ, E, q⟩ => ⟨F, ρ, E, (PostS.bind q).mono fun d ρ1 F1 H1 x1 E1 p1 v hv => by
    cases z : ρ1[k]? with
    | none => rw [z] at p1; exact p1.elim
    | some y =>
      rw [z] at p1
      cases y with
      | ob c' xs =>
        simp only at p1
        by_cases hc : c' = c ∧ xs.length = i
        · rw [if_pos hc] at p1
          obtain ⟨rfl, hi⟩ := hc
          obtain ⟨a, dx, vs, es, hH, hA, ch⟩ := E1.oob z
          have hi' : vs.length = i := hA.length.trans hi
          refine ⟨.ref a, es, a, G.C c', dx, _, rfl, hH, by rw [hG]; exact hC, by rw [hG]; exact hn, ?_, ?_⟩
          · rw [List.length_zip, List.length_take]
            omega
          · rw [putF_zip hnd (by rw [hi']; exact hf)]
            exact p1 F1 _ _ (Ext.refl F1) (ch _ _ (hA.append (.cons hv .nil)))
        · rw [if_neg hc] at p1; exact p1.elim
      | _ => exact p1.elim⟩
theorem lookup_zip {fs : List Str} {vs : List V} {f : Str} {v : V} {i : Nat} (nd : fs.Nodup) (hf : fs[i]? = some f) (hv : vs[i]? = some v) : (fs.zip vs).lookup f = some v := by
  induction fs generalizing vs i with
  | nil => simp at hf
  | cons g fs ih =>
    cases vs with
    | nil => simp at hv
    | cons w vs =>
      rw [List.zip_cons_cons, List.lookup_cons]
      cases i with
      | zero =>
        simp at hf hv
        subst hf; subst hv
        rw [beq_self_eq_true]
      | succ i =>
        simp at hf hv
        obtain ⟨h1, h2⟩ := List.nodup_cons.mp nd
        have z : (f == g) = false := by
          simp only [beq_eq_false_iff_ne]
          intro e
          subst e
          exact h1 (List.mem_of_getElem? hf)
        rw [z]
        exact ih h2 hf hv
/-- e.f -/
theorem de_fld (c : Str) (i : Nat) (hG : X.K = G.K) (hC : Cls G.K (G.C c)) (hn : NoAttr G.K (G.C c) f) (hf : (G.fs c)[i]? = some f) (hnd : (G.fs c).Nodup) (ha : PE X e (dE G B W ma)) (hb : attributeBase e f X.env (eval e X.env) = eval e X.env := by rfl) :
    PE X (.Attribute e f pos) (dE G B W (m_un (fldF c i) ma)) :=
  PE.imp (pe_fld ha hb) fun σ H Q ⟨F, ρ, E, q⟩ => ⟨F, ρ, E, q.bind.mono fun x ρ1 F1 H1 x1 E1 p1 v hv => by
    cases hv with
    | @ins a dx c' vs ds h1 hl h2 =>
      have p1 : Post G B W σ F1 (ofO (if c' = c then ds[i]? else none) ρ1) (fun d _ F' H' => ∀ v, At G F' v d → Q v H') := p1
      by_cases hc : c' = c
      · subst hc
        rw [if_pos rfl] at p1
        cases z : ds[i]? with
        | none => rw [z] at p1; exact p1.elim
        | some d =>
          rw [z] at p1
          obtain ⟨u, eu, hu⟩ := h2.get z
          exact ⟨a, _, dx, _, u, rfl, E1.sub _ _ h1, by rw [hG]; exact hC, by rw [hG]; exact hn, lookup_zip hnd hf eu, p1 F1 H1 (Ext.refl F1) E1 u hu⟩
      · rw [if_neg hc] at p1; exact p1.elim
    | _ => exact p1.elim⟩
/-- nothing comes out -/
theorem passF {Y : Cx} : Passes (L2.CX Y.prog Y.w) Y (fun _ _ _ => False) := fun pins σ H s e s' I h => by
  obtain ⟨a, B, H', cls, d, _, _, _, _, _, _, _, z⟩ := h
  exact z.elim
theorem no_meth {vs : List V} {fs : List Str} {m : Str} (h : m ∉ fs) : (fs.zip vs).lookup m = none := by
  induction fs generalizing vs with
  | nil => rfl
  | cons g fs ih =>
    cases vs with
    | nil => rfl
    | cons w vs =>
      rw [List.zip_cons_cons, List.lookup_cons]
      have z : (m == g) = false := by
        simp only [beq_eq_false_iff_ne]
        intro e
        exact h (by rw [e]; exact List.mem_cons_self)
      rw [z]
      exact ih fun q => h (List.mem_cons_of_mem _ q)
/-- a promise at an instance, alone -/
theorem sp_one {F H : Hp} {σ : L2.St} {ρ : En} {v : V} {x : D} {Q : VK} (E : EnvOk G B F H σ ρ) (hv : At G F v x)
    (p : Post G B W σ F (match Fm [.fr x] with | .ok d _ => .ok d ρ | _ => .bad) (fun d _ F' H' => ∀ v, At G F' v d → Q v H')) : spOf G 1 Fm [v] H Q (fun _ _ _ => False) := by
  refine ⟨rfl, F, fun _ => False, [.fr x], E.sub, rfl, fun _ z => z.elim, fun i w y h1 h2 => ?_, ?_⟩
  · cases i with
    | zero => cases h1; cases h2; exact ⟨rfl, v, rfl, hv⟩
    | succ i => simp at h1
  · cases e : Fm [.fr x] with
    | bad => rw [e] at p; exact p.elim
    | err ex outs => rw [e] at p; exact p.elim
    | ok d outs => rw [e] at p; exact fun F' H' v r hv => p F' H' r.ext (E.ret r) v hv
/-- e.f, f a property -/
theorem de_prop {g pa : Addr} {fd : FuncData} {ps : List Str} (c : Str) (hG : X.K = G.K) (hC : Cls G.K (G.C c)) (hp : PropOf G.K (G.C c) f pa g) (FO : FnOk X.prog X.w X.K X.mg X.base (L2.CX X.prog X.w) k g fd ps (spOf G 1 Fm)) (hr : Room (k + 1) X.A) (hb : Binds X.K fd ps [])
    (ha : PE X e (dE G B W ma)) (hab : attributeBase e f X.env (eval e X.env) = eval e X.env := by rfl) : PE X (.Attribute e f pos) (dE G B W (m_prop c Fm ma)) :=
  PE.imp (pe_prop (C := G.C c) ha (by rw [hG]; exact hC) (by rw [hG]; exact hp) FO hr hb .nil (passF (Y := X.nox)) hab) fun σ H Q ⟨F, ρ, E, q⟩ => ⟨F, ρ, E, q.bind.mono fun x ρ1 F1 H1 x1 E1 p1 v hv => by
    cases hv with
    | @ins a dx c' vs ds h1 hl h2 =>
      simp only at p1
      by_cases hc : c' = c
      · rw [if_pos hc] at p1
        subst hc
        exact ⟨a, dx, _, rfl, E1.sub _ _ h1, sp_one E1 (.ins h1 hl h2) p1⟩
      · rw [if_neg hc] at p1; exact p1.elim
    | _ => exact p1.elim⟩
/-! methods, with what they raise wished for at the slots -/
def tMethSD (C : Addr) (m : Str) (sp : Sp) (Es : L2.St → XK) (ta : TE) (t : TA) : TE := fun σ H Q => ta σ H fun x H1 => ∃ a dx fs, x = .ref a ∧ H1 a = some (.ins C dx fs) ∧ fs.lookup m = none ∧ t σ H1 fun vs H2 => sp (x :: vs) H2 Q (Es σ)
theorem pe_methSD {CX : CXT} {C g : Addr} {fd : FuncData} {ps : List Str} {sp : Sp} {Es : L2.St → XK} {ta : TE} {t : TA} {pl : Sem Bool} (he : PE X o ta) (c : Cls X.K C) (hm : Meth X.K C m g) (FO : FnOk X.prog X.w X.K X.mg X.base CX k g fd ps sp) (hr : Room k X.A) (hb : Binds X.K fd ps [])
    (hx : ∀ σ, PassesAt CX X σ (Es σ)) (ha : PA X (e :: es) t)
    (hst : starEach (e :: es) X.env = (false, eval e X.env) :: starEach es X.env := by rfl) (hpl : (backTo pos (starEach es X.env)).any (·.1) = false := by rfl)
    (ht : eval (.Call (.Attribute o m apos) (e :: es) [] pos) X.env = (do
      let ov ← eval o X.env
      standAt apos.atName
      let (f, first) ← holding [ov] (getMethod ov m pl)
      callWith pos f first (backTo pos (starEach (e :: es) X.env)) (backToKw pos (keywordEach [] X.env))) := by rfl) :
    PE X (.Call (.Attribute o m apos) (e :: es) [] pos) (tMethSD C m sp Es ta t) := by
  constructor
  intro pins s σ H Q I h
  refine PySem.W.methodCall_KW (pl := pl) (thn (he.run pins s σ H _ I h) fun u s1 hh => ?_) ht
  obtain ⟨z, H1, I1, rx, a, dx, fs, rfl, ea, l, q⟩ := hh
  obtain rfl : u = Value.ref a := rx
  refine getmeth_ok I1 ea c hm l (PySem.W.callWith_K (first := [.ref a]) (h₀ := X.base) I.ok.mod.kin hm.kp (thn (ha.run pos pins s1 σ H1 _ I1 q) fun us s2 hh2 => ?_) hst hpl)
  obtain ⟨vs, H2, I2, r, q2⟩ := hh2
  exact ⟨I2.kIn, run_fnSD (us := .ref a :: us) (vs := .ref a :: vs) (dvs := []) FO hr hb .nil (hx σ) I2 (.cons rfl r) (by rw [List.append_nil]; exact q2)⟩
theorem pe_methSD0 {CX : CXT} {C g : Addr} {fd : FuncData} {ps : List Str} {sp : Sp} {Es : L2.St → XK} {ta : TE} {pl : Sem Bool} (he : PE X o ta) (c : Cls X.K C) (hm : Meth X.K C m g) (FO : FnOk X.prog X.w X.K X.mg X.base CX k g fd ps sp) (hr : Room k X.A) (hb : Binds X.K fd ps [])
    (hx : ∀ σ, PassesAt CX X σ (Es σ))
    (ht : eval (.Call (.Attribute o m apos) [] [] pos) X.env = (do
      let ov ← eval o X.env
      standAt apos.atName
      let (f, first) ← holding [ov] (getMethod ov m pl)
      callWith pos f first (backTo pos (starEach [] X.env)) (backToKw pos (keywordEach [] X.env))) := by rfl) :
    PE X (.Call (.Attribute o m apos) [] [] pos) (tMethSD C m sp Es ta tNil) := by
  constructor
  intro pins s σ H Q I h
  refine PySem.W.methodCall_KW (pl := pl) (thn (he.run pins s σ H _ I h) fun u s1 hh => ?_) ht
  obtain ⟨z, H1, I1, rx, a, dx, fs, rfl, ea, l, q⟩ := hh
  obtain rfl : u = Value.ref a := rx
  exact getmeth_ok I1 ea c hm l (PySem.W.callWith_K0 I1.kIn hm.kp (run_fnSD (us := [.ref a]) (vs := [.ref a]) (dvs := []) FO hr hb .nil (hx σ) I1 (.cons rfl .nil) (by rw [List.append_nil]; exact q)))
theorem sp_meth {n : Nat} {F H : Hp} {σ : L2.St} {ρ : En} {v : V} {x : D} {vs : List V} {ds : List D} {Q : VK} (E : EnvOk G B F H σ ρ) (hv : At G F v x) (ha : Ats G F vs ds) (hn : ds.length = n)
    (p : Post G B W σ F (match Fm (.fr x :: ds.map .fr) with | .ok d _ => .ok d ρ | .err e _ => .err e ρ | .bad => .bad) (fun d _ F' H' => ∀ v, At G F' v d → Q v H')) : spOf G (n + 1) Fm (v :: vs) H Q (WE W σ) :=
  sp_pure (ds := x :: ds) E (.cons hv ha) (by rw [List.length_cons, hn]) p
theorem de_meth {g : Addr} {fd : FuncData} {ps : List Str} {pl : Sem Bool} (c : Str) (hG : X.K = G.K) (hC : Cls G.K (G.C c)) (hm : Meth G.K (G.C c) m g) (hfs : m ∉ G.fs c) (FO : FnOk X.prog X.w X.K X.mg X.base (L2.CX X.prog X.w) k g fd ps (spOf G (n + 1) Fm)) (hr : Room k X.A) (hb : Binds X.K fd ps []) (tk : Takes X W)
    (ho : PE X o (dE G B W ma)) (ha : PA X (e :: es) (dA G B W mr))
    (hst : starEach (e :: es) X.env = (false, eval e X.env) :: starEach es X.env := by rfl) (hpl : (backTo pos (starEach es X.env)).any (·.1) = false := by rfl)
    (ht : eval (.Call (.Attribute o m apos) (e :: es) [] pos) X.env = (do
      let ov ← eval o X.env
      standAt apos.atName
      let (f, first) ← holding [ov] (getMethod ov m pl)
      callWith pos f first (backTo pos (starEach (e :: es) X.env)) (backToKw pos (keywordEach [] X.env))) := by rfl) :
    PE X (.Call (.Attribute o m apos) (e :: es) [] pos) (dE G B W (m_meth c Fm ma (lenOk n mr))) :=
  PE.imp (pe_methSD (pl := pl) ho (by rw [hG]; exact hC) (by rw [hG]; exact hm) FO hr hb (fun σ => passAt tk σ) ha hst hpl ht) fun σ H Q ⟨F, ρ, E, q⟩ => ⟨F, ρ, E, q.bind.mono fun x ρ1 F1 H1 x1 E1 p1 v hv => by
    cases hv with
    | @ins a dx c' vs ds h1 hl h2 =>
      simp only at p1
      by_cases hc : c' = c
      · rw [if_pos hc] at p1
        subst hc
        refine ⟨a, dx, _, rfl, E1.sub _ _ h1, no_meth hfs, F1, ρ1, E1, Post.mono (Post.bind (Post.bind p1)) fun ys ρ2 F2 H2 x2 E2 p3 ws hw => ?_⟩
        by_cases hn : ys.length = n
        · rw [if_pos hn] at p3
          exact sp_meth E2 ((At.ins h1 hl h2).ext x2) hw hn (p3 F2 H2 (Ext.refl F2) E2)
        · rw [if_neg hn] at p3; exact p3.elim
      · rw [if_neg hc] at p1; exact p1.elim
    | _ => exact p1.elim⟩
theorem de_meth0 {g : Addr} {fd : FuncData} {ps : List Str} {pl : Sem Bool} (c : Str) (hG : X.K = G.K) (hC : Cls G.K (G.C c)) (hm : Meth G.K (G.C c) m g) (hfs : m ∉ G.fs c) (FO : FnOk X.prog X.w X.K X.mg X.base (L2.CX X.prog X.w) k g fd ps (spOf G (0 + 1) Fm)) (hr : Room k X.A) (hb : Binds X.K fd ps []) (tk : Takes X W)
    (ho : PE X o (dE G B W ma))
    (ht : eval (.Call (.Attribute o m apos) [] [] pos) X.env = (do
      let ov ← eval o X.env
      standAt apos.atName
      let (f, first) ← holding [ov] (getMethod ov m pl)
      callWith pos f first (backTo pos (starEach [] X.env)) (backToKw pos (keywordEach [] X.env))) := by rfl) :
    PE X (.Call (.Attribute o m apos) [] [] pos) (dE G B W (m_meth c Fm ma (lenOk 0 m_nil))) :=
  PE.imp (pe_methSD0 (pl := pl) ho (by rw [hG]; exact hC) (by rw [hG]; exact hm) FO hr hb (fun σ => passAt tk σ) ht) fun σ H Q ⟨F, ρ, E, q⟩ => ⟨F, ρ, E, q.bind.mono fun x ρ1 F1 H1 x1 E1 p1 v hv => by
    cases hv with
    | @ins a dx c' vs ds h1 hl h2 =>
      simp only at p1
      by_cases hc : c' = c
      · rw [if_pos hc] at p1
        subst hc
        exact ⟨a, dx, _, rfl, E1.sub _ _ h1, no_meth hfs, sp_meth E1 (.ins h1 hl h2) .nil rfl p1⟩
      · rw [if_neg hc] at p1; exact p1.elim
    | _ => exact p1.elim⟩

/-! ### c(..) -/
theorem run_makeSD {CX : CXT} {C g : Addr} {fd : FuncData} {ps : List Str} {sp : Sp} {E : XK} {pins : List (Addr × Obj)} {σ : L2.St} {H : Hp} {s : Shared} {Q : VK} {us : List Value} {vs : List V} (M : Mk X.K C g) (FO : FnOk X.prog X.w X.K X.mg X.base CX k g fd ps sp) (hr : Room (k + 1) X.A) (hb : Binds X.K fd ps [])
    (hx : PassesAt CX X σ E) (I : L2.Inv X pins σ H s) (r : Vals vs us)
    (h : ∀ y dx, H y = none → H dx = none → dx ≠ y → sp (.ref y :: vs) (upd (upd H dx (.own y)) y (.ins C dx [])) (fun v H2 => v = .non ∧ Q (.ref y) H2) E) :
    wpAny (model X.prog X.w) X.A (call (.ref C) us) (EP X pins σ Q) X.xe s := by
  have free0 := I.hok.fresh (Nat.le_refl s.heap.objs.size)
  have free1 := I.hok.fresh (Nat.le_succ s.heap.objs.size)
  have q := h (s.heap.objs.size + 1) s.heap.objs.size free1 free0 (Nat.ne_of_lt (Nat.lt_succ_self _))
  have J := Inv.made (C := C) I
  have rr : Vals (V.ref (s.heap.objs.size + 1) :: vs) (Value.ref (s.heap.objs.size + 1) :: us) := .cons rfl r
  have hlen : (Value.ref (s.heap.objs.size + 1) :: us ++ []).length = ps.length := by
    rw [List.append_nil, ← rr.length]
    exact FO.len _ _ _ _ q
  have bd := hb _ (Value.ref (s.heap.objs.size + 1) :: us) J.kIn hlen
  rw [List.append_nil] at bd
  refine wpAny_call (make_map (f := g) I.kIn M.makes M.init (beq_iff_eq.mp M.fn) (codeAny_mono (FO.run _ X.stack _ _ ⟨Value.ref (s.heap.objs.size + 1) :: us, []⟩ _ _ _ E (hr.make C us []) (J.env0.make C us []) bd rr q) fun res s' hres => ?_))
  cases res with
  | error er => exact hx pins _ _ er s' J hres
  | ok fl =>
    cases fl with
    | ret u =>
      obtain ⟨v, H', I3, rv, ev, q3⟩ := J.after hres
      subst ev
      exact ⟨rv, ⟨V.ref (s.heap.objs.size + 1), H', I3, rfl, q3⟩⟩
    | next => exact hres.elim
    | brk => exact hres.elim
    | cont => exact hres.elim
/-- from the promise of __init__, the new object all one's own -/
theorem sp_make {n : Nat} {nf : Nat} {F H : Hp} {σ : L2.St} {ρ : En} {vs : List V} {ds : List D} {Q : VK} {y dx : Addr} (E : EnvOk G B F H σ ρ) (ha : Ats G F vs ds) (hn : ds.length = n) (hf : (G.fs c).length = nf) (hy : H y = none) (hdx : H dx = none) (hne : dx ≠ y)
    (p : Post G B W σ F (mkOut c nf Fm ds ρ) (fun d _ F' H' => ∀ v, At G F' v d → Q v H')) :
    spOf G (n + 1) Fm (.ref y :: vs) (upd (upd H dx (.own y)) y (.ins (G.C c) dx [])) (fun v H2 => v = .non ∧ Q (.ref y) H2) (WE W σ) := by
  have ney : ∀ a u, H a = some u → a ≠ y := fun a u h z => by rw [z, hy] at h; cases h
  have ned : ∀ a u, H a = some u → a ≠ dx := fun a u h z => by rw [z, hdx] at h; cases h
  have up : Same H (upd (upd H dx (.own y)) y (.ins (G.C c) dx [])) := fun a u h => by rw [upd_ne (ney a u h), upd_ne (ned a u h)]; exact h
  have down : ∀ a, upd (upd H dx (.own y)) y (.ins (G.C c) dx []) a = none → H a = none := fun a h => by
    cases q : H a with
    | none => rfl
    | some u => rw [up a u q] at h; cases h
  have hFy : F y = none := E.sub.free hy
  have gr : ∀ {F' H' : Hp} {outs : List OV}, Ret G F (upd (upd H dx (.own y)) y (.ins (G.C c) dx [])) (fun a => a = y) (.ref y :: vs) outs F' H' → Grow F H F' H' := fun r => ⟨r.ext, r.sub, fun a u h => r.frame a u (up a u h) (ney a u h), fun a h => by
    rcases r.new a h with z | z | z
    · exact .inl z
    · exact .inr (by rw [z]; exact hy)
    · exact .inr (down a z)⟩
  refine ⟨by rw [List.length_cons, ha.length, hn], F, fun a => a = y, .ob c [] :: ds.map .fr, fun a u h => up a u (E.sub a u h), by rw [List.length_cons, List.length_map, hn], fun a z => ?_, fun i v z h1 h2 => ?_, ?_⟩
  · subst z
    exact ⟨hFy, _, upd_same⟩
  · cases i with
    | zero =>
      have h1 : some (V.ref y) = some v := h1
      have h2 : some (OV.ob c []) = some z := h2
      cases h1
      cases h2
      exact ⟨rfl, y, dx, [], rfl, ⟨rfl, rfl⟩, upd_same, .nil⟩
    | succ i => exact ha.args _ i v z (by simpa using h1) (by simpa using h2)
  · unfold mkOut at p
    cases eF : Fm (.ob c [] :: ds.map .fr) with
    | bad => rw [eF] at p; exact p.elim
    | err ex outs => rw [eF] at p; exact fun F' H' cls dd r hx => p F' H' cls dd r.ext (E.grow (gr r)) hx
    | ok d outs =>
      rw [eF] at p
      cases d with
      | non =>
        cases outs with
        | nil => exact p.elim
        | cons z zs =>
          cases z with
          | ob c' xs =>
            simp only at p
            by_cases hc : c' = c ∧ xs.length = nf
            · rw [if_pos hc] at p
              obtain ⟨rfl, hx⟩ := hc
              intro F' H' v r hv
              cases hv
              refine ⟨rfl, ?_⟩
              have g := gr r
              obtain ⟨o', h1, h2⟩ := r.back
              obtain ⟨a, dx', vs', ea, oa, hH, hA⟩ := h2 (.ref y) (.ob c' xs) rfl rfl rfl
              have ea : some (V.ref y) = some (V.ref a) := ea
              cases ea
              have hl : vs'.length = (G.fs c').length := by rw [hA.length, hx, hf]
              rw [hl, List.take_length] at hH
              have hF' := (h1 y oa).1
              have x2 : Ext F' (upd F' y (.ins (G.C c') dx' ((G.fs c').zip vs'))) := Ext.of_same fun b u e => by rw [upd_ne (ne_of_none e hF')]; exact e
              have g2 : Grow F H (upd F' y (.ins (G.C c') dx' ((G.fs c').zip vs'))) H' := ⟨g.ext.trans x2, fun b u e => by
                by_cases z : b = y
                · subst z
                  rw [upd_same] at e
                  rw [hH]; exact e
                · rw [upd_ne z] at e
                  exact g.sub b u e, g.old, fun b h => by
                by_cases z : b = y
                · subst z; exact .inr hy
                · rw [upd_ne z] at h
                  exact g.new b h⟩
              exact p _ H' g2.ext (E.grow g2) _ (.ins upd_same hl.symm (hA.ext x2))
            · rw [if_neg hc] at p; exact p.elim
          | _ => exact p.elim
      | _ => exact p.elim
theorem de_make {g : Addr} {fd : FuncData} {ps : List Str} (c : Str) (nf : Nat) (hf : (G.fs c).length = nf) (M : Mk X.K (G.C c) g) (FO : FnOk X.prog X.w X.K X.mg X.base (L2.CX X.prog X.w) k g fd ps (spOf G (n + 1) Fm)) (hr : Room (k + 1) X.A) (hm : X.mg x = some (.ref (G.C c))) (hb : Binds X.K fd ps []) (tk : Takes X W)
    (ha : PA X (e :: es) (dA G B W mr)) (hg : Gl X x := by rfl) (hdb : (x == ("__debug__" : Str)) = false := by decide) (he : starEach (e :: es) X.env = (false, eval e X.env) :: starEach es X.env := by rfl) (hpl : (backTo pos (starEach es X.env)).any (·.1) = false := by rfl) :
    PE X (.Call (.Name x p) (e :: es) [] pos) (dE G B W (m_make c nf Fm (lenOk n mr))) := by
  constructor
  intro pins s σ H Q I ⟨F, ρ, E, q⟩
  refine wpAny_Call_Name_kw (ld_glob I hg hm ?_ hdb)
  refine PySem.W.callWith_K (h₀ := X.base) I.ok.mod.kin M.kp (thn (ha.run pos pins s σ H (fun vs H1 => ∀ y dx, H1 y = none → H1 dx = none → dx ≠ y → spOf G (n + 1) Fm (.ref y :: vs) (upd (upd H1 dx (.own y)) y (.ins (G.C c) dx [])) (fun v H2 => v = .non ∧ Q (.ref y) H2) (WE W σ)) I ?_) fun us s1 hh => ?_) he hpl
  · refine ⟨F, ρ, E, Post.mono (Post.bind (Post.bind q)) fun ds ρ1 F1 H1 x1 E1 p1 vs hv y dx hy hdx hne => ?_⟩
    by_cases hn : ds.length = n
    · rw [if_pos hn] at p1
      exact sp_make E1 hv hn hf hy hdx hne (p1 F1 H1 (Ext.refl F1) E1)
    · rw [if_neg hn] at p1
      exact p1.elim
  · obtain ⟨vs, H1, I1, r, q1⟩ := hh
    exact ⟨I1.kIn, run_makeSD M FO hr hb (passAt tk σ) I1 r q1⟩
end
end AT
set_option Elab.async false
set_option linter.all false
set_option maxRecDepth 100000
set_option maxHeartbeats 2000000
/-! AX: raise, try, an exception's attribute; own ==, !=, &. -/
namespace AT
open PySem PySem.Spec PyProof.Rows L2
def s_raise (c : Str) (mr : MA) : MS := fun ρ => (mr ρ).bind fun ds ρ => match ds with
  | [d] => .err ⟨c, [d]⟩ ρ
  | _ => .bad
def s_raise0 (c : Str) : MS := fun ρ => .err ⟨c, []⟩ ρ
def s_tryas (i : Nat) (cm : Str → Option Bool) (mb mh : MS) : MS := fun ρ => match mb ρ with
  | .err e ρ => match cm e.c with
    | some true => match mh (ρ.set i (.ex e)) with
      | .ok fl ρ => .ok fl (ρ.set i .un)
      | _ => .bad
    | some false => .err e ρ
    | none => .bad
  | o => o
/-- the attribute of the exception in the slot k, if it is of the class c -/
def m_exat (k : Nat) (c : Str) : ME := fun ρ => match ρ[k]? with
  | some (.ex e) => if e.c = c then match e.vs with
    | [d] => .ok d ρ
    | _ => .bad else .bad
  | _ => .bad
structure ErrA (K : PySem.W.Frag) (C : Addr) (n : Str) : Prop where
  ga : PySem.W.findIn K (.ref C) "__getattribute__" = some (some (.builtin "BaseException.__getattribute__"))
  gg : PySem.W.findIn K (.ref C) "__getattr__" = some none
  noN : PySem.W.findIn K (.ref C) n = some none
  exC : PySem.W.subIn K (.ref C) (.type "BaseException") = some true
  hdC : PySem.W.hasDictIn K C = true
section
variable {G : Gam} {B : Ba} {F H F' H' : Hp} {σ σ' : L2.St} {ρ ρ' : En}
theorem EnvOk.toEx {i : Nat} {a : Addr} {cls : Value} {d : Option Addr} {e : Exn} (E : EnvOk G B F H σ ρ) (hB : B.exc = none) (hx : ExAt G F cls d e) : EnvOk G { B with exc := some (i, a, cls, d) } F H (σ.set i (some (.ref a))) (ρ.set i (.ex e)) := by
  obtain ⟨o, ho, hs⟩ := E.slots
  refine ⟨E.sub, E.frame, by rw [List.length_set, List.length_set]; exact E.len, E.news, fun b => if o b = some i then none else o b, fun b j h => ?_, fun j s x h1 h2 => ?_⟩
  · have h : (if o b = some i then none else o b) = some j := h
    by_cases z : o b = some i
    · rw [if_pos z] at h; cases h
    · rw [if_neg z] at h
      exact ho b j h
  · by_cases z : j = i
    · subst z
      have hj : j < σ.length := by
        have := (List.getElem?_eq_some_iff.mp h1).1
        rwa [List.length_set] at this
      rw [List.getElem?_set_self hj] at h1
      rw [List.getElem?_set_self (by rw [← E.len]; exact hj)] at h2
      cases h1
      cases h2
      exact ⟨⟨a, cls, d, rfl, rfl, hx⟩, fun z => nomatch z⟩
    · rw [List.getElem?_set_ne (Ne.symm z)] at h1 h2
      obtain ⟨k1, k2⟩ := hs j s x h1 h2
      refine ⟨SlotOk.own (o := fun b => o b = some j) ?_ fun b eb => ?_, k2⟩
      · cases x with
        | ex e' =>
          obtain ⟨_, _, _, _, q, _⟩ := k1
          rw [hB] at q
          cases q
        | un => exact k1
        | fr d => exact k1
        | ol xs => exact k1
        | od ks ds => exact k1
        | dr st => exact k1
        | ob c xs => exact k1
      · have eb : o b = some j := eb
        show (if o b = some i then none else o b) = some j
        rw [if_neg (fun q => z (Option.some.inj (eb.symm.trans q)))]
        exact eb
theorem EnvOk.ofEx {i : Nat} {a : Addr} {cls : Value} {d : Option Addr} (E : EnvOk G { B with exc := some (i, a, cls, d) } F H σ ρ) : EnvOk G B F H (σ.set i none) (ρ.set i .un) := by
  obtain ⟨o, ho, hs⟩ := E.slots
  refine ⟨E.sub, E.frame, by rw [List.length_set, List.length_set]; exact E.len, E.news, o, ho, fun j s x h1 h2 => ?_⟩
  by_cases z : j = i
  · subst z
    have hj : j < σ.length := by
      have := (List.getElem?_eq_some_iff.mp h1).1
      rwa [List.length_set] at this
    rw [List.getElem?_set_self (by rw [← E.len]; exact hj)] at h2
    cases h2
    exact ⟨trivial, fun z => nomatch z⟩
  · rw [List.getElem?_set_ne (Ne.symm z)] at h1 h2
    obtain ⟨k1, k2⟩ := hs j s x h1 h2
    refine ⟨?_, k2⟩
    cases x with
    | ex e' =>
      obtain ⟨_, _, _, _, q, _⟩ := k1
      have q := Option.some.inj q
      injection q with q1 _
      exact absurd q1.symm z
    | un => exact k1
    | fr d => exact k1
    | ol xs => exact k1
    | od ks ds => exact k1
    | dr st => exact k1
    | ob c xs => exact k1
end
section
variable {X : Cx} {G : Gam} {B : Ba} {W : WX} {a e : Expr} {es : List Expr} {ma mb : ME} {mr : MA} {pos pos2 p : Pos} {x x0 c n msg qual : Str} {k i : Nat} {fI cc cda : Addr} {sc : Scope} {e0 : Er.EP}
theorem ds_raise (c : Str) (hcalm : X.calm = true) (hG : X.K = G.K) (T : Er.ErrT X.prog X.K X.mg x0 n msg qual (G.C c) fI cc cda sc e0) (hf : G.fs c = [n]) (hr : Room k X.A) (tk : Takes X W) (ha : PE X a (dE G B W ma)) (hg : Gl X x0 := by rfl) (hdb : (x0 == ("__debug__" : Str)) = false := by decide)
    (he : starEach (a :: []) X.env = (false, eval a X.env) :: starEach [] X.env := by rfl) (hpl : (backTo pos (starEach [] X.env)).any (·.1) = false := by rfl) :
    PS X (.Raise (some (.Call (.Name x0 p) [a] [] pos)) none pos2) (dS G B W (s_raise c (m_cons ma m_nil))) :=
  PS.imp (ps_raise hcalm tk (pmk_err T hr (da_cons ha da_nil he) hg hdb he hpl)) fun D σ H ⟨F, ρ, E, q⟩ => ⟨F, ρ, E, (PostS.bind q).mono fun ds ρ1 F1 H1 x1 E1 p1 vs hv => by
    cases hv with
    | nil => exact p1.elim
    | @cons v vs d ds h hv =>
      cases hv with
      | cons _ _ => exact p1.elim
      | nil =>
        refine ⟨v, rfl, fun dd hdd => ?_⟩
        have g := Grow.at (.xd [(n, v)]) E1.sub hdd
        exact p1 _ _ σ _ _ g.ext (E1.grow g) ⟨rfl, .inr ⟨dd, [v], rfl, by rw [upd_same, hf]; rfl, by rw [hf]; rfl, .cons (h.ext g.ext) .nil⟩⟩⟩
theorem ds_raise0 (c : Str) {j : Nat} {p2 : Pos} {m : Str} (hcalm : X.calm = true) (hG : X.K = G.K) (q : PySem.W.excIn X.K (G.C c) He.veBase "ValueError.__new__" = true) (gC : X.mg x = some (.ref (G.C c))) (kC : PySem.W.keepIn X.K (.ref (G.C c)) = true) (r : Raises X (.ref (G.C c))) (tk : Takes X W) (hg : Gl X x := by rfl)
    (hdb : (x == ("__debug__" : Str)) = false := by decide) : PS X (.Raise (some (.Call (.Name x p) [.Constant (.str m) j p2] [] pos)) none pos2) (dS G B W (s_raise0 c)) :=
  PS.imp (ps_raise hcalm tk (pmk_own (m := m) F.excBase_ValueError q gC kC r hg hdb)) fun D σ H ⟨F, ρ, E, q⟩ => q F H σ _ _ (Ext.refl F) E ⟨rfl, .inl ⟨rfl, rfl⟩⟩
theorem ds_tryas (i : Nat) {cm : Str → Option Bool} {body suite : List Stmt} {b₀ : Stmt} {np pos' : Pos} {cv : Value} {mb mh : MS} (hB : B.exc = none) (hG : X.K = G.K) (hcm : ∀ c b, cm c = some b → PySem.W.exmOne G.K (.ref (G.C c)) cv = some b)
    (hs : X.stack = X.env :: X.outer) (hf : X.env.frame = some X.env.locals) (hN : X.N.Nodup) (hc : Names X x cv) (tk : Takes X W)
    (hb : ∀ (W : WX) (pn : List (Addr × Obj)) (xe : Value → Shared → Prop), Takes (X.tr pn xe) W → PassesOwn (model X.prog X.w) X.A X.env xe → PSs (X.tr pn xe) body (dS G B W mb))
    (hsu : ∀ (a : Addr) (oe : Obj) (cls : Value) (d : Option Addr) (pn : List (Addr × Obj)), Zc cls d oe → (∃ vs, oe.data = .fields vs) → PSs (X.suite a ((a, oe) :: pn)) (b₀ :: suite) (dS G { B with exc := some (i, a, cls, d) } W0 mh))
    (hi : X.N[i]? = some n := by rfl) (hln : X.env.kindOf n = some .local := by rfl) :
    PS X (.Try body [.ExceptHandler (some (.Name x np)) (some n) (b₀ :: suite) pos'] [] [] pos) (dS G B W (s_tryas i cm mb mh)) :=
  PS.imp (ps_try_as (tb := fun W => dS G B W mb) (ts := fun a cls d => dS G { B with exc := some (i, a, cls, d) } W0 mh) hs hf hN hi hln hc tk hb hsu) fun D σ H ⟨F, ρ, E, q⟩ => by
    refine ⟨F, ρ, E, ?_⟩
    unfold s_tryas at q
    cases em : mb ρ with
    | bad => rw [em] at q; exact q.elim
    | ok fl ρ1 => rw [em] at q; exact q
    | err ex ρ1 =>
      rw [em] at q
      simp only at q
      intro F' H' σ' cls dd x1 E1 hx
      cases ec : cm ex.c with
      | none => rw [ec] at q; exact q.elim
      | some b =>
        rw [ec] at q
        have hcl : cls = .ref (G.C ex.c) := hx.1
        refine ⟨b, by rw [hcl, hG]; exact hcm _ _ ec, fun hb' a ha => ?_, fun hb' => ?_⟩
        · subst hb'
          simp only at q
          refine ⟨F', ρ1.set i (.ex ex), E1.toEx hB hx, ?_⟩
          cases eh : mh (ρ1.set i (.ex ex)) with
          | bad => rw [eh] at q; exact q.elim
          | err ex2 ρ2 => rw [eh] at q; exact q.elim
          | ok fl ρ2 =>
            rw [eh] at q
            intro F2 H2 σ2 x2 E2
            have q2 := q F2 H2 (σ2.set i none) (x1.trans x2) E2.ofEx
            cases fl with
            | nx => exact q2
            | brk => exact q2
            | cont => exact q2
            | ret d => exact q2
        · subst hb'
          exact q F' H' σ' cls dd x1 E1 hx
/-- error.n, error the exception that the suite holds -/
theorem de_exat (k : Nat) (c : Str) {a : Addr} {oe : Obj} {cls : Value} {d : Option Addr} {pn : List (Addr × Obj)} {y : Str} (hG : X.K = G.K) (hA : ErrA G.K (G.C c) n) (hfs : G.fs c = [n]) (hz : Zc cls d oe) (hf : ∃ vs, oe.data = .fields vs) (hBx : B.exc = some (k, a, cls, d))
    (hN : X.N[k]? = some y := by rfl) (hv : Vis X.env.scope y := by first | exact Or.inl rfl | exact Or.inr (Or.inl rfl) | exact Or.inr (Or.inr rfl)) (hd : (y == ("__debug__" : Str)) = false := by decide) (hcd : (y == ("__classdict__" : Str)) = false := by decide)
    (hb : attributeBase (.Name y p) n X.env (eval (.Name y p) X.env) = eval (.Name y p) X.env := by rfl) :
    PE (X.suite a ((a, oe) :: pn)) (.Attribute (.Name y p) n pos) (dE G B W (m_exat k c)) := by
  have hvar : PE (X.suite a ((a, oe) :: pn)) (.Name y p) (tVar k) := pe_var hN hv hd hcd
  refine ⟨fun pins s σ H Q I ⟨F, ρ, E, q⟩ => ?_⟩
  unfold m_exat at q
  cases z : ρ[k]? with
  | none => rw [z] at q; exact q.elim
  | some ov =>
    rw [z] at q
    cases ov with
    | ex e =>
      simp only at q
      by_cases hc : e.c = c
      · rw [if_pos hc] at q
        obtain ⟨s0, es, o, a', cls', dd', e1, e2, e3, e4⟩ := E.get z
        rw [hBx] at e2
        cases e2
        subst e1
        cases ev : e.vs with
        | nil => rw [ev] at q; exact q.elim
        | cons d0 r =>
          rw [ev] at q
          cases r with
          | cons _ _ => exact q.elim
          | nil =>
            rcases e4 with ⟨_, e4⟩ | ⟨dd, vs, e5, e6, e7, e8⟩
            · rw [ev] at e4; cases e4
            · rw [hc] at e3 e6 e7
              rw [ev] at e8
              rw [hfs] at e6 e7
              cases e8 with
              | @cons v vs _ _ hv0 hr0 =>
                cases hr0
                have e6 : F dd = some (.xd [(n, v)]) := e6
                subst e5
                refine attr_of hb (thn (hvar.run pins s σ H (fun x1 H1 => x1 = .ref a ∧ H1 = H) I ⟨.ref a, es, rfl, rfl⟩) fun u s1 hh => ?_)
                obtain ⟨x1, H1, I1, rx, ex, eH⟩ := hh
                subst ex
                subst eH
                obtain rfl : u = Value.ref a := rx
                obtain ⟨ha, _⟩ := I1.pin (a, oe) (List.mem_append_left _ List.mem_cons_self)
                obtain ⟨fv, hd⟩ := hf
                obtain ⟨mA, hns, hr⟩ := (show ObjOk X.prog X.w H1 s1.heap dd (.xd [(n, v)]) from I1.hok dd _ (E.sub _ _ e6))
                obtain ⟨od, ho, hl⟩ := lookIn_ns hns
                have l : List.lookup n [(n, v)] = some v := by rw [List.lookup_cons, beq_self_eq_true]
                obtain ⟨u, hu, ru⟩ := RelO.some_of (v := v) (o := mA n) (by rw [← l]; exact hr n)
                have J : PySem.W.InstAt s1.heap a oe (G.C c) (some od) := ⟨ha, by rw [hz.1, e3], by unfold PySem.W.notCls; rw [hd] <;> rfl, by rw [hz.2]; exact ho⟩
                exact HandSPX.exc_get I1.kIn J (by show PySem.W.findIn X.K _ _ = _; rw [hG]; exact hA.ga) (by show PySem.W.findIn X.K _ _ = _; rw [hG]; exact hA.gg) (by show PySem.W.subIn X.K _ _ = _; rw [hG]; exact hA.exC)
                  (PySem.W.findObj_own (by show PySem.W.hasDictIn X.K _ = _; rw [hG]; exact hA.hdC) (by show PySem.W.findIn X.K _ _ = _; rw [hG]; exact hA.noN) rfl (by rw [hl, hu])) (handed_of ru) ⟨v, H1, I1.tok _, ru, q F H1 (Ext.refl F) E v hv0⟩
      · rw [if_neg hc] at q; exact q.elim
    | _ => exact q.elim
end
end AT
set_option Elab.async false
set_option linter.all false
set_option maxRecDepth 100000
set_option maxHeartbeats 2000000
/-! AO: own ==, != and &. -/
namespace AT
open PySem PySem.Spec PyProof.Rows L2
namespace Ow
open PySem.W
/-- a built-in value's or an object's type -/
theorem looks_cls {M : Model} {h : Heap} {a : Addr} {o : Obj} (e : h.get? a = some o) : Looks M h (typeOf (.ref a)) o.cls := (Looks.ld e).andThen .now
section
variable {X : Cx} {pins : List (Addr × Obj)} {σ : L2.St} {H : Hp} {s : Shared} {M : Model}
theorem type_tup {a : Addr} {xs : List V} (I : L2.Inv X pins σ H s) (h : SqT X.K H a xs) : Looks M s.heap (typeOf (.ref a)) (.type "tuple") := by
  obtain ⟨its, _, ⟨o, ho, hc, _⟩, _⟩ := I.tuple h
  have := looks_cls (M := M) ho
  rwa [hc] at this
theorem type_lst {a : Addr} {xs : List V} (I : L2.Inv X pins σ H s) (h : SqL X.K H a xs) : Looks M s.heap (typeOf (.ref a)) (.type "list") := by
  obtain ⟨its, _, ⟨o, n, ho, hc, _⟩, _⟩ := I.list h
  have := looks_cls (M := M) ho
  rwa [hc] at this
theorem type_ins {a C dx : Addr} {fs : List (Str × V)} (I : L2.Inv X pins σ H s) (h : H a = some (.ins C dx fs)) : Looks M s.heap (typeOf (.ref a)) (.ref C) := by
  obtain ⟨mA, O, _⟩ := ins_get I.hok h
  obtain ⟨od, J, _⟩ := O.look
  exact J.type
theorem type_dct {a : Addr} {kvs : List (L2.Key × V)} (I : L2.Inv X pins σ H s) (h : Rd H a (.dK kvs)) : Looks M s.heap (typeOf (.ref a)) (.type "dict") := by
  obtain ⟨_, _, vs, _, o, es, ep, ho, hc, _⟩ := dk_rd I.hok h
  have := looks_cls (M := M) ho
  rwa [hc.1] at this
theorem type_at {G : Gam} {F : Hp} {w : V} {d : D} {u : Value} (hG : X.K = G.K) (I : L2.Inv X pins σ H s) (hs : Same F H) (h : At G F w d) (r : RelV w u) : Looks M s.heap (typeOf u) (tyD G d) := by
  cases h with
  | non => cases (show u = Value.none from r); exact Looks.of_pure (by rfl)
  | bl b => cases (show u = Value.bool b from r); exact Looks.of_pure (by rfl)
  | int i => obtain ⟨t, e⟩ := (show ∃ t, u = Value.int i t from r); subst e; exact Looks.of_pure (by rfl)
  | str y => obtain ⟨t, e⟩ := (show ∃ t, u = Value.str y t from r); subst e; exact Looks.of_pure (by rfl)
  | tup h1 h2 => cases (show u = Value.ref _ from r); exact type_tup I (by rw [hG]; exact h1.sq hs)
  | lst h1 h2 => cases (show u = Value.ref _ from r); exact type_lst I (SqL.of (hs _ _ h1))
  | dct h1 hc hl h2 => cases (show u = Value.ref _ from r); exact type_dct I (rd_core hs h1 hc)
  | ins h1 hl h2 => cases (show u = Value.ref _ from r); exact type_ins I (hs _ _ h1)
  | scr h1 => cases (show u = Value.ref _ from r); exact type_lst I (by rw [hG]; exact sqL_sub hs h1)
end
section
variable {prog : Program} {w : World} {A : Around} {E : Value → Shared → Prop} {s : Shared} {K : Frag} {x C f : Addr} {ox : Obj} {od : Option Obj} {b tb : Value}
theorem one_eq {Q : Option Value → Shared → Prop} (X : K.In s.heap) (I : InstAt s.heap x ox C od) (hs : findIn K (.ref C) "__eq__" = some (some (.ref f))) (hf : isFn K (.ref f) = true)
    (h : wpAny (model prog w) A (call (.ref f) [.ref x, b]) (fun v s' => ∃ c, v = .bool c ∧ Q (some (.bool c)) s') E s) : wpAny (model prog w) A (tryCompare (.ref x) "__eq__" b) Q E s := by
  unfold tryCompare
  refine wpAny_bind (ifBound_K X I hs hf (wpAny_mono h (fun v s' hv => ?_) fun _ _ e => e))
  obtain ⟨c, rfl, q⟩ := hv
  exact wpAny_pure q
theorem slot_ne : Slot "object" "__ne__" "object.__ne__" := (F.cmp_object).ne
theorem one_ne {Q : Option Value → Shared → Prop} (hu : A.units + 1 < cLine) (X : K.In s.heap) (I : InstAt s.heap x ox C od) (hn : findIn K (.ref C) "__ne__" = some (some (.builtin "object.__ne__"))) (ho : subIn K (.ref C) (.type "object") = some true)
    (hs : findIn K (.ref C) "__eq__" = some (some (.ref f))) (hf : isFn K (.ref f) = true)
    (h : wpAny (model prog w) A.in1 (call (.ref f) [.ref x, b]) (fun v s' => ∃ c, v = .bool c ∧ Q (some (.bool (!c))) s') E s) : wpAny (model prog w) A (tryCompare (.ref x) "__ne__" b) Q E s := by
  have body : ∀ {P : Fin → Shared → Prop}, wpAny (model prog w) A.in1 (call (.ref f) [.ref x, b]) (fun v s' => ∃ c, v = .bool c ∧ P (.done (.ret (.bool (!c)))) s') E s →
      wpAny (model prog w) A.in1 (Builtin.«object.__ne__» ⟨[.ref x, b], []⟩) P E s := by
    intro P hP
    unfold Builtin.«object.__ne__»
    refine wpAny_bind (wpAny_of_eq (a := (.ref x, [b])) (by first | rfl | kernel_rfl) ?_)
    refine wpAny_bind (wpAny_cRoomFor (by show A.units + 1 < cLine; exact hu) ?_)
    refine wpAny_bind (ifBound_K X I hs hf (wpAny_mono hP (fun v s' hv => ?_) fun _ _ e => e))
    obtain ⟨c, rfl, q⟩ := hv
    exact wpAny_bind (wpAny_truthy_bool (wpAny_pure q))
  have run : wpAny (model prog w) A (call (.builtin "object.__ne__") [.ref x, b]) (fun v s' => ∃ c : Bool, v = .bool c ∧ Q (some (.bool c)) s') E s := by
    refine wpAny_call (codeAny_call_builtin slot_ne.plain F.cmpEntry_ne (@check_slot (model prog w) _ _ s "object.__ne__" "object" "__ne__" (.ref x) [b] [] _ F.cmpKind_ne F.cmpSplit_ne (I.type.andThen (looks_subIn X ho)) (F.cmpArgs_ne _ _) ?_))
    exact body (wpAny_mono h (fun v s' hv => by
      obtain ⟨c, rfl, q⟩ := hv
      exact ⟨c, rfl, _, rfl, q⟩) fun _ _ e => e)
  have fin : wpAny (model prog w) A (call (.builtin "object.__ne__") ([.ref x] ++ [b]) >>= fun v => pure (some v)) (fun o s' => ∃ c : Bool, o = some (.bool c) ∧ Q (some (.bool c)) s') E s :=
    wpAny_bind (wpAny_mono run (fun v s' hv => by
      obtain ⟨c, rfl, q⟩ := hv
      exact wpAny_pure ⟨c, rfl, q⟩) fun _ _ e => e)
  unfold tryCompare
  refine wpAny_bind ?_
  simp only [callSpecialIfBound?, bindSpecialIfBound?]
  refine wpAny_holding (wpAny_bind (wpAny_bind (wpAny_bind (I.type.here ((looks_findIn X hn).here ?_)))))
  refine wpAny_bind (wpAny_askSetting (wpAny_ite ?_))
  have tail : wpAny (model prog w) A (call (.builtin "object.__ne__") ([.ref x] ++ [b]) >>= fun v => pure (some v)) (fun a s' => wpAny (model prog w) A (match a with | some .notImplemented | none => pure none | some v => pure (some v)) Q E s') E s :=
    wpAny_mono fin (fun o s' ho => by
      obtain ⟨c, rfl, q⟩ := ho
      exact wpAny_pure q) fun _ _ e => e
  split
  · exact wpAny_bind (wpAny_of_eq (slot_ne.bind _) (wpAny_pure (by exact tail)))
  · exact wpAny_tryCatch (wpAny_bind (wpAny_of_eq (slot_ne.bind _) (wpAny_pure (by exact tail))))
/-- a rich comparison that the left one's own method answers -/
theorem rich_own {op : CmpOp} {Q : Value → Shared → Prop} (hu : A.units < cLine) (X : K.In s.heap) (I : InstAt s.heap x ox C od) (hb : Looks (model prog w) s.heap (typeOf b) tb) (hn : notFirst K C tb = true)
    (one : wpAny (model prog w) A (tryCompare (.ref x) (cmpInfo op).2.1 b) (fun r s' => ∃ v, r = some v ∧ Q v s') E s) : wpAny (model prog w) A (richCompare op (.ref x) b) Q E s := by
  unfold richCompare
  simp only [oneThing_ref]
  refine wpAny_holding (wpAny_bind (wpAny_cRoomFor hu ?_))
  refine wpAny_bind (I.type.here (wpAny_bind (hb.here ?_)))
  have last : ∀ {k : Sem Value}, wpAny (model prog w) A (tryCompare (.ref x) (cmpInfo op).2.1 b >>= fun r => match r with | some v => pure v | none => k) Q E s := fun {k} => by
    refine wpAny_bind (wpAny_mono one (fun r s' z => ?_) fun _ _ e => e)
    obtain ⟨v, rfl, hq⟩ := z
    exact wpAny_pure hq
  split
  · rename_i q
    have e : subIn K tb (.ref C) = some false := by
      rcases Bool.or_eq_true_iff.mp hn with e | e
      · rw [beq_iff_eq.mp e] at q; simp at q
      · exact beq_iff_eq.mp e
    refine wpAny_bind ((looks_subIn X e).here ?_)
    simp only [Bool.false_eq_true, if_false]
    refine wpAny_bind (wpAny_mono one (fun r s' z => ?_) fun _ _ e => e)
    obtain ⟨v, rfl, hq⟩ := z
    exact wpAny_pure hq
  · refine wpAny_bind (wpAny_pure ?_)
    simp only [Bool.false_eq_true, if_false]
    refine wpAny_bind (wpAny_mono one (fun r s' z => ?_) fun _ _ e => e)
    obtain ⟨v, rfl, hq⟩ := z
    exact wpAny_pure hq
end
end Ow
def nfB (cs : List Str) : D → Bool
  | .ins c _ => cs.contains c
  | _ => true
def chkNf (K : PySem.W.Frag) (c : Str) (cs : List Str) : Bool :=
  (["NoneType", "bool", "int", "str", "tuple", "list", "dict"].all fun T => PySem.W.notFirst K (He.ga K c) (.type T)) && cs.all fun c' => PySem.W.notFirst K (He.ga K c) (.ref (He.ga K c'))
theorem chkNf_ok {G : Gam} {c : Str} {cs : List Str} (hC : G.C = He.ga G.K) (h : chkNf G.K c cs = true) {d : D} (hd : nfB cs d = true) : PySem.W.notFirst G.K (G.C c) (tyD G d) = true := by
  obtain ⟨h1, h2⟩ := He.ba h
  have tb : ∀ T ∈ ["NoneType", "bool", "int", "str", "tuple", "list", "dict"], PySem.W.notFirst G.K (He.ga G.K c) (.type T) = true := fun T hT => List.all_eq_true.mp h1 T hT
  rw [hC]
  cases d with
  | ins c' vs =>
    show PySem.W.notFirst G.K _ (.ref (G.C c')) = true
    rw [hC]
    exact List.all_eq_true.mp h2 c' (by simpa [nfB] using hd)
  | _ => exact tb _ (by simp)
/-- a == b, a != b: a an instance of c, by its own __eq__ -/
def m_eqO (neg : Bool) (c : Str) (cs : List Str) (Fm : List OV → Out D) (ma mb : ME) : ME := fun ρ => (ma ρ).bind fun x ρ => (mb ρ).bind fun y ρ => match x with
  | .ins c' _ => if c' = c ∧ nfB cs y = true then match Fm [.fr x, .fr y] with
    | .ok (.bl b) _ => .ok (.bl (if neg then !b else b)) ρ
    | _ => .bad else .bad
  | _ => .bad
def m_binO (c : Str) (Fm : List OV → Out D) (ma mb : ME) : ME := fun ρ => (ma ρ).bind fun x ρ => (mb ρ).bind fun y ρ => match x, y with
  | .ins c1 _, .ins c2 _ => if c1 = c ∧ c2 = c then match Fm [.fr x, .fr y] with
    | .ok d _ => .ok d ρ
    | .err e _ => .err e ρ
    | .bad => .bad else .bad
  | _, _ => .bad
structure EqOk (K : PySem.W.Frag) (C f : Addr) : Prop where
  eq : PySem.W.findIn K (.ref C) "__eq__" = some (some (.ref f))
  fn : PySem.W.isFn K (.ref f) = true
  ne : PySem.W.findIn K (.ref C) "__ne__" = some (some (.builtin "object.__ne__"))
  ob : PySem.W.subIn K (.ref C) (.type "object") = some true
structure BinOk (K : PySem.W.Frag) (C f : Addr) (nm : Str) : Prop where
  at_ : PySem.W.findIn K (.ref C) nm = some (some (.ref f))
  fn : PySem.W.isFn K (.ref f) = true
  sf : PySem.W.selfFirst K C = true
def rOwnC (G : Gam) (C : Addr) (cs : List Str) (sp : Sp) (neg : Bool) : R2 := fun x y H Q => ∃ a dx fs F d, x = .ref a ∧ H a = some (.ins C dx fs) ∧ Same F H ∧ At G F y d ∧ nfB cs d = true ∧ sp [x, y] H (fun v H' => ∃ b, v = .bl b ∧ Q (.bl (if neg then !b else b)) H') (fun _ _ _ => False)
def rOwnB (C : Addr) (sp : Sp) (E : XK) : R2 := fun x y H Q => ∃ a dx fs b dy gs, x = .ref a ∧ H a = some (.ins C dx fs) ∧ y = .ref b ∧ H b = some (.ins C dy gs) ∧ sp [x, y] H Q E
section
variable {X : Cx} {G : Gam} {B : Ba} {W : WX} {a b : Expr} {ma mb : ME} {pos : Pos} {c : Str} {cs : List Str} {k : Nat} {f : Addr} {fd : FuncData} {ps : List Str} {Fm : List OV → Out D} {sp : Sp}
/-- a call at A, X's own or one below it, that raises nothing -/
theorem run_at {A : Around} {pins : List (Addr × Obj)} {σ : L2.St} {H : Hp} {s : Shared} {Q : VK} {us : List Value} {vs : List V} (FO : FnOk X.prog X.w X.K X.mg X.base (L2.CX X.prog X.w) k f fd ps sp) (hr : Room k A) (hb : Binds X.K fd ps []) (I : L2.Inv X pins σ H s)
    (e0 : Env0 X.prog X.w X.K X.mg X.base A X.stack s H) (r : Vals vs us) (h : sp vs H Q (fun _ _ _ => False)) : wpAny (model X.prog X.w) A (call (.ref f) us) (EP X pins σ Q) X.xe s := by
  have hl : us.length = ps.length := by rw [← r.length]; exact FO.len _ _ _ _ h
  have bd := hb s us I.kIn (by rw [List.append_nil]; exact hl)
  rw [List.append_nil] at bd
  refine wpAny_call (codeAny_mono (FO.run A X.stack s H ⟨us, []⟩ us vs Q _ hr e0 bd r h) fun res s' hres => ?_)
  cases res with
  | error er => exact passF pins σ H s er s' I hres
  | ok fl =>
    cases fl with
    | ret u => exact I.after hres
    | next => exact hres.elim
    | brk => exact hres.elim
    | cont => exact hres.elim
theorem or_ownEq (hG : X.K = G.K) (hC : G.C = He.ga G.K) (hn : chkNf G.K c cs = true) (O : EqOk G.K (G.C c) f) (FO : FnOk X.prog X.w X.K X.mg X.base (L2.CX X.prog X.w) k f fd ps sp) (hr : Room (k + 1) X.A) (hb : Binds X.K fd ps []) : OpR X (compareOp .Eq) (rOwnC G (G.C c) cs sp false) := by
  intro pins s σ H x y v u Q I rx ry h
  obtain ⟨a, dx, fs, F, d, rfl, ha, hs, hd, hnf, q⟩ := h
  obtain rfl : v = Value.ref a := rx
  obtain ⟨mA, O1, _⟩ := ins_get I.hok ha
  obtain ⟨od, J, _⟩ := O1.look
  have O' := O
  rw [← hG] at O'
  refine Ow.rich_own (op := .Eq) (by have := hr.un; omega) I.kIn J (Ow.type_at hG I hs hd ry) (by rw [hG]; exact chkNf_ok hC hn hnf) (Ow.one_eq I.kIn J O'.eq O'.fn ?_)
  refine wpAny_mono (run_at FO (hr.mono (Nat.le_succ k)) hb I I.env0 (.cons (show RelV (V.ref a) (Value.ref a) from rfl) (.cons ry .nil)) q) (fun w s' hw => ?_) fun _ _ e => e
  obtain ⟨v, H', I', rv, bb, rfl, q'⟩ := hw
  obtain rfl : w = Value.bool bb := rv
  exact ⟨bb, rfl, _, rfl, .bl bb, H', I', rfl, by simpa using q'⟩
theorem or_ownNe (hG : X.K = G.K) (hC : G.C = He.ga G.K) (hn : chkNf G.K c cs = true) (O : EqOk G.K (G.C c) f) (FO : FnOk X.prog X.w X.K X.mg X.base (L2.CX X.prog X.w) k f fd ps sp) (hr : Room (k + 1) X.A) (hb : Binds X.K fd ps []) : OpR X (compareOp .NotEq) (rOwnC G (G.C c) cs sp true) := by
  intro pins s σ H x y v u Q I rx ry h
  obtain ⟨a, dx, fs, F, d, rfl, ha, hs, hd, hnf, q⟩ := h
  obtain rfl : v = Value.ref a := rx
  obtain ⟨mA, O1, _⟩ := ins_get I.hok ha
  obtain ⟨od, J, _⟩ := O1.look
  have O' := O
  rw [← hG] at O'
  have hu := hr.un
  refine Ow.rich_own (op := .NotEq) (by omega) I.kIn J (Ow.type_at hG I hs hd ry) (by rw [hG]; exact chkNf_ok hC hn hnf) (Ow.one_ne (by omega) I.kIn J O'.ne O'.ob O'.eq O'.fn ?_)
  refine wpAny_mono (run_at FO hr.in1 hb I I.env0.in1 (.cons (show RelV (V.ref a) (Value.ref a) from rfl) (.cons ry .nil)) q) (fun w s' hw => ?_) fun _ _ e => e
  obtain ⟨v, H', I', rv, bb, rfl, q'⟩ := hw
  obtain rfl : w = Value.bool bb := rv
  exact ⟨bb, rfl, _, rfl, .bl (!bb), H', I', rfl, by simpa using q'⟩
theorem tOwn_d {neg : Bool} {σ : L2.St} {H : Hp} {Q : VK} (h : dE G B W (m_eqO neg c cs Fm ma mb) σ H Q) : tOp (rOwnC G (G.C c) cs (spOf G 2 Fm) neg) (dE G B W ma) (dE G B W mb) σ H Q := by
  obtain ⟨F, ρ, E, p⟩ := h
  refine ⟨F, ρ, E, p.bind.mono fun x ρ1 F1 H1 x1 E1 p1 v hv => ⟨F1, ρ1, E1, p1.bind.mono fun y ρ2 F2 H2 x2 E2 p2 w hw => ?_⟩⟩
  cases hv with
  | @ins a dx c' vs ds h1 hl h2 =>
    simp only at p2
    by_cases hc : c' = c ∧ nfB cs y = true
    · rw [if_pos hc] at p2
      obtain ⟨rfl, hnf⟩ := hc
      have h1' := x2.keep h1 rfl
      have hv2 : At G F2 (.ref a) (.ins c' ds) := (At.ins h1 hl h2).ext x2
      refine ⟨a, dx, _, F2, y, rfl, E2.sub _ _ h1', E2.sub, hw, hnf, rfl, F2, fun _ => False, [.fr (.ins c' ds), .fr y], E2.sub, rfl, fun _ z => z.elim, fun i v z e1 e2 => ?_, ?_⟩
      · exact (Ats.cons hv2 (.cons hw .nil)).args _ i v z e1 e2
      · cases eF : Fm [.fr (.ins c' ds), .fr y] with
        | bad => rw [eF] at p2; exact p2.elim
        | err ex outs => rw [eF] at p2; exact p2.elim
        | ok d outs =>
          rw [eF] at p2
          cases d with
          | bl bb =>
            intro F' H' v r hv
            cases hv
            exact ⟨bb, rfl, p2 F' H' r.ext (E2.ret r) _ (.bl _)⟩
          | _ => exact p2.elim
    · rw [if_neg hc] at p2; exact p2.elim
  | _ => exact p2.elim
theorem de_eqO (c : Str) (cs : List Str) (hG : X.K = G.K) (hC : G.C = He.ga G.K) (hn : chkNf G.K c cs = true) (O : EqOk G.K (G.C c) f) (FO : FnOk X.prog X.w X.K X.mg X.base (L2.CX X.prog X.w) k f fd ps (spOf G 2 Fm)) (hr : Room (k + 1) X.A) (hb : Binds X.K fd ps []) (ha : PE X a (dE G B W ma)) (hbb : PE X b (dE G B W mb))
    (hm : behindInMarks .Eq b = false) : PE X (.Compare a [.Eq] [b] pos) (dE G B W (m_eqO false c cs Fm ma mb)) := PE.imp (pe_cmpR (or_ownEq hG hC hn O FO hr hb) ha hbb hm) fun _ _ _ => tOwn_d
theorem de_neO (c : Str) (cs : List Str) (hG : X.K = G.K) (hC : G.C = He.ga G.K) (hn : chkNf G.K c cs = true) (O : EqOk G.K (G.C c) f) (FO : FnOk X.prog X.w X.K X.mg X.base (L2.CX X.prog X.w) k f fd ps (spOf G 2 Fm)) (hr : Room (k + 1) X.A) (hb : Binds X.K fd ps []) (ha : PE X a (dE G B W ma)) (hbb : PE X b (dE G B W mb))
    (hm : behindInMarks .NotEq b = false) : PE X (.Compare a [.NotEq] [b] pos) (dE G B W (m_eqO true c cs Fm ma mb)) := PE.imp (pe_cmpR (or_ownNe hG hC hn O FO hr hb) ha hbb hm) fun _ _ _ => tOwn_d
theorem dt_eqO (c : Str) (cs : List Str) (hG : X.K = G.K) (hC : G.C = He.ga G.K) (hn : chkNf G.K c cs = true) (O : EqOk G.K (G.C c) f) (FO : FnOk X.prog X.w X.K X.mg X.base (L2.CX X.prog X.w) k f fd ps (spOf G 2 Fm)) (hr : Room (k + 1) X.A) (hb : Binds X.K fd ps []) (ha : PE X a (dE G B W ma)) (hbb : PE X b (dE G B W mb))
    (hm : behindInMarks .Eq b = false) : PT X (.Compare a [.Eq] [b] pos) (dT G B W (m_tst tstB (m_eqO false c cs Fm ma mb))) := PT.imp (pt_cmpR (or_ownEq hG hC hn O FO hr hb) ha hbb hm) fun _ _ _ => tTest_d fun _ _ _ => tOwn_d
theorem dt_neO (c : Str) (cs : List Str) (hG : X.K = G.K) (hC : G.C = He.ga G.K) (hn : chkNf G.K c cs = true) (O : EqOk G.K (G.C c) f) (FO : FnOk X.prog X.w X.K X.mg X.base (L2.CX X.prog X.w) k f fd ps (spOf G 2 Fm)) (hr : Room (k + 1) X.A) (hb : Binds X.K fd ps []) (ha : PE X a (dE G B W ma)) (hbb : PE X b (dE G B W mb))
    (hm : behindInMarks .NotEq b = false) : PT X (.Compare a [.NotEq] [b] pos) (dT G B W (m_tst tstB (m_eqO true c cs Fm ma mb))) := PT.imp (pt_cmpR (or_ownNe hG hC hn O FO hr hb) ha hbb hm) fun _ _ _ => tTest_d fun _ _ _ => tOwn_d
/-! a & b -/
theorem de_binO {op : Operator} (c : Str) (hG : X.K = G.K) (O : BinOk G.K (G.C c) f (PySem.dunder op.info.2)) (FO : FnOk X.prog X.w X.K X.mg X.base (L2.CX X.prog X.w) k f fd ps (spOf G (1 + 1) Fm)) (hr : Room k X.A) (hb : Binds X.K fd ps []) (tk : Takes X W) (ha : PE X a (dE G B W ma)) (hbb : PE X b (dE G B W mb)) :
    PE X (.BinOp a op b pos) (dE G B W (m_binO c Fm ma mb)) := by
  refine ⟨fun pins s σ H Q I ⟨F, ρ, E, p⟩ => ?_⟩
  have run : ∀ (pins : List (Addr × Obj)) (s : Shared) (H : Hp) (x y : V) (v u : Value) (Q : VK), L2.Inv X pins σ H s → RelV x v → RelV y u → rOwnB (G.C c) (spOf G (1 + 1) Fm) (WE W σ) x y H Q → wpAny (model X.prog X.w) X.A (binaryOp op v u) (EP X pins σ Q) X.xe s := by
    intro pins s H x y v u Q I rx ry h
    obtain ⟨a, dx, fs, b, dy, gs, rfl, h1, rfl, h2, q⟩ := h
    obtain rfl : v = Value.ref a := rx
    obtain rfl : u = Value.ref b := ry
    obtain ⟨mA, O1, _⟩ := ins_get I.hok h1
    obtain ⟨od, J, _⟩ := O1.look
    obtain ⟨m, hF⟩ := I.fr
    have O' := O
    rw [← hG] at O'
    refine PySem.W.binop_K hF I.ok.mod.kin J (Ow.type_ins I h2) O'.sf O'.at_ O'.fn ?_
    refine wpAny_mono (run_fnSD (us := [.ref a, .ref b]) (vs := [.ref a, .ref b]) (dvs := []) FO hr hb .nil (passAt tk σ) I (.cons rfl (.cons rfl .nil)) q) (fun w s' hw => ?_) fun _ _ e => e
    have hw2 := hw
    obtain ⟨z, H', I', rz, q'⟩ := hw
    cases w with
    | notImplemented => cases z <;> first | (cases rz; done) | (obtain ⟨t, e⟩ := rz; cases e)
    | _ => exact hw2
  refine wpAny_BinOp (binT (R := fun x y H2 => rOwnB (G.C c) (spOf G (1 + 1) Fm) (WE W σ) x y H2 Q) ha hbb I ⟨F, ρ, E, p.bind.mono fun x ρ1 F1 H1 x1 E1 p1 v hv => ⟨F1, ρ1, E1, p1.bind.mono fun y ρ2 F2 H2 x2 E2 p2 w hw => ?_⟩⟩ fun v u s2 x y H2 I2 rx ry q => run pins s2 H2 x y v u Q I2 rx ry q)
  cases hv with
  | @ins a dx c' vs ds h1 hl h2 =>
    cases hw with
    | @ins b dy c2 ws es g1 gl g2 =>
      simp only at p2
      by_cases hc : c' = c ∧ c2 = c
      · rw [if_pos hc] at p2
        obtain ⟨e1, e2⟩ := hc
        subst e1
        subst e2
        exact ⟨a, dx, _, b, dy, _, rfl, E2.sub _ _ (x2.keep h1 rfl), rfl, E2.sub _ _ g1, sp_pure (ds := [.ins c2 ds, .ins c2 es]) E2 (.cons ((At.ins h1 hl h2).ext x2) (.cons (.ins g1 gl g2) .nil)) rfl p2⟩
      · rw [if_neg hc] at p2; exact p2.elim
    | _ => exact p2.elim
  | _ => exact p2.elim
end
end AT
set_option Elab.async false
set_option linter.all false
set_option maxRecDepth 100000
set_option maxHeartbeats 2000000
/-! AG: defs that run where no repr runs; repr. -/
namespace AT
open PySem PySem.Spec PyProof.Rows L2
/-- a promise where no repr is under way -/
structure FnG (P : Program) (w : World) (K : PySem.W.Frag) (mg : Str → Option Value) (base : Heap) (CX : CXT) (k : Nat) (f : Addr) (fd : FuncData) (ps : List Str) (sp : Sp) : Prop where
  len : ∀ vs H Q E, sp vs H Q E → vs.length = ps.length
  run : ∀ (A : Around) (outer : List Env) (s : Shared) (H : Hp) (args : Args) (us : List Value) (vs : List V) (Q : VK) (E : XK), Room k A → A.guards = some [] → Env0 P w K mg base A outer s H → BindsTo s fd args (ps.zip us) → Vals vs us → sp vs H Q E →
    codeAny (model P w) A (.call (.ref f) args) (CR CX outer P w H s Q E) s
section
variable {P : Program} {w : World} {K : PySem.W.Frag} {mg : Str → Option Value} {base : Heap} {CX : CXT} {k : Nat} {f : Addr} {fd : FuncData} {ps : List Str} {sp : Sp} {G : Gam}
theorem FnG.of (F : FnOk P w K mg base CX k f fd ps sp) : FnG P w K mg base CX k f fd ps sp := ⟨F.len, fun A outer s H args us vs Q E hr _ => F.run A outer s H args us vs Q E hr⟩
theorem FnG.mono {j : Nat} (F : FnG P w K mg base CX j f fd ps sp) (h : j ≤ k) : FnG P w K mg base CX k f fd ps sp := ⟨F.len, fun A outer s H args us vs Q E hr => F.run A outer s H args us vs Q E (hr.mono h)⟩
theorem FunD.okG {x qual : Str} {params : Arguments} {body : List Stmt} {scope : Scope} {dvs : List V} {kws : List (Str × V)} {N : List Str} (FD : FunD K x qual params body scope dvs kws f fd) (S : FnScope N ps scope) (len : ∀ vs H Q E, sp vs H Q E → vs.length = ps.length)
    (hbody : ∀ (cdv : Value) (A : Around) (outer : List Env) (s : Shared) (H : Hp) (vs : List V) (Q : VK) (E : XK), Room k (A.deeper (envOfC qual scope s.heap.objs.size f cdv)) → A.guards = some [] → sp vs H Q E →
      ∃ t, PSs (cxOf CX P w K mg base N qual scope f cdv A outer s H E) body t ∧ t { nx := fun _ H' => Q .non H', rt := Q } (L2.start N vs) H) : FnG P w K mg base CX (k + 1) f fd ps sp := by
  obtain ⟨oc, od, dV, kV, doc, pm, an, cdv, ct, osl, rfl, lk, hcd, _, _⟩ := FD.ex
  refine ⟨len, ?_⟩
  intro A outer s H args us vs Q E hr hgd e0 hb r hsp
  have hlen := len _ _ _ _ hsp
  have up : ∀ b o, base.get? b = some o → s.heap.get? b = some o := fun b o e => (e0.bs b o e).1
  have KX := e0.mod.kin.keeps up
  have lim := e0.mod.nolimit.keeps up
  have kinds : ∀ y ∈ ps.zip us, scope.names.lookup y.1 = some .local ∨ (scope.names.lookup y.1 = some .cell ∧ ((cellsFrom (s.heap.objs.size + 1) scope.names []).lookup y.1).isSome = true) := by
    rintro ⟨n, v⟩ hy
    rcases S.par n (List.of_mem_zip hy).1 with q | q
    · exact .inl q
    · exact .inr ⟨q, PySem.W.cellsFrom_some _ _ _ (.inl q)⟩
  refine codeAny_call_function hr.depth (KX _ _ lk) rfl S.co S.gen rfl (PySem.W.codeRec_of KX hcd) (hb _ _ _ _ (wpAny_newFunctionEnv_cells S.kind kinds fun env he s1 x1 => ?_))
  subst he
  obtain ⟨t, ht, hq⟩ := hbody cdv A outer s H vs Q E (hr.deeper _) hgd hsp
  have I := inv_start (CX := CX) (E := E) S hr.hd e0 hlen r x1
  refine ⟨lim.keeps x1.toInCall.keep, codeAny_func (wpAny_mono (ht.run [] s1 (L2.start N vs) H _ I hq) (fun fl s' hs => ?_) fun e s' hs => hs)⟩
  cases fl with
  | ret u =>
    obtain ⟨v, σ', H', J, rv, q⟩ := hs
    exact ⟨v, H', J.os, J.bare, J.base, J.hok, rv, q⟩
  | next =>
    obtain ⟨σ', H', J, q⟩ := hs
    exact ⟨V.non, H', J.os, J.bare, J.base, J.hok, rfl, q⟩
  | brk =>
    obtain ⟨_, _, _, q⟩ := hs
    exact q.elim
  | cont =>
    obtain ⟨_, _, _, q⟩ := hs
    exact q.elim
/-- a def whose body asks for texts of values -/
theorem fn_dG {x qual : Str} {params : Arguments} {body : List Stmt} {scope : Scope} {dvs : List V} {kws : List (Str × V)} {N : List Str} {m : MS} (F : FunD K x qual params body scope dvs kws f fd) (S : FnScope N ps scope)
    (hm : ∀ (cdv : Value) (A : Around) (outer : List Env) (s : Shared) (H : Hp) (E : XK) (B : Ba), Room k (A.deeper (envOfC qual scope s.heap.objs.size f cdv)) → A.guards = some [] → B.args.length = ps.length ∧ B.exc = none →
      PSs (cxOf (L2.CX P w) P w K mg base N qual scope f cdv A outer s H E) body (dS G B (fun cls d _ H => E cls d H) m)) : FnG P w K mg base (L2.CX P w) (k + 1) f fd ps (spOf G ps.length (runF ps.length N.length m)) := by
  have hp : ps.length ≤ N.length := by
    have e := congrArg List.length S.pre
    rw [List.length_take] at e
    omega
  refine FunD.okG F S (fun vs H Q E h => h.1) fun cdv A outer s H vs Q E hr hgd h => ?_
  obtain ⟨hv, F, o, args, hs, ha, ho, hx, q⟩ := h
  refine ⟨_, hm cdv A outer s H E ⟨H, o, vs, none, F⟩ hr hgd ⟨hv, rfl⟩, F, _, entry hp hv hs ha ho hx, ?_⟩
  unfold runF at q
  cases e : m (args ++ List.replicate (N.length - ps.length) .un) with
  | bad => rw [e] at q; exact q.elim
  | err ex ρ => rw [e] at q; exact fun F' H' σ' cls dd x E' hE => q F' H' cls dd (leave (N := N) hv x E') hE
  | ok fl ρ =>
    rw [e] at q
    cases fl with
    | nx => exact fun F' H' σ' x E' => q F' H' .non (leave (N := N) hv x E') .non
    | ret d => exact fun F' H' σ' x E' v hd => q F' H' v (leave (N := N) hv x E') hd
    | brk => exact q.elim
    | cont => exact q.elim
end
section
variable {X : Cx} {G : Gam} {B : Ba} {W : WX} {Fm : List OV → Out D} {k n : Nat} {f : Addr} {fd : FuncData} {ps : List Str} {x : Str} {p pos : Pos} {e a : Expr} {es : List Expr} {ma : MA} {sp : Sp}
theorem run_fnG {Es : XK} {pins : List (Addr × Obj)} {σ : L2.St} {H : Hp} {s : Shared} {Q : VK} {us : List Value} {vs : List V} (F : FnG X.prog X.w X.K X.mg X.base (L2.CX X.prog X.w) k f fd ps sp) (hr : Room k X.A) (hgd : X.A.guards = some []) (hb : Binds X.K fd ps []) (hx : PassesAt (L2.CX X.prog X.w) X σ Es)
    (I : L2.Inv X pins σ H s) (r : Vals vs us) (h : sp vs H Q Es) : wpAny (model X.prog X.w) X.A (call (.ref f) us) (EP X pins σ Q) X.xe s := by
  have hl : us.length = ps.length := by rw [← r.length]; exact F.len _ _ _ _ h
  have bd := hb s us I.kIn (by rw [List.append_nil]; exact hl)
  rw [List.append_nil] at bd
  refine wpAny_call (codeAny_mono (F.run X.A X.stack s H ⟨us, []⟩ us vs Q Es hr hgd I.env0 bd r h) fun res s' hres => ?_)
  cases res with
  | error er => exact hx pins H s er s' I hres
  | ok fl =>
    cases fl with
    | ret u => exact I.after hres
    | next => exact hres.elim
    | brk => exact hres.elim
    | cont => exact hres.elim
theorem de_callG (FO : FnG X.prog X.w X.K X.mg X.base (L2.CX X.prog X.w) k f fd ps (spOf G n Fm)) (hr : Room k X.A) (hgd : X.A.guards = some []) (hm : X.mg x = some (.ref f)) (hk : PySem.W.keepIn X.K (.ref f) = true) (hb : Binds X.K fd ps []) (tk : Takes X W)
    (ha : PA X (e :: es) (dA G B W ma)) (hg : Gl X x := by rfl) (hdb : (x == ("__debug__" : Str)) = false := by decide) (he : starEach (e :: es) X.env = (false, eval e X.env) :: starEach es X.env := by rfl) (hpl : (backTo pos (starEach es X.env)).any (·.1) = false := by rfl) :
    PE X (.Call (.Name x p) (e :: es) [] pos) (dE G B W (m_call Fm (lenOk n ma))) := by
  constructor
  intro pins s σ H Q I h
  have h2 := tCall_d (B := B) (W := W) h
  refine wpAny_Call_Name_kw (ld_glob I hg hm ?_ hdb)
  refine PySem.W.callWith_K (h₀ := X.base) I.ok.mod.kin hk (thn (ha.run pos pins s σ H _ I h2) fun us s1 hh => ?_) he hpl
  obtain ⟨vs, H1, I1, r, q⟩ := hh
  rw [List.append_nil] at q
  exact ⟨I1.kIn, run_fnG FO hr hgd hb (passAt tk σ) I1 r q⟩

/-! ### repr -/
def reprF (x : D) : Option D := if okD 60 x = true ∧ (py x).showable = true ∧ (py x).weight ≤ 8000 then some (.str (py x).shown) else none
mutual
theorem short_of : ∀ (n : Nat) (d : D), okD n d = true → (py d).showable = true → (py d).leavesShort 2000 = true
  | n, .non, _, _ => by simp [py, PyData.leavesShort]
  | n, .bl b, _, _ => by simp [py, PyData.leavesShort]
  | n, .int i, _, h => by
    have h : i.natAbs.log2 < 1920 := by simpa [py, PyData.showable] using h
    have e := PyProof.Rows.int_text_len_1921 h
    simp only [py, PyData.leavesShort, PyData.shown]
    exact decide_eq_true (by omega)
  | n, .str x, h, _ => PyData.leavesShort_of_canLay0 2000 (py (.str x)) (okD_shape n _ h).1 (by simp [py, PyData.intsShort])
  | n + 1, .tup xs, h, h2 => by
    have := shorts_of n xs (by simpa [okD] using h) (by simpa [py, PyData.showable] using h2)
    simpa [py, PyData.leavesShort] using this
  | n + 1, .lst xs, h, h2 => by
    have := shorts_of n xs (by simpa [okD] using h) (by simpa [py, PyData.showable] using h2)
    simpa [py, PyData.leavesShort] using this
  | 0, .tup _, h, _ => by simp [okD] at h
  | 0, .lst _, h, _ => by simp [okD] at h
  | _, .dct _ _, h, _ => by simp [okD] at h
  | _, .ins _ _, h, _ => by simp [okD] at h
  | _, .scr _, h, _ => by simp [okD] at h
theorem shorts_of : ∀ (n : Nat) (ds : List D), okDs n ds = true → PyData.showableAll (pys ds) = true → PyData.leavesShortAll 2000 (pys ds) = true
  | _, [], _, _ => by simp [pys, PyData.leavesShortAll]
  | n, d :: ds, h, h2 => by
    simp only [okDs, Bool.and_eq_true] at h
    simp only [pys, PyData.showableAll, Bool.and_eq_true] at h2
    simp only [pys, PyData.leavesShortAll, Bool.and_eq_true]
    exact ⟨short_of n d h.1 h2.1, shorts_of n ds h.2 h2.2⟩
end
theorem shown_fits {d : D} (h : okD 60 d = true) (h2 : (py d).showable = true) (hw : (py d).weight ≤ 8000) : (py d).shown.length ≤ sizeLine := by
  have := PyData.shown_le 2000 (by decide) (py d) (short_of 60 d h h2)
  rw [sizeLine_eq]
  omega
def rRepr (K : PySem.W.Frag) : List V → Hp → VK → Prop := fun xs H Q => ∃ x d, xs = [x] ∧ Dp K H x d ∧ d.hasDict = false ∧ d.showable = true ∧ d.depth ≤ 60 ∧ d.shown.length ≤ sizeLine ∧ Q (.str d.shown) H
theorem cr_repr (hgd : X.A.guards = some []) (hu : X.A.units + 64 < cLine) : CallR X (.builtin "repr") (rRepr X.K) := by
  intro pins s σ H xs us Q I r h
  obtain ⟨x, d, rfl, hd, hnd, hsh, hdp, hln, q⟩ := h
  obtain ⟨u, rfl, ru⟩ := vals1 r
  obtain ⟨as, rd⟩ := Dp.reads I d x u hd ru
  have fin : ∀ h' tk t, (∀ b o, s.heap.get? b = some o → h'.get? b = some o) → EP X pins σ Q (.str d.shown tk) { s with heap := h', toks := t } := fun h' tk t kp =>
    ⟨.str d.shown, H, I.kept (t' := t) kp, ⟨tk, rfl⟩, q⟩
  cases x with
  | non =>
    cases (show u = Value.none from ru)
    cases hd
    exact P.repr_of_none (fin s.heap _ _ fun _ _ e => e)
  | bl b =>
    cases (show u = Value.bool b from ru)
    cases hd
    refine P.repr_of_bool ?_
    have := fin s.heap s.toks (s.toks + 1) fun _ _ e => e
    simp only [PyData.shown] at this
    cases b <;> exact this
  | int i =>
    obtain ⟨t, e⟩ := (show ∃ t, u = Value.int i t from ru)
    subst e
    cases hd
    exact P.repr_of_int (by simpa [PyData.showable] using hsh) (fin s.heap _ _ fun _ _ e => e)
  | str y =>
    obtain ⟨t, e⟩ := (show ∃ t, u = Value.str y t from ru)
    subst e
    cases hd
    exact P.repr_of_str (fin s.heap _ _ fun _ _ e => e) (by simpa [PyData.shown] using hln)
  | ref a =>
    cases (show u = Value.ref a from ru)
    exact repr_of_reads' rd hsh (fun z => by rw [hnd] at z; cases z) hgd (by omega) (fun _ _ e => e) (fun h' v tk kp => fin h' v tk kp) hln
  | byt b => cases hd
  | flt b => cases hd
  | ty n => cases hd
theorem cd_repr : CalD G (rRepr G.K) reprF := by
  intro F H x d v Q hs e hv q
  unfold reprF at e
  split at e
  · rename_i h
    cases e
    have hsh := okD_shape 60 x h.1
    exact ⟨v, py x, rfl, dp_bat hs hv h.1, PyData.hasDict_of_canLay _ hsh.1, h.2.1, hsh.2, shown_fits h.1 h.2.1 h.2.2, q F H _ (Grow.refl hs) (.str _)⟩
  · cases e
end
end AT
set_option Elab.async false
set_option linter.all false
set_option maxRecDepth 100000
set_option maxHeartbeats 2000000
/-! AD: the law's own dict of draws. -/
namespace AT
open PySem PySem.Spec PyProof.Rows L2
inductive DF where
  | rest | turn | mix
def DF.key : DF → Str
  | .rest => "rest"
  | .turn => "turn"
  | .mix => "mix"
def Dr.get (s : Dr) : DF → Int
  | .rest => s.rest
  | .turn => s.turn
  | .mix => s.mix
def Dr.put (s : Dr) (i : Int) : DF → Dr
  | .rest => { s with rest := i }
  | .turn => { s with turn := i }
  | .mix => { s with mix := i }
theorem drV_get (l c : Addr) (s : Dr) : ∀ f : DF, valV (drV l c s) (.inr f.key) = some (.int (s.get f))
  | .rest => by unfold drV valV; rfl
  | .turn => by unfold drV valV; rfl
  | .mix => by unfold drV valV; rfl
theorem drV_large (l c : Addr) (s : Dr) : valV (drV l c s) (.inr ("large" : Str)) = some (.ref l) := by unfold drV valV; rfl
theorem drV_cells (l c : Addr) (s : Dr) : valV (drV l c s) (.inr ("cells" : Str)) = some (.ref c) := by unfold drV valV; rfl
theorem drV_put (l c : Addr) (s : Dr) (i : Int) : ∀ f : DF, putK (drV l c s) (.inr f.key) (.int i) = drV l c (s.put i f)
  | .rest => by unfold drV putK; rfl
  | .turn => by unfold drV putK; rfl
  | .mix => by unfold drV putK; rfl
section
variable {G : Gam} {B : Ba} {F H F' H' : Hp} {σ σ' : L2.St} {ρ ρ' : En}
theorem EnvOk.drx {k : Nat} {s : Dr} (E : EnvOk G B F H σ ρ) (h : ρ[k]? = some (.dr s)) : ∃ a l c, σ[k]? = some (some (.ref a)) ∧ l ≠ c ∧ H a = some (.dK (drV l c s)) ∧ H l = some (.lst (s.large.map V.int)) ∧ H c = some (.lst (s.cells.map V.int)) ∧
    (∀ (i : Int) (f : DF), EnvOk G B F (upd H a (.dK (drV l c (s.put i f)))) σ (ρ.set k (.dr (s.put i f)))) ∧
    (∀ ns : List Int, EnvOk G B F (upd H l (.lst (ns.map V.int))) σ (ρ.set k (.dr { s with large := ns }))) := by
  obtain ⟨o, ho, hs⟩ := E.slots
  have hk : k < σ.length := by rw [E.len]; exact (List.getElem?_eq_some_iff.mp h).1
  have es := List.getElem?_eq_getElem hk
  obtain ⟨⟨a, e, l, c, oa, ol, oc, n, h1, h2, h3⟩, _⟩ := hs k _ _ es h
  have es' : σ[k]? = some (some (.ref a)) := by rw [es, e]
  have al : l ≠ a := fun z => by rw [z, h1] at h2; cases h2
  have ac : c ≠ a := fun z => by rw [z, h1] at h3; cases h3
  refine ⟨a, l, c, es', n, h1, h2, h3, fun i f => E.change ho hs h es' rfl oa ⟨a, rfl, l, c, oa, ol, oc, n, upd_same, ?_, ?_⟩, fun ns => E.change ho hs h es' rfl ol ⟨a, rfl, l, c, oa, ol, oc, n, ?_, upd_same, ?_⟩⟩
  · rw [upd_ne al]; cases f <;> exact h2
  · rw [upd_ne ac]; cases f <;> exact h3
  · rw [upd_ne (Ne.symm al)]; exact h1
  · rw [upd_ne (Ne.symm n)]; exact h3
end
def m_drI (k : Nat) (f : DF) : ME := fun ρ => match ρ[k]? with
  | some (.dr s) => .ok (.int (s.get f)) ρ
  | _ => .bad
/-- draw['large'] != [] -/
def m_drNE (k : Nat) : ME := fun ρ => match ρ[k]? with
  | some (.dr s) => .ok (.bl (!s.large.isEmpty)) ρ
  | _ => .bad
/-- [draw['turn']] + draw['cells'] -/
def m_drC (k : Nat) : ME := fun ρ => match ρ[k]? with
  | some (.dr s) => if s.cells.length < LINE then .ok (.lst ((s.turn :: s.cells).map .int)) ρ else .bad
  | _ => .bad
def s_drI (k : Nat) (f : DF) (ma : ME) : MS := fun ρ => (ma ρ).bind fun d ρ => match d, ρ[k]? with
  | .int i, some (.dr s) => .ok .nx (ρ.set k (.dr (s.put i f)))
  | _, _ => .bad
/-- draw['rest'] = draw['large'].pop(0) -/
def s_drPop (k : Nat) : MS := fun ρ => match ρ[k]? with
  | some (.dr s) => match s.large with
    | n :: r => .ok .nx (ρ.set k (.dr { s with large := r, rest := n }))
    | [] => .bad
  | _ => .bad
/-- tg = e, any target -/
def s_asg (ma : ME) (g : MG) : MS := fun ρ => (ma ρ).bind fun d ρ => match g d ρ with
  | some ρ => .ok .nx ρ
  | none => .bad
/-- draw[f] as a target -/
def g_drI (k : Nat) (f : DF) : MG := fun d ρ => match d, ρ[k]? with
  | .int i, some (.dr s) => some (ρ.set k (.dr (s.put i f)))
  | _, _ => none
section
variable {X : Cx} {G : Gam} {B : Ba} {W : WX} {a e : Expr} {es : List Expr} {ma : ME} {pos p p2 p3 : Pos} {x : Str} {k j : Nat} {key : Str}
theorem de_drI (k : Nat) (f : DF) (hu : X.A.units + 1 < cLine) (hkey : key = f.key := by rfl) (hs : NoSl (.Constant (.str key) j p2)) (hN : X.N[k]? = some x := by rfl) (hv : Vis X.env.scope x := by first | exact Or.inl rfl | exact Or.inr (Or.inl rfl) | exact Or.inr (Or.inr rfl))
    (hd : (x == ("__debug__" : Str)) = false := by decide) (hcd : (x == ("__classdict__" : Str)) = false := by decide) : PE X (.Subscript (.Name x p) (.Constant (.str key) j p2) pos) (dE G B W (m_drI k f)) :=
  PE.imp (pe_dget hu (pe_var hN hv hd hcd) pe_str hs) fun σ H Q ⟨F, ρ, E, q⟩ => by
    unfold m_drI at q
    cases z : ρ[k]? with
    | none => rw [z] at q; exact q.elim
    | some y =>
      rw [z] at q
      cases y with
      | dr s =>
        obtain ⟨a, l, c, es, n, h1, h2, h3, _, _⟩ := E.drx z
        subst hkey
        exact ⟨.ref a, es, a, .int (s.get f), rfl, .inl ⟨_, .inr f.key, .inl h1, rfl, (drV_get l c s f).symm⟩, q F H (Ext.refl F) E _ (.int _)⟩
      | _ => exact q.elim
theorem ds_drI (k : Nat) (f : DF) {value : Expr} {pos' : Pos} (hu : X.A.units + 1 < cLine) (hv0 : PE X value (dE G B W ma)) (hkey : key = f.key := by rfl) (hN : X.N[k]? = some x := by rfl) (hv : Vis X.env.scope x := by first | exact Or.inl rfl | exact Or.inr (Or.inl rfl) | exact Or.inr (Or.inr rfl))
    (hd : (x == ("__debug__" : Str)) = false := by decide) (hcd : (x == ("__classdict__" : Str)) = false := by decide) (hsw : swapsWith value (some (.Subscript (.Name x p) (.Constant (.str key) j p2) pos')) pos.line X.env = pure false := by rfl) :
    PS X (.Assign [.Subscript (.Name x p) (.Constant (.str key) j p2) pos'] value pos) (dS G B W (s_drI k f ma)) :=
  PS.imp (ps_dput hu (pe_var hN hv hd hcd) pe_str hv0 hsw) fun D σ H ⟨F, ρ, E, q⟩ => ⟨F, ρ, E, (PostS.bind q).mono fun d ρ1 F1 H1 x1 E1 p1 v hv => by
    cases hv with
    | int i =>
      cases z : ρ1[k]? with
      | none => simp only [z] at p1; exact p1.elim
      | some y =>
        simp only [z] at p1
        cases y with
        | dr s =>
          obtain ⟨a, l, c, es, n, h1, h2, h3, ch, _⟩ := E1.drx z
          subst hkey
          refine ⟨.ref a, es, a, _, rfl, .inl ⟨_, .inr f.key, h1, rfl, ?_, rfl⟩, ?_⟩
          · rw [sizeLine_eq]; exact (by decide : 5 < 16777216)
          · rw [drV_put]
            exact p1 F1 _ σ (Ext.refl F1) (ch i f)
        | _ => exact p1.elim
    | _ => exact p1.elim⟩
theorem shaped_ints (ns : List Int) : SeqAt.shaped (.list (ns.map .int)) = true := by
  have h : ∀ ns : List Int, PyData.canLayAll0 (ns.map .int) = true ∧ PyData.depthAll (ns.map .int) = 0 := fun ns => by
    induction ns with
    | nil => exact ⟨by simp [PyData.canLayAll0], by simp [PyData.depthAll]⟩
    | cons n ns ih => exact ⟨by simp [PyData.canLayAll0, PyData.canLay0, ih.1], by simp [PyData.depthAll, PyData.depth, ih.2]⟩
  unfold SeqAt.shaped
  rw [show (PyData.list (ns.map .int)).canLay0 = true from by simpa [PyData.canLay0] using (h ns).1, decide_eq_true (by simp [PyData.depth, (h ns).2])] <;> rfl
theorem dpAll_ints {K : PySem.W.Frag} {H : Hp} : ∀ ns : List Int, DpAll K H (ns.map V.int) (ns.map PyData.int)
  | [] => .nil
  | n :: ns => .cons (.int n) (dpAll_ints ns)
theorem de_drNE (k : Nat) {pl : Pos} (hu : X.A.units + 64 < cLine) (hs : NoSl (.Constant (.str "large") j p2)) (hm : behindInMarks .NotEq (.List [] pl) = false := by rfl) (hN : X.N[k]? = some x := by rfl) (hv : Vis X.env.scope x := by first | exact Or.inl rfl | exact Or.inr (Or.inl rfl) | exact Or.inr (Or.inr rfl))
    (hd : (x == ("__debug__" : Str)) = false := by decide) (hcd : (x == ("__classdict__" : Str)) = false := by decide) : PT X (.Compare (.Subscript (.Name x p) (.Constant (.str "large") j p2) p3) [.NotEq] [.List [] pl] pos) (dT G B W (m_tst tstB (m_drNE k))) :=
  PT.imp (pt_cmpR (op_neD hu) (pe_dget (by omega) (pe_var hN hv hd hcd) pe_str hs) (pe_lst pa_nil) hm) fun _ _ _ => tTest_d fun σ H Q ⟨F, ρ, E, q⟩ => by
    unfold m_drNE at q
    cases z : ρ[k]? with
    | none => rw [z] at q; exact q.elim
    | some y =>
      rw [z] at q
      cases y with
      | dr s =>
        obtain ⟨a, l, c, es, n, h1, h2, h3, _, _⟩ := E.drx z
        refine ⟨.ref a, es, a, .ref l, rfl, .inl ⟨_, .inr "large", .inl h1, rfl, (drV_large l c s).symm⟩, by rw [sizeLine_eq]; exact (by decide : 0 ≤ 16777216), fun p hp => ?_⟩
        have g := Grow.at (.lst []) E.sub hp
        have h2' : upd H p (.lst []) l = some (.lst (s.large.map V.int)) := g.old _ _ h2
        refine ⟨.list (s.large.map .int), .list [], .lst (SqL.of h2') (dpAll_ints _), .lst (SqL.of upd_same) .nil, shaped_ints _, shaped_ints [], ?_⟩
        have e : PyData.eqv (.list (s.large.map .int)) (.list []) = s.large.isEmpty := by
          simp only [PyData.eqv]
          cases s.large with
          | nil => simp [PyData.eqvAll]
          | cons _ _ => simp [PyData.eqvAll]
        rw [e]
        exact q _ _ g.ext (E.grow g) _ (.bl _)
      | _ => exact q.elim
theorem de_drC (k : Nat) {p4 p5 p6 p7 : Pos} {j2 : Nat} (hu : X.A.units + 1 < cLine) (hs : NoSl (.Constant (.str "turn") j p2)) (hs2 : NoSl (.Constant (.str "cells") j2 p4)) (hN : X.N[k]? = some x := by rfl) (hv : Vis X.env.scope x := by first | exact Or.inl rfl | exact Or.inr (Or.inl rfl) | exact Or.inr (Or.inr rfl))
    (hd : (x == ("__debug__" : Str)) = false := by decide) (hcd : (x == ("__classdict__" : Str)) = false := by decide)
    (hst : starEach [.Subscript (.Name x p) (.Constant (.str "turn") j p2) p3] X.env = (false, eval (.Subscript (.Name x p) (.Constant (.str "turn") j p2) p3) X.env) :: starEach [] X.env := by rfl) :
    PE X (.BinOp (.List [.Subscript (.Name x p) (.Constant (.str "turn") j p2) p3] p5) .Add (.Subscript (.Name x p6) (.Constant (.str "cells") j2 p4) p7) pos) (dE G B W (m_drC k)) :=
  PE.imp (pe_op op_cat (pe_lst (pa_cons (pe_dget hu (pe_var hN hv hd hcd) pe_str hs) pa_nil hst)) (pe_dget hu (pe_var hN hv hd hcd) pe_str hs2)) fun σ H Q ⟨F, ρ, E, q⟩ => by
    unfold m_drC at q
    cases z : ρ[k]? with
    | none => rw [z] at q; exact q.elim
    | some y =>
      rw [z] at q
      cases y with
      | dr s =>
        simp only at q
        obtain ⟨a, l, c, es, n, h1, h2, h3, _, _⟩ := E.drx z
        by_cases hl : s.cells.length < LINE
        · rw [if_pos hl] at q
          refine ⟨.ref a, es, a, .int s.turn, rfl, .inl ⟨_, .inr "turn", .inl h1, rfl, (drV_get l c s .turn).symm⟩, by rw [sizeLine_eq]; exact (by decide : 1 ≤ 16777216), fun p hp => ?_⟩
          have g := Grow.at (.lst [.int s.turn]) E.sub hp
          refine ⟨.ref a, es, a, .ref c, rfl, .inl ⟨_, .inr "cells", .inl (g.old _ _ h1), rfl, (drV_cells l c s).symm⟩, p, c, [.int s.turn], s.cells.map V.int, rfl, rfl, upd_same, g.old _ _ h3, ?_, fun r hr => ?_⟩
          · rw [List.length_map, ← LINE_eq]
            show 1 + s.cells.length ≤ LINE
            omega
          · have E2 := E.grow g
            have g2 := Grow.at (.lst ((s.turn :: s.cells).map V.int)) E2.sub hr
            exact q _ _ (g.ext.trans g2.ext) (E2.grow g2) _ (.lst upd_same (Ats.of_ints (s.turn :: s.cells)))
        · rw [if_neg hl] at q; exact q.elim
      | _ => exact q.elim
theorem ds_drPop (k : Nat) {p4 p5 p6 apos cpos pos' : Pos} {j2 j3 : Nat} (hu : X.A.units + 1 < cLine) (hs : NoSl (.Constant (.str "large") j2 p4)) (hN : X.N[k]? = some x := by rfl) (hv : Vis X.env.scope x := by first | exact Or.inl rfl | exact Or.inr (Or.inl rfl) | exact Or.inr (Or.inr rfl))
    (hd : (x == ("__debug__" : Str)) = false := by decide) (hcd : (x == ("__classdict__" : Str)) = false := by decide)
    (hpop : PE X (.Call (.Attribute (.Subscript (.Name x p5) (.Constant (.str "large") j2 p4) p3) "pop" apos) [.Constant (.int 0) j3 p6] [] cpos) (tBM X.K "list" rPopAt (tDGet (tVar k) (tC (.str "large"))) (tCons (tC (.int 0)) tNil)))
    (hsw : swapsWith (.Call (.Attribute (.Subscript (.Name x p5) (.Constant (.str "large") j2 p4) p3) "pop" apos) [.Constant (.int 0) j3 p6] [] cpos) (some (.Subscript (.Name x p) (.Constant (.str "rest") j p2) pos')) pos.line X.env = pure false := by rfl) :
    PS X (.Assign [.Subscript (.Name x p) (.Constant (.str "rest") j p2) pos'] (.Call (.Attribute (.Subscript (.Name x p5) (.Constant (.str "large") j2 p4) p3) "pop" apos) [.Constant (.int 0) j3 p6] [] cpos) pos) (dS G B W (s_drPop k)) :=
  PS.imp (ps_dput hu (pe_var hN hv hd hcd) pe_str hpop hsw) fun D σ H ⟨F, ρ, E, q⟩ => by
    unfold s_drPop at q
    cases z : ρ[k]? with
    | none => rw [z] at q; exact q.elim
    | some y =>
      rw [z] at q
      cases y with
      | dr s =>
        simp only at q
        cases hl : s.large with
        | nil => rw [hl] at q; exact q.elim
        | cons m r =>
          rw [hl] at q
          obtain ⟨a, l, c, es, n, h1, h2, h3, _, ch2⟩ := E.drx z
          have E2 := ch2 r
          have hk : k < ρ.length := (List.getElem?_eq_some_iff.mp z).1
          have z2 : (ρ.set k (.dr { s with large := r }))[k]? = some (.dr { s with large := r }) := List.getElem?_set_self hk
          obtain ⟨a2, l2, c2, es2, n2, g1, g2, g3, ch, _⟩ := E2.drx z2
          rw [es] at es2
          cases es2
          have al : a ≠ l := fun z => by rw [← z, h1] at h2; cases h2
          have g1' : H a = some (.dK (drV l2 c2 { s with large := r })) := by rw [← g1, upd_ne al]
          rw [h1] at g1'
          have ek : l = l2 ∧ c = c2 := by
            have := Option.some.inj g1'
            simp only [HO.dK.injEq, drV, List.cons.injEq, Prod.mk.injEq, V.ref.injEq, true_and, and_true] at this
            exact ⟨this.1, this.2⟩
          obtain ⟨rfl, rfl⟩ := ek
          refine ⟨.ref a, es, a, .ref l, rfl, .inl ⟨_, .inr "large", .inl h1, rfl, (drV_large l c s).symm⟩, .inl ⟨rfl, _, SqL.of h2⟩, l, s.large.map V.int, 0, 0, .int m, rfl, rfl, h2, by decide, by decide, by rw [hl]; simp [seqIndex?], by rw [hl]; rfl, ?_⟩
          have e1 : (s.large.map V.int).eraseIdx 0 = r.map V.int := by rw [hl]; rfl
          rw [e1]
          have h1b : upd H l (.lst (r.map V.int)) a = some (.dK (drV l c { s with large := r })) := g1
          refine ⟨.ref a, es, a, _, rfl, .inl ⟨_, .inr "rest", h1b, rfl, by rw [sizeLine_eq]; exact (by decide : 5 < 16777216), rfl⟩, ?_⟩
          have e2 := drV_put l c { s with large := r } m .rest
          have e2 : putK (drV l c { s with large := r }) (.inr ("rest" : Str)) (.int m) = drV l c (Dr.put { s with large := r } m .rest) := e2
          rw [e2]
          have E3 := ch m .rest
          rw [List.set_set] at E3
          exact q F _ σ (Ext.refl F) E3
      | _ => exact q.elim
theorem ds_asg {tg : Expr} {ks : List Nat} {g : MG} (he : PE X e (dE G B W ma)) (hg : PG X tg (dG G B ks g)) (hs : swapsWithSole [tg] e pos.line X.env = pure false := by rfl) (hw : swappedStores [tg] e X.env = pure none := by rfl)
    (h1 : (assignEach [tg] X.env).map (·.2) = [assign tg X.env] := by rfl) : PS X (.Assign [tg] e pos) (dS G B W (s_asg ma g)) :=
  PS.imp (ps_asg he hg hs hw h1) fun D σ H ⟨F, ρ, E, q⟩ => ⟨F, ρ, E, (PostS.bind q).mono fun d ρ1 F1 H1 x1 E1 p1 v hv => by
    cases eg : g d ρ1 with
    | none => rw [eg] at p1; exact p1.elim
    | some ρ2 =>
      rw [eg] at p1
      exact ⟨F1, ρ1, d, ρ2, E1, hv, eg, fun F' H' σ' x' _ E' => p1 F' H' σ' x' E'⟩⟩
theorem dg_drI (k : Nat) (f : DF) (hu : X.A.units + 1 < cLine) (hkey : key = f.key := by rfl) (hN : X.N[k]? = some x := by rfl) (hv : Vis X.env.scope x := by first | exact Or.inl rfl | exact Or.inr (Or.inl rfl) | exact Or.inr (Or.inr rfl))
    (hd : (x == ("__debug__" : Str)) = false := by decide) (hcd : (x == ("__classdict__" : Str)) = false := by decide)
    (has : ∀ v, assign (.Subscript (.Name x p) (.Constant (.str key) j p2) pos) X.env v = (do
      let ov ← holding [v] (eval (.Name x p) X.env)
      let iv ← holding [v, ov] (eval (.Constant (.str key) j p2) X.env)
      standAt pos
      holding [v, ov, iv] (setItem ov iv v)
      release [v, ov, iv] []) := by intro _; rfl) : PG X (.Subscript (.Name x p) (.Constant (.str key) j p2) pos) (dG G B [] (g_drI k f)) :=
  PG.imp (pg_sub (pe_var hN hv hd hcd) pe_str (set_dict hu) has) fun v σ H Q ⟨F, ρ, d, ρ', E, hv, e, q⟩ => by
    unfold g_drI at e
    cases hv with
    | int i =>
      cases z : ρ[k]? with
      | none => simp only [z] at e; cases e
      | some y =>
        simp only [z] at e
        cases y with
        | dr s =>
          cases e
          obtain ⟨a, l, c, es, n, h1, h2, h3, ch, _⟩ := E.drx z
          subst hkey
          refine ⟨.ref a, es, a, _, rfl, .inl ⟨_, .inr f.key, h1, rfl, ?_, rfl⟩, ?_⟩
          · rw [sizeLine_eq]; exact (by decide : 5 < 16777216)
          · rw [drV_put]
            exact q F _ σ (Ext.refl F) Off.refl (ch i f)
        | _ => cases e
    | _ => cases e
/-! ### the draw is made -/
def bigs (ns : List Int) : List Int := (ns.filter fun n => decide (10 ^ 18 ≤ n.natAbs)).map fun n => (n.natAbs : Int)
def newDr (ns : List Int) : Dr := ⟨bigs ns, ns, 0, 0, 7⟩
/-- the promise: a new dict -/
def spBegin (K : PySem.W.Frag) : Sp := fun vs H Q _ => ∃ (a : Addr) (ns : List Int), vs = [.ref a] ∧ SqL K H a (ns.map V.int) ∧ ns.length ≤ 1000 ∧
  ∀ (H' : Hp) (d l c : Addr), Same H H' → H d = none → H l = none → H c = none → d ≠ l → d ≠ c → l ≠ c → H' d = some (.dK (drV l c (newDr ns))) → H' l = some (.lst ((bigs ns).map V.int)) → H' c = some (.lst (ns.map V.int)) → Q (.ref d) H'
/-- name i = begin(the k-th) -/
def s_begin (i k : Nat) : MS := fun ρ => match ρ[k]? with
  | some (.fr (.scr ns)) => if ns.length ≤ 1000 then .ok .nx (ρ.set i (.dr (newDr ns))) else .bad
  | _ => .bad
theorem ds_begin (i k : Nat) {fb : Addr} {fd : FuncData} {ps : List Str} {kr : Nat} {y z : Str} {py pz pos' : Pos} (hB : B.args.length ≤ i) (hG : X.K = G.K) (FO : FnOk X.prog X.w X.K X.mg X.base (L2.CX X.prog X.w) kr fb fd ps (spBegin X.K)) (hr : Room kr X.A) (hm : X.mg z = some (.ref fb)) (hk : PySem.W.keepIn X.K (.ref fb) = true) (hb : Binds X.K fd ps []) (tk : Takes X W) (hNd : X.N.Nodup)
    (hN : X.N[k]? = some x := by rfl) (hv : Vis X.env.scope x := by first | exact Or.inl rfl | exact Or.inr (Or.inl rfl) | exact Or.inr (Or.inr rfl)) (hd : (x == ("__debug__" : Str)) = false := by decide) (hcd : (x == ("__classdict__" : Str)) = false := by decide)
    (hi : X.N[i]? = some y := by rfl) (hx : Loc X.env.scope y := by first | exact .inl rfl | exact .inr rfl) (hg : Gl X z := by rfl) (hdb : (z == ("__debug__" : Str)) = false := by decide)
    (he : starEach [.Name x p] X.env = (false, eval (.Name x p) X.env) :: starEach [] X.env := by rfl) (hpl : (backTo p2 (starEach [] X.env)).any (·.1) = false := by rfl)
    (hs : swapsWith (.Call (.Name z pz) [.Name x p] [] p2) (some (.Name y py)) pos.line X.env = pure false := by rfl) (hf : X.fn y = true ∨ X.env.scope.names.lookup y = some .local := by first | exact .inl rfl | exact .inr rfl) :
    PS X (.Assign [.Name y py] (.Call (.Name z pz) [.Name x p] [] p2) pos) (dS G B W (s_begin i k)) :=
  PS.imp (ps_set hNd hi hx (pe_callSD FO hr hg hm hk hb .nil (fun σ => passAt tk σ) (pa_cons (pe_var hN hv hd hcd) pa_nil he) hdb he hpl) hs hf) fun D σ H ⟨F, ρ, E, q⟩ => by
    unfold s_begin at q
    cases w : ρ[k]? with
    | none => rw [w] at q; exact q.elim
    | some ov =>
      rw [w] at q
      cases ov with
      | fr d =>
        cases d with
        | scr ns =>
          simp only at q
          by_cases hl : ns.length ≤ 1000
          · rw [if_pos hl] at q
            obtain ⟨s0, es, o, v, e1, hv0⟩ := E.get w
            subst e1
            cases hv0 with
            | @scr a _ h1 =>
              refine ⟨.ref a, es, a, ns, rfl, by rw [hG]; exact sqL_sub E.sub h1, hl, fun H' d l c hS hd hl hc n1 n2 n3 h1 h2 h3 => ?_⟩
              exact q F H' _ (Ext.refl F) (E.setNew (n := fun b => b = d ∨ b = l ∨ b = c) hS (fun b hb => by
                rcases hb with rfl | rfl | rfl
                · exact ⟨hd, _, h1⟩
                · exact ⟨hl, _, h2⟩
                · exact ⟨hc, _, h3⟩) ⟨d, rfl, l, c, .inl rfl, .inr (.inl rfl), .inr (.inr rfl), n3, h1, h2, h3⟩ hB)
          · rw [if_neg hl] at q; exact q.elim
        | _ => exact q.elim
      | _ => exact q.elim
/-- return {'large': name, 'cells': list(name), 'rest': 0, 'turn': 0, 'mix': 7} -/
def tRetDr (G : Gam) (B : Ba) (k1 k0 : Nat) : TS := fun D σ H => ∃ F ρ ns, EnvOk G B F H σ ρ ∧ ρ[k1]? = some (.ol ((bigs ns).map .int)) ∧ ρ[k0]? = some (.fr (.scr ns)) ∧
  ∀ (H' : Hp) (d l c : Addr), Same H H' → H d = none → H c = none → d ≠ c → (B.A l ∨ B.H0 l = none) → H l = some (.lst ((bigs ns).map V.int)) → H' d = some (.dK (drV l c (newDr ns))) → H' c = some (.lst (ns.map V.int)) → D.rt (.ref d) H'
theorem ds_retDr (k1 k0 : Nat) {y z : Str} {j1 j2 j3 j4 j5 j6 j7 j8 : Nat} {q1 q2 q3 q4 q5 q6 q7 q8 q9 q10 q11 q12 q13 q14 : Pos} (hG : X.K = G.K) (hml : X.mg "list" = none) (hy : X.N[k1]? = some y := by rfl) (hz : X.N[k0]? = some z := by rfl)
    (hv : Vis X.env.scope y := by first | exact Or.inl rfl | exact Or.inr (Or.inl rfl) | exact Or.inr (Or.inr rfl)) (hd : (y == ("__debug__" : Str)) = false := by decide) (hcd : (y == ("__classdict__" : Str)) = false := by decide)
    (hv2 : Vis X.env.scope z := by first | exact Or.inl rfl | exact Or.inr (Or.inl rfl) | exact Or.inr (Or.inr rfl)) (hd2 : (z == ("__debug__" : Str)) = false := by decide) (hcd2 : (z == ("__classdict__" : Str)) = false := by decide)
    (hg : Gl X "list" := by rfl) (he : starEach [.Name z q8] X.env = (false, eval (.Name z q8) X.env) :: starEach [] X.env := by rfl) :
    PS X (.Return (some (.Dict [some (.Constant (.str "large") j1 q1), some (.Constant (.str "cells") j2 q2), some (.Constant (.str "rest") j3 q3), some (.Constant (.str "turn") j4 q4), some (.Constant (.str "mix") j5 q5)]
      [.Name y q6, .Call (.Name "list" q7) [.Name z q8] [] q9, .Constant (.int 0) j6 q10, .Constant (.int 0) j7 q11, .Constant (.int 7) j8 q12] q13)) q14) (tRetDr G B k1 k0) :=
  PS.imp (ps_ret (pe_disp (pps_cons pe_str (pe_var hy hv hd hcd) (pps_cons pe_str (pe_callTy call_list_of hg hml boot_list (pa_cons (pe_var hz hv2 hd2 hcd2) pa_nil he) (by decide) (by decide) he rfl)
    (pps_cons pe_str pe_int (pps_cons pe_str pe_int (pps_cons pe_str pe_int pps_nil))))) rfl rfl (by simp) (show 5 ≤ 15 by decide))) fun D σ H ⟨F, ρ, ns, E, e1, e0, q⟩ p hp => by
    obtain ⟨o, ho, hs⟩ := E.slots
    have hk1 : k1 < σ.length := by rw [E.len]; exact (List.getElem?_eq_some_iff.mp e1).1
    have es1 := List.getElem?_eq_getElem hk1
    obtain ⟨⟨l, vs, el, ol, hl, hA⟩, _⟩ := hs k1 _ _ es1 e1
    rw [hA.ints] at hl
    obtain ⟨s0, es0, o0, v0, ev0, hv0⟩ := E.get e0
    subst ev0
    cases hv0 with
    | @scr a _ h1 =>
      have g0 : Same H (upd H p (.dK [])) := Same.upd' hp
      refine ⟨.ref l, by rw [es1, el], .ref a, es0, a, ns.map V.int, rfl, .inl (by rw [hG]; exact sqL_sub (fun b u e => g0 b u (E.sub b u e)) h1), fun c hc => ?_⟩
      have cp : c ≠ p := fun z => by rw [z, upd_same] at hc; cases hc
      have hc0 : H c = none := by rw [upd_ne cp] at hc; exact hc
      refine ⟨by rw [upd_ne (Ne.symm cp)]; exact upd_same, [(.inr "large", .ref l), (.inr "cells", .ref c), (.inr "rest", .int 0), (.inr "turn", .int 0), (.inr "mix", .int 7)], rfl, (show 5 ≤ 15 by decide), ?_⟩
      refine q _ p l c (fun b u e => ?_) hp hc0 (Ne.symm cp) (ho l k1 ol).2.2 hl upd_same (by rw [upd_ne cp]; exact upd_same)
      have bp : b ≠ p := fun z => by rw [z, hp] at e; cases e
      have bc : b ≠ c := fun z => by rw [z, hc0] at e; cases e
      rw [upd_ne bp, upd_ne bc, upd_ne bp]
      exact e
/-- the promise, from the first statement's mirror -/
theorem fn_begin {P : Program} {w : World} {K : PySem.W.Frag} {mg : Str → Option Value} {base : Heap} {xf qual : Str} {params : Arguments} {body : List Stmt} {scope : Scope} {dvs : List V} {kws : List (Str × V)} {f : Addr} {fd : FuncData} {N ps : List Str} {k : Nat} {m1 : MS}
    (F : FunD K xf qual params body scope dvs kws f fd) (S : FnScope N ps scope) (hGK : G.K = K) (hps : ps.length = 1) (hN : 1 < N.length)
    (hm1 : ∀ ns : List Int, ns.length ≤ 1000 → ∃ ρ, m1 (.fr (.scr ns) :: List.replicate (N.length - 1) .un) = .ok .nx ρ ∧ ρ[1]? = some (.ol ((bigs ns).map .int)) ∧ ρ[0]? = some (.fr (.scr ns)))
    (hm : ∀ (cdv : Value) (A : Around) (outer : List Env) (s : Shared) (H : Hp) (E : XK) (B : Ba), Room k (A.deeper (envOfC qual scope s.heap.objs.size f cdv)) → B.args.length = ps.length ∧ B.exc = none →
      PSs (cxOf (L2.CX P w) P w K mg base N qual scope f cdv A outer s H E) body (tSeq (dS G B (fun cls d _ H => E cls d H) m1) (tRetDr G B 1 0))) : FnOk P w K mg base (L2.CX P w) (k + 1) f fd ps (spBegin K) := by
  refine F.ok S (fun vs H Q E h => ?_) fun cdv A outer s H vs Q E hr h => ?_
  · obtain ⟨a, ns, e, _⟩ := h
    rw [e, hps]
    rfl
  · obtain ⟨a, ns, rfl, hS, hl, q⟩ := h
    have hFs : Same (fun b => if b = a then H a else none) H := fun b u e => by
      by_cases z : b = a
      · subst z
        have e : (if b = b then H b else none) = some u := e
        rwa [if_pos rfl] at e
      · have e : (if b = a then H a else none) = some u := e
        rw [if_neg z] at e; cases e
    have hSF : SqL G.K (fun b => if b = a then H a else none) a (ns.map V.int) := by
      have e : (fun b => if b = a then H a else none) a = H a := if_pos rfl
      rw [hGK]
      rcases hS with (h | ⟨o, h⟩) | h
      · exact .inl (.inl (e.trans h))
      · exact .inl (.inr ⟨o, e.trans h⟩)
      · exact .inr h
    refine ⟨_, hm cdv A outer s H E ⟨H, fun _ => False, [.ref a], none, fun b => if b = a then H a else none⟩ hr ⟨by rw [hps]; rfl, rfl⟩, ?_⟩
    obtain ⟨ρ, em, e1, e0⟩ := hm1 ns hl
    refine ⟨_, _, entry (o := fun _ => False) (args := [.fr (.scr ns)]) (by rw [hps]; omega) (by rw [hps]; rfl) hFs (by rw [hps]; rfl) (fun _ z => z.elim) (fun i v x h1 h2 => ?_), ?_⟩
    · cases i with
      | zero => cases h1; cases h2; exact ⟨rfl, _, rfl, .scr hSF⟩
      | succ i => simp at h1
    · have em' : m1 ([.fr (.scr ns)] ++ List.replicate (N.length - ps.length) .un) = .ok .nx ρ := by rw [hps]; exact em
      rw [em']
      intro F' H' σ' x' E'
      refine ⟨F', ρ, ns, E', e1, e0, fun H2 d l c hS2 hd hc dc hlA hl2 hd2 hc2 => ?_⟩
      have up : Same H H' := fun b u e => E'.frame b u e fun z => z
      have hl0 : H l = none := by
        rcases hlA with z | z
        · exact z.elim
        · exact z
      refine q H2 d l c (fun b u e => hS2 b u (up b u e)) (up.free hd) hl0 (up.free hc) (fun z => by rw [z, hl2] at hd; cases hd) dc (fun z => by rw [← z, hl2] at hc; cases hc) hd2 (hS2 _ _ hl2) hc2
end
end AT
set_option Elab.async false
set_option linter.all false
set_option maxRecDepth 100000
set_option maxHeartbeats 2000000
/-! AH: what the head must tell: tables, defs, the errors' __init__, one Bool more; the end. -/
namespace AT
open PySem PySem.Spec PyProof.Rows L2
namespace Hk
open PySem.W
/-! ### a def with closure cells -/
abbrev FnC : Type := Option (Str × Str × Arguments × FuncBody × Scope × Addr × List Str × Addr)
def fnC (K : Frag) (p : Str × Option Str) : FnC := match K.lookup (He.fAd K p) with
  | some ⟨_, _, .func fd, _⟩ => some (fd.name, fd.qualname, fd.params, fd.body, fd.scope, fd.globals, fd.closure.map (·.1), fd.builtins)
  | _ => none
/-- an error class: its name, its attribute, its __init__ as written -/
structure EDef where
  cls : Str
  n : Str
  qual : Str
  params : Arguments
  body : List Stmt
  scope : Scope
def EDef.val (d : EDef) : FnC := some ("__init__", d.qual, d.params, .stmts d.body, d.scope, mainGlobals, ["__class__"], builtinsNs)
def cellOf (K : Frag) (f : Addr) : Addr := match K.lookup f with
  | some ⟨_, _, .func fd, _⟩ => (match fd.closure with
    | [(_, a)] => a
    | _ => 0)
  | _ => 0
def codeAd (K : Frag) (f : Addr) : Addr := match K.lookup f with
  | some ⟨_, _, .func fd, _⟩ => (match fd.code with
    | .ref c => c
    | _ => 0)
  | _ => 0
def clsB (K : Frag) (C : Addr) : Bool := match K.lookup C with
  | some ⟨.type t, _, .cls cd, sl⟩ => t == "type" && (match cd.mro, sl.toList with
    | .ref C' :: bm, [_, _, _, _, some (.builtin nw), _] => C' == C && (nw == "ValueError.__new__" && (HandSPX.refsVE bm && (cd.hasDict && !cd.hasDel)))
    | _, _ => false)
  | _ => false
theorem clsB_ok {K : Frag} {C : Addr} (h : clsB K C = true) : ∃ nm q N bs bm sn sub ab col dd k0 k1 k2 k3 k5, K.lookup C = some (excClassObj nm q C N bs bm true sn sub ab col dd k0 k1 k2 k3 k5 "ValueError.__new__") ∧ HandSPX.refsVE bm = true := by
  unfold clsB at h
  split at h
  · rename_i t dd cd sl ho
    obtain ⟨h1, h⟩ := He.ba h
    split at h
    · rename_i C' bm k0 k1 k2 k3 nw k5 hm hs
      obtain ⟨h2, h⟩ := He.ba h
      obtain ⟨h3, h⟩ := He.ba h
      obtain ⟨h4, h⟩ := He.ba h
      obtain ⟨h5, h6⟩ := He.ba h
      obtain ⟨nm, bs, mro, ns, qn, hd, sn, sub, ab, col, del⟩ := cd
      dsimp only at hm h5 h6
      subst hm h5
      have h6 : del = false := by simpa using h6
      subst h6
      have e1 : t = "type" := eq_of_beq h1
      have e2 : C' = C := eq_of_beq h2
      have e3 : nw = "ValueError.__new__" := eq_of_beq h3
      subst e1 e2 e3
      have hsl : sl = #[k0, k1, k2, k3, some (.builtin "ValueError.__new__"), k5] := by
        obtain ⟨l⟩ := sl
        simp only at hs
        rw [hs]
      subst hsl
      exact ⟨nm, qn, ns, bs, bm, sn, sub, ab, col, dd, k0, k1, k2, k3, k5, ho, h4⟩
    · cases h
  · cases h
def cellB (K : Frag) (a C : Addr) : Bool := match K.lookup a with
  | some ⟨_, _, .cell (some (.ref D)), _⟩ => D == C
  | _ => false
theorem cellB_ok {K : Frag} {a C : Addr} (h : cellB K a C = true) : ∃ cl cld csl, K.lookup a = some ⟨cl, cld, .cell (some (.ref C)), csl⟩ := by
  unfold cellB at h
  split at h
  · rename_i ho
    have z := eq_of_beq h
    subst z
    exact ⟨_, _, _, ho⟩
  · cases h
def fileB (P : Program) (K : Frag) (a : Addr) : Bool := match K.lookup a with
  | some ⟨_, _, .fields vs, _⟩ => (match vs[2]? with
    | some (Value.str file _) => ((P.main.file : Str) == file)
    | _ => false)
  | _ => false
theorem fileB_ok {P : Program} {K : Frag} {a : Addr} (h : fileB P K a = true) : ∃ ccl cdd vs ccs file tf, K.lookup a = some ⟨ccl, cdd, .fields vs, ccs⟩ ∧ vs[2]? = some (.str file tf) ∧ ((P.main.file : Str) == file) = true := by
  unfold fileB at h
  split at h
  · rename_i vs ccs ho
    split at h
    · rename_i file tf hv
      exact ⟨_, _, vs, _, file, tf, ho, hv, h⟩
    · cases h
  · cases h
def noDfl (K : Frag) (f : Addr) : Bool := match K.lookup f with
  | some ⟨_, _, .func fd, _⟩ => (match fd.defaults, fd.kwdefaults, fd.code with
    | .none, .none, .ref _ => true
    | _, _, _ => false)
  | _ => false
theorem err_fn {K : Frag} {d : EDef} {msg : Str} {e : Er.EP} {f : Addr} (hp : d.params = Er.eA d.n e.r1 e.r2) (hb : d.body = Er.eB d.n msg e) (hf : He.fAd K (d.cls, some "__init__") = f) (ef : fnC K (d.cls, some "__init__") = d.val) (c1 : noDfl K f = true) (c2 : codeIn K (.ref (codeAd K f)) d.qual = true) :
    ∃ (oc : Value) (od : Option Addr) (doc pm : Value) (an : Option Addr) (ct : Value) (osl : Array (Option Value)),
    K.lookup f = some ⟨oc, od, .func (ksFn "__init__" d.qual (Er.eA d.n e.r1 e.r2) (Er.eB d.n msg e) d.scope .none .none doc pm an (.ref (codeAd K f)) ct (cellOf K f)), osl⟩ ∧ codeIn K (.ref (codeAd K f)) d.qual = true := by
  unfold fnC at ef
  rw [hf] at ef
  unfold noDfl at c1
  have hcell : cellOf K f = (match K.lookup f with
    | some ⟨_, _, .func fd, _⟩ => (match fd.closure with
      | [(_, a)] => a
      | _ => 0)
    | _ => 0) := rfl
  have hcode : codeAd K f = (match K.lookup f with
    | some ⟨_, _, .func fd, _⟩ => (match fd.code with
      | .ref c => c
      | _ => 0)
    | _ => 0) := rfl
  cases q : K.lookup f with
  | none => rw [q] at c1; cases c1
  | some o =>
    obtain ⟨oc, od, dt, osl⟩ := o
    rw [q] at ef c1 hcell hcode
    cases dt with
    | func fd =>
      obtain ⟨n1, n2, n3, n4, n5, n6, n7, n8, n9, n10, n11, n12, n13, n14, n15⟩ := fd
      simp only [EDef.val, Option.some.injEq, Prod.mk.injEq] at ef
      obtain ⟨e1, e2, e3, e4, e5, e6, e7, e8⟩ := ef
      simp only at c1 hcell hcode e1 e2 e3 e4 e5 e6 e7 e8
      cases n8 with
      | none =>
        cases n9 with
        | none =>
          cases n13 with
          | ref cd =>
            cases n7 with
            | nil => simp at e7
            | cons p r =>
              obtain ⟨pn, pa⟩ := p
              cases r with
              | cons _ _ => simp at e7
              | nil =>
                simp at e7
                simp only at hcell hcode
                rw [hcell, hcode]
                rw [hcode] at c2
                subst e1 e2 e3 e4 e5 e6 e7 e8
                refine ⟨oc, od, n10, n11, n12, n14, osl, ?_, c2⟩
                rw [← hp, ← hb]
          | _ => cases c1
        | _ => cases c1
      | _ => cases n9 <;> cases c1
    | _ => cases c1
/-- what is asked of an error class besides its text -/
def errB (P : Program) (K : Frag) (d : EDef) (C fI : Addr) : Bool :=
  (He.Fa.glo d.cls).ok K && ((He.Fa.free "super").ok K && (clsB K C && (He.eqO (findIn K (.ref C) "__setattr__") (some (some (.builtin "object.__setattr__"))) && (He.eqO (findIn K (.ref C) d.n) (some none) &&
    (He.eqO (findIn K (.ref C) "__init__") (some (some (.ref fI))) && (decide (typeIn K (.ref fI) = some (.type "function")) && (keepIn K (.ref C) && (decide (subIn K (.ref C) (.type "BaseException") = some true) && (decide (typeIn K (.ref C) = some (.type "type")) &&
    (He.eqO (ks_superIn K C C "__init__") (some (some (.builtin "ValueError.__init__"))) && (decide (subIn K (.ref C) (.type "ValueError") = some true) && (decide (mroIn K C (.ref C) = some true) &&
    (excInitIn K C [.type "ValueError", .type "Exception", .type "BaseException", .type "object"] "ValueError.__new__" && (He.eqO (nsIn K cStatics "thirdparty.any") (some none) &&
    (codeIn K (.ref (codeAd K fI)) d.qual && (cellB K (cellOf K fI) C && (fileB P K (codeAd K fI) && (noDfl K fI && (He.eqO (findIn K (.ref C) "__getattribute__") (some (some (.builtin "BaseException.__getattribute__"))) && (He.eqO (findIn K (.ref C) "__getattr__") (some none) && hasDictIn K C))))))))))))))))))))
/-- the parts of its text -/
structure ETxt (d : EDef) (msg : Str) (e : Er.EP) : Prop where
  params : d.params = Er.eA d.n e.r1 e.r2
  body : d.body = Er.eB d.n msg e
  bnd : Er.Bnd d.n
  pk : Er.PosOk d.n msg d.scope e
  sk : d.scope.kind = .function
  sg : d.scope.isGenerator = false
  sco : d.scope.isCoroutine = false
  s1 : d.scope.names.lookup ("super" : Str) = some .globalImplicit
  s2 : d.scope.names.lookup ("__class__" : Str) = some .free
  s3 : d.scope.names.lookup ("self" : Str) = some .local
  s4 : d.scope.names.lookup d.n = some .local
  s5 : d.scope.names.all (fun x => decide (x.2 ≠ .cell)) = true
  n1 : (d.n == ("self" : Str)) = false
  n2 : (d.n == ("__debug__" : Str)) = false
theorem err_ok {P : Program} {K : Frag} {h : Heap} {mg : Str → Option Value} {d : EDef} {msg : Str} {e : Er.EP} (X : K.In h) (G : h.Ns mainGlobals mg) (T : ETxt d msg e) (htop : (P.main.scope.names.lookup ("super" : Str)).isSome = false)
    (ef : fnC K (d.cls, some "__init__") = d.val) (c : errB P K d (He.ga K d.cls) (He.ma K (He.ga K d.cls) "__init__") = true) : Er.ErrT P K mg d.cls d.n msg d.qual (He.ga K d.cls) (He.ma K (He.ga K d.cls) "__init__") (cellOf K (He.ma K (He.ga K d.cls) "__init__")) (codeAd K (He.ma K (He.ga K d.cls) "__init__")) d.scope e ∧ ErrA K (He.ga K d.cls) d.n := by
  unfold errB at c
  obtain ⟨c1, c⟩ := He.ba c
  obtain ⟨c2, c⟩ := He.ba c
  obtain ⟨c3, c⟩ := He.ba c
  obtain ⟨c4, c⟩ := He.ba c
  obtain ⟨c5, c⟩ := He.ba c
  obtain ⟨c6, c⟩ := He.ba c
  obtain ⟨c7, c⟩ := He.ba c
  obtain ⟨c8, c⟩ := He.ba c
  obtain ⟨c9, c⟩ := He.ba c
  obtain ⟨c10, c⟩ := He.ba c
  obtain ⟨c11, c⟩ := He.ba c
  obtain ⟨c12, c⟩ := He.ba c
  obtain ⟨c13, c⟩ := He.ba c
  obtain ⟨c14, c⟩ := He.ba c
  obtain ⟨c15, c⟩ := He.ba c
  obtain ⟨c16, c⟩ := He.ba c
  obtain ⟨c17, c⟩ := He.ba c
  obtain ⟨c18, c⟩ := He.ba c
  obtain ⟨c19, c⟩ := He.ba c
  obtain ⟨c20, c⟩ := He.ba c
  obtain ⟨c21, c22⟩ := He.ba c
  have noN := He.eqO_ok c5
  have exC : subIn K (.ref (He.ga K d.cls)) (.type "BaseException") = some true := of_decide_eq_true c9
  refine ⟨⟨He.glo_ok X G c1, He.free_ok X G c2, clsB_ok c3, He.eqO_ok c4, noN, He.eqO_ok c6, of_decide_eq_true c7, c8, exC, of_decide_eq_true c10, He.eqO_ok c11, of_decide_eq_true c12, of_decide_eq_true c13, c14, He.eqO_ok c15, err_fn T.params T.body rfl ef c19 c16, cellB_ok c17, fileB_ok c18, htop,
    T.sk, T.sg, T.sco, T.s1, T.s2, T.s3, T.s4, T.s5, T.bnd, T.pk, T.n1, T.n2⟩, ⟨He.eqO_ok c20, He.eqO_ok c21, noN, exC, c22⟩⟩
/-! ### the Hook -/
abbrev AlA : Type := He.AlT × List FnC × Bool
def frA (n : Nat) (g : Addr → Option Obj) : Frag := He.frG g (cStatics :: He.asD g n)
def obsA (P : Program) (fa : List He.Fa) (fn : List He.DefD) (ts : List He.Tab) (es : List EDef) (ex : Frag → Bool) (K : Frag) : AlA :=
  (He.obsT fa fn ts K, es.map (fun d => fnC K (d.cls, some "__init__")), (es.all fun d => errB P K d (He.ga K d.cls) (He.ma K (He.ga K d.cls) "__init__")) && ex K)
def valA (fn : List He.DefD) (ts : List He.Tab) (es : List EDef) (w : World) : AlA := (He.valT fn ts w, es.map EDef.val, true)
def SaysA (P : Program) (fa : List He.Fa) (fn : List He.DefD) (ts : List He.Tab) (es : List EDef) (ex : Frag → Bool) (w : World) (K : Frag) : Prop := obsA P fa fn ts es ex K = valA fn ts es w
def hookA (P : Program) (n : Nat) (fa : List He.Fa) (fn : List He.DefD) (ts : List He.Tab) (es : List EDef) (ex : Frag → Bool) : Hook where
  α := AlA
  obs := fun s => obsA P fa fn ts es ex (frA n s.heap.get?)
  val := fun w => valA fn ts es w
  says := fun w h => ∃ K : Frag, K.In h ∧ SaysA P fa fn ts es ex w K
  of := fun _ _ e => ⟨_, He.frG_in, e⟩
  keeps := fun _ _ _ ⟨K, hK, c⟩ k => ⟨K, Frag.In.keeps hK k, c⟩
theorem obsA_eq {P : Program} {n : Nat} {fa : List He.Fa} {fn : List He.DefD} {ts : List He.Tab} {es : List EDef} {ex : Frag → Bool} {g : Addr → Option Obj} {s : Shared} (h : ∀ a, g a = s.heap.get? a) : obsA P fa fn ts es ex (frA n g) = (hookA P n fa fn ts es ex).obs s := by
  have e : g = s.heap.get? := funext h
  rw [e] <;> rfl
section
variable {P : Program} {fa : List He.Fa} {fn : List He.DefD} {ts : List He.Tab} {es : List EDef} {ex : Frag → Bool} {w : World} {K : Frag}
theorem SaysA.t (c : SaysA P fa fn ts es ex w K) : He.SaysT fa fn ts w K := congrArg (fun z : AlA => z.1) c
theorem SaysA.d (c : SaysA P fa fn ts es ex w K) : He.SaysD fa fn K := (SaysA.t c).d
theorem SaysA.fact (c : SaysA P fa fn ts es ex w K) (i : Nat) {f : He.Fa} (h : fa[i]? = some f := by rfl) : f.ok K = true := c.d.fact i h
theorem SaysA.def_ (c : SaysA P fa fn ts es ex w K) (i : Nat) {d : He.DefD} (h : fn[i]? = some d := by rfl) : ∃ fd, FunD K d.name d.qual d.params d.body d.scope (d.dvs K) (d.kws K) (He.fAd K d.at_) fd := c.d.def_ i h
theorem SaysA.b (c : SaysA P fa fn ts es ex w K) : (es.all fun d => errB P K d (He.ga K d.cls) (He.ma K (He.ga K d.cls) "__init__")) = true ∧ ex K = true :=
  He.ba (show ((es.all fun d => errB P K d (He.ga K d.cls) (He.ma K (He.ga K d.cls) "__init__")) && ex K) = true from congrArg (fun z : AlA => z.2.2) c)
theorem SaysA.err (c : SaysA P fa fn ts es ex w K) (i : Nat) {d : EDef} (h : es[i]? = some d) : fnC K (d.cls, some "__init__") = d.val ∧ errB P K d (He.ga K d.cls) (He.ma K (He.ga K d.cls) "__init__") = true := by
  have e : es.map (fun d => fnC K (d.cls, some "__init__")) = es.map EDef.val := congrArg (fun z : AlA => z.2.1) c
  have e2 : (es.map (fun d => fnC K (d.cls, some "__init__")))[i]? = (es.map EDef.val)[i]? := by rw [e]
  rw [List.getElem?_map, List.getElem?_map, h] at e2
  exact ⟨Option.some.inj e2, List.all_eq_true.mp c.b.1 d (List.mem_of_getElem? h)⟩
end
/-! ### the end -/
theorem law_callG {P : Program} {w : World} {K : Frag} {mg mb : Str → Option Value} {CX : CXT} {k : Nat} {fa a : Addr} {fd : FuncData} {x : Str} {sp : Sp} {s₁ : Shared} {vs : List Value} {ns : List Int} (KX : K.In s₁.heap) (hns : s₁.heap.Ns mainGlobals mg) (hb : s₁.heap.Ns builtinsNs mb)
    (hbb : ∀ x : Str, x ≠ "__name__" → mb x = bootBuiltins x) (hlim : s₁.heap.NoLimit) (hg : s₁.gens = #[]) (ha : s₁.heap.get? a = some { cls := .type "list", data := .seq vs.toArray }) (hi : IntsAre vs ns) (hl : ns.length ≤ sizeLine) (hr : Room k callerA)
    (FG : ∀ base : Heap, K.In base → base.Ns mainGlobals mg → FnG P w K mg base CX k fa fd [x] sp) (hbind : ∀ (s : Shared) (u : Value), BindsTo s fd ⟨[u], []⟩ [(x, u)])
    (hsp : ∀ H : Hp, SqL K H a (ns.map V.int) → sp [.ref a] H (fun v _ => v = .bl true) fun _ _ _ => False) (hCX : ∀ H e s', CX [] H s₁ (fun _ _ _ => False) e s' → False) :
    codeAny (model P w) callerA (.call (.ref fa) ⟨[.ref a], []⟩) (fun r s' => r = .ok (.ret (.bool true)) ∧ OldK s₁.heap s'.heap ∧ s'.os = s₁.os ∧ AllBare s'.gens) s₁ := by
  have rv := vals_ints hi
  have hlen := hi.length
  have main : ∀ H : Hp, (∀ b u, H b = some u → b = a ∧ ∃ o xs, u = .frz o (.lst xs)) → SqL K H a (ns.map V.int) → HOk P w H s₁.heap → (H a ≠ none → K.lookup a = none) →
      codeAny (model P w) callerA (.call (.ref fa) ⟨[.ref a], []⟩) (fun r s' => r = .ok (.ret (.bool true)) ∧ OldK s₁.heap s'.heap ∧ s'.os = s₁.os ∧ AllBare s'.gens) s₁ := by
    intro H hO hS hok hK
    have notD : ∀ {b : Addr} {o : Obj} {es : Array DictEntry} {ep : Nat}, s₁.heap.get? b = some o → o.data = .dict es ep → H b = none := by
      intro b o es ep e hd
      cases q : H b with
      | none => rfl
      | some u =>
        obtain ⟨rfl, _⟩ := hO b u q
        rw [ha] at e
        cases e
        cases hd
    have nsB : ∀ {b : Addr} {m : Str → Option Value}, s₁.heap.Ns b m → (hidT s₁.heap H).Ns b m := by
      rintro b m ⟨o, es, ep, e, hd, r⟩
      exact ⟨o, es, ep, hidT_get e (notD e hd), hd, r⟩
    have kB : K.In (hidT s₁.heap H) := by
      intro b o e
      refine hidT_get (KX b o e) ?_
      cases q : H b with
      | none => rfl
      | some u =>
        obtain ⟨rfl, _⟩ := hO b u q
        rw [hK (by rw [q]; simp)] at e
        cases e
    have md : Mod K mg (hidT s₁.heap H) := by
      obtain ⟨mc, l1, l2⟩ := hlim
      exact ⟨kB, nsB hns, ⟨mb, nsB hb, hbb⟩, ⟨mc, nsB l1, l2⟩⟩
    have e0 : Env0 P w K mg (hidT s₁.heap H) callerA [] s₁ H := ⟨rfl, md, fun b o e => of_hidT e, Nat.le_of_eq (hidT_size _ _), trivial, fun b z => absurd (show b ∈ ([] : List Addr) from z) (by simp), hok, .of_eq hg⟩
    refine codeAny_mono ((FG _ kB (nsB hns)).run callerA [] s₁ H ⟨[.ref a], []⟩ [.ref a] [.ref a] _ _ hr rfl e0 (hbind s₁ (.ref a)) (.cons rfl .nil) (hsp H hS)) fun r s' h => ?_
    cases r with
    | error er => exact (hCX H er s' h).elim
    | ok fl =>
      cases fl with
      | next => exact h.elim
      | brk => exact h.elim
      | cont => exact h.elim
      | ret u =>
        obtain ⟨v, H', os, bare, un, hok', r', q⟩ := h
        have q : v = .bl true := q
        subst q
        obtain rfl : u = Value.bool true := r'
        refine ⟨rfl, OldK.of_keep fun b o e => ?_, os, bare⟩
        cases q : H b with
        | none => exact un.keep b o e q (fun z => by cases z) (fun z => by cases z)
        | some u =>
          obtain ⟨_, ob, xs, rfl⟩ := hO b u q
          obtain ⟨e1, _⟩ := hok b _ q
          obtain ⟨e2, _⟩ := hok' b _ (un.frzs b ob _ q)
          rw [e] at e1
          cases e1
          exact e2
  cases hk : K.lookup a with
  | some o =>
    have e := KX a o hk
    rw [ha] at e
    cases e
    exact main (fun _ => none) (fun b u z => nomatch z) (.inr ⟨_, vs.toArray, _, hk, rfl, rfl, rfl, by rw [List.size_toArray, hlen]; exact hl, by simpa using rv⟩) (fun b u z => nomatch z) fun z => absurd rfl z
  | none =>
    have at_ : ∀ b u, (if b = a then some (HO.frz { cls := .type "list", data := .seq vs.toArray } (.lst (ns.map V.int))) else none) = some u → b = a ∧ u = .frz { cls := .type "list", data := .seq vs.toArray } (.lst (ns.map V.int)) := by
      intro b u z
      by_cases hb : b = a
      · rw [if_pos hb] at z
        cases z
        exact ⟨hb, rfl⟩
      · rw [if_neg hb] at z
        cases z
    refine main (fun b => if b = a then some (.frz { cls := .type "list", data := .seq vs.toArray } (.lst (ns.map V.int))) else none) (fun b u z => ?_) (.inl (.inr ⟨_, if_pos rfl⟩)) (fun b u z => ?_) fun _ => hk
    · obtain ⟨h1, h2⟩ := at_ b u z
      exact ⟨h1, _, _, h2⟩
    · obtain ⟨h1, h2⟩ := at_ b u z
      subst h1 h2
      exact ⟨ha, by rw [List.length_map]; exact hl, vs, _, rv, ha⟩
theorem walk_ofG {l : OpenLaw} {n k : Nat} {q : Program} {loose : List Str} {XP : (Str → Option Value) → Heap → Prop} {YP : World → Heap → Prop} {d : DefRec} {CX : CXT} {x : Str} (hn : l.most = some n) (hn2 : n ≤ sizeLine) (hdf : d.params.defaults = []) (hr : Room k callerA)
    (F : ∀ (w : World) (mg : Str → Option Value) (fa : Addr) (h : Heap), YP w h → h.Ns mainGlobals mg → mg d.name = some (.ref fa) →
      ∃ (K : Frag) (fd : FuncData) (sp : Sp), K.In h ∧ (∀ (s : Shared) (u : Value), BindsTo s fd ⟨[u], []⟩ [(x, u)]) ∧ (∀ (H : Hp) (a : Addr) (ns : List Int), ns.length ≤ n → SqL K H a (ns.map V.int) → sp [.ref a] H (fun v _ => v = .bl true) fun _ _ _ => False) ∧
        ∀ base : Heap, K.In base → base.Ns mainGlobals mg → FnG l.prog w K mg base CX k fa fd [x] sp)
    (hCX : ∀ (H : Hp) (s : Shared) (e : Value) (s' : Shared), CX [] H s (fun _ _ _ => False) e s' → False) : WalkO q loose XP YP l.row.toRowW d [] (fun f vs => PySem.call f vs) := by
  refine Att.attach_call hn hdf fun w s₀ s₁ mg mb fa o pm cd doc a vs ns G Y ho hd hcd hmg hobj hints hlen hg => ?_
  obtain ⟨K, fd, sp, KX, hb, hsp, hF⟩ := F w mg fa _ Y G.T.g hmg
  exact law_callG KX G.T.g G.T.b G.T.builtins G.T.nolimit hg hobj hints (Nat.le_trans hlen hn2) hr hF hb (fun H hS => hsp H a ns hlen hS) fun H er s' => hCX H s₁ er s'
end Hk
end AT
set_option Elab.async false
set_option linter.all false
set_option maxRecDepth 100000
set_option maxHeartbeats 2000000
/-! AW: the rules as the printer names them. -/
namespace AT
open PySem PySem.Spec PyProof.Rows L2
theorem hul {a n : Nat} (h : a + 100 < cLine) (hn : n ≤ 100) : a + n < cLine := by omega
theorem takes0 {X : Cx} : Takes X W0 := fun u s' ⟨a, B, sI, pins, σ, H, cls, d, e, I, nb, up, sky, na, os, ag, w⟩ => w.elim
/-- a def that keeps its promise, as it is called -/
structure Ok (P : Program) (w : World) (K : PySem.W.Frag) (mg : Str → Option Value) (base : Heap) (k : Nat) (f : Addr) (ps : List Str) (sp : Sp) : Prop where
  ex : ∃ fd, FnOk P w K mg base (L2.CX P w) k f fd ps sp ∧ PySem.W.keepIn K (.ref f) = true ∧ Binds K fd ps []
structure OkG (P : Program) (w : World) (K : PySem.W.Frag) (mg : Str → Option Value) (base : Heap) (k : Nat) (f : Addr) (ps : List Str) (sp : Sp) : Prop where
  ex : ∃ fd, FnG P w K mg base (L2.CX P w) k f fd ps sp ∧ PySem.W.keepIn K (.ref f) = true ∧ Binds K fd ps []
section
variable {X : Cx} {G : Gam} {B : Ba} {W : WX} {Fm : List OV → Out D} {k n : Nat} {f : Addr} {ps : List Str} {x c m : Str} {p pos apos : Pos} {a b e o : Expr} {es : List Expr} {ma mb : ME} {mr : MA}
theorem k_call (O : Ok X.prog X.w X.K X.mg X.base k f ps (spOf G n Fm)) (hr : Room k X.A) (hm : X.mg x = some (.ref f)) (tk : Takes X W)
    (ha : PA X (e :: es) (dA G B W mr)) (hg : Gl X x := by rfl) (hdb : (x == ("__debug__" : Str)) = false := by decide) (he : starEach (e :: es) X.env = (false, eval e X.env) :: starEach es X.env := by rfl) (hpl : (backTo pos (starEach es X.env)).any (·.1) = false := by rfl) :
    PE X (.Call (.Name x p) (e :: es) [] pos) (dE G B W (m_call Fm (lenOk n mr))) := by
  obtain ⟨fd, FO, hk, hb⟩ := O.ex
  exact de_call FO hr hm hk hb tk ha hg hdb he hpl
theorem k_callG (O : OkG X.prog X.w X.K X.mg X.base k f ps (spOf G n Fm)) (hr : Room k X.A) (hgd : X.A.guards = some []) (hm : X.mg x = some (.ref f)) (tk : Takes X W)
    (ha : PA X (e :: es) (dA G B W mr)) (hg : Gl X x := by rfl) (hdb : (x == ("__debug__" : Str)) = false := by decide) (he : starEach (e :: es) X.env = (false, eval e X.env) :: starEach es X.env := by rfl) (hpl : (backTo pos (starEach es X.env)).any (·.1) = false := by rfl) :
    PE X (.Call (.Name x p) (e :: es) [] pos) (dE G B W (m_call Fm (lenOk n mr))) := by
  obtain ⟨fd, FO, hk, hb⟩ := O.ex
  exact de_callG FO hr hgd hm hk hb tk ha hg hdb he hpl
theorem k_callO (j : Nat) {y : Str} {py : Pos} (O : Ok X.prog X.w X.K X.mg X.base k f ps (spOf G (n + 1) Fm)) (hr : Room k X.A) (hm : X.mg x = some (.ref f)) (tk : Takes X W)
    (ha : PA X es (dA G B W mr)) (hN : X.N[j]? = some y := by rfl) (hv : Vis X.env.scope y := by first | exact Or.inl rfl | exact Or.inr (Or.inl rfl) | exact Or.inr (Or.inr rfl)) (hd : (y == ("__debug__" : Str)) = false := by decide)
    (hcd : (y == ("__classdict__" : Str)) = false := by decide) (hg : Gl X x := by rfl) (hdb : (x == ("__debug__" : Str)) = false := by decide) (he : starEach (.Name y py :: es) X.env = (false, eval (.Name y py) X.env) :: starEach es X.env := by rfl)
    (hpl : (backTo pos (starEach es X.env)).any (·.1) = false := by rfl) :
    PE X (.Call (.Name x p) (.Name y py :: es) [] pos) (dE G B W (m_callO Fm j (lenOk n mr))) := by
  obtain ⟨fd, FO, hk, hb⟩ := O.ex
  exact de_callO j FO hr hm hk hb tk ha hN hv hd hcd hg hdb he hpl
theorem k_make (c : Str) (nf : Nat) (hf : (G.fs c).length = nf) (M : Mk X.K (G.C c) f) (O : Ok X.prog X.w X.K X.mg X.base k f ps (spOf G (n + 1) Fm)) (hr : Room (k + 1) X.A) (hm : X.mg x = some (.ref (G.C c))) (tk : Takes X W)
    (ha : PA X (e :: es) (dA G B W mr)) (hg : Gl X x := by rfl) (hdb : (x == ("__debug__" : Str)) = false := by decide) (he : starEach (e :: es) X.env = (false, eval e X.env) :: starEach es X.env := by rfl) (hpl : (backTo pos (starEach es X.env)).any (·.1) = false := by rfl) :
    PE X (.Call (.Name x p) (e :: es) [] pos) (dE G B W (m_make c nf Fm (lenOk n mr))) := by
  obtain ⟨fd, FO, hk, hb⟩ := O.ex
  exact de_make c nf hf M FO hr hm hb tk ha hg hdb he hpl
theorem k_prop (c : Str) (hG : X.K = G.K) (hC : Cls G.K (G.C c)) (hp : ∃ pa, PropOf G.K (G.C c) x pa f) (O : Ok X.prog X.w X.K X.mg X.base k f ps (spOf G 1 Fm)) (hr : Room (k + 1) X.A)
    (ha : PE X e (dE G B W ma)) (hab : attributeBase e x X.env (eval e X.env) = eval e X.env := by rfl) : PE X (.Attribute e x pos) (dE G B W (m_prop c Fm ma)) := by
  obtain ⟨fd, FO, hk, hb⟩ := O.ex
  obtain ⟨pa, hp⟩ := hp
  exact de_prop c hG hC hp FO hr hb ha hab
theorem k_meth {pl : Sem Bool} (c : Str) (hG : X.K = G.K) (hC : Cls G.K (G.C c)) (hm : Meth G.K (G.C c) m f) (hfs : m ∉ G.fs c) (O : Ok X.prog X.w X.K X.mg X.base k f ps (spOf G (n + 1) Fm)) (hr : Room k X.A) (tk : Takes X W)
    (ho : PE X o (dE G B W ma)) (ha : PA X (e :: es) (dA G B W mr))
    (hst : starEach (e :: es) X.env = (false, eval e X.env) :: starEach es X.env := by rfl) (hpl : (backTo pos (starEach es X.env)).any (·.1) = false := by rfl)
    (ht : eval (.Call (.Attribute o m apos) (e :: es) [] pos) X.env = (do
      let ov ← eval o X.env
      standAt apos.atName
      let (f, first) ← holding [ov] (getMethod ov m pl)
      callWith pos f first (backTo pos (starEach (e :: es) X.env)) (backToKw pos (keywordEach [] X.env))) := by rfl) :
    PE X (.Call (.Attribute o m apos) (e :: es) [] pos) (dE G B W (m_meth c Fm ma (lenOk n mr))) := by
  obtain ⟨fd, FO, hk, hb⟩ := O.ex
  exact de_meth c hG hC hm hfs FO hr hb tk ho ha hst hpl ht
theorem k_meth0 {pl : Sem Bool} (c : Str) (hG : X.K = G.K) (hC : Cls G.K (G.C c)) (hm : Meth G.K (G.C c) m f) (hfs : m ∉ G.fs c) (O : Ok X.prog X.w X.K X.mg X.base k f ps (spOf G (0 + 1) Fm)) (hr : Room k X.A) (tk : Takes X W)
    (ho : PE X o (dE G B W ma))
    (ht : eval (.Call (.Attribute o m apos) [] [] pos) X.env = (do
      let ov ← eval o X.env
      standAt apos.atName
      let (f, first) ← holding [ov] (getMethod ov m pl)
      callWith pos f first (backTo pos (starEach [] X.env)) (backToKw pos (keywordEach [] X.env))) := by rfl) :
    PE X (.Call (.Attribute o m apos) [] [] pos) (dE G B W (m_meth c Fm ma (lenOk 0 m_nil))) := by
  obtain ⟨fd, FO, hk, hb⟩ := O.ex
  exact de_meth0 c hG hC hm hfs FO hr hb tk ho ht
theorem k_eqO (neg : Bool) {op : CmpOp} (hop : op = if neg then .NotEq else .Eq) (c : Str) (cs : List Str) (hG : X.K = G.K) (hC : G.C = He.ga G.K) (hn : chkNf G.K c cs = true) (E : EqOk G.K (G.C c) f) (O : Ok X.prog X.w X.K X.mg X.base k f ps (spOf G 2 Fm)) (hr : Room (k + 1) X.A) (ha : PE X a (dE G B W ma)) (hbb : PE X b (dE G B W mb))
    (hm : behindInMarks op b = false) : PE X (.Compare a [op] [b] pos) (dE G B W (m_eqO neg c cs Fm ma mb)) := by
  obtain ⟨fd, FO, hk, hb⟩ := O.ex
  subst hop
  cases neg with
  | true => exact de_neO c cs hG hC hn E FO hr hb ha hbb hm
  | false => exact de_eqO c cs hG hC hn E FO hr hb ha hbb hm
theorem k_eqOT (neg : Bool) {op : CmpOp} (hop : op = if neg then .NotEq else .Eq) (c : Str) (cs : List Str) (hG : X.K = G.K) (hC : G.C = He.ga G.K) (hn : chkNf G.K c cs = true) (E : EqOk G.K (G.C c) f) (O : Ok X.prog X.w X.K X.mg X.base k f ps (spOf G 2 Fm)) (hr : Room (k + 1) X.A) (ha : PE X a (dE G B W ma)) (hbb : PE X b (dE G B W mb))
    (hm : behindInMarks op b = false) : PT X (.Compare a [op] [b] pos) (dT G B W (m_tst tstB (m_eqO neg c cs Fm ma mb))) := by
  obtain ⟨fd, FO, hk, hb⟩ := O.ex
  subst hop
  cases neg with
  | true => exact dt_neO c cs hG hC hn E FO hr hb ha hbb hm
  | false => exact dt_eqO c cs hG hC hn E FO hr hb ha hbb hm
theorem k_binO {op : Operator} (c : Str) (hG : X.K = G.K) (E : BinOk G.K (G.C c) f (PySem.dunder op.info.2)) (O : Ok X.prog X.w X.K X.mg X.base k f ps (spOf G (1 + 1) Fm)) (hr : Room k X.A) (tk : Takes X W) (ha : PE X a (dE G B W ma)) (hbb : PE X b (dE G B W mb)) :
    PE X (.BinOp a op b pos) (dE G B W (m_binO c Fm ma mb)) := by
  obtain ⟨fd, FO, hk, hb⟩ := O.ex
  exact de_binO c hG E FO hr hb tk ha hbb
/-! operators -/
def OpX (X : Cx) (G : Gam) (op : Value → Value → Sem Value) (f : D → D → Option D) : Prop := ∃ r, OpR X op r ∧ OpD G r f
theorem x_add (hG : X.K = G.K) : OpX X G (binaryOp .Add) addF := ⟨_, or_add, by rw [hG]; exact opd_add⟩
theorem x_sub : OpX X G (binaryOp .Sub) (iF fun i j => i - j) := ⟨_, op_sub, opd_I0⟩
def mulB (i j : Int) : Bool := (decide (-(2 ^ 64) < i) && decide (i < 2 ^ 64)) || (decide (-(2 ^ 64) < j) && decide (j < 2 ^ 64))
theorem x_mul : OpX X G (binaryOp .Mult) (iC mulB fun i j => i * j) := ⟨_, op_mul, opd_I fun i j h => by
  unfold mulB at h
  rcases Bool.or_eq_true_iff.mp h with h | h
  · obtain ⟨h1, h2⟩ := He.ba h
    exact .inl ⟨of_decide_eq_true h1, of_decide_eq_true h2⟩
  · obtain ⟨h1, h2⟩ := He.ba h
    exact .inr ⟨of_decide_eq_true h1, of_decide_eq_true h2⟩⟩
def posB (_ j : Int) : Bool := decide (0 < j)
theorem x_mod : OpX X G (binaryOp .Mod) (iC posB fun i j => i % j) := ⟨_, op_mod, opd_I fun i j h => of_decide_eq_true h⟩
def divB (_ j : Int) : Bool := decide (0 < j) && decide (j < 1073741824)
theorem x_fdiv : OpX X G (binaryOp .FloorDiv) (iC divB fun i j => i / j) := ⟨_, op_fdiv, opd_I fun i j h => by
  obtain ⟨h1, h2⟩ := He.ba h
  exact ⟨of_decide_eq_true h1, of_decide_eq_true h2⟩⟩
def powB (i j : Int) : Bool := decide (0 ≤ j) && (decide (j ≤ 1000000) && decide (i.natAbs < 2 ^ 64))
theorem powB_ok {i j : Int} (h : powB i j = true) : CPow i j := by
  obtain ⟨h1, h⟩ := He.ba h
  obtain ⟨h2, h3⟩ := He.ba h
  exact ⟨of_decide_eq_true h1, of_decide_eq_true h2, of_decide_eq_true h3⟩
theorem x_pow : OpX X G (binaryOp .Pow) (iC powB fun i j => i ^ j.toNat) := ⟨_, op_pow, opd_I fun i j h => powB_ok h⟩
theorem x_shl : OpX X G (binaryOp .LShift) (iC powB fun i j => i * 2 ^ j.toNat) := ⟨_, op_shl, opd_I fun i j h => powB_ok h⟩
theorem x_shr : OpX X G (binaryOp .RShift) (iC (fun _ j => decide (0 ≤ j)) fun i j => i / 2 ^ j.toNat) := ⟨_, op_shr, opd_I fun i j h => of_decide_eq_true h⟩
theorem x_and : OpX X G (binaryOp .BitAnd) (iF Builtin.bitAnd) := ⟨_, op_and, opd_I0⟩
/-- texts, numbers: by themselves -/
def eqG (x y : D) : Option D :=
  match x, y with
  | .str a, .str b => some (.bl (decide (a = b)))
  | .int a, .int b => some (.bl (decide (a = b)))
  | x, y => eqF x y
def neG (x y : D) : Option D :=
  match x, y with
  | .str a, .str b => some (.bl (!decide (a = b)))
  | .int a, .int b => some (.bl (!decide (a = b)))
  | x, y => neF x y
theorem opd_eqG {G : Gam} : OpD G (fun x y H Q => rEqD G.K x y H Q ∨ rEq x y H Q) eqG := by
  intro F H x y d v w Q hs e hv hw q
  unfold eqG at e
  split at e
  · cases e
    cases hv with
    | fr hv => cases hv; cases hw with
      | fr hw =>
        cases hw
        refine .inr ⟨rfl, ?_⟩
        have z := q F H _ (Grow.refl hs) (.bl _)
        rename_i a b
        rw [show decide (V.str a = V.str b) = decide (a = b) from decide_eq_decide.mpr ⟨fun z => V.str.inj z, fun z => by rw [z]⟩]
        exact z
  · cases e
    cases hv with
    | fr hv => cases hv; cases hw with
      | fr hw =>
        cases hw
        refine .inr ⟨rfl, ?_⟩
        have z := q F H _ (Grow.refl hs) (.bl _)
        rename_i a b
        rw [show decide (V.int a = V.int b) = decide (a = b) from decide_eq_decide.mpr ⟨fun z => V.int.inj z, fun z => by rw [z]⟩]
        exact z
  · exact .inl (opd_eq F H x y d v w Q hs e hv hw q)
theorem opd_neG {G : Gam} : OpD G (fun x y H Q => rNeD G.K x y H Q ∨ rNe x y H Q) neG := by
  intro F H x y d v w Q hs e hv hw q
  unfold neG at e
  split at e
  · cases e
    cases hv with
    | fr hv => cases hv; cases hw with
      | fr hw =>
        cases hw
        refine .inr ⟨rfl, ?_⟩
        have z := q F H _ (Grow.refl hs) (.bl _)
        rename_i a b
        rw [show decide (V.str a = V.str b) = decide (a = b) from decide_eq_decide.mpr ⟨fun z => V.str.inj z, fun z => by rw [z]⟩]
        exact z
  · cases e
    cases hv with
    | fr hv => cases hv; cases hw with
      | fr hw =>
        cases hw
        refine .inr ⟨rfl, ?_⟩
        have z := q F H _ (Grow.refl hs) (.bl _)
        rename_i a b
        rw [show decide (V.int a = V.int b) = decide (a = b) from decide_eq_decide.mpr ⟨fun z => V.int.inj z, fun z => by rw [z]⟩]
        exact z
  · exact .inl (opd_ne F H x y d v w Q hs e hv hw q)
theorem x_eq (hG : X.K = G.K) (hu : X.A.units + 100 < cLine) : OpX X G (compareOp .Eq) eqG := ⟨_, OpR.or (op_eqD (hul hu (by decide))) op_eq, by rw [hG]; exact opd_eqG⟩
theorem x_ne (hG : X.K = G.K) (hu : X.A.units + 100 < cLine) : OpX X G (compareOp .NotEq) neG := ⟨_, OpR.or (op_neD (hul hu (by decide))) op_ne, by rw [hG]; exact opd_neG⟩
theorem x_is : OpX X G (compareOp .Is) isF := ⟨_, or_is, opd_is⟩
theorem x_isnt : OpX X G (compareOp .IsNot) isntF := ⟨_, or_isnt, opd_isnt⟩
theorem x_in (hG : X.K = G.K) (hu : X.A.units + 100 < cLine) : OpX X G (compareOp .In) inF := ⟨_, or_in (hul hu (by decide)), by rw [hG]; exact opd_in⟩
theorem x_nin (hG : X.K = G.K) (hu : X.A.units + 100 < cLine) : OpX X G (compareOp .NotIn) ninF := ⟨_, or_nin (hul hu (by decide)), by rw [hG]; exact opd_nin⟩
theorem x_lt : OpX X G (compareOp .Lt) (cF fun i j => decide (i < j)) := ⟨_, op_lt, opd_B0⟩
theorem x_le : OpX X G (compareOp .LtE) (cF fun i j => decide (i ≤ j)) := ⟨_, op_le, opd_B0⟩
theorem x_gt : OpX X G (compareOp .Gt) (cF fun i j => decide (j < i)) := ⟨_, op_gt, opd_B0⟩
theorem x_ge : OpX X G (compareOp .GtE) (cF fun i j => decide (j ≤ i)) := ⟨_, op_ge, opd_B0⟩
variable {g : D → D → Option D}
theorem k_op {op : Operator} (h : OpX X G (binaryOp op) g) (ha : PE X a (dE G B W ma)) (hb : PE X b (dB G B W mb)) : PE X (.BinOp a op b pos) (dE G B W (m_op g ma mb)) := by
  obtain ⟨r, h1, h2⟩ := h
  exact de_op h1 h2 ha hb
theorem k_opP {op : Operator} (h : OpX X G (binaryOp op) g) (k : Nat) (hb : PE X b (dB G B W mb)) (hN : X.N[k]? = some x := by rfl)
    (hv : Vis X.env.scope x := by first | exact Or.inl rfl | exact Or.inr (Or.inl rfl) | exact Or.inr (Or.inr rfl)) (hd : (x == ("__debug__" : Str)) = false := by decide) (hcd : (x == ("__classdict__" : Str)) = false := by decide) :
    PE X (.BinOp (.Name x p) op b pos) (dE G B W (m_opP g k mb)) := by
  obtain ⟨r, h1, h2⟩ := h
  exact de_opP h1 h2 k hb hN hv hd hcd
theorem k_cmp {op : CmpOp} (h : OpX X G (compareOp op) g) (ha : PE X a (dE G B W ma)) (hb : PE X b (dB G B W mb)) (hm : behindInMarks op b = false := by first | rfl | exact nobehind _ (by decide) (by decide)) : PE X (.Compare a [op] [b] pos) (dE G B W (m_op g ma mb)) := by
  obtain ⟨r, h1, h2⟩ := h
  exact de_cmp h1 h2 ha hb hm
theorem k_cmpP {op : CmpOp} (h : OpX X G (compareOp op) g) (k : Nat) (hb : PE X b (dB G B W mb)) (hm : behindInMarks op b = false := by first | rfl | exact nobehind _ (by decide) (by decide)) (hN : X.N[k]? = some x := by rfl)
    (hv : Vis X.env.scope x := by first | exact Or.inl rfl | exact Or.inr (Or.inl rfl) | exact Or.inr (Or.inr rfl)) (hd : (x == ("__debug__" : Str)) = false := by decide) (hcd : (x == ("__classdict__" : Str)) = false := by decide) :
    PE X (.Compare (.Name x p) [op] [b] pos) (dE G B W (m_opP g k mb)) := by
  obtain ⟨r, h1, h2⟩ := h
  exact de_cmpP h1 h2 k hb hm hN hv hd hcd
theorem k_cmpT {op : CmpOp} (h : OpX X G (compareOp op) g) (ha : PE X a (dE G B W ma)) (hb : PE X b (dB G B W mb)) (hm : behindInMarks op b = false := by first | rfl | exact nobehind _ (by decide) (by decide)) : PT X (.Compare a [op] [b] pos) (dT G B W (m_tst tstB (m_op g ma mb))) := by
  obtain ⟨r, h1, h2⟩ := h
  exact dt_cmp h1 h2 ha hb hm
theorem k_cmpTP {op : CmpOp} (h : OpX X G (compareOp op) g) (k : Nat) (hb : PE X b (dB G B W mb)) (hm : behindInMarks op b = false := by first | rfl | exact nobehind _ (by decide) (by decide)) (hN : X.N[k]? = some x := by rfl)
    (hv : Vis X.env.scope x := by first | exact Or.inl rfl | exact Or.inr (Or.inl rfl) | exact Or.inr (Or.inr rfl)) (hd : (x == ("__debug__" : Str)) = false := by decide) (hcd : (x == ("__classdict__" : Str)) = false := by decide) :
    PT X (.Compare (.Name x p) [op] [b] pos) (dT G B W (m_tst tstB (m_opP g k mb))) := by
  obtain ⟨r, h1, h2⟩ := h
  exact dt_cmpP h1 h2 k hb hm hN hv hd hcd
theorem k_chain {op op' : CmpOp} {g' : D → D → Option D} {c : Expr} {mc : ME} (h : OpX X G (compareOp op) g) (h' : OpX X G (compareOp op') g') (ha : PE X a (dE G B W ma)) (hb : PE X b (dE G B W mb)) (hc : PE X c (dB G B W mc))
    (hm : lastMarks [op, op'] [b, c] = false := by with_unfolding_all rfl) : PE X (.Compare a [op, op'] [b, c] pos) (dE G B W (m_chain g g' ma mb mc)) := by
  obtain ⟨r, h1, h2⟩ := h
  obtain ⟨r', h1', h2'⟩ := h'
  exact de_chain h1 h2 h1' h2' ha hb hc hm
theorem k_chainT {op op' : CmpOp} {g' : D → D → Option D} {c : Expr} {mc : ME} (h : OpX X G (compareOp op) g) (h' : OpX X G (compareOp op') g') (ha : PE X a (dE G B W ma)) (hb : PE X b (dE G B W mb)) (hc : PE X c (dB G B W mc))
    (hm : lastMarks [op, op'] [b, c] = false := by with_unfolding_all rfl) : PT X (.Compare a [op, op'] [b, c] pos) (dT G B W (m_tst tstB (m_chain g g' ma mb mc))) := by
  obtain ⟨r, h1, h2⟩ := h
  obtain ⟨r', h1', h2'⟩ := h'
  exact dt_chain h1 h2 h1' h2' ha hb hc hm
/-- not a, as a value, of a bool -/
def m_notE (ma : ME) : ME := fun ρ => (ma ρ).bind fun x ρ => match x with
  | .bl b => .ok (.bl (!b)) ρ
  | _ => .bad
theorem k_not (ha : PE X a (dE G B W ma)) : PE X (.UnaryOp .Not a pos) (dE G B W (m_notE ma)) := PE.imp (pe_not ha) fun σ H Q ⟨F, ρ, E, p⟩ => ⟨F, ρ, E, p.bind.mono fun x ρ1 F1 H1 x1 E1 p1 v hv => by
  cases hv with
  | bl k => exact ⟨k, rfl, p1 F1 H1 (Ext.refl F1) E1 _ (.bl _)⟩
  | _ => exact p1.elim⟩
end
end AT
set_option Elab.async false
set_option linter.all false
set_option maxRecDepth 100000
set_option maxHeartbeats 2000000
/-! AZ: zip of any two of lists, tuples, written dicts. -/
namespace AT
open PySem PySem.Spec PyProof.Rows L2
/-! the keys of a written dict, drawn -/
section
variable {prog : Program} {w : World} {A : Around} {E : Value → Shared → Prop} {s : Shared}
theorem nextKey_item {it d : Addr} {i ep : Nat} {od : Obj} {es : Array DictEntry} {en : DictEntry} {Q : Value → Shared → Prop} (hit : s.heap.IsKeyIter it d i es.size ep) (hod : s.heap.get? d = some od) (hcd : od.ExactDict) (hdd : od.data = .dict es ep) (hx : es[i]? = some en)
    (hQ : ∀ h', h'.IsKeyIter it d (i + 1) es.size ep → Heap.SameBut it s.heap h' → Q en.key { s with heap := h' }) : wpAny (model prog w) A (Builtin.SmallTypes.nextOf (.ref it)) Q E s := by
  obtain ⟨o, ho, hc, hd⟩ := id hit
  unfold Builtin.SmallTypes.nextOf
  refine wpAny_bind (wpAny_callSpecial?_slot (name := Str.ofString "__next__") hit.typeIs PySem.F.slot_dict_keyiterator_next
    (wpAny_call_entry PySem.F.slot_dict_keyiterator_next hit.typeIs PySem.F.entry_dict_keyiterator_next ?_ (PySem.F.args_dict_keyiterator_next_1 _)))
  refine wpAny_bind (wpAny_pure ?_)
  refine wpAny_bind ?_
  refine wpAny_bind ?_
  first | refine wpAny_bind (wpAny_typeNameOfWhole_keyiter hit.typeIs (wpAny_pure ?_)) | refine wpAny_bind (wpAny_typeNameOf_keyiter hit.typeIs (wpAny_pure ?_))
  refine wpAny_bind (wpAny_fieldsOf ho hd ?_)
  have hown : Builtin.Dict_items.ownsTuple "dict_keyiterator" = false := by decide
  simp only [hown, Bool.false_eq_true, if_false]
  show wpAny _ _ (if (Value.ref d == Value.none) = true then _ else _) _ _ s
  rw [if_neg (show ¬ ((Value.ref d == Value.none) = true) from Bool.false_ne_true)]
  refine wpAny_bind (wpAny_pure ?_)
  refine wpAny_bind (wpAny_dictEntries hod hdd ?_)
  rw [if_neg (by simp)]
  refine wpAny_bind (wpAny_pure ?_)
  refine wpAny_bind (wpAny_dictEpoch hod hdd ?_)
  rw [if_neg (by simp)]
  refine wpAny_pure ?_
  simp only [show ¬ ((i : Int) < 0) from by omega, if_false, Int.toNat_natCast, hx]
  refine wpAny_bind ?_
  first | refine wpAny_bind (wpAny_typeNameOfWhole_keyiter hit.typeIs (wpAny_pure ?_)) | refine wpAny_bind (wpAny_typeNameOf_keyiter hit.typeIs (wpAny_pure ?_))
  refine wpAny_bind (wpAny_isOneOf_keyiter hit.typeIs ?_)
  show wpAny _ _ (setField (.ref it) 1 (rawInt ((i : Int) + 1)) >>= _) _ _ s
  refine wpAny_bind (wpAny_setField ho hd (by simp) ?_)
  have hit' : (s.heap.update it (Obj.mapFields (·.setIfInBounds 1 (rawInt ((i : Int) + 1))))).IsKeyIter it d (i + 1) es.size ep :=
    ⟨_, Heap.get?_update_self _ ho (Obj.isFreed_of_fields (Obj.data_mapFields hd _)), (Obj.cls_mapFields ..).trans hc, by rw [Obj.data_mapFields hd]; simp [rawInt]⟩
  refine wpAny_bind (wpAny_holding ?_)
  refine wpAny_bind (wpAny_isOneOf_keyiter (s := { s with heap := s.heap.update it (Obj.mapFields (·.setIfInBounds 1 (rawInt ((i : Int) + 1)))) }) hit'.typeIs ?_)
  show wpAny _ _ (pure en.key) _ _ _
  exact wpAny_pure (wpAny_pure ⟨_, rfl, wpAny_pure (hQ _ hit' (Heap.SameBut.update ..))⟩)
theorem nextKey_end {it d : Addr} {ep : Nat} {od : Obj} {es : Array DictEntry} {Q : Value → Shared → Prop} (hh : A.handled = none) (hit : s.heap.IsKeyIter it d es.size es.size ep) (hod : s.heap.get? d = some od) (hcd : od.ExactDict) (hdd : od.data = .dict es ep)
    (hE : ∀ h' e, Heap.ExtBut it s.heap h' → (∃ o, h'.get? e = some o ∧ o.cls = .type "StopIteration") → E (.ref e) { s with heap := h' }) : wpAny (model prog w) A (Builtin.SmallTypes.nextOf (.ref it)) Q E s := by
  obtain ⟨o, ho, hc, hd⟩ := id hit
  unfold Builtin.SmallTypes.nextOf
  refine wpAny_bind (wpAny_callSpecial?_slot (name := Str.ofString "__next__") hit.typeIs PySem.F.slot_dict_keyiterator_next
    (wpAny_call_entry PySem.F.slot_dict_keyiterator_next hit.typeIs PySem.F.entry_dict_keyiterator_next ?_ (PySem.F.args_dict_keyiterator_next_1 _)))
  refine wpAny_bind (wpAny_pure ?_)
  refine wpAny_bind ?_
  refine wpAny_bind ?_
  first | refine wpAny_bind (wpAny_typeNameOfWhole_keyiter hit.typeIs (wpAny_pure ?_)) | refine wpAny_bind (wpAny_typeNameOf_keyiter hit.typeIs (wpAny_pure ?_))
  refine wpAny_bind (wpAny_fieldsOf ho hd ?_)
  have hown : Builtin.Dict_items.ownsTuple "dict_keyiterator" = false := by decide
  simp only [hown, Bool.false_eq_true, if_false]
  show wpAny _ _ (if (Value.ref d == Value.none) = true then _ else _) _ _ s
  rw [if_neg (show ¬ ((Value.ref d == Value.none) = true) from Bool.false_ne_true)]
  refine wpAny_bind (wpAny_pure ?_)
  refine wpAny_bind (wpAny_dictEntries hod hdd ?_)
  rw [if_neg (by simp)]
  refine wpAny_bind (wpAny_pure ?_)
  refine wpAny_bind (wpAny_dictEpoch hod hdd ?_)
  rw [if_neg (by simp)]
  refine wpAny_pure ?_
  simp only [show ¬ ((es.size : Int) < 0) from by omega, if_false, Int.toNat_natCast, Array.getElem?_eq_none (Nat.le_refl _)]
  refine wpAny_bind ?_
  first | refine wpAny_bind (wpAny_typeNameOfWhole_keyiter hit.typeIs (wpAny_pure ?_)) | refine wpAny_bind (wpAny_typeNameOf_keyiter hit.typeIs (wpAny_pure ?_))
  show wpAny _ _ (setField (.ref it) 0 .none >>= _) _ _ s
  refine wpAny_bind (wpAny_setField ho hd (by simp) ?_)
  show wpAny _ _ (newExc (.type "StopIteration") [] >>= _) _ _ _
  refine wpAny_bind ?_
  simp only [newExc, newTuple]
  refine wpAny_bind (wpAny_newObj_type ?_ (by size_fits))
  refine wpAny_bind (m := firstArgMember _ _) (wpAny_of_eq (a := Value.none) (by first | rfl | (simp only [firstArgMember]; rfl)) ?_)
  refine wpAny_newObj_type ?_ (by size_fits)
  simp only [raiseNew]
  refine wpAny_bind (wpAny_handled ?_)
  first | rw [show A.in1.handled = none from hh] | rw [hh]
  refine wpAny_bind (wpAny_pure (wpAny_throw ?_))
  exact hE _ _ (((Heap.SameBut.update ..).extBut.push _).push _) ⟨_, Heap.get?_push_size _ rfl, rfl⟩
end
theorem draws_keys {prog : Program} {w : World} {A : Around} (hh : A.handled = none) (it d : Addr) (hne : d ≠ it) (od : Obj) (es : Array DictEntry) (ep : Nat) (hcd : od.ExactDict) (hdd : od.data = .dict es ep) :
    Draws prog w A it [it, d] es.size (fun i v => ∃ en, es[i]? = some en ∧ v = en.key) (fun i h => h.IsKeyIter it d i es.size ep ∧ h.get? d = some od) where
  live := fun _ _ st => let ⟨o, ho, _⟩ := st.1; ⟨o, ho⟩
  frame := fun _ _ _ st hk => ⟨st.1.at fun o e => hk it (by simp) o e, hk d (by simp) _ st.2⟩
  item := fun i s Q E hi st hQ => by
    refine nextKey_item st.1 st.2 hcd hdd (en := es[i]) (by simp [hi]) fun h' hit' hs' => ?_
    exact hQ _ h' s.toks ⟨_, by simp [hi], rfl⟩ ⟨hit', hs'.extBut _ _ hne st.2⟩ hs'
  done := fun s Q E st hE => nextKey_end hh st.1 st.2 hcd hdd hE
end AT
set_option Elab.async false
set_option linter.all false
set_option maxRecDepth 100000
set_option maxHeartbeats 2000000
/-! AZ2: zip of any two of lists, tuples, written dicts, as a Turn. -/
namespace AT
open PySem PySem.Spec PyProof.Rows L2
/-- what is walked -/
inductive Sc where
  | l (a : Addr)
  | t (a : Addr)
  | d (a : Addr) (es : Array DictEntry) (ep : Nat)
def Sc.adr : Sc → Addr
  | .l a => a
  | .t a => a
  | .d a _ _ => a
def Sc.has (K : PySem.W.Frag) (H : Hp) (xs : List V) : Sc → Prop
  | .l a => SqL K H a xs
  | .t a => SqT K H a xs
  | .d a es ep => K.lookup a = some ⟨.type "dict", none, .dict es ep, #[]⟩ ∧ (a == sysModules) = false ∧ Vals xs (es.toList.map DictEntry.key)
def Sc.st (it : Addr) (i : Nat) (h : Heap) : Sc → Prop
  | .l a => h.IsListIter it a i
  | .t a => h.IsTupleIter it a i
  | .d a es ep => h.IsKeyIter it a i es.size ep
def Sc.ob : Sc → Obj
  | .l a => { cls := .type "list_iterator", data := .fields #[.ref a, .int 0 0] }
  | .t a => { cls := .type "tuple_iterator", data := .fields #[.ref a, .int 0 0] }
  | .d a es ep => { cls := .type "dict_keyiterator", data := .fields #[.ref a, .int 0 0, .int es.size 0, .int ep 0] }
theorem Sc.st_obj {S : Sc} {it : Addr} {i : Nat} {h : Heap} (x : S.st it i h) : ∃ o, h.get? it = some o ∧ ∀ v, o.data ≠ .cell v := by
  cases S <;> (obtain ⟨o, e, _, d⟩ := x; exact ⟨o, e, fun v q => by rw [d] at q; cases q⟩)
theorem Sc.st_at {S : Sc} {it : Addr} {i : Nat} {h h' : Heap} (x : S.st it i h) (k : ∀ o, h.get? it = some o → h'.get? it = some o) : S.st it i h' := by
  cases S <;> (obtain ⟨o, e, r⟩ := x; exact ⟨o, k o e, r⟩)
theorem Sc.st_ob {S : Sc} {it : Addr} {h : Heap} (e : h.get? it = some S.ob) : S.st it 0 h := by
  cases S <;> exact ⟨_, e, rfl, rfl⟩
theorem draws_imp {prog : Program} {w : World} {A : Around} {it : Addr} {fp : List Addr} {n : Nat} {P P' : Nat → Value → Prop} {St : Nat → Heap → Prop} (D : Draws prog w A it fp n P St) (h : ∀ i v, P i v → P' i v) : Draws prog w A it fp n P' St where
  live := D.live
  frame := D.frame
  item := fun i s Q E hi st hQ => D.item i s Q E hi st fun x h' tk p => hQ x h' tk (h _ _ p)
  done := D.done
theorem begins_keys (a : Addr) (es : Array DictEntry) (ep : Nat) (hs : (a == sysModules) = false) : Begins (.ref a) { cls := .type "dict_keyiterator", data := .fields #[.ref a, .int 0 0, .int es.size 0, .int ep 0] } fun h => h.get? a = some ⟨.type "dict", none, .dict es ep, #[]⟩ where
  iter := fun prog w A E s Q hl h => iter_keys hs hl ⟨rfl, rfl, rfl⟩ rfl h
  keeps := fun h h' x hk => hk a _ x
  free := rfl
theorem Sc.src {X : Cx} {pins : List (Addr × Obj)} {σ : L2.St} {H : Hp} {s : Shared} {xs : List V} {S : Sc} (I : Inv X pins σ H s) (h : S.has X.K H xs) :
    ∃ (its : List Value) (SH : Heap → Prop), Vals xs its ∧ SH s.heap ∧ Begins (.ref S.adr) S.ob SH ∧ (∃ o, s.heap.get? S.adr = some o) ∧
      ∀ (A : Around) (it : Addr), A.handled = none → S.adr ≠ it → Draws X.prog X.w A it [it, S.adr] xs.length (fun i v => its[i]? = some v) (fun i h => S.st it i h ∧ SH h) := by
  cases S with
  | l a =>
    obtain ⟨its, r, p, _⟩ := I.list h
    refine ⟨its, fun h => h.IsList a its.toArray, r, p.isList, begins_list _ _, ?_, fun A it hh hne => ?_⟩
    · obtain ⟨o, e, _⟩ := p.isList
      exact ⟨o, e⟩
    · have e : its.toArray.size = xs.length := by rw [List.size_toArray, r.length]
      rw [← e]
      exact draws_imp (Draws.list hh it a hne its.toArray) fun i v q => by simpa using q
  | t a =>
    obtain ⟨its, r, p, _⟩ := I.tuple h
    refine ⟨its, fun h => h.IsTuple a its.toArray, r, p, begins_tuple _ _, ?_, fun A it hh hne => ?_⟩
    · obtain ⟨o, e, _⟩ := p
      exact ⟨o, e⟩
    · have e : its.toArray.size = xs.length := by rw [List.size_toArray, r.length]
      rw [← e]
      exact draws_imp (Draws.tuple hh it a hne its.toArray) fun i v q => by simpa using q
  | d a es ep =>
    obtain ⟨h1, h2, h3⟩ := h
    have g := I.kIn a _ h1
    refine ⟨es.toList.map DictEntry.key, fun h => h.get? a = some ⟨.type "dict", none, .dict es ep, #[]⟩, h3, g, begins_keys a es ep h2, ⟨_, g⟩, fun A it hh hne => ?_⟩
    have e : es.size = xs.length := by rw [h3.length, List.length_map, Array.length_toList]
    rw [← e]
    exact draws_imp (draws_keys hh it a hne _ es ep ⟨rfl, rfl, rfl⟩ rfl) fun i v ⟨en, q1, q2⟩ => by
      subst q2
      rw [List.getElem?_map, Array.getElem?_toList, q1] <;> rfl
/-- the two as they stand at each turn, the items in new pairs -/
def ItZ (K : PySem.W.Frag) (S S' : Sc) (n m : Nat) : It :=
  ⟨fun i H => ∃ (xs ys : List V) (x y : V), S.has K H xs ∧ S'.has K H ys ∧ xs[i]? = some x ∧ ys[i]? = some y ∧ xs.length = n ∧ ys.length = m,
    fun i H v H' => ∃ T x y, v = .ref T ∧ H T = none ∧ H' = upd H T (.tup [x, y]) ∧ (∀ xs, S.has K H xs → xs[i]? = some x) ∧ ∀ ys, S'.has K H ys → ys[i]? = some y,
    fun i H => ∃ xs ys : List V, S.has K H xs ∧ S'.has K H ys ∧ xs.length = n ∧ ys.length = m ∧ (n ≤ i ∨ m ≤ i)⟩
theorem Vals.inj {vs ws : List V} {us : List Value} (h : Vals vs us) (h' : Vals ws us) : vs = ws := by
  induction us generalizing vs ws with
  | nil =>
    cases h
    cases h'
    rfl
  | cons u us ih =>
    cases h with
    | cons r1 r2 =>
      cases h' with
      | cons q1 q2 => rw [ih r2 q2, RelV.inj r1 q1]
theorem Sc.inj {X : Cx} {pins : List (Addr × Obj)} {σ : L2.St} {H : Hp} {s : Shared} {xs ys : List V} {S : Sc} (I : Inv X pins σ H s) (h : S.has X.K H xs) (h' : S.has X.K H ys) : xs = ys := by
  cases S with
  | l a => exact I.list_inj h h'
  | t a => exact I.tuple_inj h h'
  | d a es ep => exact Vals.inj h.2.2 h'.2.2
theorem turn_zip2 {P : Program} {w : World} {K : PySem.W.Frag} {elts : List Expr} {kk : Nat} {tpos : Pos} {S S' : Sc} {n m : Nat} {z TI TO i1 i2 : Addr} (D : ZipApart z TI TO i1 i2 S.adr S'.adr) :
    Turn P w K (.Tuple elts kk tpos) (ItZ K S S' n m) [z, TI, TO, i1, i2] z (fun i h => i ≤ n ∧ i ≤ m ∧ IsZip h z TI TO .none ∧ IsTupOf2 h TI (.ref i1) (.ref i2) ∧ (∃ x y, IsTupOf2 h TO x y) ∧ S.st i1 i h ∧ S'.st i2 i h) where
  mem := by simp
  obj := fun i h st c hc => by
    obtain ⟨le1, le2, hz, hTI, ⟨x, y, hTO⟩, h1, h2⟩ := st
    have e' : c = z ∨ c = TI ∨ c = TO ∨ c = i1 ∨ c = i2 := by simpa using hc
    rcases e' with q | q | q | q | q
    · rw [q]; exact ⟨_, hz, fun v q => nomatch q⟩
    · rw [q]; exact ⟨_, hTI, fun v q => nomatch q⟩
    · rw [q]; exact ⟨_, hTO, fun v q => nomatch q⟩
    · rw [q]; exact Sc.st_obj h1
    · rw [q]; exact Sc.st_obj h2
  keep := fun i h h' st k => by
    obtain ⟨le1, le2, hz, hTI, ⟨x, y, hTO⟩, h1, h2⟩ := st
    exact ⟨le1, le2, k z (by simp) _ hz, k TI (by simp) _ hTI, ⟨x, y, k TO (by simp) _ hTO⟩, Sc.st_at h1 fun o q => k i1 (by simp) o q, Sc.st_at h2 fun o q => k i2 (by simp) o q⟩
  item := by
    intro X hP hw hK hc i pins s σ H E I hf st hg
    subst hP hw hK
    obtain ⟨le1, le2, hz, hTI, ⟨x0, y0, hTO⟩, h1, h2⟩ := st
    obtain ⟨xs, ys, x, y, hqx, hqy, hx, hy, en, em⟩ := hg
    obtain ⟨its, SH, rv, p, _, _, dr⟩ := Sc.src I hqx
    obtain ⟨its2, SH2, rv2, p2, _, _, dr2⟩ := Sc.src I hqy
    obtain ⟨u, hu, ru⟩ := rv.get hx
    obtain ⟨u2, hu2, ru2⟩ := rv2.get hy
    have hzl : z < s.heap.objs.size := Heap.lt_size hz
    have Z : ZipSep2 z TI TO i1 i2 [i1, S.adr] [i2, S'.adr] :=
      ⟨D.TIz, D.TOz, D.TITO, D.TIi1, by simp, by simpa using ⟨D.i1z.symm, D.l1z.symm⟩, by simpa using ⟨D.TOi1, D.l1TO.symm⟩, D.TIi2, by simp, by simpa using ⟨D.i2z.symm, D.l2z.symm⟩, by simpa using ⟨D.TOi2, D.l2TO.symm⟩,
        by simpa using ⟨D.i12, D.l2i1.symm⟩, by simpa using ⟨D.i12.symm, D.l1i2.symm⟩⟩
    have l1 : i < xs.length := (List.getElem?_eq_some_iff.mp hx).1
    have l2 : i < ys.length := (List.getElem?_eq_some_iff.mp hy).1
    refine wpAny_pyNext_zipD2_item Z (dr X.A.in1 i1 (I.ok.hd hc) D.l1i1) (dr2 X.A.in1 i2 (I.ok.hd hc) D.l2i2) hz hTI hTO ⟨h1, p⟩ ⟨h2, p2⟩ l1 l2 fun x1 x2 h' tk e1 e2 z' TO' st1 st2 hT hsz hk => ?_
    rw [hu] at e1
    cases e1
    rw [hu2] at e2
    cases e2
    refine ⟨_, rfl, wpAny_letOwnedTupleGo_zip (s := { s with heap := h', toks := tk }) z' fun h'' z'' sb => ?_⟩
    have hT2 : h''.get? s.heap.objs.size = some { cls := .type "tuple", data := .seq #[u, u2] } := (sb.2 _ (Nat.ne_of_gt hzl)).trans hT
    have new : ObjOk X.prog X.w (upd H s.heap.objs.size (.tup [x, y])) h'' s.heap.objs.size (.tup [x, y]) :=
      ⟨by show 2 ≤ sizeLine; decide, [u, u2], .cons ru (.cons ru2 .nil), ⟨_, hT2, rfl, _, rfl⟩⟩
    have I1 : Inv X pins σ (upd H s.heap.objs.size (.tup [x, y])) { s with heap := h'', toks := tk } :=
      I.turnedNew (t' := tk) (ch := [z, TI, TO, i1, i2]) (fun c o hb q => (sb.2 c (fun q' => hb (by simp [q']))).trans (hk c o (fun q' => hb (by simp [q'])) (fun q' => hb (by simp [q'])) (fun q' => hb (by simp [q'])) (fun q' => hb (by simp [q'])) q)) hf (Nat.le_refl _) new
    refine ⟨.ref s.heap.objs.size, _, I1, rfl, ⟨_, x, y, rfl, I.hok.fresh (Nat.le_refl _), rfl, fun l hl => by rw [Sc.inj I hl hqx]; exact hx, fun l hl => by rw [Sc.inj I hl hqy]; exact hy⟩, ⟨by omega, by omega, z'', ?_, ⟨u, u2, ?_⟩, ?_, ?_⟩, fun c hcm => ?_⟩
    · exact (sb.2 _ D.TIz).trans (hk _ _ D.TIz D.TITO D.TIi1 D.TIi2 hTI)
    · exact (sb.2 _ D.TOz).trans TO'
    · exact Sc.st_at st1.1 fun o q => (sb.2 _ D.i1z).trans q
    · exact Sc.st_at st2.1 fun o q => (sb.2 _ D.i2z).trans q
    · have hlt : c < s.heap.objs.size := by
        have e' : c = z ∨ c = TI ∨ c = TO ∨ c = i1 ∨ c = i2 := by simpa using hcm
        rcases e' with q | q | q | q | q
        · rw [q]; exact hzl
        · rw [q]; exact Heap.lt_size hTI
        · rw [q]; exact Heap.lt_size hTO
        · rw [q]; obtain ⟨_, e1, _⟩ := Sc.st_obj h1; exact Heap.lt_size e1
        · rw [q]; obtain ⟨_, e2, _⟩ := Sc.st_obj h2; exact Heap.lt_size e2
      rw [upd_ne (Nat.ne_of_lt hlt)]
      exact (hf c hcm).1
  done := by
    intro X hP hw hK hc i pins s σ H E I hf st hg
    subst hP hw hK
    obtain ⟨le1, le2, hz, hTI, ⟨x0, y0, hTO⟩, h1, h2⟩ := st
    obtain ⟨xs, ys, hqx, hqy, en, em, hend⟩ := hg
    obtain ⟨its, SH, rv, p, _, _, dr⟩ := Sc.src I hqx
    obtain ⟨its2, SH2, rv2, p2, _, _, dr2⟩ := Sc.src I hqy
    have Z : ZipSep2 z TI TO i1 i2 [i1, S.adr] [i2, S'.adr] :=
      ⟨D.TIz, D.TOz, D.TITO, D.TIi1, by simp, by simpa using ⟨D.i1z.symm, D.l1z.symm⟩, by simpa using ⟨D.TOi1, D.l1TO.symm⟩, D.TIi2, by simp, by simpa using ⟨D.i2z.symm, D.l2z.symm⟩, by simpa using ⟨D.TOi2, D.l2TO.symm⟩,
        by simpa using ⟨D.i12, D.l2i1.symm⟩, by simpa using ⟨D.i12.symm, D.l1i2.symm⟩⟩
    exact wpAny_pyNext_zipD2_end Z (dr X.A.in1 i1 (I.ok.hd hc) D.l1i1) (dr2 X.A.in1 i2 (I.ok.hd hc) D.l2i2) hz hTI hTO ⟨h1, p⟩ ⟨h2, p2⟩ (by omega) (by omega) (by omega) fun h' tk hk => ⟨rfl, I.turnedL (t' := tk) (ch := [z, TI, TO, i1, i2]) (fun c o hb q =>
      hk c o (fun q' => hb (by simp [q'])) (fun q' => hb (by simp [q'])) (fun q' => hb (by simp [q'])) (fun q' => hb (by simp [q'])) q) hf⟩
  self := fun A i s Q E st h => wpAny_pyIter_zip st.2.2.1 h
end AT
set_option Elab.async false
set_option linter.all false
set_option maxRecDepth 100000
set_option maxHeartbeats 2000000
/-! AZ3: zip over data; written dicts as data. -/
namespace AT
open PySem PySem.Spec PyProof.Rows L2
def iZip2 (K : PySem.W.Frag) (ta : TA) : TI := fun σ H R => ta σ H fun vs H1 => ∃ S S' xs ys, vs = [.ref (Sc.adr S), .ref (Sc.adr S')] ∧ S.has K H1 xs ∧ S'.has K H1 ys ∧ R (ItZ K S S' xs.length ys.length) H1
theorem pi_zip2 {X : Cx} {e e2 : Expr} {ta : TA} {p pos tpos : Pos} {elts : List Expr} {kk : Nat} (hg : Gl X "zip") (hm : X.mg "zip" = none) (ha : PA X [e, e2] ta)
    (hs : starEach [e, e2] X.env = (false, eval e X.env) :: starEach [e2] X.env := by rfl) (hpl : (backTo pos (starEach [e2] X.env)).any (·.1) = false := by rfl) :
    PI X (.Tuple elts kk tpos) (.Call (.Name "zip" p) [e, e2] [] pos) (iZip2 X.K ta) := by
  refine ⟨fun pins s σ H R I h => ?_⟩
  refine Call_ (ld_blt I hg hm PyProof.Rows.boot_zip (PyProof.Rows.callWith_type1 (thn (ha.run pos pins s σ H _ I h) fun us s1 ⟨vs, H1, I1, r1, q1⟩ => ?_) hs hpl))
  obtain ⟨S, S', xs, ys, ex, hqx, hqy, q⟩ := q1
  subst ex
  cases r1 with
  | cons r rr =>
    cases rr with
    | cons r' rr =>
      cases rr
      cases r
      cases r'
      obtain ⟨its, SH, rv, p1, B1, ⟨o1, ho1⟩, _⟩ := Sc.src I1 hqx
      obtain ⟨its2, SH2, rv2, p2, B2, ⟨o2, ho2⟩, _⟩ := Sc.src I1 hqy
      have fresh5 : ∀ c, c ∈ [s1.heap.objs.size + 4, s1.heap.objs.size + 2, s1.heap.objs.size + 3, s1.heap.objs.size, s1.heap.objs.size + 1] → FpOk X pins H1 c := fun c hcm => by
        have e' : c = s1.heap.objs.size + 4 ∨ c = s1.heap.objs.size + 2 ∨ c = s1.heap.objs.size + 3 ∨ c = s1.heap.objs.size ∨ c = s1.heap.objs.size + 1 := by simpa using hcm
        have hle : s1.heap.objs.size ≤ c := by
          rcases e' with z | z | z | z | z
          · rw [z]; exact Nat.le_add_right _ _
          · rw [z]; exact Nat.le_add_right _ _
          · rw [z]; exact Nat.le_add_right _ _
          · rw [z]; exact Nat.le_refl _
          · rw [z]; exact Nat.le_add_right _ _
        exact I1.fpOk hle (I1.hok.fresh hle)
      refine zip_begins2 B1 B2 p1 p2 fun h' hz hTI hTO h1 h2 hsz hk => wpAny_pyIter_zip hz ?_
      have I2 : Inv X pins σ H1 { s1 with heap := h' } := I1.kept (t' := s1.toks) hk
      exact ⟨s1.heap.objs.size + 4, [s1.heap.objs.size + 4, s1.heap.objs.size + 2, s1.heap.objs.size + 3, s1.heap.objs.size, s1.heap.objs.size + 1], _, _, H1, rfl, I2, turn_zip2 (PySem.W.ktu_apart s1.heap.objs.size S.adr S'.adr (Heap.lt_size ho1) (Heap.lt_size ho2)), ⟨Nat.zero_le _, Nat.zero_le _, hz, hTI, ⟨_, _, hTO⟩, Sc.st_ob h1, Sc.st_ob h2⟩, fresh5, q⟩
/-! data as sources -/
section
variable {G : Gam} {F F0 F' H : Hp}
/-- v in F walks as ds -/
def SrcA (G : Gam) (F : Hp) (v : V) (ds : List D) : Prop := ∃ S vs, v = .ref (Sc.adr S) ∧ Ats G F vs ds ∧ ∀ F' H, Ext F F' → Same F' H → S.has G.K H vs
def zitF : D → Option (List D)
  | .lst xs => some xs
  | .tup xs => some xs
  | .scr ns => some (ns.map .int)
  | _ => none
theorem srcA_of {v : V} {x : D} {ds : List D} (h : At G F v x) (e : zitF x = some ds) : SrcA G F v ds := by
  cases h with
  | @tup a vs _ h1 h2 => cases e; exact ⟨.t a, vs, rfl, h2, fun F' H x s => (h1.ext x).sq s⟩
  | @lst a vs _ h1 h2 => cases e; exact ⟨.l a, vs, rfl, h2, fun F' H x s => sqL_sub s (x.sqL (SqL.of h1))⟩
  | @scr a ns h1 => cases e; exact ⟨.l a, _, rfl, Ats.of_ints ns, fun F' H x s => sqL_sub s (x.sqL h1)⟩
  | _ => cases e
theorem SrcA.ext {v : V} {ds : List D} (h : SrcA G F v ds) (x : Ext F F') : SrcA G F' v ds := by
  obtain ⟨S, vs, e, a, k⟩ := h
  exact ⟨S, vs, e, Ats.ext x a, fun F2 H x2 s => k F2 H (x.trans x2) s⟩
def zipL (xs ys : List D) : List D := List.zipWith (fun x y => .tup [x, y]) xs ys
theorem walks_zip {S S' : Sc} {vs ws : List V} {ds es : List D} (a1 : Ats G F0 vs ds) (a2 : Ats G F0 ws es) (h1 : ∀ F' H, Ext F0 F' → Same F' H → S.has G.K H vs) (h2 : ∀ F' H, Ext F0 F' → Same F' H → S'.has G.K H ws) : Walks G (ItZ G.K S S' vs.length ws.length) F0 (zipL ds es) := by
  intro i F H x hs
  have q1 := h1 F H x hs
  have q2 := h2 F H x hs
  have l1 := a1.length
  have l2 := a2.length
  refine ⟨fun d hd => ?_, fun hl => ?_⟩
  · unfold zipL at hd
    rw [List.getElem?_zipWith] at hd
    cases e1 : ds[i]? with
    | none => rw [e1] at hd; cases hd
    | some d1 =>
      cases e2 : es[i]? with
      | none => rw [e1, e2] at hd; cases hd
      | some d2 =>
        rw [e1, e2] at hd
        cases hd
        obtain ⟨v, r1, hv⟩ := a1.get e1
        obtain ⟨u, r2, hu⟩ := a2.get e2
        refine ⟨⟨vs, ws, v, u, q1, q2, r1, r2, rfl, rfl⟩, fun w H2 ⟨T, x', y', e3, hT, e4, f1, f2⟩ => ?_⟩
        have f1' := f1 vs q1
        rw [r1] at f1'
        cases f1'
        have f2' := f2 ws q2
        rw [r2] at f2'
        cases f2'
        subst e3 e4
        have g := Grow.at (.tup [v, u]) hs hT
        exact ⟨_, g, .tup (.inl upd_same) (.cons ((hv.ext x).ext g.ext) (.cons ((hu.ext x).ext g.ext) .nil))⟩
  · refine ⟨vs, ws, q1, q2, rfl, rfl, ?_⟩
    unfold zipL at hl
    rw [List.length_zipWith] at hl
    omega
end
section
variable {X : Cx} {G : Gam} {B : Ba} {W : WX} {ma mb : ME} {a b : Expr} {p pos tpos : Pos} {elts : List Expr} {kk : Nat}
def m_zip2 (ma mb : ME) : MA := fun ρ => (ma ρ).bind fun x ρ => (mb ρ).bind fun y ρ => match zitF x, zitF y with
  | some ds, some es => .ok (zipL ds es) ρ
  | _, _ => .bad
theorem di_zip2 (hG : X.K = G.K) (ha : PE X a (dE G B W ma)) (hb : PE X b (dE G B W mb)) (hm : X.mg "zip" = none) (hg : Gl X "zip" := by rfl) (hs : starEach [a, b] X.env = [(false, eval a X.env), (false, eval b X.env)] := by rfl) (hs2 : starEach [b] X.env = [(false, eval b X.env)] := by rfl) :
    PI X (.Tuple elts kk tpos) (.Call (.Name "zip" p) [a, b] [] pos) (dI G B W (m_zip2 ma mb)) := by
  refine PI.imp (pi_zip2 hg hm (pa_cons ha (pa_cons hb pa_nil hs2) (by rw [hs, hs2])) (by rw [hs, hs2]) (by rw [hs2] <;> rfl)) fun σ H R ⟨F, ρ, E, p⟩ => ⟨F, ρ, E, Post.mono (Post.bind p) fun x ρ1 F1 H1 x1 E1 p1 v hv => ⟨F1, ρ1, E1, Post.mono (Post.bind p1) fun y ρ2 F2 H2 x2 E2 p2 u hu => ?_⟩⟩
  split at p2
  · rename_i ds es hd he
    obtain ⟨S, vs, ev, av, kv⟩ := (srcA_of hv hd).ext x2
    obtain ⟨S', ws, eu, au, ku⟩ := srcA_of hu he
    subst ev eu
    exact ⟨S, S', vs, ws, rfl, by rw [hG]; exact kv F2 H2 (Ext.refl F2) E2.sub, by rw [hG]; exact ku F2 H2 (Ext.refl F2) E2.sub, p2 F2 H2 (Ext.refl F2) E2 _ (by rw [hG]; exact walks_zip av au kv ku)⟩
  · exact p2.elim
/-- a written dict: where, its keys -/
structure KDi (X : Cx) (x : Str) (a : Addr) (ks : List Str) : Prop where
  mg : X.mg x = some (.ref a)
  es : ∃ es ep, X.K.lookup a = some ⟨.type "dict", none, .dict es ep, #[]⟩ ∧ (a == sysModules) = false ∧ PySem.W.KeysLit X.w.params es.toList ∧ Vals (ks.map V.str) (es.toList.map DictEntry.key)
def m_zipK (ks : List Str) (mb : ME) : MA := fun ρ => (mb ρ).bind fun y ρ => match zitF y with
  | some es => .ok (zipL (ks.map .str) es) ρ
  | _ => .bad
theorem Ats.of_strs {F : Hp} : ∀ ks : List Str, Ats G F (ks.map V.str) (ks.map .str)
  | [] => .nil
  | k :: ks => .cons (.str k) (Ats.of_strs ks)
theorem di_zipK {x : Str} {ad : Addr} {ks : List Str} {q : Pos} (hG : X.K = G.K) (hk : KDi X x ad ks) (hb : PE X b (dE G B W mb)) (hm : X.mg "zip" = none) (hgx : Gl X x := by rfl) (hdx : (x == ("__debug__" : Str)) = false := by decide) (hg : Gl X "zip" := by rfl)
    (hs : starEach [.Name x q, b] X.env = [(false, eval (.Name x q) X.env), (false, eval b X.env)] := by rfl) (hs2 : starEach [b] X.env = [(false, eval b X.env)] := by rfl) :
    PI X (.Tuple elts kk tpos) (.Call (.Name "zip" p) [.Name x q, b] [] pos) (dI G B W (m_zipK ks mb)) := by
  obtain ⟨es, ep, h1, h2, h3, h4⟩ := hk.es
  refine PI.imp (pi_zip2 hg hm (pa_cons (pe_glob (v := .ref ad) hgx hk.mg rfl hdx) (pa_cons hb pa_nil hs2) (by rw [hs, hs2])) (by rw [hs, hs2]) (by rw [hs2] <;> rfl)) fun σ H R ⟨F, ρ, E, p⟩ => ⟨F, ρ, E, Post.mono (Post.bind p) fun y ρ2 F2 H2 x2 E2 p2 u hu => ?_⟩
  split at p2
  · rename_i es' he
    obtain ⟨S', ws, eu, au, ku⟩ := srcA_of hu he
    subst eu
    exact ⟨.d ad es ep, S', ks.map V.str, ws, rfl, ⟨h1, h2, h4⟩, by rw [hG]; exact ku F2 H2 (Ext.refl F2) E2.sub, p2 F2 H2 (Ext.refl F2) E2 _ (by rw [hG]; exact walks_zip (Ats.of_strs ks) au (fun _ _ _ _ => by rw [← hG]; exact ⟨h1, h2, h4⟩) ku)⟩
  · exact p2.elim
end
end AT
set_option Elab.async false
set_option linter.all false
set_option maxRecDepth 100000
set_option maxHeartbeats 2000000
/-! AK: calls by name; written dicts by key. -/
namespace AT
open PySem PySem.Spec PyProof.Rows L2
/-- in the order of the parameters -/
def permL {α : Type} (pm : List Nat) (xs : List α) : List α := pm.filterMap fun i => xs[i]?
/-- how a call by names alone binds behind n values -/
def KB (K : PySem.W.Frag) (fd : FuncData) (ps : List Str) (n : Nat) (ks : List Str) (pm : List Nat) : Prop :=
  ∀ (s : Shared) (us ws : List Value), K.In s.heap → us.length = n → ws.length = ks.length → BindsTo s fd ⟨us, ks.zip ws⟩ (ps.zip (us ++ permL pm ws))
theorem kb_of {K : PySem.W.Frag} {x qual : Str} {params : Arguments} {body : List Stmt} {scope : Scope} {kws : List (Str × V)} {f : Addr} {fd : FuncData} {ps : List Str} (F : FunD K x qual params body scope [] kws f fd) (n : Nat) (ks : List Str) (pm : List Nat)
    (h : ∀ (kV doc pv : Value) (an : Option Addr) (cdv ct : Value) (us ws : List Value), us.length = n → ws.length = ks.length → bindArgs (PySem.W.fnOf x qual params body scope .none kV doc pv an cdv ct) ⟨us, ks.zip ws⟩ = pure (ps.zip (us ++ permL pm ws))) : KB K fd ps n ks pm := by
  intro s us ws hK l1 l2
  obtain ⟨oc, od, dV, kV, doc, pv, an, cdv, ct, osl, rfl, lk, hcd, hD, hK'⟩ := F.ex
  rcases hD with ⟨_, rfl⟩ | ⟨e, _⟩
  · exact .of_eq (h kV doc pv an cdv ct us ws l1 l2)
  · exact absurd rfl e
structure OkK (P : Program) (w : World) (K : PySem.W.Frag) (mg : Str → Option Value) (base : Heap) (k : Nat) (f : Addr) (ps : List Str) (sp : Sp) (n : Nat) (ks : List Str) (pm : List Nat) : Prop where
  ex : ∃ fd, FnOk P w K mg base (L2.CX P w) k f fd ps sp ∧ PySem.W.keepIn K (.ref f) = true ∧ KB K fd ps n ks pm
theorem Ats.perm {G : Gam} {F : Hp} {vs : List V} {ds : List D} (h : Ats G F vs ds) : ∀ pm : List Nat, Ats G F (permL pm vs) (permL pm ds)
  | [] => .nil
  | i :: pm => by
    unfold permL
    rw [List.filterMap_cons, List.filterMap_cons]
    cases e : ds[i]? with
    | none =>
      have e2 : vs[i]? = none := by
        rw [List.getElem?_eq_none_iff] at e ⊢
        rw [h.length]
        exact e
      rw [e2]
      exact Ats.perm h pm
    | some d =>
      obtain ⟨v, e2, hv⟩ := h.get e
      rw [e2]
      exact .cons hv (Ats.perm h pm)
theorem Vals.perm {vs : List V} {us : List Value} (h : Vals vs us) : ∀ pm : List Nat, Vals (permL pm vs) (permL pm us)
  | [] => .nil
  | i :: pm => by
    unfold permL
    rw [List.filterMap_cons, List.filterMap_cons]
    cases e : vs[i]? with
    | none =>
      have e2 : us[i]? = none := by
        rw [List.getElem?_eq_none_iff] at e ⊢
        rw [← h.length]
        exact e
      rw [e2]
      exact Vals.perm h pm
    | some d =>
      obtain ⟨v, e2, hv⟩ := h.get e
      rw [e2]
      exact .cons hv (Vals.perm h pm)
section
variable {X : Cx} {G : Gam} {B : Ba} {W : WX} {a b e o : Expr} {es : List Expr} {kws : List Keyword} {ma mb : ME} {mr : MA} {pos p apos kpos : Pos} {x c f m : Str} {nm : Option Str} {Fm : List OV → Out D} {k n i : Nat} {g : Addr} {ps ks : List Str} {pm : List Nat}
theorem PK.imp {t t' : TA} (h : PK X kws t) (hi : ∀ σ H Q, t' σ H Q → t σ H Q) : PK X kws t' := ⟨fun pos pins s σ H Q I w => h.run pos pins s σ H Q I (hi σ H Q w)⟩
theorem dk_nil : PK X [] (dA G B W m_nil) := PK.imp pk_nil fun σ H Q ⟨F, ρ, E, p⟩ => p F H (Ext.refl F) E _ .nil
theorem dk_cons (ha : PE X e (dE G B W ma)) (hr : PK X kws (dA G B W mr)) : PK X (⟨nm, e, kpos⟩ :: kws) (dA G B W (m_cons ma mr)) :=
  PK.imp (pk_cons ha hr) fun σ H Q ⟨F, ρ, E, p⟩ => ⟨F, ρ, E, p.bind.mono fun x ρ1 F1 H1 x1 E1 p1 v hv => ⟨F1, ρ1, E1, p1.bind.mono fun xs ρ2 F2 H2 x2 E2 p2 vs hvs => p2 F2 H2 (Ext.refl F2) E2 _ (.cons (hv.ext x2) hvs)⟩⟩
/-- the arguments in the parameters' order -/
def m_perm (n : Nat) (pm : List Nat) (mr : MA) : MA := fun ρ => (lenOk n mr ρ).bind fun ds ρ => .ok (permL pm ds) ρ
theorem run_fnKD {CX : CXT} {fd : FuncData} {sp : Sp} {E : XK} {pins : List (Addr × Obj)} {σ : L2.St} {H : Hp} {s : Shared} {Q : VK} {us ws : List Value} {vs zs : List V} (F : FnOk X.prog X.w X.K X.mg X.base CX k g fd ps sp) (hr : Room k X.A) (hb : KB X.K fd ps n ks pm) (hx : PassesAt CX X σ E)
    (I : L2.Inv X pins σ H s) (r : Vals vs us) (rz : Vals zs ws) (l1 : vs.length = n) (l2 : zs.length = ks.length) (h : sp (vs ++ permL pm zs) H Q E) : wpAny (model X.prog X.w) X.A (call (.ref g) us (ks.zip ws)) (EP X pins σ Q) X.xe s := by
  have r2 : Vals (vs ++ permL pm zs) (us ++ permL pm ws) := r.append (Vals.perm rz pm)
  refine wpAny_call (codeAny_mono (F.run X.A X.stack s H ⟨us, ks.zip ws⟩ (us ++ permL pm ws) (vs ++ permL pm zs) Q E hr I.env0 (hb s us ws I.kIn (r.length.symm.trans l1) (rz.length.symm.trans l2)) r2 h) fun r s' hq => ?_)
  cases r with
  | error e => exact hx pins H s e s' I hq
  | ok fl =>
    cases fl with
    | ret u => exact I.after hq
    | next => exact False.elim hq
    | brk => exact False.elim hq
    | cont => exact False.elim hq
/-- f(k = v, ..) -/
theorem k_callK (O : OkK X.prog X.w X.K X.mg X.base k g ps (spOf G n Fm) 0 ks pm) (hl : pm.length = n) (hr : Room k X.A) (hm : X.mg x = some (.ref g)) (tk : Takes X W) (hkw : PK X kws (dA G B W mr))
    (hall : (backToKw pos (keywordEach kws X.env)).all (·.1.isSome) = true := by rfl) (hks : (backToKw pos (keywordEach kws X.env)).filterMap (·.1) = ks := by rfl) (hg : Gl X x := by rfl) (hdb : (x == ("__debug__" : Str)) = false := by decide)
    (hpl : ((backTo pos (starEach [] X.env)).any (·.1) || (backToKw pos (keywordEach kws X.env)).any (·.1.isNone)) = false := by rfl) :
    PE X (.Call (.Name x p) [] kws pos) (dE G B W (m_call Fm (lenOk n (m_perm ks.length pm mr)))) := by
  obtain ⟨fd, FO, hk, hb⟩ := O.ex
  constructor
  intro pins s σ H Q I ⟨F, ρ, E, q⟩
  refine wpAny_Call_Name_kw (ld_glob I hg hm ?_ hdb)
  refine PySem.W.callWith_KW0 (h₀ := X.base) I.ok.mod.kin hk hall (thn (hkw.run pos pins s σ H (fun zs H1 => zs.length = ks.length ∧ spOf G n Fm ([] ++ permL pm zs) H1 Q (WE W σ)) I ?_) fun ws s1 hh => ?_) hpl
  · refine ⟨F, ρ, E, Post.mono (Post.bind (Post.bind (Post.bind (Post.bind q)))) fun ds ρ1 F1 H1 x1 E1 p1 vs hv => ?_⟩
    by_cases hn : ds.length = ks.length
    · rw [if_pos hn] at p1
      have p2 := (p1 F1 H1 (Ext.refl F1) E1) F1 H1 (Ext.refl F1) E1
      dsimp only at p2
      by_cases hn2 : (permL pm ds).length = n
      · rw [if_pos hn2] at p2
        exact ⟨by rw [hv.length, hn], sp_pure E1 (hv.perm pm) hn2 (p2 F1 H1 (Ext.refl F1) E1)⟩
      · rw [if_neg hn2] at p2; exact p2.elim
    · rw [if_neg hn] at p1; exact p1.elim
  · obtain ⟨zs, H1, I1, r, l, q1⟩ := hh
    refine ⟨I1.kIn, ?_⟩
    rw [hks]
    exact run_fnKD (us := []) (vs := []) FO hr hb (passAt tk σ) I1 .nil r rfl l q1
/-- o.m(k = v, ..) -/
theorem k_methK {pl : Sem Bool} (c : Str) (hG : X.K = G.K) (hC : Cls G.K (G.C c)) (hmt : Meth G.K (G.C c) m g) (hfs : m ∉ G.fs c) (O : OkK X.prog X.w X.K X.mg X.base k g ps (spOf G (n + 1) Fm) 1 ks pm) (hr : Room k X.A) (tk : Takes X W)
    (ho : PE X o (dE G B W ma)) (hkw : PK X kws (dA G B W mr))
    (hall : (backToKw pos (keywordEach kws X.env)).all (·.1.isSome) = true := by rfl) (hks : (backToKw pos (keywordEach kws X.env)).filterMap (·.1) = ks := by rfl)
    (hpl : ((backTo pos (starEach [] X.env)).any (·.1) || (backToKw pos (keywordEach kws X.env)).any (·.1.isNone)) = false := by rfl)
    (ht : eval (.Call (.Attribute o m apos) [] kws pos) X.env = (do
      let ov ← eval o X.env
      standAt apos.atName
      let (f, first) ← holding [ov] (getMethod ov m pl)
      callWith pos f first (backTo pos (starEach [] X.env)) (backToKw pos (keywordEach kws X.env))) := by rfl) :
    PE X (.Call (.Attribute o m apos) [] kws pos) (dE G B W (m_meth c Fm ma (lenOk n (m_perm ks.length pm mr)))) := by
  obtain ⟨fd, FO, hk, hb⟩ := O.ex
  constructor
  intro pins s σ H Q I ⟨F, ρ, E, q⟩
  refine PySem.W.methodCall_KW (pl := pl) (thn (ho.run pins s σ H (fun v H1 => ∃ a dx fs, v = .ref a ∧ H1 a = some (.ins (G.C c) dx fs) ∧ fs.lookup m = none ∧ dA G B W mr σ H1 fun zs H2 => zs.length = ks.length ∧ spOf G (n + 1) Fm ([.ref a] ++ permL pm zs) H2 Q (WE W σ)) I ?_) fun u s1 hh => ?_) ht
  · refine ⟨F, ρ, E, q.bind.mono fun x ρ1 F1 H1 x1 E1 p1 v hv => ?_⟩
    cases hv with
    | @ins a dx c' vs ds h1 hl h2 =>
      simp only at p1
      by_cases hc : c' = c
      · rw [if_pos hc] at p1
        subst hc
        refine ⟨a, dx, _, rfl, E1.sub _ _ h1, no_meth hfs, F1, ρ1, E1, Post.mono (Post.bind (Post.bind (Post.bind (Post.bind p1)))) fun ys ρ2 F2 H2 x2 E2 p2 ws hw => ?_⟩
        by_cases hn : ys.length = ks.length
        · rw [if_pos hn] at p2
          have p3 := (p2 F2 H2 (Ext.refl F2) E2) F2 H2 (Ext.refl F2) E2
          dsimp only at p3
          by_cases hn2 : (permL pm ys).length = n
          · rw [if_pos hn2] at p3
            exact ⟨by rw [hw.length, hn], sp_meth E2 ((At.ins h1 hl h2).ext x2) (hw.perm pm) hn2 (p3 F2 H2 (Ext.refl F2) E2)⟩
          · rw [if_neg hn2] at p3; exact p3.elim
        · rw [if_neg hn] at p2; exact p2.elim
      · rw [if_neg hc] at p1; exact p1.elim
    | _ => exact p1.elim
  · obtain ⟨z, H1, I1, rx, a, dx, fs, rfl, ea, l, q⟩ := hh
    obtain rfl : u = Value.ref a := rx
    refine getmeth_ok I1 ea (by rw [hG]; exact hC) (by rw [hG]; exact hmt) l (PySem.W.callWith_KW0 (first := [.ref a]) (h₀ := X.base) I.ok.mod.kin hk hall (thn (hkw.run pos pins s1 σ H1 _ I1 q) fun ws s2 hh2 => ?_) hpl)
    obtain ⟨zs, H2, I2, r, l2, q2⟩ := hh2
    refine ⟨I2.kIn, ?_⟩
    rw [hks]
    exact run_fnKD (us := [.ref a]) (vs := [.ref a]) FO hr hb (passAt tk σ) I2 (.cons rfl .nil) r rfl l2 q2
/-- C(k = v, ..) -/
theorem run_makeKD {CX : CXT} {C : Addr} {fd : FuncData} {sp : Sp} {E : XK} {pins : List (Addr × Obj)} {σ : L2.St} {H : Hp} {s : Shared} {Q : VK} {ws : List Value} {zs : List V} (M : Mk X.K C g) (F : FnOk X.prog X.w X.K X.mg X.base CX k g fd ps sp) (hr : Room (k + 1) X.A) (hb : KB X.K fd ps 1 ks pm)
    (hx : PassesAt CX X σ E) (I : L2.Inv X pins σ H s) (rz : Vals zs ws) (l2 : zs.length = ks.length)
    (h : ∀ x dx, H x = none → H dx = none → dx ≠ x → sp (.ref x :: permL pm zs) (upd (upd H dx (.own x)) x (.ins C dx [])) (fun v H2 => v = .non ∧ Q (.ref x) H2) E) :
    wpAny (model X.prog X.w) X.A (call (.ref C) [] (ks.zip ws)) (EP X pins σ Q) X.xe s := by
  have hq := h (s.heap.objs.size + 1) s.heap.objs.size (I.hok.fresh (Nat.le_succ _)) (I.hok.fresh (Nat.le_refl _)) (Nat.ne_of_lt (Nat.lt_succ_self _))
  have I2 := Inv.made (C := C) I
  have r2 : Vals (V.ref (s.heap.objs.size + 1) :: permL pm zs) (Value.ref (s.heap.objs.size + 1) :: permL pm ws) := .cons rfl (Vals.perm rz pm)
  have e2 : ws.length = ks.length := rz.length.symm.trans l2
  refine wpAny_call (make_map (f := g) I.kIn M.makes M.init (beq_iff_eq.mp M.fn) (codeAny_mono (F.run _ X.stack _ _ ⟨[Value.ref (s.heap.objs.size + 1)], ks.zip ws⟩ (Value.ref (s.heap.objs.size + 1) :: permL pm ws) _ _ E (hr.make C [] (ks.zip ws))
    (I2.env0.make C [] (ks.zip ws)) (hb _ [Value.ref (s.heap.objs.size + 1)] ws I2.kIn rfl e2) r2 hq) fun r s' hq' => ?_))
  cases r with
  | error e => exact hx pins _ _ e s' I2 hq'
  | ok fl =>
    cases fl with
    | ret u =>
      obtain ⟨v, H', I3, rv, ev, q3⟩ := I2.after hq'
      subst ev
      exact ⟨rv, ⟨V.ref (s.heap.objs.size + 1), H', I3, rfl, q3⟩⟩
    | next => exact False.elim hq'
    | brk => exact False.elim hq'
    | cont => exact False.elim hq'
theorem k_makeK (c : Str) (nf : Nat) (hf : (G.fs c).length = nf) (M : Mk X.K (G.C c) g) (O : OkK X.prog X.w X.K X.mg X.base k g ps (spOf G (n + 1) Fm) 1 ks pm) (hr : Room (k + 1) X.A) (hm : X.mg x = some (.ref (G.C c))) (tk : Takes X W)
    (hkw : PK X kws (dA G B W mr))
    (hall : (backToKw pos (keywordEach kws X.env)).all (·.1.isSome) = true := by rfl) (hks : (backToKw pos (keywordEach kws X.env)).filterMap (·.1) = ks := by rfl) (hg : Gl X x := by rfl) (hdb : (x == ("__debug__" : Str)) = false := by decide)
    (hpl : ((backTo pos (starEach [] X.env)).any (·.1) || (backToKw pos (keywordEach kws X.env)).any (·.1.isNone)) = false := by rfl) :
    PE X (.Call (.Name x p) [] kws pos) (dE G B W (m_make c nf Fm (lenOk n (m_perm ks.length pm mr)))) := by
  obtain ⟨fd, FO, hk, hb⟩ := O.ex
  constructor
  intro pins s σ H Q I ⟨F, ρ, E, q⟩
  refine wpAny_Call_Name_kw (ld_glob I hg hm ?_ hdb)
  refine PySem.W.callWith_KW0 (h₀ := X.base) I.ok.mod.kin M.kp hall (thn (hkw.run pos pins s σ H (fun zs H1 => zs.length = ks.length ∧ ∀ y dx, H1 y = none → H1 dx = none → dx ≠ y → spOf G (n + 1) Fm (.ref y :: permL pm zs) (upd (upd H1 dx (.own y)) y (.ins (G.C c) dx [])) (fun v H2 => v = .non ∧ Q (.ref y) H2) (WE W σ)) I ?_) fun ws s1 hh => ?_) hpl
  · refine ⟨F, ρ, E, Post.mono (Post.bind (Post.bind (Post.bind (Post.bind q)))) fun ds ρ1 F1 H1 x1 E1 p1 vs hv => ?_⟩
    by_cases hn : ds.length = ks.length
    · rw [if_pos hn] at p1
      have p2 := (p1 F1 H1 (Ext.refl F1) E1) F1 H1 (Ext.refl F1) E1
      dsimp only at p2
      by_cases hn2 : (permL pm ds).length = n
      · rw [if_pos hn2] at p2
        exact ⟨by rw [hv.length, hn], fun y dx hy hdx hne => sp_make E1 (hv.perm pm) hn2 hf hy hdx hne (p2 F1 H1 (Ext.refl F1) E1)⟩
      · rw [if_neg hn2] at p2; exact p2.elim
    · rw [if_neg hn] at p1; exact p1.elim
  · obtain ⟨zs, H1, I1, r, l, q1⟩ := hh
    refine ⟨I1.kIn, ?_⟩
    rw [hks]
    exact run_makeKD M FO hr hb (passAt tk σ) I1 r l q1
/-! a written dict, by key -/
/-- u, a value of the text's top, is d -/
def kAtB (K : PySem.W.Frag) : Nat → Value → D → Bool
  | _, .none, .non => true
  | _, .bool b, .bl c => decide (b = c)
  | _, .int i _, .int j => decide (i = j)
  | _, .str x _, .str y => decide (x = y)
  | n + 1, .ref a, .tup ds => (match K.lookup a with
    | some ⟨.type t, _, .seq its _, _⟩ => decide (t = "tuple") && (decide (its.size ≤ sizeLine) && (decide (its.toList.length = ds.length) && (its.toList.zip ds).all fun p => kAtB K n p.1 p.2))
    | _ => false)
  | _, _, _ => false
theorem kAts_ok {G : Gam} {P : Value → D → Prop} (hP : ∀ u d, P u d → ∃ v, RelV v u ∧ ∀ F, At G F v d) : ∀ {us : List Value} {ds : List D}, us.length = ds.length → (∀ p ∈ us.zip ds, P p.1 p.2) → ∃ vs, Vals vs us ∧ ∀ F, Ats G F vs ds
  | [], [], _, _ => ⟨[], .nil, fun _ => .nil⟩
  | u :: us, d :: ds, hl, h => by
    obtain ⟨v, r, a⟩ := hP u d (h (u, d) (by simp))
    obtain ⟨vs, r2, a2⟩ := kAts_ok hP (us := us) (ds := ds) (by simpa using hl) fun p hp => h p (List.mem_cons_of_mem _ hp)
    exact ⟨v :: vs, .cons r r2, fun F => .cons (a F) (a2 F)⟩
  | [], _ :: _, hl, _ => by simp at hl
  | _ :: _, [], hl, _ => by simp at hl
theorem kAt_ok {G : Gam} : ∀ {n : Nat} {u : Value} {d : D}, kAtB G.K n u d = true → ∃ v, RelV v u ∧ ∀ F, At G F v d := by
  intro n
  induction n with
  | zero =>
    intro u d h
    unfold kAtB at h
    split at h
    · exact ⟨.non, rfl, fun _ => .non⟩
    · cases of_decide_eq_true h; exact ⟨.bl _, rfl, fun _ => .bl _⟩
    · cases of_decide_eq_true h; exact ⟨.int _, ⟨_, rfl⟩, fun _ => .int _⟩
    · cases of_decide_eq_true h; exact ⟨.str _, ⟨_, rfl⟩, fun _ => .str _⟩
    · rename_i e; cases e
    · cases h
  | succ n ih =>
    intro u d h
    unfold kAtB at h
    split at h
    · exact ⟨.non, rfl, fun _ => .non⟩
    · cases of_decide_eq_true h; exact ⟨.bl _, rfl, fun _ => .bl _⟩
    · cases of_decide_eq_true h; exact ⟨.int _, ⟨_, rfl⟩, fun _ => .int _⟩
    · cases of_decide_eq_true h; exact ⟨.str _, ⟨_, rfl⟩, fun _ => .str _⟩
    · rename_i n' a ds e
      cases e
      split at h
      · rename_i t od its nn sl e
        obtain ⟨h1, h2⟩ := He.ba h
        obtain ⟨h3, h4⟩ := He.ba h2
        obtain ⟨h5, h6⟩ := He.ba h4
        cases of_decide_eq_true h1
        obtain ⟨vs, r, as⟩ := kAts_ok (G := G) (P := fun u d => kAtB G.K n u d = true) (fun u d q => ih q) (of_decide_eq_true h5) fun p hp => List.all_eq_true.mp h6 p hp
        exact ⟨.ref a, rfl, fun F => .tup (.inr ⟨_, its, nn, e, rfl, rfl, of_decide_eq_true h3, r⟩) (as F)⟩
      · cases h
    · cases h
/-- the dict at a has d at each key -/
def kTabB (K : PySem.W.Frag) (a : Addr) (tab : List (Str × D)) : Bool := tab.all fun q => match PySem.W.nsIn K a q.1 with
  | some (some u) => kAtB K 5 u q.2
  | _ => false
theorem kTab_ok {G : Gam} {a : Addr} {tab : List (Str × D)} (h : kTabB G.K a tab = true) {x : Str} {d : D} (hq : tab.lookup x = some d) : ∃ u v, PySem.W.nsIn G.K a x = some (some u) ∧ RelV v u ∧ ∀ F, At G F v d := by
  have h2 := List.all_eq_true.mp h _ (lookup_mem' hq)
  cases e : PySem.W.nsIn G.K a x with
  | none => rw [e] at h2; cases h2
  | some r =>
    rw [e] at h2
    cases r with
    | none => cases h2
    | some u =>
      obtain ⟨v, r, q⟩ := kAt_ok h2
      exact ⟨u, v, rfl, r, q⟩
def m_kix (tab : List (Str × D)) (mb : ME) : ME := fun ρ => (mb ρ).bind fun x ρ => match x with
  | .str z => (match tab.lookup z with
    | some d => .ok d ρ
    | none => .bad)
  | _ => .bad
theorem de_ixK {ad : Addr} {tab : List (Str × D)} {q : Pos} (hG : X.K = G.K) (hk : KDi X x ad ks) (ht : kTabB G.K ad tab = true) (hb : PE X b (dE G B W mb)) (hs : PlainIx b := by intro _ _; rfl) (hgx : Gl X x := by rfl) (hdx : (x == ("__debug__" : Str)) = false := by decide) :
    PE X (.Subscript (.Name x q) b pos) (dE G B W (m_kix tab mb)) := by
  obtain ⟨es, ep, h1, h2, h3, h4⟩ := hk.es
  refine PE.imp (pe_ix ix_kdict (pe_glob (v := .ref ad) hgx hk.mg rfl hdx) hb hs) fun σ H Q ⟨F, ρ, E, p⟩ => ⟨F, ρ, E, p.bind.mono fun y ρ1 F1 H1 x1 E1 p1 v hv => ?_⟩
  cases hv with
  | str z =>
    simp only at p1
    split at p1
    · rename_i d e
      obtain ⟨u, v, e1, r, at_⟩ := kTab_ok ht e
      exact ⟨ad, z, v, rfl, rfl, ⟨es, ep, u, h1, h3, by rw [hG]; exact e1, r⟩, p1 F1 H1 (Ext.refl F1) E1 v (at_ F1)⟩
    · exact p1.elim
  | _ => exact p1.elim
end
end AT
set_option Elab.async false
set_option linter.all false
set_option maxRecDepth 100000
set_option maxHeartbeats 2000000
/-! AV: properties' defs in the head's hook; clean functions; constants of the text's top. -/
namespace AT
open PySem PySem.Spec PyProof.Rows L2
/-! a def's promise by a function that is easier to read -/
theorem spOf_imp {G : Gam} {n : Nat} {R Fm : List OV → Out D} (h : ∀ args, Fm args ≠ .bad → R args = Fm args) {vs : List V} {H : Hp} {Q : VK} {E : XK} (p : spOf G n Fm vs H Q E) : spOf G n R vs H Q E := by
  obtain ⟨hv, F, o, args, hs, ha, ho, hx, q⟩ := p
  refine ⟨hv, F, o, args, hs, ha, ho, hx, ?_⟩
  have e : R args = Fm args := h args fun z => by rw [z] at q; exact q
  rw [e]
  exact q
theorem fn_clean {P : Program} {w : World} {K : PySem.W.Frag} {mg : Str → Option Value} {base : Heap} {CX : CXT} {k : Nat} {f : Addr} {fd : FuncData} {ps : List Str} {G : Gam} {n : Nat} {R Fm : List OV → Out D}
    (F : FnOk P w K mg base CX k f fd ps (spOf G n R)) (h : ∀ args, Fm args ≠ .bad → R args = Fm args) : FnOk P w K mg base CX k f fd ps (spOf G n Fm) :=
  ⟨fun vs H Q E p => F.len vs H Q E (spOf_imp h p), fun A outer s H args us vs Q E hr e0 hb hv p => F.run A outer s H args us vs Q E hr e0 hb hv (spOf_imp h p)⟩
theorem fn_cleanG {P : Program} {w : World} {K : PySem.W.Frag} {mg : Str → Option Value} {base : Heap} {CX : CXT} {k : Nat} {f : Addr} {fd : FuncData} {ps : List Str} {G : Gam} {n : Nat} {R Fm : List OV → Out D}
    (F : FnG P w K mg base CX k f fd ps (spOf G n R)) (h : ∀ args, Fm args ≠ .bad → R args = Fm args) : FnG P w K mg base CX k f fd ps (spOf G n Fm) :=
  ⟨fun vs H Q E p => F.len vs H Q E (spOf_imp h p), fun A outer s H args us vs Q E hr hg e0 hb hv p => F.run A outer s H args us vs Q E hr hg e0 hb hv (spOf_imp h p)⟩
section
variable {X : Cx} {G : Gam} {B : Ba} {W : WX} {a : Expr} {ma : ME} {pos p : Pos} {x : Str}
/-- a number of the text's top -/
theorem k_gint {i : Int} (hm : ∃ t, X.mg x = some (.int i t)) (hg : Gl X x := by rfl) (hd : (x == ("__debug__" : Str)) = false := by decide) : PE X (.Name x p) (dE G B W (m_c (.int i))) := by
  obtain ⟨t, hm⟩ := hm
  exact PE.imp (pe_glob (v := .int i) hg hm ⟨t, rfl⟩ hd) fun σ H Q ⟨F, ρ, E, q⟩ => q F H (Ext.refl F) E _ (.int i)
theorem k_gstr {z : Str} (hm : ∃ t, X.mg x = some (.str z t)) (hg : Gl X x := by rfl) (hd : (x == ("__debug__" : Str)) = false := by decide) : PE X (.Name x p) (dE G B W (m_c (.str z))) := by
  obtain ⟨t, hm⟩ := hm
  exact PE.imp (pe_glob (v := .str z) hg hm ⟨t, rfl⟩ hd) fun σ H Q ⟨F, ρ, E, q⟩ => q F H (Ext.refl F) E _ (.str z)
def negF : D → Option D
  | .int i => some (.int (-i))
  | _ => none
theorem k_neg (ha : PE X a (dE G B W ma)) : PE X (.UnaryOp .USub a pos) (dE G B W (m_un negF ma)) := PE.imp (pe_un un_neg ha) fun σ H Q ⟨F, ρ, E, q⟩ => ⟨F, ρ, E, q.bind.mono fun d ρ1 F1 H1 x1 E1 p1 v hv => by
  cases hv with
  | int i => exact ⟨i, rfl, p1 F1 H1 (Ext.refl F1) E1 _ (.int _)⟩
  | _ => exact p1.elim⟩
end
namespace Hk
open PySem.W
def fnA (K : Frag) (a : Addr) : He.FnW := match K.lookup a with
  | some ⟨_, _, .func fd, _⟩ => some (fd.name, fd.qualname, fd.params, fd.body, fd.scope, fd.globals, fd.closure, fd.builtins)
  | _ => none
/-- where a property's getter stands -/
def pg (K : Frag) (c f : Str) : Addr := match recIn K (He.ma K (He.ga K c) f) "property" with
  | some (.ref g :: _) => g
  | _ => 0
def propB (K : Frag) (c f : Str) : Bool := He.eqO (findIn K (.ref (He.ga K c)) f) (some (some (.ref (He.ma K (He.ga K c) f)))) && (He.eqO (specialIn K (.ref (He.ma K (He.ga K c) f)) "__get__") (some (some (.builtin "property.__get__"))) &&
  (decide (takesIn K (.ref (He.ma K (He.ga K c) f)) = some true) && (match recIn K (He.ma K (He.ga K c) f) "property" with
    | some (.ref _ :: _) => true
    | _ => false)))
theorem propB_ok {K : Frag} {c f : Str} (h : propB K c f = true) : PropOf K (He.ga K c) f (He.ma K (He.ga K c) f) (pg K c f) := by
  unfold propB at h
  obtain ⟨h1, h⟩ := He.ba h
  obtain ⟨h2, h⟩ := He.ba h
  obtain ⟨h3, h4⟩ := He.ba h
  refine ⟨He.eqO_ok h1, He.eqO_ok h2, of_decide_eq_true h3, ?_⟩
  unfold pg
  split at h4
  · rename_i g rest e
    exact ⟨rest, by rw [e]⟩
  · cases h4
/-- a getter: class, name, the def -/
structure PDef where
  cls : Str
  f : Str
  qual : Str
  params : Arguments
  body : List Stmt
  scope : Scope
def PDef.val (d : PDef) : He.FnW := some (d.f, d.qual, d.params, .stmts d.body, d.scope, mainGlobals, [], builtinsNs)
def PDef.ok (K : Frag) (d : PDef) : Bool := propB K d.cls d.f && (keepIn K (.ref (pg K d.cls d.f)) && (match K.lookup (pg K d.cls d.f) with
  | some ⟨_, _, .func fd, _⟩ => codeIn K fd.code d.qual && (He.dflB K fd.defaults [] && He.kwdB K fd.kwdefaults [])
  | _ => false))
theorem PDef.funD {K : Frag} {d : PDef} (e : fnA K (pg K d.cls d.f) = d.val) (c : d.ok K = true) : PropOf K (He.ga K d.cls) d.f (He.ma K (He.ga K d.cls) d.f) (pg K d.cls d.f) ∧ ∃ fd, FunD K d.f d.qual d.params d.body d.scope [] [] (pg K d.cls d.f) fd := by
  obtain ⟨c1, c⟩ := He.ba c
  refine ⟨propB_ok c1, ?_⟩
  obtain ⟨kp, c2⟩ := He.ba c
  unfold fnA at e
  cases q : K.lookup (pg K d.cls d.f) with
  | none =>
    rw [q] at c2
    cases c2
  | some o =>
    obtain ⟨oc, od, dt, osl⟩ := o
    rw [q] at c2 e
    cases dt with
    | func fd =>
      obtain ⟨n1, n2, n3, n4, n5, n6, n7, n8, n9, n10, n11, n12, n13, n14, n15⟩ := fd
      have e2 : (some (n1, n2, n3, n4, n5, n6, n7, n15) : He.FnW) = some (d.f, d.qual, d.params, .stmts d.body, d.scope, mainGlobals, [], builtinsNs) := e
      simp only [Option.some.injEq, Prod.mk.injEq] at e2
      obtain ⟨h1, h2, h3, h4, h5, h6, h7, h8⟩ := e2
      subst h1 h2 h3 h4 h5 h6 h7 h8
      have c3 : (codeIn K n13 d.qual && (He.dflB K n8 [] && He.kwdB K n9 [])) = true := c2
      obtain ⟨k1, k2⟩ := He.ba c3
      obtain ⟨k3, k4⟩ := He.ba k2
      exact ⟨_, ⟨oc, od, n8, n9, n10, n11, n12, n13, n14, osl, rfl, q, k1, He.dflB_ok k3, He.kwdB_ok k4⟩, kp⟩
    | _ => cases c2
/-! the Hook with getters -/
abbrev AlB : Type := AlA × List He.FnW
def obsB (P : Program) (fa : List He.Fa) (fn : List He.DefD) (ts : List He.Tab) (es : List EDef) (ps : List PDef) (ex : Frag → Bool) (K : Frag) : AlB :=
  (obsA P fa fn ts es (fun K => (ps.all fun d => d.ok K) && ex K) K, ps.map fun d => fnA K (pg K d.cls d.f))
def valB (fn : List He.DefD) (ts : List He.Tab) (es : List EDef) (ps : List PDef) (w : World) : AlB := (valA fn ts es w, ps.map PDef.val)
def SaysB (P : Program) (fa : List He.Fa) (fn : List He.DefD) (ts : List He.Tab) (es : List EDef) (ps : List PDef) (ex : Frag → Bool) (w : World) (K : Frag) : Prop := obsB P fa fn ts es ps ex K = valB fn ts es ps w
def hookB (P : Program) (n : Nat) (fa : List He.Fa) (fn : List He.DefD) (ts : List He.Tab) (es : List EDef) (ps : List PDef) (ex : Frag → Bool) : Hook where
  α := AlB
  obs := fun s => obsB P fa fn ts es ps ex (frA n s.heap.get?)
  val := fun w => valB fn ts es ps w
  says := fun w h => ∃ K : Frag, K.In h ∧ SaysB P fa fn ts es ps ex w K
  of := fun _ _ e => ⟨_, He.frG_in, e⟩
  keeps := fun _ _ _ ⟨K, hK, c⟩ k => ⟨K, Frag.In.keeps hK k, c⟩
theorem obsB_eq {P : Program} {n : Nat} {fa : List He.Fa} {fn : List He.DefD} {ts : List He.Tab} {es : List EDef} {ps : List PDef} {ex : Frag → Bool} {g : Addr → Option Obj} {s : Shared} (h : ∀ a, g a = s.heap.get? a) : obsB P fa fn ts es ps ex (frA n g) = (hookB P n fa fn ts es ps ex).obs s := by
  have e : g = s.heap.get? := funext h
  rw [e] <;> rfl
section
variable {P : Program} {fa : List He.Fa} {fn : List He.DefD} {ts : List He.Tab} {es : List EDef} {ps : List PDef} {ex : Frag → Bool} {w : World} {K : Frag}
theorem SaysB.a (c : SaysB P fa fn ts es ps ex w K) : SaysA P fa fn ts es (fun K => (ps.all fun d => d.ok K) && ex K) w K := congrArg (fun z : AlB => z.1) c
theorem SaysB.ex_ (c : SaysB P fa fn ts es ps ex w K) : ex K = true := (He.ba c.a.b.2).2
theorem SaysB.prop (c : SaysB P fa fn ts es ps ex w K) (i : Nat) {d : PDef} (h : ps[i]? = some d := by rfl) : PropOf K (He.ga K d.cls) d.f (He.ma K (He.ga K d.cls) d.f) (pg K d.cls d.f) ∧ ∃ fd, FunD K d.f d.qual d.params d.body d.scope [] [] (pg K d.cls d.f) fd := by
  have e : ps.map (fun d => fnA K (pg K d.cls d.f)) = ps.map PDef.val := congrArg (fun z : AlB => z.2) c
  have e2 : (ps.map (fun d => fnA K (pg K d.cls d.f)))[i]? = (ps.map PDef.val)[i]? := by rw [e]
  rw [List.getElem?_map, List.getElem?_map, h] at e2
  exact PDef.funD (Option.some.inj e2) (List.all_eq_true.mp (He.ba c.a.b.2).1 d (List.mem_of_getElem? h))
/-- a written dict, its keys -/
theorem SaysB.dic (c : SaysB P fa fn ts es ps ex w K) (i : Nat) {a : Frag → Addr} {ks : List Str} (h : ts[i]? = some (a, ks) := by rfl) : He.dicW K (a K) = some (He.keysIn w.params ks) := by
  have e : ts.map (fun t => He.dicW K (t.1 K)) = ts.map fun t => some (He.keysIn w.params t.2) := congrArg (fun z : He.AlT => z.2) (SaysA.t c.a)
  have e2 : (ts.map fun t => He.dicW K (t.1 K))[i]? = (ts.map fun t => some (He.keysIn w.params t.2))[i]? := by rw [e]
  rw [List.getElem?_map, List.getElem?_map, h] at e2
  exact Option.some.inj e2
end
theorem keys_rel {w : World} : ∀ {es : List DictEntry} {ks : List Str}, es.map He.keyOf = He.keysIn w.params ks → Vals (ks.map V.str) (es.map DictEntry.key)
  | [], [], _ => .nil
  | [], _ :: _, h => by cases h
  | _ :: _, [], h => by cases h
  | e :: es, k :: ks, h => by
    have h1 : He.keyOf e :: es.map He.keyOf = some (k, PyData.keyHash w.params k) :: He.keysIn w.params ks := h
    injection h1 with h2 h3
    refine .cons ?_ (keys_rel h3)
    unfold He.keyOf at h2
    split at h2
    · rename_i x t q
      obtain ⟨h5, _⟩ := Prod.mk.inj (Option.some.inj h2)
      rw [q, ← h5]
      exact ⟨t, rfl⟩
    · cases h2
theorem dic_ok {K : Frag} {w : World} {a : Addr} {ks : List Str} (h : He.dicW K a = some (He.keysIn w.params ks)) : ∃ es ep, K.lookup a = some ⟨.type "dict", none, .dict es ep, #[]⟩ ∧ (a == sysModules) = false ∧ KeysLit w.params es.toList ∧ Vals (ks.map V.str) (es.toList.map DictEntry.key) := by
  obtain ⟨es, ep, ⟨a1, a2, a3⟩⟩ := He.dicW_ok h
  refine ⟨es, ep, a1, a3, a2, ?_⟩
  unfold He.dicW at h
  rw [a1] at h
  have h : (match decide ("dict" = "dict") && ((#[] : Array (Option Value)).isEmpty && !(a == sysModules)) with
    | true => some (es.toList.map He.keyOf)
    | false => none) = some (He.keysIn w.params ks) := h
  rw [a3] at h
  exact keys_rel (Option.some.inj h)
end Hk
end AT
set_option Elab.async false
set_option linter.all false
set_option maxRecDepth 100000
set_option maxHeartbeats 2000000
/-! AV2: the law's draws: begin and take, as plain functions. -/
namespace AT
open PySem PySem.Spec PyProof.Rows L2
structure OkB (P : Program) (w : World) (K : PySem.W.Frag) (mg : Str → Option Value) (base : Heap) (k : Nat) (f : Addr) (ps : List Str) : Prop where
  ex : ∃ fd, FnOk P w K mg base (L2.CX P w) k f fd ps (spBegin K) ∧ PySem.W.keepIn K (.ref f) = true ∧ Binds K fd ps []
theorem k_begin {X : Cx} {G : Gam} {B : Ba} {W : WX} {kr : Nat} {f : Addr} {ps : List Str} {x y z : Str} {p p2 py pz pos pos' : Pos} (i k : Nat) (hB : B.args.length ≤ i) (hG : X.K = G.K) (O : OkB X.prog X.w X.K X.mg X.base kr f ps) (hr : Room kr X.A) (hm : X.mg z = some (.ref f)) (tk : Takes X W) (hNd : X.N.Nodup)
    (hN : X.N[k]? = some x := by rfl) (hv : Vis X.env.scope x := by first | exact Or.inl rfl | exact Or.inr (Or.inl rfl) | exact Or.inr (Or.inr rfl)) (hd : (x == ("__debug__" : Str)) = false := by decide) (hcd : (x == ("__classdict__" : Str)) = false := by decide)
    (hi : X.N[i]? = some y := by rfl) (hx : Loc X.env.scope y := by first | exact .inl rfl | exact .inr rfl) (hg : Gl X z := by rfl) (hdb : (z == ("__debug__" : Str)) = false := by decide)
    (he : starEach [.Name x p] X.env = (false, eval (.Name x p) X.env) :: starEach [] X.env := by rfl) (hpl : (backTo p2 (starEach [] X.env)).any (·.1) = false := by rfl)
    (hs : swapsWith (.Call (.Name z pz) [.Name x p] [] p2) (some (.Name y py)) pos.line X.env = pure false := by rfl) (hf : X.fn y = true ∨ X.env.scope.names.lookup y = some .local := by first | exact .inl rfl | exact .inr rfl) :
    PS X (.Assign [.Name y py] (.Call (.Name z pz) [.Name x p] [] p2) pos) (dS G B W (s_begin i k)) := by
  obtain ⟨fd, FO, hk, hb⟩ := O.ex
  exact ds_begin (pos' := pos') i k hB hG FO hr hm hk hb tk hNd hN hv hd hcd hi hx hg hdb he hpl hs hf
/-! begin -/
theorem lcF_t {vs : List Nat} {g : MG} {tt : MT} {me : ME} {d x : D} {ds xs : List D} {ρ ρ1 ρ2 ρ3 ρ4 : En} (h1 : g d ρ = some ρ1) (h2 : tt ρ1 = .ok true ρ2) (h3 : me ρ2 = .ok x ρ3) (h4 : lcF vs g tt me ds (wipeE ρ3 vs) = .ok xs ρ4) : lcF vs g tt me (d :: ds) ρ = .ok (x :: xs) ρ4 := by
  rw [lcF]
  simp only [h1, h2, h3, h4]
theorem lcF_f {vs : List Nat} {g : MG} {tt : MT} {me : ME} {d : D} {ds : List D} {ρ ρ1 ρ2 : En} {r : Out (List D)} (h1 : g d ρ = some ρ1) (h2 : tt ρ1 = .ok false ρ2) (h4 : lcF vs g tt me ds (wipeE ρ2 vs) = r) : lcF vs g tt me (d :: ds) ρ = r := by
  rw [lcF]
  simp only [h1, h2, h4]
def bT : MT := m_tst tstB (m_op (cF fun i j => decide (j ≤ i)) (m_un absF (m_pk 2)) (m_op (iC powB fun i j => i ^ j.toNat) (m_c (.int 10)) (m_c (.int 18))))
def bE : ME := m_un absF (m_pk 2)
def m_large : MS := s_setO 1 (m_lc [2] (m_it (m_v 0)) (g_name 2) bT bE)
theorem lcF_big (x0 x1 : OV) : ∀ (ns : List Int), lcF [2] (g_name 2) bT bE (ns.map .int) [x0, x1, .un] = .ok ((bigs ns).map .int) [x0, x1, .un]
  | [] => rfl
  | n :: ns => by
    have ih := lcF_big x0 x1 ns
    have e : (if n < 0 then -n else n) = (n.natAbs : Int) := by split <;> omega
    have ht : bT [x0, x1, .fr (.int n)] = .ok (decide (10 ^ 18 ≤ n.natAbs)) [x0, x1, .fr (.int n)] := by
      show Out.ok (decide ((10 : Int) ^ 18 ≤ (if n < 0 then -n else n))) [x0, x1, OV.fr (.int n)] = _
      rw [e]
      congr 1
      apply decide_eq_decide.mpr
      constructor <;> intro h <;> omega
    have hv : bE [x0, x1, .fr (.int n)] = .ok (.int (n.natAbs : Int)) [x0, x1, .fr (.int n)] := by
      show Out.ok (D.int (if n < 0 then -n else n)) [x0, x1, OV.fr (.int n)] = _
      rw [e]
    unfold bigs at ih ⊢
    rw [List.filter_cons, List.map_cons]
    by_cases h : 10 ^ 18 ≤ n.natAbs
    · rw [decide_eq_true h] at ht ⊢
      exact lcF_t rfl ht hv ih
    · rw [decide_eq_false h] at ht ⊢
      exact lcF_f rfl ht ih
theorem begin_ok (ns : List Int) (h : ns.length ≤ 1000) : ∃ ρ, m_large (.fr (.scr ns) :: List.replicate 2 .un) = .ok .nx ρ ∧ ρ[1]? = some (.ol ((bigs ns).map .int)) ∧ ρ[0]? = some (.fr (.scr ns)) := by
  refine ⟨[.fr (.scr ns), .ol ((bigs ns).map .int), .un], ?_, rfl, rfl⟩
  have hl : (ns.map D.int).length ≤ LINE := by rw [List.length_map]; unfold LINE; omega
  have e : m_lc [2] (m_it (m_v 0)) (g_name 2) bT bE [.fr (.scr ns), .un, .un] = .ok ((bigs ns).map .int) [.fr (.scr ns), .un, .un] := by
    have h1 : m_it (m_v 0) [.fr (.scr ns), .un, .un] = .ok (ns.map .int) [.fr (.scr ns), .un, .un] := rfl
    unfold m_lc
    rw [h1]
    simp only [Out.bind]
    rw [if_pos (by rfl), if_pos hl, show wipeE [OV.fr (.scr ns), .un, .un] [2] = [OV.fr (.scr ns), .un, .un] from rfl, lcF_big] <;> rfl
  show (s_setO 1 (m_lc [2] (m_it (m_v 0)) (g_name 2) bT bE)) [.fr (.scr ns), .un, .un] = _
  unfold s_setO
  rw [e] <;> rfl
/-! take -/
theorem forF_nx {g : MG} {body : MS} {d : D} {ds : List D} {ρ ρ1 ρ2 : En} {r : Out Fl} (h1 : g d ρ = some ρ1) (h2 : body ρ1 = .ok .nx ρ2) (h3 : forF g body ds ρ2 = r) : forF g body (d :: ds) ρ = r := by
  rw [forF]
  simp only [h1, h2, h3]
def tk0 : MT := m_tst tstB (m_op eqG (m_drI 0 .rest) (m_c (.int 0)))
def tkB : MS := s_drI 0 .mix (m_op (iC posB fun i j => i % j) (m_un intF (m_op addF (m_op addF (m_op (iC mulB fun i j => i * j) (m_drI 0 .mix) (m_c (.int 69621))) (m_opP (iC mulB fun i j => i * j) 2 (m_c (.int 48271)))) (m_c (.int 12345)))) (m_c (.int 2147483629)))
def tkA : MS := s_drI 0 .turn (m_op addF (m_drI 0 .turn) (m_c (.int 1)))
def tkC : MS := s_drI 0 .rest (m_op (iC posB fun i j => i % j) (m_un intF (m_op (iC powB fun i j => i ^ j.toNat) (m_drI 0 .mix) (m_c (.int 5)))) (m_c (.int 2305843009213693951)))
def tkD : MS := s_asg (m_biA divmodF (m_cons (m_drI 0 .rest) (m_cons (m_v 1) m_nil))) (g_tup 2 (g_cons (g_drI 0 .rest) (g_cons (g_name 3) g_nil)))
def m_take : MS := s_seq (s_if (m_and tk0 (m_tst tstB (m_drNE 0))) (s_drPop 0) (s_if tk0 (s_seq tkA (s_seq (s_for (m_it (m_drC 0)) (g_name 2) tkB) tkC)) s_nil)) (s_seq tkD (s_ret (m_v 3)))
def mix1 (m c : Int) : Int := (m * 69621 + c * 48271 + 12345) % 2147483629
def mixes (m : Int) (cs : List Int) : Int := cs.foldl mix1 m
theorem mix1_r (m c : Int) : 0 ≤ mix1 m c ∧ mix1 m c < 2147483629 := by
  unfold mix1
  constructor <;> omega
theorem mixes_r (cs : List Int) : ∀ m : Int, 0 ≤ m ∧ m < 2147483629 → 0 ≤ mixes m cs ∧ mixes m cs < 2147483629 := by
  induction cs with
  | nil => exact fun m h => h
  | cons c cs ih => exact fun m _ => ih _ (mix1_r m c)
def Dr.next (s : Dr) : Dr := if s.rest = 0 then match s.large with
  | n :: r => { s with large := r, rest := n }
  | [] => { s with turn := s.turn + 1, mix := mixes s.mix ((s.turn + 1) :: s.cells), rest := mixes s.mix ((s.turn + 1) :: s.cells) ^ 5 % 2305843009213693951 }
  else s
def Dr.draw (s : Dr) (m : Int) : Dr := { s.next with rest := s.next.rest / m }
def Dr.got (s : Dr) (m : Int) : Int := s.next.rest % m
structure Dr.Ok (s : Dr) : Prop where
  m0 : 0 ≤ s.mix
  m1 : s.mix < 2147483629
  cl : s.cells.length ≤ 1000
instance (s : Dr) : Decidable s.Ok := decidable_of_iff (0 ≤ s.mix ∧ s.mix < 2147483629 ∧ s.cells.length ≤ 1000) ⟨fun ⟨a, b, c⟩ => ⟨a, b, c⟩, fun ⟨a, b, c⟩ => ⟨a, b, c⟩⟩
theorem Dr.Ok.next {s : Dr} (h : s.Ok) : s.next.Ok := by
  unfold Dr.next
  split
  · split
    · exact ⟨h.m0, h.m1, h.cl⟩
    · have r := mixes_r ((s.turn + 1) :: s.cells) s.mix ⟨h.m0, h.m1⟩
      exact ⟨r.1, r.2, h.cl⟩
  · exact h
theorem Dr.Ok.draw {s : Dr} (h : s.Ok) (m : Int) : (s.draw m).Ok := ⟨h.next.m0, h.next.m1, h.next.cl⟩
theorem Dr.got_r (s : Dr) {m : Int} (h : 0 < m) : 0 ≤ s.got m ∧ s.got m < m := ⟨Int.emod_nonneg _ (by omega), Int.emod_lt_of_pos _ h⟩
def takeF : List OV → Out D
  | [.dr s, .fr (.int m)] => if s.Ok ∧ 0 < m ∧ m < 1073741824 then .ok (.int (s.got m)) [.dr (s.draw m), .fr (.int m)] else .bad
  | _ => .bad
theorem tk_for (x1 x3 : OV) : ∀ (cs : List Int) (s : Dr) (x2 : OV), 0 ≤ s.mix ∧ s.mix < 2147483629 → ∃ y2, forF (g_name 2) tkB (cs.map .int) [.dr s, x1, x2, x3] = .ok .nx [.dr { s with mix := mixes s.mix cs }, x1, y2, x3]
  | [], s, x2, _ => ⟨x2, rfl⟩
  | c :: cs, s, x2, h => by
    have hb : tkB [.dr s, x1, .fr (.int c), x3] = .ok .nx [.dr { s with mix := mix1 s.mix c }, x1, .fr (.int c), x3] := by
      have p1 : mulB s.mix 69621 = true := by
        have a : decide (-(2 ^ 64) < (69621 : Int)) = true := by decide
        have b : decide ((69621 : Int) < 2 ^ 64) = true := by decide
        unfold mulB
        rw [a, b]
        simp
      have p2 : mulB c 48271 = true := by
        have a : decide (-(2 ^ 64) < (48271 : Int)) = true := by decide
        have b : decide ((48271 : Int) < 2 ^ 64) = true := by decide
        unfold mulB
        rw [a, b]
        simp
      simp [tkB, s_drI, m_op, m_un, m_drI, m_c, m_opP, peek, Out.bind, ofO, iC, addF, intF, p1, p2, posB, Dr.get, Dr.put, mix1]
    obtain ⟨y2, e⟩ := tk_for x1 x3 cs { s with mix := mix1 s.mix c } (.fr (.int c)) (mix1_r _ _)
    exact ⟨y2, forF_nx rfl hb e⟩
theorem tk0_ok (s : Dr) (x1 x2 x3 : OV) : tk0 [.dr s, x1, x2, x3] = .ok (decide (s.rest = 0)) [.dr s, x1, x2, x3] := by
  have e : eqG (.int s.rest) (.int 0) = some (.bl (decide (s.rest = 0))) := rfl
  simp [tk0, m_tst, m_op, m_drI, m_c, Out.bind, ofO, Dr.get, e, tstB]
theorem tk_first (s : Dr) (m : Int) (h : s.Ok) : ∃ y2, (s_if (m_and tk0 (m_tst tstB (m_drNE 0))) (s_drPop 0) (s_if tk0 (s_seq tkA (s_seq (s_for (m_it (m_drC 0)) (g_name 2) tkB) tkC)) s_nil)) [.dr s, .fr (.int m), .un, .un] = .ok .nx [.dr s.next, .fr (.int m), y2, .un] := by
  by_cases h0 : s.rest = 0
  · cases hl : s.large with
    | cons n r =>
      refine ⟨.un, ?_⟩
      simp [s_if, m_and, tk0_ok, Out.bind, h0, m_tst, m_drNE, hl, ofO, tstB, s_drPop, Dr.next]
    | nil =>
      obtain ⟨y2, e⟩ := tk_for (.fr (.int m)) .un ((s.turn + 1) :: s.cells) { s with turn := s.turn + 1 } .un ⟨h.m0, h.m1⟩
      refine ⟨y2, ?_⟩
      have eA : tkA [.dr s, .fr (.int m), .un, .un] = .ok .nx [.dr { s with turn := s.turn + 1 }, .fr (.int m), .un, .un] := by
        simp [tkA, s_drI, m_op, m_drI, m_c, Out.bind, ofO, addF, Dr.get, Dr.put]
      have hc : s.cells.length < LINE := by have := h.cl; unfold LINE; omega
      have eF : s_for (m_it (m_drC 0)) (g_name 2) tkB [.dr { s with turn := s.turn + 1 }, .fr (.int m), .un, .un] = .ok .nx [.dr { s with turn := s.turn + 1, mix := mixes s.mix ((s.turn + 1) :: s.cells) }, .fr (.int m), y2, .un] := by
        have e1 : m_it (m_drC 0) [.dr { s with turn := s.turn + 1 }, .fr (.int m), .un, .un] = .ok (((s.turn + 1) :: s.cells).map .int) [.dr { s with turn := s.turn + 1 }, .fr (.int m), .un, .un] := by
          simp [m_it, m_drC, hc, Out.bind, ofO, itemsF]
        unfold s_for
        rw [e1]
        exact e
      have r := mixes_r ((s.turn + 1) :: s.cells) s.mix ⟨h.m0, h.m1⟩
      have eC : ∀ y : OV, tkC [.dr { s with turn := s.turn + 1, mix := mixes s.mix ((s.turn + 1) :: s.cells) }, .fr (.int m), y, .un] = .ok .nx [.dr s.next, .fr (.int m), y, .un] := by
        intro y
        have p : powB (mixes s.mix ((s.turn + 1) :: s.cells)) 5 = true := by
          have a : decide ((mixes s.mix ((s.turn + 1) :: s.cells)).natAbs < 2 ^ 64) = true := decide_eq_true (by omega)
          unfold powB
          rw [a]
          decide
        simp [tkC, s_drI, m_op, m_un, m_drI, m_c, Out.bind, ofO, iC, intF, p, posB, Dr.get, Dr.put, Dr.next, h0, hl]
      have t1 : tk0 [.dr s, .fr (.int m), .un, .un] = .ok true [.dr s, .fr (.int m), .un, .un] := by rw [tk0_ok, decide_eq_true h0]
      have t2 : (m_and tk0 (m_tst tstB (m_drNE 0))) [.dr s, .fr (.int m), .un, .un] = .ok false [.dr s, .fr (.int m), .un, .un] := by
        simp [m_and, t1, Out.bind, m_tst, m_drNE, hl, ofO, tstB]
      simp only [s_if, t2, t1, Out.bind, s_seq, eA, eF, eC, Bool.false_eq_true, if_false, if_true]
  · refine ⟨.un, ?_⟩
    have e : s.next = s := by unfold Dr.next; rw [if_neg h0]
    have t1 : tk0 [.dr s, .fr (.int m), .un, .un] = .ok false [.dr s, .fr (.int m), .un, .un] := by rw [tk0_ok, decide_eq_false h0]
    simp [s_if, m_and, t1, Out.bind, s_nil, e]
theorem tk_last (t : Dr) (m : Int) (y : OV) (h0 : 0 < m) (h1 : m < 1073741824) : (s_seq tkD (s_ret (m_v 3))) [.dr t, .fr (.int m), y, .un] = .ok (.ret (.int (t.rest % m))) [.dr { t with rest := t.rest / m }, .fr (.int m), y, .fr (.int (t.rest % m))] := by
  simp [s_seq, tkD, s_asg, m_biA, m_cons, m_drI, m_v, m_nil, Out.bind, ofO, divmodF, h0, h1, g_tup, g_cons, g_drI, g_name, g_nil, Dr.get, Dr.put, s_ret]
theorem clean_take : ∀ args, takeF args ≠ .bad → runF 2 4 m_take args = takeF args := by
  intro args h
  unfold takeF at h ⊢
  split at h
  · rename_i s m
    split at h
    · rename_i c
      rw [if_pos c]
      obtain ⟨y2, e1⟩ := tk_first s m c.1
      have e2 := tk_last s.next m y2 c.2.1 c.2.2
      have e : m_take ([OV.dr s, .fr (.int m)] ++ List.replicate (4 - 2) .un) = .ok (.ret (.int (s.next.rest % m))) [.dr { s.next with rest := s.next.rest / m }, .fr (.int m), y2, .fr (.int (s.next.rest % m))] := by
        show m_take [OV.dr s, .fr (.int m), .un, .un] = _
        unfold m_take
        rw [s_seq, e1]
        exact e2
      unfold runF
      rw [e] <;> rfl
    · exact absurd rfl h
  · exact absurd rfl h
end AT
set_option Elab.async false
set_option linter.all false
set_option maxRecDepth 100000
set_option maxHeartbeats 2000000
/-! AV3: an empty dict; what the head tells of own ==, own operators, errors. -/
namespace AT
open PySem PySem.Spec PyProof.Rows L2
theorem de_dct0 {X : Cx} {G : Gam} {B : Ba} {W : WX} {pos : Pos} : PE X (.Dict [] [] pos) (dE G B W (m_c (.dct [] []))) := PE.imp pe_dnewK fun σ H Q ⟨F, ρ, E, q⟩ p hp => by
  have g := Grow.at (.dK []) E.sub hp
  exact q _ _ g.ext (E.grow g) _ (.dct (upd_same) rfl rfl .nil)
def eqB (K : PySem.W.Frag) (c : Str) : Bool := He.eqO (PySem.W.findIn K (.ref (He.ga K c)) "__eq__") (some (some (.ref (He.ma K (He.ga K c) "__eq__")))) && (PySem.W.isFn K (.ref (He.ma K (He.ga K c) "__eq__")) && (He.eqO (PySem.W.findIn K (.ref (He.ga K c)) "__ne__") (some (some (.builtin "object.__ne__"))) &&
  decide (PySem.W.subIn K (.ref (He.ga K c)) (.type "object") = some true)))
theorem eqB_ok {K : PySem.W.Frag} {c : Str} (h : eqB K c = true) : EqOk K (He.ga K c) (He.ma K (He.ga K c) "__eq__") := by
  obtain ⟨h1, h⟩ := He.ba h
  obtain ⟨h2, h⟩ := He.ba h
  obtain ⟨h3, h4⟩ := He.ba h
  exact ⟨He.eqO_ok h1, h2, He.eqO_ok h3, of_decide_eq_true h4⟩
def binB (K : PySem.W.Frag) (c m : Str) : Bool := He.eqO (PySem.W.findIn K (.ref (He.ga K c)) m) (some (some (.ref (He.ma K (He.ga K c) m)))) && (PySem.W.isFn K (.ref (He.ma K (He.ga K c) m)) && PySem.W.selfFirst K (He.ga K c))
theorem binB_ok {K : PySem.W.Frag} {c m : Str} (h : binB K c m = true) : BinOk K (He.ga K c) (He.ma K (He.ga K c) m) m := by
  obtain ⟨h1, h⟩ := He.ba h
  obtain ⟨h2, h3⟩ := He.ba h
  exact ⟨He.eqO_ok h1, h2, h3⟩
def cmB (K : PySem.W.Frag) (c : Str) (l : List (Str × Bool)) : Bool := l.all fun p => decide (PySem.W.exmOne K (.ref (He.ga K p.1)) (.ref (He.ga K c)) = some p.2)
theorem cm_of {K : PySem.W.Frag} {c : Str} {l : List (Str × Bool)} (h : cmB K c l = true) (x : Str) (b : Bool) (e : l.lookup x = some b) : PySem.W.exmOne K (.ref (He.ga K x)) (.ref (He.ga K c)) = some b :=
  of_decide_eq_true (List.all_eq_true.mp h _ (lookup_mem' e))
end AT
set_option Elab.async false
set_option linter.all false
set_option maxRecDepth 100000
set_option maxHeartbeats 2000000
/-! AV4: two names at once, the first a new list that is owned. -/
namespace AT
open PySem PySem.Spec PyProof.Rows L2
def s_parO (i j : Nat) (mr : MA) (mb : ME) : MS := fun ρ => match mr ρ with
  | .ok xs ρ => match mb ρ with
    | .ok d ρ => .ok .nx ((ρ.set i (.ol xs)).set j (.fr d))
    | _ => .bad
  | _ => .bad
theorem ds_parO {X : Cx} {G : Gam} {B : Ba} {W : WX} {a b : Expr} {mr : MA} {mb : ME} {pos : Pos} (i j : Nat) {x y : Str} {px py pt : Pos} {kt k2 pt2} (hB : B.args.length ≤ i) (hG : X.K = G.K) (hc : X.calm = true) (hN : X.N.Nodup) (ha : PE X a (dN G B W mr)) (hb : ∀ B' : Ba, B'.args.length = B.args.length → PE X b (dE G B' W0 mb))
    (hi : X.N[i]? = some x := by rfl) (hj : X.N[j]? = some y := by rfl) (hx : Loc X.env.scope x := by first | exact .inl rfl | exact .inr rfl) (hy : Loc X.env.scope y := by first | exact .inl rfl | exact .inr rfl)
    (hfx : X.fn x = true ∨ X.env.scope.names.lookup x = some .local := by first | exact .inl rfl | exact .inr rfl) (hfy : X.fn y = true ∨ X.env.scope.names.lookup y = some .local := by first | exact .inl rfl | exact .inr rfl)
    (hs1 : starEach [a, b] X.env = (false, eval a X.env) :: starEach [b] X.env := by rfl) (hs2 : starEach [b] X.env = (false, eval b X.env) :: starEach [] X.env := by rfl)
    (hs : swapsWithSole [.Tuple [.Name x px, .Name y py] kt pt] (.Tuple [a, b] k2 pt2) pos.line X.env = pure false := by rfl) (hw : swappedStores [.Tuple [.Name x px, .Name y py] kt pt] (.Tuple [a, b] k2 pt2) X.env = pure none := by rfl)
    (h1 : (assignEach [.Tuple [.Name x px, .Name y py] kt pt] X.env).map (·.2) = [assign (.Tuple [.Name x px, .Name y py] kt pt) X.env] := by rfl)
    (h2 : (assignEach [.Name x px, .Name y py] X.env).map (·.2) = assign (.Name x px) X.env :: (assignEach [.Name y py] X.env).map (·.2) := by rfl) (h3 : (assignEach [.Name y py] X.env).map (·.2) = assign (.Name y py) X.env :: (assignEach [] X.env).map (·.2) := by rfl)
    (h4 : (assignEach [.Name x px, .Name y py] X.env).length = 2 := by rfl) (h5 : (assignEach [.Name x px, .Name y py] X.env).findIdx? (·.1) = none := by rfl) :
    PS X (.Assign [.Tuple [.Name x px, .Name y py] kt pt] (.Tuple [a, b] k2 pt2) pos) (dS G B W (s_parO i j mr mb)) := by
  have hb' : PE X b (uE G B.args.length mb) := ⟨fun pins s σ H Q I ⟨B', hl, w⟩ => (hb B' hl).run pins s σ H Q I w⟩
  refine PS.imp (ps_asg (pe_tup (pa_cons ha (pa_cons hb' pa_nil hs2) hs1)) (pg_tup hc (pgs_cons (pg_name hN hi hx hfx) (pgs_cons (pg_name hN hj hy hfy) pgs_nil h3) h2) h4 h5) hs hw h1) fun D σ H ⟨F, ρ, E, q⟩ => ?_
  refine ⟨F, ρ, E, ?_⟩
  unfold s_parO at q
  cases e : mr ρ with
  | bad => rw [e] at q; exact q.elim
  | err ex r => rw [e] at q; exact q.elim
  | ok xs ρ1 =>
    rw [e] at q
    refine fun F1 H1 x1 E1 p vs hp hA => ?_
    obtain ⟨A, E2, out⟩ := EnvOk.into (D := p) (u0 := .lst vs) (by rw [less_upd hp]; exact E1) upd_same
    refine ⟨⟨upd H1 p (.lst vs), A, B.args, B.exc, F1⟩, rfl, _, ρ1, E2, ?_⟩
    cases e2 : mb ρ1 with
    | bad => simp only [e2] at q; exact q.elim
    | err ex r => simp only [e2] at q; exact q.elim
    | ok d ρ2 =>
      simp only [e2] at q
      refine fun F2 H2 x2 E3 v hv => ?_
      obtain ⟨E4, hp2⟩ := out F2 H2 σ ρ2 E3
      refine ⟨(by rw [sizeLine_eq]; exact (by decide : 2 ≤ 16777216)), fun t ht => ⟨t, [.ref p, v], rfl, .inl (.inl upd_same), rfl, _, _, rfl, _, _, rfl, rfl, ?_⟩⟩
      have ne : p ≠ t := fun z => by rw [z, ht] at hp2; cases hp2
      have E5 : EnvOk G B F2 (upd H2 t (.tup [.ref p, v])) (σ.set i (some (.ref p))) (ρ2.set i (.ol xs)) := E4.setNew (n := fun a => a = p) (fun a u h => by
        have z : a ≠ p := fun z => by rw [z, less_self] at h; cases h
        rw [less_ne z] at h
        rw [upd_ne (ne_of_none h ht)]
        exact h) (fun a ea => by subst ea; exact ⟨less_self, _, by rw [upd_ne ne]; exact hp2⟩) ⟨p, vs, rfl, rfl, by rw [upd_ne ne]; exact hp2, hA.ext x2⟩ hB
      exact q F2 _ _ (x1.trans x2) (E5.set hv)
end AT
set_option Elab.async false
set_option linter.all false
set_option maxRecDepth 100000
set_option maxHeartbeats 2000000
/-! AP: what is wanted of a mirror's outcome, rule by rule. -/
namespace AT
open PySem PySem.Spec PyProof.Rows L2
/-- Q of what comes out, E of what is raised -/
def wO {α : Type} (o : Out α) (Q : α → En → Prop) (E : Exn → En → Prop) : Prop :=
  match o with
  | .ok a ρ => Q a ρ
  | .err e ρ => E e ρ
  | .bad => False
section
variable {α β : Type} {Q : α → En → Prop} {E : Exn → En → Prop} {ρ : En}
@[simp] theorem wO_ok (a : α) : wO (.ok a ρ) Q E = Q a ρ := rfl
@[simp] theorem wO_err (e : Exn) : wO (α := α) (.err e ρ) Q E = E e ρ := rfl
@[simp] theorem wO_bad : wO (α := α) .bad Q E = False := rfl
@[simp] theorem wO_bind {Q : β → En → Prop} (o : Out α) (k : α → En → Out β) : wO (o.bind k) Q E = wO o (fun a ρ => wO (k a ρ) Q E) E := by cases o <;> rfl
@[simp] theorem wO_ofO (o : Option α) : wO (ofO o ρ) Q E = ∃ d, o = some d ∧ Q d ρ := by cases o <;> simp [ofO]
@[simp] theorem wO_ite {c : Prop} [Decidable c] (a b : Out α) : wO (if c then a else b) Q E = if c then wO a Q E else wO b Q E := by split <;> rfl
theorem wO.mono {o : Out α} {Q' : α → En → Prop} {E' : Exn → En → Prop} (h : wO o Q E) (hq : ∀ a ρ, Q a ρ → Q' a ρ) (he : ∀ e ρ, E e ρ → E' e ρ) : wO o Q' E' := by
  cases o with
  | ok a ρ => exact hq _ _ h
  | err e ρ => exact he _ _ h
  | bad => exact h
theorem wO.imp {o : Out α} {Q' : α → En → Prop} (h : wO o Q E) (hq : ∀ a ρ, Q a ρ → Q' a ρ) : wO o Q' E := h.mono hq fun _ _ z => z
end
section
variable {Q : D → En → Prop} {E : Exn → En → Prop} {ρ : En} {T : Bool → En → Prop} {QA : List D → En → Prop} {S : Fl → En → Prop}
@[simp] theorem w_c (d : D) : wO (m_c d ρ) Q E = Q d ρ := rfl
/-- a name's value, its own list known from now on -/
def vQ (Q : D → En → Prop) (ρ : En) (k : Nat) : Option OV → Prop
  | some (.fr d) => Q d ρ
  | some (.ol xs) => Q (.lst xs) (ρ.set k (.fr (.lst xs)))
  | some (.od ks vs) => Q (.dct ks vs) (ρ.set k (.fr (.dct ks vs)))
  | _ => False
@[simp] theorem w_v (k : Nat) : wO (m_v k ρ) Q E = vQ Q ρ k ρ[k]? := by
  unfold m_v vQ
  split <;> simp_all
@[simp] theorem vQ_fr (k : Nat) (d : D) : vQ Q ρ k (some (.fr d)) = Q d ρ := rfl
@[simp] theorem vQ_ol (k : Nat) (xs : List D) : vQ Q ρ k (some (.ol xs)) = Q (.lst xs) (ρ.set k (.fr (.lst xs))) := rfl
@[simp] theorem w_pk (k : Nat) : wO (m_pk k ρ) Q E = ∃ d, peek ρ k = some d ∧ Q d ρ := by
  unfold m_pk
  cases peek ρ k <;> simp
def pkO : Option OV → Option D
  | some (.fr d) => some d
  | some (.ol xs) => some (.lst xs)
  | some (.od ks vs) => some (.dct ks vs)
  | _ => none
@[simp] theorem peek_eq (k : Nat) : peek ρ k = pkO ρ[k]? := by
  unfold peek pkO
  cases ρ[k]? with
  | none => rfl
  | some x => cases x <;> rfl
@[simp] theorem pkO_fr (d : D) : pkO (some (.fr d)) = some d := rfl
@[simp] theorem pkO_ol (d : List D) : pkO (some (.ol d)) = some (.lst d) := rfl
@[simp] theorem pkO_od (ks : List Key) (d : List D) : pkO (some (.od ks d)) = some (.dct ks d) := rfl
@[simp] theorem w_op (f : D → D → Option D) (ma mb : ME) : wO (m_op f ma mb ρ) Q E = wO (ma ρ) (fun x ρ => wO (mb ρ) (fun y ρ => ∃ d, f x y = some d ∧ Q d ρ) E) E := by simp [m_op]
@[simp] theorem w_opP (f : D → D → Option D) (k : Nat) (mb : ME) : wO (m_opP f k mb ρ) Q E = ∃ u, peek ρ k = some u ∧ wO (mb ρ) (fun y ρ => ∃ x, peek ρ k = some x ∧ ∃ d, f x y = some d ∧ Q d ρ) E := by
  unfold m_opP
  cases h : peek ρ k with
  | none => simp
  | some u =>
    simp only [wO_bind, Option.some.injEq, exists_eq_left']
    congr
    funext y ρ
    cases peek ρ k <;> simp
@[simp] theorem w_un (f : D → Option D) (ma : ME) : wO (m_un f ma ρ) Q E = wO (ma ρ) (fun x ρ => ∃ d, f x = some d ∧ Q d ρ) E := by simp [m_un]
@[simp] theorem w_tst (f : D → Option Bool) (ma : ME) : wO (m_tst f ma ρ) T E = wO (ma ρ) (fun x ρ => ∃ d, f x = some d ∧ T d ρ) E := by simp [m_tst]
@[simp] theorem w_not (t : MT) : wO (m_not t ρ) T E = wO (t ρ) (fun b ρ => T (!b) ρ) E := by simp [m_not]
@[simp] theorem w_and (t u : MT) : wO (m_and t u ρ) T E = wO (t ρ) (fun b ρ => if b = true then wO (u ρ) T E else T false ρ) E := by simp [m_and]
@[simp] theorem w_or (t u : MT) : wO (m_or t u ρ) T E = wO (t ρ) (fun b ρ => if b = true then T true ρ else wO (u ρ) T E) E := by simp [m_or]
@[simp] theorem w_ifE (t : MT) (a b : ME) : wO (m_ifE t a b ρ) Q E = wO (t ρ) (fun c ρ => if c = true then wO (a ρ) Q E else wO (b ρ) Q E) E := by simp [m_ifE]
@[simp] theorem w_nil : wO (m_nil ρ) QA E = QA [] ρ := rfl
@[simp] theorem w_cons (ma : ME) (mr : MA) : wO (m_cons ma mr ρ) QA E = wO (ma ρ) (fun x ρ => wO (mr ρ) (fun xs ρ => QA (x :: xs) ρ) E) E := by simp [m_cons]
@[simp] theorem w_tup (mr : MA) : wO (m_tup mr ρ) Q E = wO (mr ρ) (fun xs ρ => xs.length ≤ LINE ∧ Q (.tup xs) ρ) E := by
  simp only [m_tup, wO_bind, wO_ite, wO_ok, wO_bad]
  congr; funext xs ρ; by_cases h : xs.length ≤ LINE <;> simp [h]
@[simp] theorem w_lst (mr : MA) : wO (m_lst mr ρ) Q E = wO (mr ρ) (fun xs ρ => Q (.lst xs) ρ) E := by simp [m_lst]
@[simp] theorem w_dsp (mr : MA) : wO (m_dsp mr ρ) QA E = wO (mr ρ) (fun xs ρ => xs.length ≤ LINE ∧ QA xs ρ) E := by
  simp only [m_dsp, wO_bind, wO_ite, wO_ok, wO_bad]
  congr; funext xs ρ; by_cases h : xs.length ≤ LINE <;> simp [h]
@[simp] theorem w_lenOk (n : Nat) (mr : MA) : wO (lenOk n mr ρ) QA E = wO (mr ρ) (fun xs ρ => xs.length = n ∧ QA xs ρ) E := by
  simp only [lenOk, wO_bind, wO_ite, wO_ok, wO_bad]
  congr; funext xs ρ; by_cases h : xs.length = n <;> simp [h]
@[simp] theorem w_perm (n : Nat) (pm : List Nat) (mr : MA) : wO (m_perm n pm mr ρ) QA E = wO (mr ρ) (fun xs ρ => xs.length = n ∧ QA (permL pm xs) ρ) E := by simp [m_perm]
@[simp] theorem w_call (Fm : List OV → Out D) (ma : MA) : wO (m_call Fm ma ρ) Q E = wO (ma ρ) (fun ds ρ => wO (Fm (ds.map .fr)) (fun d _ => Q d ρ) (fun e _ => E e ρ)) E := by
  simp only [m_call, wO_bind]
  congr; funext ds ρ; cases Fm (ds.map .fr) <;> rfl
/-- behind a call that owns its first argument -/
def bkQ {α : Type} (Q : α → En → Prop) (ρ : En) (k : Nat) (a : α) : List OV → Prop
  | y :: _ => owned y = true ∧ Q a (ρ.set k y)
  | [] => False
@[simp] theorem bkQ_cons {α : Type} (Q : α → En → Prop) (k : Nat) (a : α) (y : OV) (r : List OV) : bkQ Q ρ k a (y :: r) = (owned y = true ∧ Q a (ρ.set k y)) := rfl
/-- a slot that may own -/
def agQ (P : OV → Prop) : Option OV → Prop
  | some x => argOk x = true ∧ P x
  | none => False
@[simp] theorem agQ_some (P : OV → Prop) (x : OV) : agQ P (some x) = (argOk x = true ∧ P x) := rfl
def owQ (P : OV → Prop) : Option OV → Prop
  | some x => owned x = true ∧ P x
  | none => False
@[simp] theorem owQ_some (P : OV → Prop) (x : OV) : owQ P (some x) = (owned x = true ∧ P x) := rfl
@[simp] theorem w_callO (Fm : List OV → Out D) (k : Nat) (ma : MA) : wO (m_callO Fm k ma ρ) Q E = agQ (fun _ => wO (ma ρ) (fun ds ρ => owQ (fun x => wO (Fm (x :: ds.map .fr)) (fun d outs => bkQ Q ρ k d outs) (fun e outs => bkQ E ρ k e outs)) ρ[k]?) E) ρ[k]? := by
  unfold m_callO
  cases h : ρ[k]? with
  | none => rfl
  | some x0 =>
    simp only [agQ_some]
    by_cases hx : argOk x0 = true
    · rw [if_pos hx]
      simp only [hx, true_and, wO_bind]
      congr; funext ds ρ
      cases h1 : ρ[k]? with
      | none => rfl
      | some x =>
        simp only [owQ_some]
        by_cases ho : owned x = true
        · rw [if_pos ho]
          simp only [ho, true_and]
          cases Fm (x :: ds.map .fr) with
          | bad => rfl
          | ok d outs =>
            cases outs with
            | nil => rfl
            | cons y r =>
              by_cases hy : owned y = true
              · simp [hy]
              · simp [hy]
          | err d outs =>
            cases outs with
            | nil => rfl
            | cons y r =>
              by_cases hy : owned y = true
              · simp [hy]
              · simp [hy]
        · rw [if_neg ho]
          simp [ho]
    · rw [if_neg hx]
      simp [hx]
@[simp] theorem w_andV (ma mb : ME) : wO (m_andV ma mb ρ) Q E = wO (ma ρ) (fun x ρ => ∃ b, x = .bl b ∧ if b = true then wO (mb ρ) Q E else Q (.bl false) ρ) E := by
  simp only [m_andV, wO_bind]
  congr; funext x ρ
  cases x with
  | bl b => cases b <;> simp
  | _ => simp
@[simp] theorem w_orV (ma mb : ME) : wO (m_orV ma mb ρ) Q E = wO (ma ρ) (fun x ρ => ∃ b, x = .bl b ∧ if b = true then Q (.bl true) ρ else wO (mb ρ) Q E) E := by
  simp only [m_orV, wO_bind]
  congr; funext x ρ
  cases x with
  | bl b => cases b <;> simp
  | _ => simp
@[simp] theorem w_notE (ma : ME) : wO (m_notE ma ρ) Q E = wO (ma ρ) (fun x ρ => ∃ b, x = .bl b ∧ Q (.bl (!b)) ρ) E := by
  simp only [m_notE, wO_bind]
  congr; funext x ρ
  cases x <;> simp
@[simp] theorem w_chain (f f' : D → D → Option D) (ma mb mc : ME) : wO (m_chain f f' ma mb mc ρ) Q E = wO (ma ρ) (fun x ρ => wO (mb ρ) (fun y ρ => ∃ b, f x y = some (.bl b) ∧ if b = true then wO (mc ρ) (fun z ρ => ∃ d, f' y z = some d ∧ Q d ρ) E else Q (.bl false) ρ) E) E := by
  simp only [m_chain, wO_bind]
  congr; funext x ρ
  congr; funext y ρ
  cases f x y with
  | none => simp
  | some d =>
    cases d with
    | bl b => cases b <;> simp
    | _ => simp
@[simp] theorem w_biA (f : List D → Option D) (mr : MA) : wO (m_biA f mr ρ) Q E = wO (mr ρ) (fun xs ρ => ∃ d, f xs = some d ∧ Q d ρ) E := by simp [m_biA]
@[simp] theorem w_opN (f : D → D → Option (List D)) (ma mb : ME) : wO (m_opN f ma mb ρ) QA E = wO (ma ρ) (fun x ρ => wO (mb ρ) (fun y ρ => ∃ d, f x y = some d ∧ QA d ρ) E) E := by simp [m_opN]
@[simp] theorem w_opNP (f : D → D → Option (List D)) (k : Nat) (mb : ME) : wO (m_opNP f k mb ρ) QA E = ∃ u, peek ρ k = some u ∧ wO (mb ρ) (fun y ρ => ∃ x, peek ρ k = some x ∧ ∃ d, f x y = some d ∧ QA d ρ) E := by
  unfold m_opNP
  cases h : peek ρ k with
  | none => simp
  | some u =>
    simp only [wO_bind, Option.some.injEq, exists_eq_left']
    congr
    funext y ρ
    cases peek ρ k <;> simp
@[simp] theorem w_unN (f : D → Option (List D)) (ma : ME) : wO (m_unN f ma ρ) QA E = wO (ma ρ) (fun x ρ => ∃ d, f x = some d ∧ QA d ρ) E := by simp [m_unN]
@[simp] theorem w_no {O : Option Int → En → Prop} : wO (m_no ρ) O E = O none ρ := rfl
@[simp] theorem w_pt {O : Option Int → En → Prop} (ma : ME) : wO (m_pt ma ρ) O E = wO (ma ρ) (fun x ρ => ∃ i, x = .int i ∧ O (some i) ρ) E := by
  simp only [m_pt, wO_bind]
  congr; funext x ρ
  cases x <;> simp
@[simp] theorem w_sl (ma : ME) (l h : MO) : wO (m_sl ma l h ρ) Q E = wO (ma ρ) (fun x ρ => wO (l ρ) (fun l ρ => wO (h ρ) (fun u ρ => ∃ d, slF x l u = some d ∧ Q d ρ) E) E) E := by simp [m_sl]
@[simp] theorem w_slN (ma : ME) (l h : MO) : wO (m_slN ma l h ρ) QA E = wO (ma ρ) (fun x ρ => wO (l ρ) (fun l ρ => wO (h ρ) (fun u ρ => ∃ d, slN x l u = some d ∧ QA d ρ) E) E) E := by simp [m_slN]
@[simp] theorem w_it (ma : ME) : wO (m_it ma ρ) QA E = wO (ma ρ) (fun x ρ => ∃ d, itemsF x = some d ∧ QA d ρ) E := by simp [m_it]
@[simp] theorem w_rng1 (mr : MA) : wO (m_rng1 mr ρ) QA E = wO (mr ρ) (fun xs ρ => ∃ j, intsOf xs = some [j] ∧ okR j = true ∧ QA (rngL 0 j.toNat) ρ) E := by
  simp only [m_rng1, wO_bind]
  congr; funext xs ρ
  cases intsOf xs with
  | none => simp
  | some l => match l with
    | [] => simp
    | [j] => by_cases h : okR j = true <;> simp [h]
    | _ :: _ :: _ => simp
@[simp] theorem w_prop (c : Str) (Fm : List OV → Out D) (ma : ME) : wO (m_prop c Fm ma ρ) Q E = wO (ma ρ) (fun x ρ => ∃ xs, x = .ins c xs ∧ wO (Fm [.fr x]) (fun d _ => Q d ρ) (fun _ _ => False)) E := by
  simp only [m_prop, wO_bind]
  congr; funext x ρ
  cases x with
  | ins c' xs =>
    by_cases h : c' = c
    · subst h
      simp only [if_true, D.ins.injEq, true_and, exists_eq_left']
      cases Fm [.fr (.ins c' xs)] <;> rfl
    · simp [h]
  | _ => simp
@[simp] theorem w_meth (c : Str) (Fm : List OV → Out D) (ma : ME) (mr : MA) : wO (m_meth c Fm ma mr ρ) Q E = wO (ma ρ) (fun x ρ => ∃ xs, x = .ins c xs ∧ wO (mr ρ) (fun ds ρ => wO (Fm (.fr (.ins c xs) :: ds.map .fr)) (fun d _ => Q d ρ) (fun e _ => E e ρ)) E) E := by
  simp only [m_meth, wO_bind]
  congr; funext x ρ
  cases x with
  | ins c' xs =>
    by_cases h : c' = c
    · subst h
      simp only [if_true, D.ins.injEq, true_and, exists_eq_left', wO_bind]
      congr; funext ds ρ
      cases Fm (.fr (.ins c' xs) :: ds.map .fr) <;> rfl
    · simp [h]
  | _ => simp
/-- behind a construction -/
def mkQ (Q : D → En → Prop) (ρ : En) (c : Str) (n : Nat) : D → List OV → Prop
  | .non, .ob c' xs :: _ => c' = c ∧ xs.length = n ∧ Q (.ins c xs) ρ
  | _, _ => False
@[simp] theorem mkQ_ob (c c' : Str) (n : Nat) (xs : List D) (r : List OV) : mkQ Q ρ c n .non (.ob c' xs :: r) = (c' = c ∧ xs.length = n ∧ Q (.ins c xs) ρ) := rfl
@[simp] theorem w_make (c : Str) (n : Nat) (Fm : List OV → Out D) (mr : MA) : wO (m_make c n Fm mr ρ) Q E = wO (mr ρ) (fun ds ρ => wO (Fm (.ob c [] :: ds.map .fr)) (fun d outs => mkQ Q ρ c n d outs) (fun e _ => E e ρ)) E := by
  simp only [m_make, wO_bind]
  congr; funext ds ρ
  unfold mkOut mkQ
  cases Fm (.ob c [] :: ds.map .fr) with
  | ok d outs =>
    cases d with
    | non => match outs with
      | [] => rfl
      | .ob c' xs :: r =>
        by_cases h : c' = c ∧ xs.length = n
        · simp [h]
        · simp only [if_neg h, wO_bad, wO_ok]
          rw [← and_assoc]
          simp [h]
      | .un :: _ => rfl
      | .fr _ :: _ => rfl
      | .ol _ :: _ => rfl
      | .od _ _ :: _ => rfl
      | .dr _ :: _ => rfl
      | .ex _ :: _ => rfl
    | _ => rfl
  | err e outs => rfl
  | bad => rfl
@[simp] theorem w_eqO (neg : Bool) (c : Str) (cs : List Str) (Fm : List OV → Out D) (ma mb : ME) : wO (m_eqO neg c cs Fm ma mb ρ) Q E = wO (ma ρ) (fun x ρ => wO (mb ρ) (fun y ρ => ∃ xs, x = .ins c xs ∧ nfB cs y = true ∧ wO (Fm [.fr x, .fr y]) (fun d _ => ∃ b, d = .bl b ∧ Q (.bl (if neg then !b else b)) ρ) (fun _ _ => False)) E) E := by
  simp only [m_eqO, wO_bind]
  congr; funext x ρ
  congr; funext y ρ
  cases x with
  | ins c' xs =>
    by_cases h : c' = c
    · subst h
      by_cases h2 : nfB cs y = true
      · simp only [h2, true_and, if_true, D.ins.injEq, exists_eq_left']
        cases Fm [.fr (.ins c' xs), .fr y] with
        | ok d outs =>
          cases d with
          | bl b => simp only [wO_ok, D.bl.injEq, exists_eq_left']
          | _ => simp
        | err e outs => rfl
        | bad => rfl
      · simp [h2]
    · simp [h]
  | _ => simp
@[simp] theorem w_binO (c : Str) (Fm : List OV → Out D) (ma mb : ME) : wO (m_binO c Fm ma mb ρ) Q E = wO (ma ρ) (fun x ρ => wO (mb ρ) (fun y ρ => ∃ xs, x = .ins c xs ∧ ∃ ys, y = .ins c ys ∧ wO (Fm [.fr x, .fr y]) (fun d _ => Q d ρ) (fun e _ => E e ρ)) E) E := by
  simp only [m_binO, wO_bind]
  congr; funext x ρ
  congr; funext y ρ
  cases x with
  | ins c1 xs =>
    cases y with
    | ins c2 ys =>
      by_cases h1 : c1 = c
      · by_cases h2 : c2 = c
        · subst h1
          subst h2
          simp only [and_self, if_true, true_and, D.ins.injEq, exists_eq_left']
          cases Fm [.fr (.ins c2 xs), .fr (.ins c2 ys)] <;> rfl
        · simp [h2]
      · simp [h1]
    | _ => simp
  | _ => simp
/-! statements -/
@[simp] theorem w_snil : wO (s_nil ρ) S E = S .nx ρ := rfl
/-- what follows a statement -/
def sqQ (S : Fl → En → Prop) (N : En → Prop) : Fl → En → Prop
  | .nx, ρ => N ρ
  | fl, ρ => S fl ρ
@[simp] theorem sqQ_nx (N : En → Prop) : sqQ S N .nx ρ = N ρ := rfl
@[simp] theorem sqQ_brk (N : En → Prop) : sqQ S N .brk ρ = S .brk ρ := rfl
@[simp] theorem sqQ_cont (N : En → Prop) : sqQ S N .cont ρ = S .cont ρ := rfl
@[simp] theorem sqQ_ret (N : En → Prop) (d : D) : sqQ S N (.ret d) ρ = S (.ret d) ρ := rfl
@[simp] theorem w_seq (a b : MS) : wO (s_seq a b ρ) S E = wO (a ρ) (sqQ S fun ρ => wO (b ρ) S E) E := by
  unfold s_seq
  cases a ρ with
  | ok fl ρ => cases fl <;> rfl
  | err e ρ => rfl
  | bad => rfl
@[simp] theorem w_brk : wO (s_brk ρ) S E = S .brk ρ := rfl
@[simp] theorem w_cont : wO (s_cont ρ) S E = S .cont ρ := rfl
@[simp] theorem w_ret (ma : ME) : wO (s_ret ma ρ) S E = wO (ma ρ) (fun d ρ => S (.ret d) ρ) E := by simp [s_ret]
@[simp] theorem w_retN : wO (s_retN ρ) S E = S (.ret .non) ρ := rfl
@[simp] theorem w_ex (ma : ME) : wO (s_ex ma ρ) S E = wO (ma ρ) (fun _ ρ => S .nx ρ) E := by simp [s_ex]
@[simp] theorem w_set (i : Nat) (ma : ME) : wO (s_set i ma ρ) S E = wO (ma ρ) (fun d ρ => S .nx (ρ.set i (.fr d))) E := by simp [s_set]
@[simp] theorem w_setO (i : Nat) (ma : MA) : wO (s_setO i ma ρ) S E = wO (ma ρ) (fun xs ρ => S .nx (ρ.set i (.ol xs))) E := by simp [s_setO]
@[simp] theorem w_if (t : MT) (a b : MS) : wO (s_if t a b ρ) S E = wO (t ρ) (fun c ρ => if c = true then wO (a ρ) S E else wO (b ρ) S E) E := by simp [s_if]
@[simp] theorem w_never : wO (s_never ρ) S E = False := rfl
def parQ (S : Fl → En → Prop) (ρ : En) (i j : Nat) : List D → Prop
  | [x, y] => S .nx ((ρ.set i (.fr x)).set j (.fr y))
  | _ => False
@[simp] theorem parQ_2 (i j : Nat) (x y : D) : parQ S ρ i j [x, y] = S .nx ((ρ.set i (.fr x)).set j (.fr y)) := rfl
@[simp] theorem w_par (i j : Nat) (mr : MA) : wO (s_par i j mr ρ) S E = wO (mr ρ) (fun ds ρ => parQ S ρ i j ds) E := by
  simp only [s_par, wO_bind]
  congr; funext ds ρ
  match ds with
  | [] => rfl
  | [_] => rfl
  | [x, y] => rfl
  | _ :: _ :: _ :: _ => rfl
@[simp] theorem w_raise (c : Str) (mr : MA) : wO (s_raise c mr ρ) S E = wO (mr ρ) (fun ds ρ => ∃ d, ds = [d] ∧ E ⟨c, [d]⟩ ρ) E := by
  simp only [s_raise, wO_bind]
  congr; funext ds ρ
  match ds with
  | [] => simp
  | [_] => simp
  | _ :: _ :: _ => simp
@[simp] theorem w_raise0 (c : Str) : wO (s_raise0 c ρ) S E = E ⟨c, []⟩ ρ := rfl
@[simp] theorem w_tryas (i : Nat) (cm : Str → Option Bool) (mb mh : MS) : wO (s_tryas i cm mb mh ρ) S E = wO (mb ρ) S (fun e ρ => ∃ b, cm e.c = some b ∧ if b = true then wO (mh (ρ.set i (.ex e))) (fun fl ρ => S fl (ρ.set i .un)) (fun _ _ => False) else E e ρ) := by
  unfold s_tryas
  cases mb ρ with
  | ok fl ρ => rfl
  | bad => rfl
  | err e ρ =>
    simp only [wO_err]
    cases cm e.c with
    | none => simp
    | some b =>
      cases b with
      | true =>
        simp only [Option.some.injEq, exists_eq_left', if_true]
        cases mh (ρ.set i (.ex e)) <;> rfl
      | false => simp
def exQ (Q : D → En → Prop) (ρ : En) (c : Str) : Option OV → Prop
  | some (.ex e) => e.c = c ∧ ∃ d, e.vs = [d] ∧ Q d ρ
  | _ => False
@[simp] theorem exQ_ex (c : Str) (e : Exn) : exQ Q ρ c (some (.ex e)) = (e.c = c ∧ ∃ d, e.vs = [d] ∧ Q d ρ) := rfl
@[simp] theorem w_exat (k : Nat) (c : Str) : wO (m_exat k c ρ) Q E = exQ Q ρ c ρ[k]? := by
  unfold m_exat exQ
  cases ρ[k]? with
  | none => rfl
  | some x =>
    cases x with
    | ex e =>
      simp only
      by_cases h : e.c = c
      · simp only [h, if_true, true_and]
        match e.vs with
        | [] => simp
        | [_] => simp
        | _ :: _ :: _ => simp
      · simp [h]
    | _ => rfl
def fsQ (S : Fl → En → Prop) (ρ : En) (k : Nat) (c : Str) (i : Nat) (d : D) : Option OV → Prop
  | some (.ob c' xs) => c' = c ∧ xs.length = i ∧ S .nx (ρ.set k (.ob c (xs ++ [d])))
  | _ => False
@[simp] theorem fsQ_ob (k : Nat) (c c' : Str) (i : Nat) (d : D) (xs : List D) : fsQ S ρ k c i d (some (.ob c' xs)) = (c' = c ∧ xs.length = i ∧ S .nx (ρ.set k (.ob c (xs ++ [d])))) := rfl
@[simp] theorem w_fset (k : Nat) (c : Str) (i : Nat) (ma : ME) : wO (s_fset k c i ma ρ) S E = wO (ma ρ) (fun d ρ => fsQ S ρ k c i d ρ[k]?) E := by
  simp only [s_fset, wO_bind]
  congr; funext d ρ
  unfold fsQ
  cases ρ[k]? with
  | none => rfl
  | some x =>
    cases x with
    | ob c' xs =>
      simp only
      by_cases h : c' = c ∧ xs.length = i
      · simp [h]
      · simp only [if_neg h, wO_bad]
        rw [← and_assoc]
        simp [h]
    | _ => rfl
def ixQ (S : Fl → En → Prop) (ρ : En) (k : Nat) (i : Int) (d : D) : Option OV → Prop
  | some (.ol xs) => ∃ j, ixN xs.length i = some j ∧ S .nx (ρ.set k (.ol (xs.set j d)))
  | _ => False
@[simp] theorem ixQ_ol (k : Nat) (i : Int) (d : D) (xs : List D) : ixQ S ρ k i d (some (.ol xs)) = ∃ j, ixN xs.length i = some j ∧ S .nx (ρ.set k (.ol (xs.set j d))) := rfl
def isOl : Option OV → Bool
  | some (.ol _) => true
  | _ => false
@[simp] theorem isOl_ol (xs : List D) : isOl (some (.ol xs)) = true := rfl
@[simp] theorem w_ixset (k : Nat) (mv mi : ME) : wO (s_ixset k mv mi ρ) S E = wO (mv ρ) (fun d ρ => isOl ρ[k]? = true ∧ wO (mi ρ) (fun i ρ => ∃ j, i = .int j ∧ ixQ S ρ k j d ρ[k]?) E) E := by
  simp only [s_ixset, wO_bind]
  congr; funext d ρ
  cases h : ρ[k]? with
  | none => simp [isOl]
  | some x =>
    cases x with
    | ol xs =>
      simp only [isOl_ol, true_and, wO_bind]
      congr; funext i ρ
      cases i with
      | int i =>
        simp only [D.int.injEq, exists_eq_left']
        unfold ixQ
        cases ρ[k]? with
        | none => rfl
        | some y =>
          cases y with
          | ol ys =>
            simp only
            cases ixN ys.length i <;> simp
          | _ => rfl
      | _ => simp
    | _ => simp [isOl]
@[simp] theorem w_asg (ma : ME) (g : MG) : wO (s_asg ma g ρ) S E = wO (ma ρ) (fun d ρ => ∃ ρ', g d ρ = some ρ' ∧ S .nx ρ') E := by
  simp only [s_asg, wO_bind]
  congr; funext d ρ
  cases g d ρ <;> simp
@[simp] theorem w_for (mi : MA) (g : MG) (b : MS) : wO (s_for mi g b ρ) S E = wO (mi ρ) (fun ds ρ => wO (forF g b ds ρ) S E) E := by simp [s_for]
/-- behind a loop's turn -/
def ftQ (S : Fl → En → Prop) (N : En → Prop) : Fl → En → Prop
  | .nx, ρ => N ρ
  | .cont, ρ => N ρ
  | .brk, ρ => S .nx ρ
  | .ret d, ρ => S (.ret d) ρ
@[simp] theorem ftQ_nx (N : En → Prop) : ftQ S N .nx ρ = N ρ := rfl
@[simp] theorem ftQ_cont (N : En → Prop) : ftQ S N .cont ρ = N ρ := rfl
@[simp] theorem ftQ_brk (N : En → Prop) : ftQ S N .brk ρ = S .nx ρ := rfl
@[simp] theorem ftQ_ret (N : En → Prop) (d : D) : ftQ S N (.ret d) ρ = S (.ret d) ρ := rfl
@[simp] theorem w_forNil (g : MG) (b : MS) : wO (forF g b [] ρ) S E = S .nx ρ := rfl
@[simp] theorem w_forCons (g : MG) (b : MS) (d : D) (ds : List D) : wO (forF g b (d :: ds) ρ) S E = ∃ ρ', g d ρ = some ρ' ∧ wO (b ρ') (ftQ S fun ρ => wO (forF g b ds ρ) S E) E := by
  rw [forF]
  cases g d ρ with
  | none => simp
  | some ρ' =>
    simp only [Option.some.injEq, exists_eq_left']
    cases b ρ' with
    | ok fl ρ => cases fl <;> rfl
    | err e ρ => rfl
    | bad => rfl
/-- a loop by its invariant: what is left, the slots -/
theorem w_forI {g : MG} {b : MS} (I : List D → En → Prop) {ds : List D} (h0 : I ds ρ) (ht : ∀ d r ρ, I (d :: r) ρ → ∃ ρ', g d ρ = some ρ' ∧ wO (b ρ') (ftQ S fun ρ => I r ρ) E) (he : ∀ ρ, I [] ρ → S .nx ρ) : wO (forF g b ds ρ) S E := by
  induction ds generalizing ρ with
  | nil => exact he _ h0
  | cons d r ih =>
    rw [w_forCons]
    obtain ⟨ρ', e, w⟩ := ht d r ρ h0
    refine ⟨ρ', e, w.imp fun fl ρ q => ?_⟩
    cases fl with
    | nx => exact ih q
    | cont => exact ih q
    | brk => exact q
    | ret d => exact q
/-! bodies -/
def rnQ (n : Nat) (Q : D → En → Prop) : Fl → En → Prop
  | .nx, ρ => Q .non (ρ.take n)
  | .ret d, ρ => Q d (ρ.take n)
  | _, _ => False
@[simp] theorem rnQ_nx (n : Nat) : rnQ n Q .nx ρ = Q .non (ρ.take n) := rfl
@[simp] theorem rnQ_ret (n : Nat) (d : D) : rnQ n Q (.ret d) ρ = Q d (ρ.take n) := rfl
@[simp] theorem w_run (n N : Nat) (m : MS) (args : List OV) : wO (runF n N m args) Q E = wO (m (args ++ List.replicate (N - n) .un)) (rnQ n Q) (fun e ρ => E e (ρ.take n)) := by
  unfold runF
  cases m (args ++ List.replicate (N - n) .un) with
  | ok fl ρ => cases fl <;> rfl
  | err e ρ => rfl
  | bad => rfl
/-! comprehensions -/
@[simp] theorem w_yes {T : Bool → En → Prop} : wO (m_yes ρ) T E = T true ρ := rfl
theorem w_lc (vs : List Nat) (mi : MA) (g : MG) (tt : MT) (me : ME) : wO (m_lc vs mi g tt me ρ) QA E = wO (mi ρ) (fun ds ρ0 => vs.all (plainAt ρ0) = true ∧ ds.length ≤ LINE ∧ wO (lcF vs g tt me ds (wipeE ρ0 vs)) (fun xs ρ => QA xs (restE ρ ρ0 vs)) (fun _ _ => False)) E := by
  simp only [m_lc, wO_bind, wO_ite, wO_bad]
  congr; funext ds ρ0
  by_cases h : vs.all (plainAt ρ0) = true
  · by_cases h2 : ds.length ≤ LINE
    · simp only [h, h2, if_true, true_and]
      cases lcF vs g tt me ds (wipeE ρ0 vs) <;> rfl
    · simp [h2]
  · simp [h]
theorem w_lcNil (vs : List Nat) (g : MG) (tt : MT) (me : ME) : wO (lcF vs g tt me [] ρ) QA E = QA [] ρ := rfl
theorem w_lcCons (vs : List Nat) (g : MG) (tt : MT) (me : ME) (d : D) (ds : List D) : wO (lcF vs g tt me (d :: ds) ρ) QA (fun _ _ => False) = ∃ ρ', g d ρ = some ρ' ∧ wO (tt ρ') (fun b ρ => if b = true then wO (me ρ) (fun x ρ => wO (lcF vs g tt me ds (wipeE ρ vs)) (fun xs ρ => QA (x :: xs) ρ) (fun _ _ => False)) (fun _ _ => False) else wO (lcF vs g tt me ds (wipeE ρ vs)) QA (fun _ _ => False)) (fun _ _ => False) := by
  rw [lcF]
  cases g d ρ with
  | none => simp
  | some ρ' =>
    simp only [Option.some.injEq, exists_eq_left']
    cases tt ρ' with
    | ok b ρ =>
      cases b with
      | true =>
        simp only [wO_ok, if_true]
        cases me ρ with
        | ok x ρ =>
          simp only [wO_ok]
          cases lcF vs g tt me ds (wipeE ρ vs) <;> rfl
        | err e ρ => rfl
        | bad => rfl
      | false => simp
    | err e ρ => rfl
    | bad => rfl
end
end AT
set_option Elab.async false
set_option linter.all false
set_option maxRecDepth 100000
set_option maxHeartbeats 2000000
/-! AQ: plain data: comparisons, texts of data, draws. -/
namespace AT
open PySem PySem.Spec PyProof.Rows L2
@[simp] theorem owned_dr (s : Dr) : owned (.dr s) = true := rfl
@[simp] theorem argOk_dr (s : Dr) : argOk (.dr s) = true := rfl
@[simp] theorem argOk_fr (d : D) : argOk (.fr d) = true := rfl
@[simp] theorem owned_ol (s : List D) : owned (.ol s) = true := rfl
@[simp] theorem eqG_str (a b : Str) : eqG (.str a) (.str b) = some (.bl (decide (a = b))) := rfl
@[simp] theorem eqG_int (a b : Int) : eqG (.int a) (.int b) = some (.bl (decide (a = b))) := rfl
@[simp] theorem neG_str (a b : Str) : neG (.str a) (.str b) = some (.bl (!decide (a = b))) := rfl
@[simp] theorem neG_int (a b : Int) : neG (.int a) (.int b) = some (.bl (!decide (a = b))) := rfl
theorem eqG_of {x y : D} (hx : okD 64 x = true) (hy : okD 64 y = true) : eqG x y = some (.bl (eqvD x y)) := by
  unfold eqG
  split
  · simp [eqvD]; rfl
  · simp [eqvD]; rfl
  · unfold eqF; rw [if_pos ⟨hx, hy⟩]
theorem neG_of {x y : D} (hx : okD 64 x = true) (hy : okD 64 y = true) : neG x y = some (.bl (!eqvD x y)) := by
  unfold neG
  split
  · simp [eqvD]; rfl
  · simp [eqvD]; rfl
  · unfold neF; rw [if_pos ⟨hx, hy⟩]
@[simp] theorem tstB_bl (b : Bool) : tstB (.bl b) = some b := rfl
@[simp] theorem tru_bl (b : Bool) : tru (.bl b) = some b := rfl
@[simp] theorem cF_int (g : Int → Int → Bool) (i j : Int) : cF g (.int i) (.int j) = some (.bl (g i j)) := rfl
@[simp] theorem iF_int (g : Int → Int → Int) (i j : Int) : iF g (.int i) (.int j) = some (.int (g i j)) := rfl
@[simp] theorem iC_int (C : Int → Int → Bool) (g : Int → Int → Int) (i j : Int) : iC C g (.int i) (.int j) = if C i j = true then some (.int (g i j)) else none := rfl
@[simp] theorem addF_int (i j : Int) : addF (.int i) (.int j) = some (.int (i + j)) := rfl
@[simp] theorem addF_str (i j : Str) : addF (.str i) (.str j) = if i.length + j.length ≤ LINE then some (.str (i ++ j)) else none := rfl
@[simp] theorem addF_tup (i j : List D) : addF (.tup i) (.tup j) = if i.length + j.length ≤ LINE then some (.tup (i ++ j)) else none := rfl
@[simp] theorem catF_lst (i j : List D) : catF (.lst i) (.lst j) = if i.length + j.length ≤ LINE then some (i ++ j) else none := rfl
@[simp] theorem LINE_le (n : Nat) : Nat.ble n 16777216 = decide (n ≤ 16777216) := by
  cases h : Nat.ble n 16777216 with
  | true => exact (decide_eq_true (Nat.le_of_ble_eq_true h)).symm
  | false => exact (decide_eq_false fun z => by rw [Nat.ble_eq_true_of_le z] at h; cases h).symm
@[simp] theorem lenF_lst (xs : List D) : lenF (.lst xs) = some (.int xs.length) := rfl
@[simp] theorem lenF_tup (xs : List D) : lenF (.tup xs) = some (.int xs.length) := rfl
@[simp] theorem lenF_scr (xs : List Int) : lenF (.scr xs) = some (.int xs.length) := rfl
@[simp] theorem ixF_lst (xs : List D) (i : Int) : ixF (.lst xs) (.int i) = atI xs i := rfl
@[simp] theorem ixF_tup (xs : List D) (i : Int) : ixF (.tup xs) (.int i) = atI xs i := rfl
@[simp] theorem fldF_ins (c c' : Str) (i : Nat) (xs : List D) : fldF c i (.ins c' xs) = if c' = c then xs[i]? else none := rfl
@[simp] theorem negF_int (i : Int) : negF (.int i) = some (.int (-i)) := rfl
@[simp] theorem intF_int (i : Int) : intF (.int i) = some (.int i) := rfl
@[simp] theorem intF_bl (b : Bool) : intF (.bl b) = some (.int (if b then 1 else 0)) := rfl
@[simp] theorem gs_name (i : Nat) (d : D) (ρ : En) : g_name i d ρ = some (ρ.set i (.fr d)) := rfl
@[simp] theorem gs_tup (n : Nat) (r : MGs) (ds : List D) (ρ : En) : g_tup n r (.tup ds) ρ = if ds.length = n then r ds ρ else none := rfl
@[simp] theorem gs_cons (g : MG) (r : MGs) (d : D) (ds : List D) (ρ : En) : g_cons g r (d :: ds) ρ = (g d ρ).bind fun ρ => r ds ρ := rfl
@[simp] theorem gs_nil (ρ : En) : g_nil [] ρ = some ρ := rfl
@[simp] theorem intsOf_nil : intsOf [] = some [] := rfl
@[simp] theorem intsOf_cons (i : Int) (r : List D) : intsOf (.int i :: r) = (intsOf r).map (i :: ·) := rfl
@[simp] theorem min2_int (i j : Int) : min2F [.int i, .int j] = some (.int (min i j)) := rfl
@[simp] theorem max2_int (i j : Int) : max2F [.int i, .int j] = some (.int (max i j)) := rfl
@[simp] theorem listF_lst (xs : List D) : listF (.lst xs) = some xs := rfl
@[simp] theorem listF_tup (xs : List D) : listF (.tup xs) = some xs := rfl
@[simp] theorem itemsF_lst (xs : List D) : itemsF (.lst xs) = some xs := rfl
@[simp] theorem itemsF_tup (xs : List D) : itemsF (.tup xs) = some xs := rfl
theorem atI_at {α : Type} (xs : List α) (i : Nat) : atI xs (i : Int) = xs[i]? := by
  unfold atI ixN
  simp
  by_cases h : i < xs.length
  · simp [h]
  · simp [h]
theorem atI_0 {α : Type} (x : α) (xs : List α) : atI (x :: xs) 0 = some x := atI_at _ 0
theorem atI_r {α : Type} (xs : List α) (i : Int) (h0 : 0 ≤ i) (h1 : i < xs.length) : ∃ x, atI xs i = some x ∧ x ∈ xs := by
  obtain ⟨n, rfl⟩ := Int.eq_ofNat_of_zero_le h0
  rw [atI_at]
  have hn : n < xs.length := by omega
  exact ⟨xs[n], List.getElem?_eq_getElem hn, List.getElem_mem hn⟩
theorem ok_of {α : Type} {o : Out α} {a : α} {ρ : En} (h : ∀ (Q : α → En → Prop) (E : Exn → En → Prop), wO o Q E = Q a ρ) : o = .ok a ρ := by
  have z := h (fun x y => o = .ok x y) (fun _ _ => False)
  cases o with
  | ok b ρ' => exact cast z rfl
  | err e ρ' => exact (cast z.symm (by
      have w := h (fun _ _ => True) (fun _ _ => False)
      exact (cast w.symm trivial : False).elim)).elim
  | bad => exact (cast (h (fun _ _ => True) (fun _ _ => False)).symm trivial : False).elim
/-- a comprehension whose test and item change nothing -/
theorem lc_pure {vs : List Nat} {g : MG} {tt : MT} {me : ME} {ρ : En} (p : D → Bool) (f : D → D) : ∀ {ds : List D}, (∀ d ∈ ds, ∃ ρd, g d ρ = some ρd ∧ tt ρd = .ok (p d) ρd ∧ (p d = true → me ρd = .ok (f d) ρd) ∧ wipeE ρd vs = ρ) → lcF vs g tt me ds ρ = .ok ((ds.filter p).map f) ρ
  | [], _ => rfl
  | d :: ds, h => by
    obtain ⟨ρd, h1, h2, h3, h4⟩ := h d List.mem_cons_self
    have ih := lc_pure (vs := vs) (g := g) (tt := tt) (me := me) (ρ := ρ) p f (ds := ds) fun x hx => h x (List.mem_cons_of_mem _ hx)
    cases e : p d with
    | true =>
      rw [e] at h2
      rw [lcF_t h1 h2 (h3 e) (by rw [h4]; exact ih), List.filter_cons_of_pos e]
      rfl
    | false =>
      rw [e] at h2
      rw [lcF_f h1 h2 (r := .ok ((ds.filter p).map f) ρ) (by rw [h4]; exact ih), List.filter_cons_of_neg (by rw [e]; exact Bool.false_ne_true)]
@[simp] theorem wipeE_nil (ρ : En) : wipeE ρ [] = ρ := rfl
@[simp] theorem wipeE_cons (ρ : En) (i : Nat) (r : List Nat) : wipeE ρ (i :: r) = (wipeE ρ r).set i .un := rfl
@[simp] theorem restE_nil (ρ ρ0 : En) : restE ρ ρ0 [] = ρ := rfl
@[simp] theorem restE_cons (ρ ρ0 : En) (i : Nat) (r : List Nat) : restE ρ ρ0 (i :: r) = match ρ0[i]? with | some x => (restE ρ ρ0 r).set i x | none => restE ρ ρ0 r := rfl
/-! draws -/
theorem take_w {s : Dr} {m : Int} {Q : D → En → Prop} {E : Exn → En → Prop} (h : s.Ok) (h0 : 0 < m) (h1 : m < 1073741824) : wO (takeF [.dr s, .fr (.int m)]) Q E = Q (.int (s.got m)) [.dr (s.draw m), .fr (.int m)] := by
  show wO (if s.Ok ∧ 0 < m ∧ m < 1073741824 then _ else _) Q E = _
  rw [if_pos ⟨h, h0, h1⟩]
  rfl
theorem take_k {s : Dr} {m : Int} {Q : D → En → Prop} {E : Exn → En → Prop} (h : s.Ok) (h0 : 0 < m) (h1 : m < 1073741824) (hq : ∀ (i : Int) (s' : Dr), s'.Ok → 0 ≤ i → i < m → Q (.int i) [.dr s', .fr (.int m)]) : wO (takeF [.dr s, .fr (.int m)]) Q E := by
  rw [take_w h h0 h1]
  exact hq _ _ (h.draw m) (Dr.got_r s h0).1 (Dr.got_r s h0).2
end AT
namespace AT
open PySem PySem.Spec PyProof.Rows L2
/-! the end -/
theorem funD_eq {K : PySem.W.Frag} {x qual : Str} {params : Arguments} {body : List Stmt} {scope : Scope} {dvs : List V} {kws : List (Str × V)} {f : Addr} {fd fd' : FuncData} (F : FunD K x qual params body scope dvs kws f fd) (F' : FunD K x qual params body scope dvs kws f fd') : fd = fd' := by
  obtain ⟨oc, od, dV, kV, doc, pm, an, cdv, ct, osl, _, lk, _, _, _⟩ := F.ex
  obtain ⟨oc', od', dV', kV', doc', pm', an', cdv', ct', osl', _, lk', _, _, _⟩ := F'.ex
  rw [lk] at lk'
  cases lk'
  rfl
/-- what a def lets out, whatever the world -/
def CXn : CXT := fun outer H s E u s' => ∃ P w, L2.CX P w outer H s E u s'
theorem cxn_no {H : Hp} {s : Shared} {e : Value} {s' : Shared} (z : CXn [] H s (fun _ _ _ => False) e s') : False := by
  obtain ⟨P, w, a, B, H', cls, d, _, _, _, _, _, _, _, h⟩ := z
  exact h
theorem fnG_cxn {P : Program} {w : World} {K : PySem.W.Frag} {mg : Str → Option Value} {base : Heap} {k : Nat} {f : Addr} {fd : FuncData} {ps : List Str} {sp : Sp} (F : FnG P w K mg base (L2.CX P w) k f fd ps sp) : FnG P w K mg base CXn k f fd ps sp :=
  ⟨F.len, fun A outer s H args us vs Q E hr hg e0 hb hv h => codeAny_mono (F.run A outer s H args us vs Q E hr hg e0 hb hv h) fun r s' q => by
    cases r with
    | ok o => cases o <;> exact q
    | error e => exact ⟨P, w, q⟩⟩
end AT
set_option Elab.async false
set_option linter.all false
set_option maxRecDepth 100000
set_option maxHeartbeats 4000000
namespace AT
open PySem PySem.Spec PyProof.Rows L2
namespace L06
def bodyC : Stmt → List Stmt
  | .ClassDef _ _ _ b _ _ _ _ _ _ _ => b
  | _ => []
abbrev P : Program := PySem.Challenge.pw_anytypist_k06_kinds_made_and_ordered
def top (i : Nat) : Stmt := P.main.body.getD i (.Pass ⟨0, 0, 0, 0⟩)
def mth (i j : Nat) : Stmt := (bodyC (top i)).getD j (.Pass ⟨0, 0, 0, 0⟩)
def fsT : Str → List Str := fun c => (([("BadKind", ["part"]), ("Kind", ["k_numbers"])] : List (Str × List Str)).lookup c).getD []
theorem nd_Kind : (fsT "Kind").Nodup := by decide +kernel
theorem ln_Kind : (fsT "Kind").length < 1000 := by decide +kernel
theorem NM_Kind_init : ("__init__" : Str) ∉ fsT "Kind" := by decide +kernel
theorem NM_Kind_eq : ("__eq__" : Str) ∉ fsT "Kind" := by decide +kernel
theorem NM_Kind_is_at_most : ("is_at_most" : Str) ∉ fsT "Kind" := by decide +kernel
theorem NM_Kind_and : ("__and__" : Str) ∉ fsT "Kind" := by decide +kernel
theorem NM_Kind_numbers : ("numbers" : Str) ∉ fsT "Kind" := by decide +kernel
abbrev GG (K : PySem.W.Frag) : Gam := ⟨K, He.ga K, fsT⟩
def CS : List Str := ["Kind"]
def IT_Kind : IsTab := ⟨fun _ => false, [("Kind", true)]⟩
def IT_bool : IsTab := ⟨fun t => t == "bool", [("Kind", false)]⟩
def IT_int : IsTab := ⟨fun t => t == "int" || t == "bool", [("Kind", false)]⟩
def K_BOUNDS : List Str := ["changes", "held", "rest", "bounce"]
def T_BOUNDS : List (Str × D) := [("changes", .tup [.int 1, .int 4]), ("held", .tup [.int 1, .int 4]), ("rest", .tup [.int 1, .int 6]), ("bounce", .tup [.int 0, .int 4])]
def CML_BadKind : List (Str × Bool) := [("TypistError", false), ("BadKind", true)]
def CM_BadKind : Str → Option Bool := fun x => CML_BadKind.lookup x
def MSG_BadKind : Str := "A number of a kind that is not as described, by its word."
def EP_BadKind : Er.EP := ⟨⟨7, 8, 7, 13⟩, ⟨7, 8, 7, 15⟩, ⟨7, 8, 7, 24⟩, ⟨7, 25, 7, 84⟩, ⟨7, 8, 7, 85⟩, ⟨7, 8, 7, 85⟩, ⟨8, 8, 8, 12⟩, ⟨8, 8, 8, 17⟩, ⟨8, 20, 8, 24⟩, ⟨8, 8, 8, 24⟩, ⟨6, 17, 6, 21⟩, ⟨6, 23, 6, 27⟩⟩
def E_BadKind : Hk.EDef := ⟨"BadKind", "part", "BadKind.__init__", defArgs (mth 2 0), defBody (mth 2 0), defScope (mth 2 0)⟩
theorem T_BadKind : Hk.ETxt E_BadKind MSG_BadKind EP_BadKind := ⟨by kernel_rfl, by kernel_rfl, Er.bnd_part, ⟨⟨_, fun _ => rfl⟩, fun _ _ _ _ _ => rfl, fun _ => rfl, fun _ => rfl⟩, rfl, rfl, rfl, rfl, rfl, rfl, rfl, by decide +kernel, by decide, by decide⟩
def D_is_integer : He.DefD := ⟨("is_integer", none), "is_integer", "is_integer", defArgs (top 4), defBody (top 4), defScope (top 4), [], []⟩
def D_is_between : He.DefD := ⟨("is_between", none), "is_between", "is_between", defArgs (top 5), defBody (top 5), defScope (top 5), [], []⟩
def D_Kind_init : He.DefD := ⟨("Kind", some "__init__"), "__init__", "Kind.__init__", defArgs (mth 8 0), defBody (mth 8 0), defScope (mth 8 0), [], []⟩
def D_Kind_eq : He.DefD := ⟨("Kind", some "__eq__"), "__eq__", "Kind.__eq__", defArgs (mth 8 5), defBody (mth 8 5), defScope (mth 8 5), [], []⟩
def D_Kind_is_at_most : He.DefD := ⟨("Kind", some "is_at_most"), "is_at_most", "Kind.is_at_most", defArgs (mth 8 6), defBody (mth 8 6), defScope (mth 8 6), [], []⟩
def D_Kind_and : He.DefD := ⟨("Kind", some "__and__"), "__and__", "Kind.__and__", defArgs (mth 8 7), defBody (mth 8 7), defScope (mth 8 7), [], []⟩
def D_Kind_numbers : He.DefD := ⟨("Kind", some "numbers"), "numbers", "Kind.numbers", defArgs (mth 8 8), defBody (mth 8 8), defScope (mth 8 8), [], []⟩
def D__law_begin : He.DefD := ⟨("_law_begin", none), "_law_begin", "_law_begin", defArgs (top 10), defBody (top 10), defScope (top 10), [], []⟩
def D__law_take : He.DefD := ⟨("_law_take", none), "_law_take", "_law_take", defArgs (top 11), defBody (top 11), defScope (top 11), [], []⟩
def D__law_pick : He.DefD := ⟨("_law_pick", none), "_law_pick", "_law_pick", defArgs (top 12), defBody (top 12), defScope (top 12), [], []⟩
def D__law_odd : He.DefD := ⟨("_law_odd", none), "_law_odd", "_law_odd", defArgs (top 13), defBody (top 13), defScope (top 13), [], []⟩
def D__law_is_int : He.DefD := ⟨("_law_is_int", none), "_law_is_int", "_law_is_int", defArgs (top 14), defBody (top 14), defScope (top 14), [], []⟩
def D__law_kind : He.DefD := ⟨("_law_kind", none), "_law_kind", "_law_kind", defArgs (top 15), defBody (top 15), defScope (top 15), [], []⟩
def D__law_named : He.DefD := ⟨("_law_named", none), "_law_named", "_law_named", defArgs (top 16), defBody (top 16), defScope (top 16), [], []⟩
def D_law : He.DefD := ⟨("law", none), "law", "law", defArgs (top 17), defBody (top 17), defScope (top 17), [], []⟩
def D_Kind_changes : Hk.PDef := ⟨"Kind", "changes", "Kind.changes", defArgs (mth 8 1), defBody (mth 8 1), defScope (mth 8 1)⟩
def D_Kind_held : Hk.PDef := ⟨"Kind", "held", "Kind.held", defArgs (mth 8 2), defBody (mth 8 2), defScope (mth 8 2)⟩
def D_Kind_rest : Hk.PDef := ⟨"Kind", "rest", "Kind.rest", defArgs (mth 8 3), defBody (mth 8 3), defScope (mth 8 3)⟩
def D_Kind_bounce : Hk.PDef := ⟨"Kind", "bounce", "Kind.bounce", defArgs (mth 8 4), defBody (mth 8 4), defScope (mth 8 4)⟩
structure Ev (w : World) (K : PySem.W.Frag) (mg : Str → Option Value) : Prop where
  n_abs : mg "abs" = none
  n_bool : mg "bool" = none
  n_divmod : mg "divmod" = none
  n_int : mg "int" = none
  n_isinstance : mg "isinstance" = none
  n_len : mg "len" = none
  n_list : mg "list" = none
  n_max : mg "max" = none
  n_min : mg "min" = none
  n_range : mg "range" = none
  n_repr : mg "repr" = none
  n_zip : mg "zip" = none
  g_BadKind : mg "BadKind" = some (.ref (He.ga K "BadKind"))
  g_Kind : mg "Kind" = some (.ref (He.ga K "Kind"))
  g__law_begin : mg "_law_begin" = some (.ref (He.ga K "_law_begin"))
  g__law_is_int : mg "_law_is_int" = some (.ref (He.ga K "_law_is_int"))
  g__law_kind : mg "_law_kind" = some (.ref (He.ga K "_law_kind"))
  g__law_named : mg "_law_named" = some (.ref (He.ga K "_law_named"))
  g__law_odd : mg "_law_odd" = some (.ref (He.ga K "_law_odd"))
  g__law_pick : mg "_law_pick" = some (.ref (He.ga K "_law_pick"))
  g__law_take : mg "_law_take" = some (.ref (He.ga K "_law_take"))
  g_is_between : mg "is_between" = some (.ref (He.ga K "is_between"))
  g_is_integer : mg "is_integer" = some (.ref (He.ga K "is_integer"))
  g_law : mg "law" = some (.ref (He.ga K "law"))
  c_Kind : Cls K (He.ga K "Kind")
  na_Kind_k_numbers : NoAttr K (He.ga K "Kind") "k_numbers"
  mk_Kind : Mk K (He.ga K "Kind") (He.ma K (He.ga K "Kind") "__init__")
  m_Kind_is_at_most : Meth K (He.ga K "Kind") "is_at_most" (He.ma K (He.ga K "Kind") "is_at_most")
  m_Kind_numbers : Meth K (He.ga K "Kind") "numbers" (He.ma K (He.ga K "Kind") "numbers")
  p_Kind_changes : ∃ pa, PropOf K (He.ga K "Kind") "changes" pa (Hk.pg K "Kind" "changes")
  d_Kind_changes : ∃ fd, FunD K "changes" "Kind.changes" (defArgs (mth 8 1)) (defBody (mth 8 1)) (defScope (mth 8 1)) [] [] (Hk.pg K "Kind" "changes") fd
  p_Kind_held : ∃ pa, PropOf K (He.ga K "Kind") "held" pa (Hk.pg K "Kind" "held")
  d_Kind_held : ∃ fd, FunD K "held" "Kind.held" (defArgs (mth 8 2)) (defBody (mth 8 2)) (defScope (mth 8 2)) [] [] (Hk.pg K "Kind" "held") fd
  p_Kind_rest : ∃ pa, PropOf K (He.ga K "Kind") "rest" pa (Hk.pg K "Kind" "rest")
  d_Kind_rest : ∃ fd, FunD K "rest" "Kind.rest" (defArgs (mth 8 3)) (defBody (mth 8 3)) (defScope (mth 8 3)) [] [] (Hk.pg K "Kind" "rest") fd
  p_Kind_bounce : ∃ pa, PropOf K (He.ga K "Kind") "bounce" pa (Hk.pg K "Kind" "bounce")
  d_Kind_bounce : ∃ fd, FunD K "bounce" "Kind.bounce" (defArgs (mth 8 4)) (defBody (mth 8 4)) (defScope (mth 8 4)) [] [] (Hk.pg K "Kind" "bounce") fd
  d_is_integer : ∃ fd, FunD K "is_integer" "is_integer" (defArgs (top 4)) (defBody (top 4)) (defScope (top 4)) [] [] (He.ga K "is_integer") fd
  d_is_between : ∃ fd, FunD K "is_between" "is_between" (defArgs (top 5)) (defBody (top 5)) (defScope (top 5)) [] [] (He.ga K "is_between") fd
  d_Kind_init : ∃ fd, FunD K "__init__" "Kind.__init__" (defArgs (mth 8 0)) (defBody (mth 8 0)) (defScope (mth 8 0)) [] [] (He.ma K (He.ga K "Kind") "__init__") fd
  d_Kind_eq : ∃ fd, FunD K "__eq__" "Kind.__eq__" (defArgs (mth 8 5)) (defBody (mth 8 5)) (defScope (mth 8 5)) [] [] (He.ma K (He.ga K "Kind") "__eq__") fd
  d_Kind_is_at_most : ∃ fd, FunD K "is_at_most" "Kind.is_at_most" (defArgs (mth 8 6)) (defBody (mth 8 6)) (defScope (mth 8 6)) [] [] (He.ma K (He.ga K "Kind") "is_at_most") fd
  d_Kind_and : ∃ fd, FunD K "__and__" "Kind.__and__" (defArgs (mth 8 7)) (defBody (mth 8 7)) (defScope (mth 8 7)) [] [] (He.ma K (He.ga K "Kind") "__and__") fd
  d_Kind_numbers : ∃ fd, FunD K "numbers" "Kind.numbers" (defArgs (mth 8 8)) (defBody (mth 8 8)) (defScope (mth 8 8)) [] [] (He.ma K (He.ga K "Kind") "numbers") fd
  d__law_begin : ∃ fd, FunD K "_law_begin" "_law_begin" (defArgs (top 10)) (defBody (top 10)) (defScope (top 10)) [] [] (He.ga K "_law_begin") fd
  d__law_take : ∃ fd, FunD K "_law_take" "_law_take" (defArgs (top 11)) (defBody (top 11)) (defScope (top 11)) [] [] (He.ga K "_law_take") fd
  d__law_pick : ∃ fd, FunD K "_law_pick" "_law_pick" (defArgs (top 12)) (defBody (top 12)) (defScope (top 12)) [] [] (He.ga K "_law_pick") fd
  d__law_odd : ∃ fd, FunD K "_law_odd" "_law_odd" (defArgs (top 13)) (defBody (top 13)) (defScope (top 13)) [] [] (He.ga K "_law_odd") fd
  d__law_is_int : ∃ fd, FunD K "_law_is_int" "_law_is_int" (defArgs (top 14)) (defBody (top 14)) (defScope (top 14)) [] [] (He.ga K "_law_is_int") fd
  d__law_kind : ∃ fd, FunD K "_law_kind" "_law_kind" (defArgs (top 15)) (defBody (top 15)) (defScope (top 15)) [] [] (He.ga K "_law_kind") fd
  d__law_named : ∃ fd, FunD K "_law_named" "_law_named" (defArgs (top 16)) (defBody (top 16)) (defScope (top 16)) [] [] (He.ga K "_law_named") fd
  d_law : ∃ fd, FunD K "law" "law" (defArgs (top 17)) (defBody (top 17)) (defScope (top 17)) [] [] (He.ga K "law") fd
  e_Kind : EqOk K (He.ga K "Kind") (He.ma K (He.ga K "Kind") "__eq__")
  nf_Kind : chkNf K "Kind" CS = true
  b_Kind_and : BinOk K (He.ga K "Kind") (He.ma K (He.ga K "Kind") "__and__") "__and__"
  is_Kind : chkIs K IT_Kind (fun v => PySem.W.kitOne K v (.ref (He.ga K "Kind"))) = true
  is_bool : chkIs K IT_bool (fun v => PySem.W.kitOne K v (.type "bool")) = true
  is_int : chkIs K IT_int (fun v => PySem.W.kitOne K v (.type "int")) = true
  er_BadKind : Er.ErrT P K mg "BadKind" "part" MSG_BadKind "BadKind.__init__" (He.ga K "BadKind") (He.ma K (He.ga K "BadKind") "__init__") (Hk.cellOf K (He.ma K (He.ga K "BadKind") "__init__")) (Hk.codeAd K (He.ma K (He.ga K "BadKind") "__init__")) (defScope (mth 2 0)) EP_BadKind
  ea_BadKind : ErrA K (He.ga K "BadKind") "part"
  cm_BadKind : ∀ x b, CM_BadKind x = some b → PySem.W.exmOne K (.ref (He.ga K x)) (.ref (He.ga K "BadKind")) = some b
  kd_BOUNDS : ∀ X : Cx, X.mg = mg → X.K = K → X.w = w → KDi X "BOUNDS" (He.ga K "BOUNDS") K_BOUNDS
  kt_BOUNDS : kTabB K (He.ga K "BOUNDS") T_BOUNDS = true
theorem nothing_BadKind : True := trivial
section
variable {w : World} {K : PySem.W.Frag} {mg : Str → Option Value} {base : Heap}
/-! is_integer -/
def N_is_integer : List Str := ["thing"]
def ps_is_integer : List Str := ["thing"]
def m_is_integer : MS := (s_ret (m_andV (m_un (isaF IT_int) (m_pk 0)) (m_notE (m_un (isaF IT_bool) (m_pk 0)))))
theorem sc_is_integer : FnScope N_is_integer ps_is_integer (defScope (top 4)) := ⟨rfl, rfl, rfl, by decide +kernel, rfl, by decide +kernel, by decide +kernel⟩
def F_is_integer : List OV → Out D := runF 1 1 m_is_integer
theorem ok_is_integer (V : Ev w K mg) : Ok P w K mg base 1 (He.ga K "is_integer") ps_is_integer (spOf (GG K) 1 F_is_integer) := by
  obtain ⟨fd, F⟩ := V.d_is_integer
  refine ⟨fd, fn_clean (fn_d (G := GG K) (N := N_is_integer) (ps := ps_is_integer) (m := m_is_integer) F sc_is_integer (fun cdv A outer s H E B hr hm => ?_)) (fun _ _ => rfl), F.kp, F.bindsN fun _ _ _ _ _ _ us hl => match us, hl with | [_], _ => rfl⟩
  have hG : K = (GG K).K := rfl
  have hC : (GG K).C = He.ga (GG K).K := rfl
  have hN : N_is_integer.Nodup := sc_is_integer.nd
  have hu := hr.un
  have hu : (A.deeper (envOfC "is_integer" (defScope (top 4)) s.heap.objs.size (He.ga K "is_integer") cdv)).units + 100 < cLine := by omega
  have hu1 : (A.deeper (envOfC "is_integer" (defScope (top 4)) s.heap.objs.size (He.ga K "is_integer") cdv)).units + 1 < cLine := by omega
  have hu64 : (A.deeper (envOfC "is_integer" (defScope (top 4)) s.heap.objs.size (He.ga K "is_integer") cdv)).units + 64 < cLine := by omega
  have hB : B.args.length ≤ 1 := by rw [hm.1]; decide
  have hc : (cxOf (L2.CX P w) P w K mg base N_is_integer "is_integer" (defScope (top 4)) (He.ga K "is_integer") cdv A outer s H E).calm = true := rfl
  have hp : PassesOwn (model P w) (cxOf (L2.CX P w) P w K mg base N_is_integer "is_integer" (defScope (top 4)) (He.ga K "is_integer") cdv A outer s H E).A (cxOf (L2.CX P w) P w K mg base N_is_integer "is_integer" (defScope (top 4)) (He.ga K "is_integer") cdv A outer s H E).env (cxOf (L2.CX P w) P w K mg base N_is_integer "is_integer" (defScope (top 4)) (He.ga K "is_integer") cdv A outer s H E).xe := passes_of rfl
  have tk : Takes (cxOf (L2.CX P w) P w K mg base N_is_integer "is_integer" (defScope (top 4)) (He.ga K "is_integer") cdv A outer s H E) (fun cls d _ H => E cls d H) := takes_of rfl rfl rfl rfl
  exact (ds_one (ds_ret (de_and (de_isa (t := IT_int) hG hC V.is_int (.ty _) V.n_isinstance (de_pk 0) (pe_bltn (v := .ty "int") (u := .type "int") rfl V.n_int (by rfl) rfl)) (de_and1 (k_not (de_isa (t := IT_bool) hG hC V.is_bool (.ty _) V.n_isinstance (de_pk 0) (pe_bltn (v := .ty "bool") (u := .type "bool") rfl V.n_bool (by rfl) rfl)))))))
/-! is_between -/
def N_is_between : List Str := ["thing", "low", "high"]
def ps_is_between : List Str := ["thing", "low", "high"]
def m_is_between : MS := (s_ret (m_andV (m_call F_is_integer (lenOk 1 (m_cons (m_v 0) m_nil))) (m_chain (cF fun i j => decide (i ≤ j)) (cF fun i j => decide (i ≤ j)) (m_v 1) (m_v 0) (m_pk 2))))
theorem sc_is_between : FnScope N_is_between ps_is_between (defScope (top 5)) := ⟨rfl, rfl, rfl, by decide +kernel, rfl, by decide +kernel, by decide +kernel⟩
def F_is_between : List OV → Out D := runF 3 3 m_is_between
theorem ok_is_between (V : Ev w K mg) : Ok P w K mg base 2 (He.ga K "is_between") ps_is_between (spOf (GG K) 3 F_is_between) := by
  obtain ⟨fd, F⟩ := V.d_is_between
  refine ⟨fd, fn_clean (fn_d (G := GG K) (N := N_is_between) (ps := ps_is_between) (m := m_is_between) F sc_is_between (fun cdv A outer s H E B hr hm => ?_)) (fun _ _ => rfl), F.kp, F.bindsN fun _ _ _ _ _ _ us hl => match us, hl with | [_, _, _], _ => rfl⟩
  have hG : K = (GG K).K := rfl
  have hC : (GG K).C = He.ga (GG K).K := rfl
  have hN : N_is_between.Nodup := sc_is_between.nd
  have hu := hr.un
  have hu : (A.deeper (envOfC "is_between" (defScope (top 5)) s.heap.objs.size (He.ga K "is_between") cdv)).units + 100 < cLine := by omega
  have hu1 : (A.deeper (envOfC "is_between" (defScope (top 5)) s.heap.objs.size (He.ga K "is_between") cdv)).units + 1 < cLine := by omega
  have hu64 : (A.deeper (envOfC "is_between" (defScope (top 5)) s.heap.objs.size (He.ga K "is_between") cdv)).units + 64 < cLine := by omega
  have hB : B.args.length ≤ 3 := by rw [hm.1]; decide
  have hc : (cxOf (L2.CX P w) P w K mg base N_is_between "is_between" (defScope (top 5)) (He.ga K "is_between") cdv A outer s H E).calm = true := rfl
  have hp : PassesOwn (model P w) (cxOf (L2.CX P w) P w K mg base N_is_between "is_between" (defScope (top 5)) (He.ga K "is_between") cdv A outer s H E).A (cxOf (L2.CX P w) P w K mg base N_is_between "is_between" (defScope (top 5)) (He.ga K "is_between") cdv A outer s H E).env (cxOf (L2.CX P w) P w K mg base N_is_between "is_between" (defScope (top 5)) (He.ga K "is_between") cdv A outer s H E).xe := passes_of rfl
  have tk : Takes (cxOf (L2.CX P w) P w K mg base N_is_between "is_between" (defScope (top 5)) (He.ga K "is_between") cdv A outer s H E) (fun cls d _ H => E cls d H) := takes_of rfl rfl rfl rfl
  exact (ds_one (ds_ret (de_and (k_call (ok_is_integer V) (hr.mono (by decide)) V.g_is_integer tk (da_cons (de_v 0) da_nil)) (de_and1 (k_chain (x_le) (x_le) (de_v 1) (de_v 0) (de_pk 2))))))
/-! Kind_init -/
def N_Kind_init : List Str := ["self", "changes", "held", "rest", "bounce", "part", "number"]
def ps_Kind_init : List Str := ["self", "changes", "held", "rest", "bounce"]
def m_Kind_init : MS := (s_seq (s_for (m_zipK K_BOUNDS (m_tup (m_cons (m_v 1) (m_cons (m_v 2) (m_cons (m_v 3) (m_cons (m_v 4) m_nil)))))) (g_tup 2 (g_cons (g_name 5) (g_cons (g_name 6) g_nil))) (s_if (m_not (m_tst tru (m_call F_is_between (lenOk 3 (m_cons (m_v 6) (m_cons (m_op ixF (m_kix T_BOUNDS (m_v 5)) (m_c (.int 0))) (m_cons (m_op ixF (m_kix T_BOUNDS (m_v 5)) (m_c (.int 1))) m_nil))))))) (s_raise "BadKind" (m_cons (m_v 5) m_nil)) s_nil)) (s_fset 0 "Kind" 0 (m_tup (m_cons (m_v 1) (m_cons (m_v 2) (m_cons (m_v 3) (m_cons (m_v 4) m_nil)))))))
theorem sc_Kind_init : FnScope N_Kind_init ps_Kind_init (defScope (mth 8 0)) := ⟨rfl, rfl, rfl, by decide +kernel, rfl, by decide +kernel, by decide +kernel⟩
def F_Kind_init : List OV → Out D := runF 5 7 m_Kind_init
theorem ok_Kind_init (V : Ev w K mg) : Ok P w K mg base 3 (He.ma K (He.ga K "Kind") "__init__") ps_Kind_init (spOf (GG K) 5 F_Kind_init) := by
  obtain ⟨fd, F⟩ := V.d_Kind_init
  refine ⟨fd, fn_clean (fn_d (G := GG K) (N := N_Kind_init) (ps := ps_Kind_init) (m := m_Kind_init) F sc_Kind_init (fun cdv A outer s H E B hr hm => ?_)) (fun _ _ => rfl), F.kp, F.bindsN fun _ _ _ _ _ _ us hl => match us, hl with | [_, _, _, _, _], _ => rfl⟩
  have hG : K = (GG K).K := rfl
  have hC : (GG K).C = He.ga (GG K).K := rfl
  have hN : N_Kind_init.Nodup := sc_Kind_init.nd
  have hu := hr.un
  have hu : (A.deeper (envOfC "Kind.__init__" (defScope (mth 8 0)) s.heap.objs.size (He.ma K (He.ga K "Kind") "__init__") cdv)).units + 100 < cLine := by omega
  have hu1 : (A.deeper (envOfC "Kind.__init__" (defScope (mth 8 0)) s.heap.objs.size (He.ma K (He.ga K "Kind") "__init__") cdv)).units + 1 < cLine := by omega
  have hu64 : (A.deeper (envOfC "Kind.__init__" (defScope (mth 8 0)) s.heap.objs.size (He.ma K (He.ga K "Kind") "__init__") cdv)).units + 64 < cLine := by omega
  have hB : B.args.length ≤ 5 := by rw [hm.1]; decide
  have hc : (cxOf (L2.CX P w) P w K mg base N_Kind_init "Kind.__init__" (defScope (mth 8 0)) (He.ma K (He.ga K "Kind") "__init__") cdv A outer s H E).calm = true := rfl
  have hp : PassesOwn (model P w) (cxOf (L2.CX P w) P w K mg base N_Kind_init "Kind.__init__" (defScope (mth 8 0)) (He.ma K (He.ga K "Kind") "__init__") cdv A outer s H E).A (cxOf (L2.CX P w) P w K mg base N_Kind_init "Kind.__init__" (defScope (mth 8 0)) (He.ma K (He.ga K "Kind") "__init__") cdv A outer s H E).env (cxOf (L2.CX P w) P w K mg base N_Kind_init "Kind.__init__" (defScope (mth 8 0)) (He.ma K (He.ga K "Kind") "__init__") cdv A outer s H E).xe := passes_of rfl
  have tk : Takes (cxOf (L2.CX P w) P w K mg base N_Kind_init "Kind.__init__" (defScope (mth 8 0)) (He.ma K (He.ga K "Kind") "__init__") cdv A outer s H E) (fun cls d _ H => E cls d H) := takes_of rfl rfl rfl rfl
  exact (ds_cons (ds_for (ks := [5, 6]) hp hc (di_zipK hG (V.kd_BOUNDS _ rfl rfl rfl) (de_tup (da_cons (de_v 1) (da_cons (de_v 2) (da_cons (de_v 3) (da_cons (de_v 4) da_nil))))) V.n_zip) (dg_tup hG hc (dgs_cons (dg_name 5 hN) (dgs_cons (dg_name 6 hN) dgs_nil))) (ds_one (ds_if (dt_not (dt_tru hG (de_b (k_call (ok_is_between V) (hr.mono (by decide)) V.g_is_between tk (da_cons (de_v 6) (da_cons (de_ix hG hu1 (de_ixK hG (V.kd_BOUNDS _ rfl rfl rfl) V.kt_BOUNDS (de_v 5)) (de_b de_int) (by intro _ _; rfl)) (da_cons (de_ix hG hu1 (de_ixK hG (V.kd_BOUNDS _ rfl rfl rfl) V.kt_BOUNDS (de_v 5)) (de_b de_int) (by intro _ _; rfl)) da_nil))))))) (ds_one (ds_raise (k := 1) "BadKind" hc hG V.er_BadKind rfl (hr.mono (by decide)) tk (de_v 5))) ds_nil))) (ds_one (ds_fset 0 "Kind" 0 hG V.c_Kind V.na_Kind_k_numbers rfl nd_Kind ln_Kind (de_tup (da_cons (de_v 1) (da_cons (de_v 2) (da_cons (de_v 3) (da_cons (de_v 4) da_nil))))))))
theorem okK_Kind_init_bounce_rest_held_changes (V : Ev w K mg) : OkK P w K mg base 3 (He.ma K (He.ga K "Kind") "__init__") ps_Kind_init (spOf (GG K) 5 F_Kind_init) 1 ["bounce", "rest", "held", "changes"] [3, 2, 1, 0] := by
  obtain ⟨fd, F⟩ := V.d_Kind_init
  refine ⟨fd, fn_clean (fn_d (G := GG K) (N := N_Kind_init) (ps := ps_Kind_init) (m := m_Kind_init) F sc_Kind_init (fun cdv A outer s H E B hr hm => ?_)) (fun _ _ => rfl), F.kp, kb_of F 1 ["bounce", "rest", "held", "changes"] [3, 2, 1, 0] fun _ _ _ _ _ _ us ws l1 l2 => match us, ws, l1, l2 with | [_], [_, _, _, _], _, _ => rfl⟩
  have hG : K = (GG K).K := rfl
  have hC : (GG K).C = He.ga (GG K).K := rfl
  have hN : N_Kind_init.Nodup := sc_Kind_init.nd
  have hu := hr.un
  have hu : (A.deeper (envOfC "Kind.__init__" (defScope (mth 8 0)) s.heap.objs.size (He.ma K (He.ga K "Kind") "__init__") cdv)).units + 100 < cLine := by omega
  have hu1 : (A.deeper (envOfC "Kind.__init__" (defScope (mth 8 0)) s.heap.objs.size (He.ma K (He.ga K "Kind") "__init__") cdv)).units + 1 < cLine := by omega
  have hu64 : (A.deeper (envOfC "Kind.__init__" (defScope (mth 8 0)) s.heap.objs.size (He.ma K (He.ga K "Kind") "__init__") cdv)).units + 64 < cLine := by omega
  have hB : B.args.length ≤ 5 := by rw [hm.1]; decide
  have hc : (cxOf (L2.CX P w) P w K mg base N_Kind_init "Kind.__init__" (defScope (mth 8 0)) (He.ma K (He.ga K "Kind") "__init__") cdv A outer s H E).calm = true := rfl
  have hp : PassesOwn (model P w) (cxOf (L2.CX P w) P w K mg base N_Kind_init "Kind.__init__" (defScope (mth 8 0)) (He.ma K (He.ga K "Kind") "__init__") cdv A outer s H E).A (cxOf (L2.CX P w) P w K mg base N_Kind_init "Kind.__init__" (defScope (mth 8 0)) (He.ma K (He.ga K "Kind") "__init__") cdv A outer s H E).env (cxOf (L2.CX P w) P w K mg base N_Kind_init "Kind.__init__" (defScope (mth 8 0)) (He.ma K (He.ga K "Kind") "__init__") cdv A outer s H E).xe := passes_of rfl
  have tk : Takes (cxOf (L2.CX P w) P w K mg base N_Kind_init "Kind.__init__" (defScope (mth 8 0)) (He.ma K (He.ga K "Kind") "__init__") cdv A outer s H E) (fun cls d _ H => E cls d H) := takes_of rfl rfl rfl rfl
  exact (ds_cons (ds_for (ks := [5, 6]) hp hc (di_zipK hG (V.kd_BOUNDS _ rfl rfl rfl) (de_tup (da_cons (de_v 1) (da_cons (de_v 2) (da_cons (de_v 3) (da_cons (de_v 4) da_nil))))) V.n_zip) (dg_tup hG hc (dgs_cons (dg_name 5 hN) (dgs_cons (dg_name 6 hN) dgs_nil))) (ds_one (ds_if (dt_not (dt_tru hG (de_b (k_call (ok_is_between V) (hr.mono (by decide)) V.g_is_between tk (da_cons (de_v 6) (da_cons (de_ix hG hu1 (de_ixK hG (V.kd_BOUNDS _ rfl rfl rfl) V.kt_BOUNDS (de_v 5)) (de_b de_int) (by intro _ _; rfl)) (da_cons (de_ix hG hu1 (de_ixK hG (V.kd_BOUNDS _ rfl rfl rfl) V.kt_BOUNDS (de_v 5)) (de_b de_int) (by intro _ _; rfl)) da_nil))))))) (ds_one (ds_raise (k := 1) "BadKind" hc hG V.er_BadKind rfl (hr.mono (by decide)) tk (de_v 5))) ds_nil))) (ds_one (ds_fset 0 "Kind" 0 hG V.c_Kind V.na_Kind_k_numbers rfl nd_Kind ln_Kind (de_tup (da_cons (de_v 1) (da_cons (de_v 2) (da_cons (de_v 3) (da_cons (de_v 4) da_nil))))))))
/-! Kind_changes -/
def N_Kind_changes : List Str := ["self"]
def ps_Kind_changes : List Str := ["self"]
def m_Kind_changes : MS := (s_ret (m_op ixF (m_un (fldF "Kind" 0) (m_v 0)) (m_c (.int 0))))
theorem sc_Kind_changes : FnScope N_Kind_changes ps_Kind_changes (defScope (mth 8 1)) := ⟨rfl, rfl, rfl, by decide +kernel, rfl, by decide +kernel, by decide +kernel⟩
def F_Kind_changes : List OV → Out D := runF 1 1 m_Kind_changes
theorem ok_Kind_changes (V : Ev w K mg) : Ok P w K mg base 1 (Hk.pg K "Kind" "changes") ps_Kind_changes (spOf (GG K) 1 F_Kind_changes) := by
  obtain ⟨fd, F⟩ := V.d_Kind_changes
  refine ⟨fd, fn_clean (fn_d (G := GG K) (N := N_Kind_changes) (ps := ps_Kind_changes) (m := m_Kind_changes) F sc_Kind_changes (fun cdv A outer s H E B hr hm => ?_)) (fun _ _ => rfl), F.kp, F.bindsN fun _ _ _ _ _ _ us hl => match us, hl with | [_], _ => rfl⟩
  have hG : K = (GG K).K := rfl
  have hC : (GG K).C = He.ga (GG K).K := rfl
  have hN : N_Kind_changes.Nodup := sc_Kind_changes.nd
  have hu := hr.un
  have hu : (A.deeper (envOfC "Kind.changes" (defScope (mth 8 1)) s.heap.objs.size (Hk.pg K "Kind" "changes") cdv)).units + 100 < cLine := by omega
  have hu1 : (A.deeper (envOfC "Kind.changes" (defScope (mth 8 1)) s.heap.objs.size (Hk.pg K "Kind" "changes") cdv)).units + 1 < cLine := by omega
  have hu64 : (A.deeper (envOfC "Kind.changes" (defScope (mth 8 1)) s.heap.objs.size (Hk.pg K "Kind" "changes") cdv)).units + 64 < cLine := by omega
  have hB : B.args.length ≤ 1 := by rw [hm.1]; decide
  have hc : (cxOf (L2.CX P w) P w K mg base N_Kind_changes "Kind.changes" (defScope (mth 8 1)) (Hk.pg K "Kind" "changes") cdv A outer s H E).calm = true := rfl
  have hp : PassesOwn (model P w) (cxOf (L2.CX P w) P w K mg base N_Kind_changes "Kind.changes" (defScope (mth 8 1)) (Hk.pg K "Kind" "changes") cdv A outer s H E).A (cxOf (L2.CX P w) P w K mg base N_Kind_changes "Kind.changes" (defScope (mth 8 1)) (Hk.pg K "Kind" "changes") cdv A outer s H E).env (cxOf (L2.CX P w) P w K mg base N_Kind_changes "Kind.changes" (defScope (mth 8 1)) (Hk.pg K "Kind" "changes") cdv A outer s H E).xe := passes_of rfl
  have tk : Takes (cxOf (L2.CX P w) P w K mg base N_Kind_changes "Kind.changes" (defScope (mth 8 1)) (Hk.pg K "Kind" "changes") cdv A outer s H E) (fun cls d _ H => E cls d H) := takes_of rfl rfl rfl rfl
  exact (ds_one (ds_ret (de_ix hG hu1 (de_fld "Kind" 0 hG V.c_Kind V.na_Kind_k_numbers rfl nd_Kind (de_v 0)) (de_b de_int) (by intro _ _; rfl))))
/-! Kind_held -/
def N_Kind_held : List Str := ["self"]
def ps_Kind_held : List Str := ["self"]
def m_Kind_held : MS := (s_ret (m_op ixF (m_un (fldF "Kind" 0) (m_v 0)) (m_c (.int 1))))
theorem sc_Kind_held : FnScope N_Kind_held ps_Kind_held (defScope (mth 8 2)) := ⟨rfl, rfl, rfl, by decide +kernel, rfl, by decide +kernel, by decide +kernel⟩
def F_Kind_held : List OV → Out D := runF 1 1 m_Kind_held
theorem ok_Kind_held (V : Ev w K mg) : Ok P w K mg base 1 (Hk.pg K "Kind" "held") ps_Kind_held (spOf (GG K) 1 F_Kind_held) := by
  obtain ⟨fd, F⟩ := V.d_Kind_held
  refine ⟨fd, fn_clean (fn_d (G := GG K) (N := N_Kind_held) (ps := ps_Kind_held) (m := m_Kind_held) F sc_Kind_held (fun cdv A outer s H E B hr hm => ?_)) (fun _ _ => rfl), F.kp, F.bindsN fun _ _ _ _ _ _ us hl => match us, hl with | [_], _ => rfl⟩
  have hG : K = (GG K).K := rfl
  have hC : (GG K).C = He.ga (GG K).K := rfl
  have hN : N_Kind_held.Nodup := sc_Kind_held.nd
  have hu := hr.un
  have hu : (A.deeper (envOfC "Kind.held" (defScope (mth 8 2)) s.heap.objs.size (Hk.pg K "Kind" "held") cdv)).units + 100 < cLine := by omega
  have hu1 : (A.deeper (envOfC "Kind.held" (defScope (mth 8 2)) s.heap.objs.size (Hk.pg K "Kind" "held") cdv)).units + 1 < cLine := by omega
  have hu64 : (A.deeper (envOfC "Kind.held" (defScope (mth 8 2)) s.heap.objs.size (Hk.pg K "Kind" "held") cdv)).units + 64 < cLine := by omega
  have hB : B.args.length ≤ 1 := by rw [hm.1]; decide
  have hc : (cxOf (L2.CX P w) P w K mg base N_Kind_held "Kind.held" (defScope (mth 8 2)) (Hk.pg K "Kind" "held") cdv A outer s H E).calm = true := rfl
  have hp : PassesOwn (model P w) (cxOf (L2.CX P w) P w K mg base N_Kind_held "Kind.held" (defScope (mth 8 2)) (Hk.pg K "Kind" "held") cdv A outer s H E).A (cxOf (L2.CX P w) P w K mg base N_Kind_held "Kind.held" (defScope (mth 8 2)) (Hk.pg K "Kind" "held") cdv A outer s H E).env (cxOf (L2.CX P w) P w K mg base N_Kind_held "Kind.held" (defScope (mth 8 2)) (Hk.pg K "Kind" "held") cdv A outer s H E).xe := passes_of rfl
  have tk : Takes (cxOf (L2.CX P w) P w K mg base N_Kind_held "Kind.held" (defScope (mth 8 2)) (Hk.pg K "Kind" "held") cdv A outer s H E) (fun cls d _ H => E cls d H) := takes_of rfl rfl rfl rfl
  exact (ds_one (ds_ret (de_ix hG hu1 (de_fld "Kind" 0 hG V.c_Kind V.na_Kind_k_numbers rfl nd_Kind (de_v 0)) (de_b de_int) (by intro _ _; rfl))))
/-! Kind_rest -/
def N_Kind_rest : List Str := ["self"]
def ps_Kind_rest : List Str := ["self"]
def m_Kind_rest : MS := (s_ret (m_op ixF (m_un (fldF "Kind" 0) (m_v 0)) (m_c (.int 2))))
theorem sc_Kind_rest : FnScope N_Kind_rest ps_Kind_rest (defScope (mth 8 3)) := ⟨rfl, rfl, rfl, by decide +kernel, rfl, by decide +kernel, by decide +kernel⟩
def F_Kind_rest : List OV → Out D := runF 1 1 m_Kind_rest
theorem ok_Kind_rest (V : Ev w K mg) : Ok P w K mg base 1 (Hk.pg K "Kind" "rest") ps_Kind_rest (spOf (GG K) 1 F_Kind_rest) := by
  obtain ⟨fd, F⟩ := V.d_Kind_rest
  refine ⟨fd, fn_clean (fn_d (G := GG K) (N := N_Kind_rest) (ps := ps_Kind_rest) (m := m_Kind_rest) F sc_Kind_rest (fun cdv A outer s H E B hr hm => ?_)) (fun _ _ => rfl), F.kp, F.bindsN fun _ _ _ _ _ _ us hl => match us, hl with | [_], _ => rfl⟩
  have hG : K = (GG K).K := rfl
  have hC : (GG K).C = He.ga (GG K).K := rfl
  have hN : N_Kind_rest.Nodup := sc_Kind_rest.nd
  have hu := hr.un
  have hu : (A.deeper (envOfC "Kind.rest" (defScope (mth 8 3)) s.heap.objs.size (Hk.pg K "Kind" "rest") cdv)).units + 100 < cLine := by omega
  have hu1 : (A.deeper (envOfC "Kind.rest" (defScope (mth 8 3)) s.heap.objs.size (Hk.pg K "Kind" "rest") cdv)).units + 1 < cLine := by omega
  have hu64 : (A.deeper (envOfC "Kind.rest" (defScope (mth 8 3)) s.heap.objs.size (Hk.pg K "Kind" "rest") cdv)).units + 64 < cLine := by omega
  have hB : B.args.length ≤ 1 := by rw [hm.1]; decide
  have hc : (cxOf (L2.CX P w) P w K mg base N_Kind_rest "Kind.rest" (defScope (mth 8 3)) (Hk.pg K "Kind" "rest") cdv A outer s H E).calm = true := rfl
  have hp : PassesOwn (model P w) (cxOf (L2.CX P w) P w K mg base N_Kind_rest "Kind.rest" (defScope (mth 8 3)) (Hk.pg K "Kind" "rest") cdv A outer s H E).A (cxOf (L2.CX P w) P w K mg base N_Kind_rest "Kind.rest" (defScope (mth 8 3)) (Hk.pg K "Kind" "rest") cdv A outer s H E).env (cxOf (L2.CX P w) P w K mg base N_Kind_rest "Kind.rest" (defScope (mth 8 3)) (Hk.pg K "Kind" "rest") cdv A outer s H E).xe := passes_of rfl
  have tk : Takes (cxOf (L2.CX P w) P w K mg base N_Kind_rest "Kind.rest" (defScope (mth 8 3)) (Hk.pg K "Kind" "rest") cdv A outer s H E) (fun cls d _ H => E cls d H) := takes_of rfl rfl rfl rfl
  exact (ds_one (ds_ret (de_ix hG hu1 (de_fld "Kind" 0 hG V.c_Kind V.na_Kind_k_numbers rfl nd_Kind (de_v 0)) (de_b de_int) (by intro _ _; rfl))))
/-! Kind_bounce -/
def N_Kind_bounce : List Str := ["self"]
def ps_Kind_bounce : List Str := ["self"]
def m_Kind_bounce : MS := (s_ret (m_op ixF (m_un (fldF "Kind" 0) (m_v 0)) (m_c (.int 3))))
theorem sc_Kind_bounce : FnScope N_Kind_bounce ps_Kind_bounce (defScope (mth 8 4)) := ⟨rfl, rfl, rfl, by decide +kernel, rfl, by decide +kernel, by decide +kernel⟩
def F_Kind_bounce : List OV → Out D := runF 1 1 m_Kind_bounce
theorem ok_Kind_bounce (V : Ev w K mg) : Ok P w K mg base 1 (Hk.pg K "Kind" "bounce") ps_Kind_bounce (spOf (GG K) 1 F_Kind_bounce) := by
  obtain ⟨fd, F⟩ := V.d_Kind_bounce
  refine ⟨fd, fn_clean (fn_d (G := GG K) (N := N_Kind_bounce) (ps := ps_Kind_bounce) (m := m_Kind_bounce) F sc_Kind_bounce (fun cdv A outer s H E B hr hm => ?_)) (fun _ _ => rfl), F.kp, F.bindsN fun _ _ _ _ _ _ us hl => match us, hl with | [_], _ => rfl⟩
  have hG : K = (GG K).K := rfl
  have hC : (GG K).C = He.ga (GG K).K := rfl
  have hN : N_Kind_bounce.Nodup := sc_Kind_bounce.nd
  have hu := hr.un
  have hu : (A.deeper (envOfC "Kind.bounce" (defScope (mth 8 4)) s.heap.objs.size (Hk.pg K "Kind" "bounce") cdv)).units + 100 < cLine := by omega
  have hu1 : (A.deeper (envOfC "Kind.bounce" (defScope (mth 8 4)) s.heap.objs.size (Hk.pg K "Kind" "bounce") cdv)).units + 1 < cLine := by omega
  have hu64 : (A.deeper (envOfC "Kind.bounce" (defScope (mth 8 4)) s.heap.objs.size (Hk.pg K "Kind" "bounce") cdv)).units + 64 < cLine := by omega
  have hB : B.args.length ≤ 1 := by rw [hm.1]; decide
  have hc : (cxOf (L2.CX P w) P w K mg base N_Kind_bounce "Kind.bounce" (defScope (mth 8 4)) (Hk.pg K "Kind" "bounce") cdv A outer s H E).calm = true := rfl
  have hp : PassesOwn (model P w) (cxOf (L2.CX P w) P w K mg base N_Kind_bounce "Kind.bounce" (defScope (mth 8 4)) (Hk.pg K "Kind" "bounce") cdv A outer s H E).A (cxOf (L2.CX P w) P w K mg base N_Kind_bounce "Kind.bounce" (defScope (mth 8 4)) (Hk.pg K "Kind" "bounce") cdv A outer s H E).env (cxOf (L2.CX P w) P w K mg base N_Kind_bounce "Kind.bounce" (defScope (mth 8 4)) (Hk.pg K "Kind" "bounce") cdv A outer s H E).xe := passes_of rfl
  have tk : Takes (cxOf (L2.CX P w) P w K mg base N_Kind_bounce "Kind.bounce" (defScope (mth 8 4)) (Hk.pg K "Kind" "bounce") cdv A outer s H E) (fun cls d _ H => E cls d H) := takes_of rfl rfl rfl rfl
  exact (ds_one (ds_ret (de_ix hG hu1 (de_fld "Kind" 0 hG V.c_Kind V.na_Kind_k_numbers rfl nd_Kind (de_v 0)) (de_b de_int) (by intro _ _; rfl))))
/-! Kind_eq -/
def N_Kind_eq : List Str := ["self", "other"]
def ps_Kind_eq : List Str := ["self", "other"]
def m_Kind_eq : MS := (s_ret (m_andV (m_un (isaF IT_Kind) (m_pk 1)) (m_op eqG (m_un (fldF "Kind" 0) (m_v 0)) (m_un (fldF "Kind" 0) (m_v 1)))))
theorem sc_Kind_eq : FnScope N_Kind_eq ps_Kind_eq (defScope (mth 8 5)) := ⟨rfl, rfl, rfl, by decide +kernel, rfl, by decide +kernel, by decide +kernel⟩
def F_Kind_eq : List OV → Out D := runF 2 2 m_Kind_eq
theorem ok_Kind_eq (V : Ev w K mg) : Ok P w K mg base 1 (He.ma K (He.ga K "Kind") "__eq__") ps_Kind_eq (spOf (GG K) 2 F_Kind_eq) := by
  obtain ⟨fd, F⟩ := V.d_Kind_eq
  refine ⟨fd, fn_clean (fn_d (G := GG K) (N := N_Kind_eq) (ps := ps_Kind_eq) (m := m_Kind_eq) F sc_Kind_eq (fun cdv A outer s H E B hr hm => ?_)) (fun _ _ => rfl), F.kp, F.bindsN fun _ _ _ _ _ _ us hl => match us, hl with | [_, _], _ => rfl⟩
  have hG : K = (GG K).K := rfl
  have hC : (GG K).C = He.ga (GG K).K := rfl
  have hN : N_Kind_eq.Nodup := sc_Kind_eq.nd
  have hu := hr.un
  have hu : (A.deeper (envOfC "Kind.__eq__" (defScope (mth 8 5)) s.heap.objs.size (He.ma K (He.ga K "Kind") "__eq__") cdv)).units + 100 < cLine := by omega
  have hu1 : (A.deeper (envOfC "Kind.__eq__" (defScope (mth 8 5)) s.heap.objs.size (He.ma K (He.ga K "Kind") "__eq__") cdv)).units + 1 < cLine := by omega
  have hu64 : (A.deeper (envOfC "Kind.__eq__" (defScope (mth 8 5)) s.heap.objs.size (He.ma K (He.ga K "Kind") "__eq__") cdv)).units + 64 < cLine := by omega
  have hB : B.args.length ≤ 2 := by rw [hm.1]; decide
  have hc : (cxOf (L2.CX P w) P w K mg base N_Kind_eq "Kind.__eq__" (defScope (mth 8 5)) (He.ma K (He.ga K "Kind") "__eq__") cdv A outer s H E).calm = true := rfl
  have hp : PassesOwn (model P w) (cxOf (L2.CX P w) P w K mg base N_Kind_eq "Kind.__eq__" (defScope (mth 8 5)) (He.ma K (He.ga K "Kind") "__eq__") cdv A outer s H E).A (cxOf (L2.CX P w) P w K mg base N_Kind_eq "Kind.__eq__" (defScope (mth 8 5)) (He.ma K (He.ga K "Kind") "__eq__") cdv A outer s H E).env (cxOf (L2.CX P w) P w K mg base N_Kind_eq "Kind.__eq__" (defScope (mth 8 5)) (He.ma K (He.ga K "Kind") "__eq__") cdv A outer s H E).xe := passes_of rfl
  have tk : Takes (cxOf (L2.CX P w) P w K mg base N_Kind_eq "Kind.__eq__" (defScope (mth 8 5)) (He.ma K (He.ga K "Kind") "__eq__") cdv A outer s H E) (fun cls d _ H => E cls d H) := takes_of rfl rfl rfl rfl
  exact (ds_one (ds_ret (de_and (de_isa (t := IT_Kind) hG hC V.is_Kind (.own _) V.n_isinstance (de_pk 1) (pe_glob (v := .ref (He.ga K "Kind")) rfl V.g_Kind rfl (by decide))) (de_and1 (k_cmp (x_eq hG hu) (de_fld "Kind" 0 hG V.c_Kind V.na_Kind_k_numbers rfl nd_Kind (de_v 0)) (de_b (de_fld "Kind" 0 hG V.c_Kind V.na_Kind_k_numbers rfl nd_Kind (de_v 1))))))))
/-! Kind_is_at_most -/
def N_Kind_is_at_most : List Str := ["self", "other", "fewer"]
def ps_Kind_is_at_most : List Str := ["self", "other"]
def m_Kind_is_at_most : MS := (s_seq (s_set 2 (m_andV (m_op (cF fun i j => decide (i ≤ j)) (m_prop "Kind" F_Kind_changes (m_v 0)) (m_prop "Kind" F_Kind_changes (m_v 1))) (m_andV (m_op (cF fun i j => decide (i ≤ j)) (m_prop "Kind" F_Kind_held (m_v 0)) (m_prop "Kind" F_Kind_held (m_v 1))) (m_op (cF fun i j => decide (i ≤ j)) (m_prop "Kind" F_Kind_bounce (m_v 0)) (m_prop "Kind" F_Kind_bounce (m_v 1)))))) (s_ret (m_andV (m_v 2) (m_op (cF fun i j => decide (j ≤ i)) (m_prop "Kind" F_Kind_rest (m_v 0)) (m_prop "Kind" F_Kind_rest (m_v 1))))))
theorem sc_Kind_is_at_most : FnScope N_Kind_is_at_most ps_Kind_is_at_most (defScope (mth 8 6)) := ⟨rfl, rfl, rfl, by decide +kernel, rfl, by decide +kernel, by decide +kernel⟩
def F_Kind_is_at_most : List OV → Out D := runF 2 3 m_Kind_is_at_most
theorem ok_Kind_is_at_most (V : Ev w K mg) : Ok P w K mg base 3 (He.ma K (He.ga K "Kind") "is_at_most") ps_Kind_is_at_most (spOf (GG K) 2 F_Kind_is_at_most) := by
  obtain ⟨fd, F⟩ := V.d_Kind_is_at_most
  refine ⟨fd, fn_clean (fn_d (G := GG K) (N := N_Kind_is_at_most) (ps := ps_Kind_is_at_most) (m := m_Kind_is_at_most) F sc_Kind_is_at_most (fun cdv A outer s H E B hr hm => ?_)) (fun _ _ => rfl), F.kp, F.bindsN fun _ _ _ _ _ _ us hl => match us, hl with | [_, _], _ => rfl⟩
  have hG : K = (GG K).K := rfl
  have hC : (GG K).C = He.ga (GG K).K := rfl
  have hN : N_Kind_is_at_most.Nodup := sc_Kind_is_at_most.nd
  have hu := hr.un
  have hu : (A.deeper (envOfC "Kind.is_at_most" (defScope (mth 8 6)) s.heap.objs.size (He.ma K (He.ga K "Kind") "is_at_most") cdv)).units + 100 < cLine := by omega
  have hu1 : (A.deeper (envOfC "Kind.is_at_most" (defScope (mth 8 6)) s.heap.objs.size (He.ma K (He.ga K "Kind") "is_at_most") cdv)).units + 1 < cLine := by omega
  have hu64 : (A.deeper (envOfC "Kind.is_at_most" (defScope (mth 8 6)) s.heap.objs.size (He.ma K (He.ga K "Kind") "is_at_most") cdv)).units + 64 < cLine := by omega
  have hB : B.args.length ≤ 2 := by rw [hm.1]; decide
  have hc : (cxOf (L2.CX P w) P w K mg base N_Kind_is_at_most "Kind.is_at_most" (defScope (mth 8 6)) (He.ma K (He.ga K "Kind") "is_at_most") cdv A outer s H E).calm = true := rfl
  have hp : PassesOwn (model P w) (cxOf (L2.CX P w) P w K mg base N_Kind_is_at_most "Kind.is_at_most" (defScope (mth 8 6)) (He.ma K (He.ga K "Kind") "is_at_most") cdv A outer s H E).A (cxOf (L2.CX P w) P w K mg base N_Kind_is_at_most "Kind.is_at_most" (defScope (mth 8 6)) (He.ma K (He.ga K "Kind") "is_at_most") cdv A outer s H E).env (cxOf (L2.CX P w) P w K mg base N_Kind_is_at_most "Kind.is_at_most" (defScope (mth 8 6)) (He.ma K (He.ga K "Kind") "is_at_most") cdv A outer s H E).xe := passes_of rfl
  have tk : Takes (cxOf (L2.CX P w) P w K mg base N_Kind_is_at_most "Kind.is_at_most" (defScope (mth 8 6)) (He.ma K (He.ga K "Kind") "is_at_most") cdv A outer s H E) (fun cls d _ H => E cls d H) := takes_of rfl rfl rfl rfl
  exact (ds_cons (ds_set 2 (de_and (k_cmp (x_le) (k_prop "Kind" hG V.c_Kind V.p_Kind_changes (ok_Kind_changes V) (hr.mono (by decide)) (de_v 0)) (de_b (k_prop "Kind" hG V.c_Kind V.p_Kind_changes (ok_Kind_changes V) (hr.mono (by decide)) (de_v 1)))) (de_and (k_cmp (x_le) (k_prop "Kind" hG V.c_Kind V.p_Kind_held (ok_Kind_held V) (hr.mono (by decide)) (de_v 0)) (de_b (k_prop "Kind" hG V.c_Kind V.p_Kind_held (ok_Kind_held V) (hr.mono (by decide)) (de_v 1)))) (de_and1 (k_cmp (x_le) (k_prop "Kind" hG V.c_Kind V.p_Kind_bounce (ok_Kind_bounce V) (hr.mono (by decide)) (de_v 0)) (de_b (k_prop "Kind" hG V.c_Kind V.p_Kind_bounce (ok_Kind_bounce V) (hr.mono (by decide)) (de_v 1))))))) hN) (ds_one (ds_ret (de_and (de_v 2) (de_and1 (k_cmp (x_ge) (k_prop "Kind" hG V.c_Kind V.p_Kind_rest (ok_Kind_rest V) (hr.mono (by decide)) (de_v 0)) (de_b (k_prop "Kind" hG V.c_Kind V.p_Kind_rest (ok_Kind_rest V) (hr.mono (by decide)) (de_v 1)))))))))
theorem okK_Kind_is_at_most_other (V : Ev w K mg) : OkK P w K mg base 3 (He.ma K (He.ga K "Kind") "is_at_most") ps_Kind_is_at_most (spOf (GG K) 2 F_Kind_is_at_most) 1 ["other"] [0] := by
  obtain ⟨fd, F⟩ := V.d_Kind_is_at_most
  refine ⟨fd, fn_clean (fn_d (G := GG K) (N := N_Kind_is_at_most) (ps := ps_Kind_is_at_most) (m := m_Kind_is_at_most) F sc_Kind_is_at_most (fun cdv A outer s H E B hr hm => ?_)) (fun _ _ => rfl), F.kp, kb_of F 1 ["other"] [0] fun _ _ _ _ _ _ us ws l1 l2 => match us, ws, l1, l2 with | [_], [_], _, _ => rfl⟩
  have hG : K = (GG K).K := rfl
  have hC : (GG K).C = He.ga (GG K).K := rfl
  have hN : N_Kind_is_at_most.Nodup := sc_Kind_is_at_most.nd
  have hu := hr.un
  have hu : (A.deeper (envOfC "Kind.is_at_most" (defScope (mth 8 6)) s.heap.objs.size (He.ma K (He.ga K "Kind") "is_at_most") cdv)).units + 100 < cLine := by omega
  have hu1 : (A.deeper (envOfC "Kind.is_at_most" (defScope (mth 8 6)) s.heap.objs.size (He.ma K (He.ga K "Kind") "is_at_most") cdv)).units + 1 < cLine := by omega
  have hu64 : (A.deeper (envOfC "Kind.is_at_most" (defScope (mth 8 6)) s.heap.objs.size (He.ma K (He.ga K "Kind") "is_at_most") cdv)).units + 64 < cLine := by omega
  have hB : B.args.length ≤ 2 := by rw [hm.1]; decide
  have hc : (cxOf (L2.CX P w) P w K mg base N_Kind_is_at_most "Kind.is_at_most" (defScope (mth 8 6)) (He.ma K (He.ga K "Kind") "is_at_most") cdv A outer s H E).calm = true := rfl
  have hp : PassesOwn (model P w) (cxOf (L2.CX P w) P w K mg base N_Kind_is_at_most "Kind.is_at_most" (defScope (mth 8 6)) (He.ma K (He.ga K "Kind") "is_at_most") cdv A outer s H E).A (cxOf (L2.CX P w) P w K mg base N_Kind_is_at_most "Kind.is_at_most" (defScope (mth 8 6)) (He.ma K (He.ga K "Kind") "is_at_most") cdv A outer s H E).env (cxOf (L2.CX P w) P w K mg base N_Kind_is_at_most "Kind.is_at_most" (defScope (mth 8 6)) (He.ma K (He.ga K "Kind") "is_at_most") cdv A outer s H E).xe := passes_of rfl
  have tk : Takes (cxOf (L2.CX P w) P w K mg base N_Kind_is_at_most "Kind.is_at_most" (defScope (mth 8 6)) (He.ma K (He.ga K "Kind") "is_at_most") cdv A outer s H E) (fun cls d _ H => E cls d H) := takes_of rfl rfl rfl rfl
  exact (ds_cons (ds_set 2 (de_and (k_cmp (x_le) (k_prop "Kind" hG V.c_Kind V.p_Kind_changes (ok_Kind_changes V) (hr.mono (by decide)) (de_v 0)) (de_b (k_prop "Kind" hG V.c_Kind V.p_Kind_changes (ok_Kind_changes V) (hr.mono (by decide)) (de_v 1)))) (de_and (k_cmp (x_le) (k_prop "Kind" hG V.c_Kind V.p_Kind_held (ok_Kind_held V) (hr.mono (by decide)) (de_v 0)) (de_b (k_prop "Kind" hG V.c_Kind V.p_Kind_held (ok_Kind_held V) (hr.mono (by decide)) (de_v 1)))) (de_and1 (k_cmp (x_le) (k_prop "Kind" hG V.c_Kind V.p_Kind_bounce (ok_Kind_bounce V) (hr.mono (by decide)) (de_v 0)) (de_b (k_prop "Kind" hG V.c_Kind V.p_Kind_bounce (ok_Kind_bounce V) (hr.mono (by decide)) (de_v 1))))))) hN) (ds_one (ds_ret (de_and (de_v 2) (de_and1 (k_cmp (x_ge) (k_prop "Kind" hG V.c_Kind V.p_Kind_rest (ok_Kind_rest V) (hr.mono (by decide)) (de_v 0)) (de_b (k_prop "Kind" hG V.c_Kind V.p_Kind_rest (ok_Kind_rest V) (hr.mono (by decide)) (de_v 1)))))))))
/-! Kind_and -/
def N_Kind_and : List Str := ["self", "other", "changes", "held"]
def ps_Kind_and : List Str := ["self", "other"]
def m_Kind_and : MS := (s_seq (s_if (m_not (m_tst tru (m_un (isaF IT_Kind) (m_pk 1)))) s_never s_nil) (s_seq (s_par 2 3 (m_cons (m_un minF (m_lst (m_dsp (m_cons (m_prop "Kind" F_Kind_changes (m_v 0)) (m_cons (m_prop "Kind" F_Kind_changes (m_v 1)) m_nil))))) (m_cons (m_un minF (m_lst (m_dsp (m_cons (m_prop "Kind" F_Kind_held (m_v 0)) (m_cons (m_prop "Kind" F_Kind_held (m_v 1)) m_nil))))) m_nil))) (s_ret (m_make "Kind" 1 F_Kind_init (lenOk 4 (m_cons (m_v 2) (m_cons (m_v 3) (m_cons (m_un maxF (m_lst (m_dsp (m_cons (m_prop "Kind" F_Kind_rest (m_v 0)) (m_cons (m_prop "Kind" F_Kind_rest (m_v 1)) m_nil))))) (m_cons (m_un minF (m_lst (m_dsp (m_cons (m_prop "Kind" F_Kind_bounce (m_v 0)) (m_cons (m_prop "Kind" F_Kind_bounce (m_v 1)) m_nil))))) m_nil)))))))))
theorem sc_Kind_and : FnScope N_Kind_and ps_Kind_and (defScope (mth 8 7)) := ⟨rfl, rfl, rfl, by decide +kernel, rfl, by decide +kernel, by decide +kernel⟩
def F_Kind_and : List OV → Out D := runF 2 4 m_Kind_and
theorem ok_Kind_and (V : Ev w K mg) : Ok P w K mg base 5 (He.ma K (He.ga K "Kind") "__and__") ps_Kind_and (spOf (GG K) 2 F_Kind_and) := by
  obtain ⟨fd, F⟩ := V.d_Kind_and
  refine ⟨fd, fn_clean (fn_d (G := GG K) (N := N_Kind_and) (ps := ps_Kind_and) (m := m_Kind_and) F sc_Kind_and (fun cdv A outer s H E B hr hm => ?_)) (fun _ _ => rfl), F.kp, F.bindsN fun _ _ _ _ _ _ us hl => match us, hl with | [_, _], _ => rfl⟩
  have hG : K = (GG K).K := rfl
  have hC : (GG K).C = He.ga (GG K).K := rfl
  have hN : N_Kind_and.Nodup := sc_Kind_and.nd
  have hu := hr.un
  have hu : (A.deeper (envOfC "Kind.__and__" (defScope (mth 8 7)) s.heap.objs.size (He.ma K (He.ga K "Kind") "__and__") cdv)).units + 100 < cLine := by omega
  have hu1 : (A.deeper (envOfC "Kind.__and__" (defScope (mth 8 7)) s.heap.objs.size (He.ma K (He.ga K "Kind") "__and__") cdv)).units + 1 < cLine := by omega
  have hu64 : (A.deeper (envOfC "Kind.__and__" (defScope (mth 8 7)) s.heap.objs.size (He.ma K (He.ga K "Kind") "__and__") cdv)).units + 64 < cLine := by omega
  have hB : B.args.length ≤ 2 := by rw [hm.1]; decide
  have hc : (cxOf (L2.CX P w) P w K mg base N_Kind_and "Kind.__and__" (defScope (mth 8 7)) (He.ma K (He.ga K "Kind") "__and__") cdv A outer s H E).calm = true := rfl
  have hp : PassesOwn (model P w) (cxOf (L2.CX P w) P w K mg base N_Kind_and "Kind.__and__" (defScope (mth 8 7)) (He.ma K (He.ga K "Kind") "__and__") cdv A outer s H E).A (cxOf (L2.CX P w) P w K mg base N_Kind_and "Kind.__and__" (defScope (mth 8 7)) (He.ma K (He.ga K "Kind") "__and__") cdv A outer s H E).env (cxOf (L2.CX P w) P w K mg base N_Kind_and "Kind.__and__" (defScope (mth 8 7)) (He.ma K (He.ga K "Kind") "__and__") cdv A outer s H E).xe := passes_of rfl
  have tk : Takes (cxOf (L2.CX P w) P w K mg base N_Kind_and "Kind.__and__" (defScope (mth 8 7)) (He.ma K (He.ga K "Kind") "__and__") cdv A outer s H E) (fun cls d _ H => E cls d H) := takes_of rfl rfl rfl rfl
  exact (ds_cons (ds_if (dt_not (dt_tru hG (de_b (de_isa (t := IT_Kind) hG hC V.is_Kind (.own _) V.n_isinstance (de_pk 1) (pe_glob (v := .ref (He.ga K "Kind")) rfl V.g_Kind rfl (by decide)))))) (ds_one ds_never) ds_nil) (ds_cons (ds_par 2 3 hc hN (da_cons (de_bi1 (cr_min hc) cd_min V.n_min (by rfl) (de_b (de_lst (dn_dsp (da_cons (k_prop "Kind" hG V.c_Kind V.p_Kind_changes (ok_Kind_changes V) (hr.mono (by decide)) (de_v 0)) (da_cons (k_prop "Kind" hG V.c_Kind V.p_Kind_changes (ok_Kind_changes V) (hr.mono (by decide)) (de_v 1)) da_nil)))))) (da_cons (de_bi1 (cr_min hc) cd_min V.n_min (by rfl) (de_b (de_lst (dn_dsp (da_cons (k_prop "Kind" hG V.c_Kind V.p_Kind_held (ok_Kind_held V) (hr.mono (by decide)) (de_v 0)) (da_cons (k_prop "Kind" hG V.c_Kind V.p_Kind_held (ok_Kind_held V) (hr.mono (by decide)) (de_v 1)) da_nil)))))) da_nil))) (ds_one (ds_ret (k_make "Kind" 1 rfl V.mk_Kind (ok_Kind_init V) (hr.mono (by decide)) V.g_Kind tk (da_cons (de_v 2) (da_cons (de_v 3) (da_cons (de_bi1 (cr_max hc) cd_max V.n_max (by rfl) (de_b (de_lst (dn_dsp (da_cons (k_prop "Kind" hG V.c_Kind V.p_Kind_rest (ok_Kind_rest V) (hr.mono (by decide)) (de_v 0)) (da_cons (k_prop "Kind" hG V.c_Kind V.p_Kind_rest (ok_Kind_rest V) (hr.mono (by decide)) (de_v 1)) da_nil)))))) (da_cons (de_bi1 (cr_min hc) cd_min V.n_min (by rfl) (de_b (de_lst (dn_dsp (da_cons (k_prop "Kind" hG V.c_Kind V.p_Kind_bounce (ok_Kind_bounce V) (hr.mono (by decide)) (de_v 0)) (da_cons (k_prop "Kind" hG V.c_Kind V.p_Kind_bounce (ok_Kind_bounce V) (hr.mono (by decide)) (de_v 1)) da_nil)))))) da_nil)))))))))
/-! Kind_numbers -/
def N_Kind_numbers : List Str := ["self"]
def ps_Kind_numbers : List Str := ["self"]
def m_Kind_numbers : MS := (s_ret (m_un (fldF "Kind" 0) (m_v 0)))
theorem sc_Kind_numbers : FnScope N_Kind_numbers ps_Kind_numbers (defScope (mth 8 8)) := ⟨rfl, rfl, rfl, by decide +kernel, rfl, by decide +kernel, by decide +kernel⟩
def F_Kind_numbers : List OV → Out D := runF 1 1 m_Kind_numbers
theorem ok_Kind_numbers (V : Ev w K mg) : Ok P w K mg base 1 (He.ma K (He.ga K "Kind") "numbers") ps_Kind_numbers (spOf (GG K) 1 F_Kind_numbers) := by
  obtain ⟨fd, F⟩ := V.d_Kind_numbers
  refine ⟨fd, fn_clean (fn_d (G := GG K) (N := N_Kind_numbers) (ps := ps_Kind_numbers) (m := m_Kind_numbers) F sc_Kind_numbers (fun cdv A outer s H E B hr hm => ?_)) (fun _ _ => rfl), F.kp, F.bindsN fun _ _ _ _ _ _ us hl => match us, hl with | [_], _ => rfl⟩
  have hG : K = (GG K).K := rfl
  have hC : (GG K).C = He.ga (GG K).K := rfl
  have hN : N_Kind_numbers.Nodup := sc_Kind_numbers.nd
  have hu := hr.un
  have hu : (A.deeper (envOfC "Kind.numbers" (defScope (mth 8 8)) s.heap.objs.size (He.ma K (He.ga K "Kind") "numbers") cdv)).units + 100 < cLine := by omega
  have hu1 : (A.deeper (envOfC "Kind.numbers" (defScope (mth 8 8)) s.heap.objs.size (He.ma K (He.ga K "Kind") "numbers") cdv)).units + 1 < cLine := by omega
  have hu64 : (A.deeper (envOfC "Kind.numbers" (defScope (mth 8 8)) s.heap.objs.size (He.ma K (He.ga K "Kind") "numbers") cdv)).units + 64 < cLine := by omega
  have hB : B.args.length ≤ 1 := by rw [hm.1]; decide
  have hc : (cxOf (L2.CX P w) P w K mg base N_Kind_numbers "Kind.numbers" (defScope (mth 8 8)) (He.ma K (He.ga K "Kind") "numbers") cdv A outer s H E).calm = true := rfl
  have hp : PassesOwn (model P w) (cxOf (L2.CX P w) P w K mg base N_Kind_numbers "Kind.numbers" (defScope (mth 8 8)) (He.ma K (He.ga K "Kind") "numbers") cdv A outer s H E).A (cxOf (L2.CX P w) P w K mg base N_Kind_numbers "Kind.numbers" (defScope (mth 8 8)) (He.ma K (He.ga K "Kind") "numbers") cdv A outer s H E).env (cxOf (L2.CX P w) P w K mg base N_Kind_numbers "Kind.numbers" (defScope (mth 8 8)) (He.ma K (He.ga K "Kind") "numbers") cdv A outer s H E).xe := passes_of rfl
  have tk : Takes (cxOf (L2.CX P w) P w K mg base N_Kind_numbers "Kind.numbers" (defScope (mth 8 8)) (He.ma K (He.ga K "Kind") "numbers") cdv A outer s H E) (fun cls d _ H => E cls d H) := takes_of rfl rfl rfl rfl
  exact (ds_one (ds_ret (de_fld "Kind" 0 hG V.c_Kind V.na_Kind_k_numbers rfl nd_Kind (de_v 0))))
/-! begin -/
def N__law_begin : List Str := ["_law_script", "_law_large", "_law_cell"]
def ps__law_begin : List Str := ["_law_script"]
theorem sc__law_begin : FnScope N__law_begin ps__law_begin (defScope (top 10)) := ⟨rfl, rfl, rfl, by decide +kernel, rfl, by decide +kernel, by decide +kernel⟩
theorem ok__law_begin (V : Ev w K mg) : OkB P w K mg base 1 (He.ga K "_law_begin") ps__law_begin := by
  obtain ⟨fd, F⟩ := V.d__law_begin
  refine ⟨fd, fn_begin (G := GG K) (N := N__law_begin) (ps := ps__law_begin) (m1 := m_large) F sc__law_begin rfl rfl (by decide) begin_ok (fun cdv A outer s H E B hr hm => ?_), F.kp, F.bindsN fun _ _ _ _ _ _ us hl => match us, hl with | [_], _ => rfl⟩
  have hG : K = (GG K).K := rfl
  have hN : N__law_begin.Nodup := sc__law_begin.nd
  have hB : B.args.length ≤ 1 := by rw [hm.1]; decide
  have hc : (cxOf (L2.CX P w) P w K mg base N__law_begin "_law_begin" (defScope (top 10)) (He.ga K "_law_begin") cdv A outer s H E).calm = true := rfl
  exact pss_cons (ds_setLc (own := [("_law_cell", 2)]) 1 (Nat.le_trans hB (by decide)) hc hN (sw_true rfl rfl rfl (by decide +kernel)) (by show BlkOk N__law_begin (defScope (top 10)) _ _; exact ⟨rfl, by decide +kernel, by decide +kernel, by decide +kernel, by decide +kernel⟩) (by decide) (di_it hG (de_v 0)) ⟨fun s H C cl fp B hb => (dg_name 2 hN), fun s H C cl fp B hb => (pts_t (k_cmpT (x_ge) (de_bi1 call_abs cd_abs V.n_abs (by rfl) (de_pk 2)) (de_b (k_op (x_pow) de_int (de_b de_int))))), fun s H C cl fp B hb => (de_bi1 call_abs cd_abs V.n_abs (by rfl) (de_pk 2))⟩) (pss_one (ds_retDr 1 0 hG V.n_list))
/-! _law_take -/
def N__law_take : List Str := ["_law_draw", "_law_size", "_law_cell", "_law_found"]
def ps__law_take : List Str := ["_law_draw", "_law_size"]
abbrev m__law_take : MS := m_take
theorem sc__law_take : FnScope N__law_take ps__law_take (defScope (top 11)) := ⟨rfl, rfl, rfl, by decide +kernel, rfl, by decide +kernel, by decide +kernel⟩
abbrev F__law_take := takeF
theorem ok__law_take (V : Ev w K mg) : Ok P w K mg base 1 (He.ga K "_law_take") ps__law_take (spOf (GG K) 2 F__law_take) := by
  obtain ⟨fd, F⟩ := V.d__law_take
  refine ⟨fd, fn_clean (fn_d (G := GG K) (N := N__law_take) (ps := ps__law_take) (m := m__law_take) F sc__law_take (fun cdv A outer s H E B hr hm => ?_)) clean_take, F.kp, F.bindsN fun _ _ _ _ _ _ us hl => match us, hl with | [_, _], _ => rfl⟩
  have hG : K = (GG K).K := rfl
  have hC : (GG K).C = He.ga (GG K).K := rfl
  have hN : N__law_take.Nodup := sc__law_take.nd
  have hu := hr.un
  have hu : (A.deeper (envOfC "_law_take" (defScope (top 11)) s.heap.objs.size (He.ga K "_law_take") cdv)).units + 100 < cLine := by omega
  have hu1 : (A.deeper (envOfC "_law_take" (defScope (top 11)) s.heap.objs.size (He.ga K "_law_take") cdv)).units + 1 < cLine := by omega
  have hu64 : (A.deeper (envOfC "_law_take" (defScope (top 11)) s.heap.objs.size (He.ga K "_law_take") cdv)).units + 64 < cLine := by omega
  have hB : B.args.length ≤ 2 := by rw [hm.1]; decide
  have hc : (cxOf (L2.CX P w) P w K mg base N__law_take "_law_take" (defScope (top 11)) (He.ga K "_law_take") cdv A outer s H E).calm = true := rfl
  have hp : PassesOwn (model P w) (cxOf (L2.CX P w) P w K mg base N__law_take "_law_take" (defScope (top 11)) (He.ga K "_law_take") cdv A outer s H E).A (cxOf (L2.CX P w) P w K mg base N__law_take "_law_take" (defScope (top 11)) (He.ga K "_law_take") cdv A outer s H E).env (cxOf (L2.CX P w) P w K mg base N__law_take "_law_take" (defScope (top 11)) (He.ga K "_law_take") cdv A outer s H E).xe := passes_of rfl
  have tk : Takes (cxOf (L2.CX P w) P w K mg base N__law_take "_law_take" (defScope (top 11)) (He.ga K "_law_take") cdv A outer s H E) (fun cls d _ H => E cls d H) := takes_of rfl rfl rfl rfl
  exact (ds_cons (ds_if (PW.pt (dw_and (k_cmpT (x_eq hG hu) (de_drI 0 .rest hu1 rfl (by intro _ _; rfl)) (de_b de_int)) (dw_and1 (de_drNE 0 hu64 (by intro _ _; rfl))))) (ds_one (ds_drPop 0 hu1 (by intro _ _; rfl) (hpop := pe_bm PySem.F.plainAttrs_list PySem.F.slot_list_pop PySem.F.type_list_pop mt_popAt (pe_dget hu1 (pe_var rfl (.inl rfl)) pe_str (by intro _ _; rfl)) (pa_cons pe_int pa_nil)))) (ds_one (ds_if (k_cmpT (x_eq hG hu) (de_drI 0 .rest hu1 rfl (by intro _ _; rfl)) (de_b de_int)) (ds_cons (ds_drI 0 .turn hu1 (k_op (x_add hG) (de_drI 0 .turn hu1 rfl (by intro _ _; rfl)) (de_b de_int))) (ds_cons (ds_for (ks := [2]) hp hc (di_it hG (de_drC 0 hu1 (by intro _ _; rfl) (by intro _ _; rfl))) (dg_name 2 hN) (ds_one (ds_drI 0 .mix hu1 (k_op (x_mod) (de_ty1 call_int1 cd_int V.n_int (by rfl) (de_b (k_op (x_add hG) (k_op (x_add hG) (k_op (x_mul) (de_drI 0 .mix hu1 rfl (by intro _ _; rfl)) (de_b de_int)) (de_b (k_opP (x_mul) 2 (de_b de_int)))) (de_b de_int)))) (de_b de_int))))) (ds_one (ds_drI 0 .rest hu1 (k_op (x_mod) (de_ty1 call_int1 cd_int V.n_int (by rfl) (de_b (k_op (x_pow) (de_drI 0 .mix hu1 rfl (by intro _ _; rfl)) (de_b de_int)))) (de_b de_int)))))) ds_nil))) (ds_cons (ds_asg (ks := [3]) (de_biA call_divmod ca_divmod V.n_divmod (by rfl) (da_cons (de_drI 0 .rest hu1 rfl (by intro _ _; rfl)) (da_cons (de_v 1) da_nil))) (dg_tup hG hc (dgs_cons (dg_drI 0 .rest hu1) (dgs_cons (dg_name 3 hN) dgs_nil)))) (ds_one (ds_ret (de_v 3)))))
/-! _law_pick -/
def N__law_pick : List Str := ["_law_draw", "_law_some"]
def ps__law_pick : List Str := ["_law_draw", "_law_some"]
def m__law_pick : MS := (s_ret (m_opP ixF 1 (m_callO F__law_take 0 (lenOk 1 (m_cons (m_un lenF (m_pk 1)) m_nil)))))
theorem sc__law_pick : FnScope N__law_pick ps__law_pick (defScope (top 12)) := ⟨rfl, rfl, rfl, by decide +kernel, rfl, by decide +kernel, by decide +kernel⟩
def F__law_pick : List OV → Out D := runF 2 2 m__law_pick
theorem ok__law_pick (V : Ev w K mg) : Ok P w K mg base 2 (He.ga K "_law_pick") ps__law_pick (spOf (GG K) 2 F__law_pick) := by
  obtain ⟨fd, F⟩ := V.d__law_pick
  refine ⟨fd, fn_clean (fn_d (G := GG K) (N := N__law_pick) (ps := ps__law_pick) (m := m__law_pick) F sc__law_pick (fun cdv A outer s H E B hr hm => ?_)) (fun _ _ => rfl), F.kp, F.bindsN fun _ _ _ _ _ _ us hl => match us, hl with | [_, _], _ => rfl⟩
  have hG : K = (GG K).K := rfl
  have hC : (GG K).C = He.ga (GG K).K := rfl
  have hN : N__law_pick.Nodup := sc__law_pick.nd
  have hu := hr.un
  have hu : (A.deeper (envOfC "_law_pick" (defScope (top 12)) s.heap.objs.size (He.ga K "_law_pick") cdv)).units + 100 < cLine := by omega
  have hu1 : (A.deeper (envOfC "_law_pick" (defScope (top 12)) s.heap.objs.size (He.ga K "_law_pick") cdv)).units + 1 < cLine := by omega
  have hu64 : (A.deeper (envOfC "_law_pick" (defScope (top 12)) s.heap.objs.size (He.ga K "_law_pick") cdv)).units + 64 < cLine := by omega
  have hB : B.args.length ≤ 2 := by rw [hm.1]; decide
  have hc : (cxOf (L2.CX P w) P w K mg base N__law_pick "_law_pick" (defScope (top 12)) (He.ga K "_law_pick") cdv A outer s H E).calm = true := rfl
  have hp : PassesOwn (model P w) (cxOf (L2.CX P w) P w K mg base N__law_pick "_law_pick" (defScope (top 12)) (He.ga K "_law_pick") cdv A outer s H E).A (cxOf (L2.CX P w) P w K mg base N__law_pick "_law_pick" (defScope (top 12)) (He.ga K "_law_pick") cdv A outer s H E).env (cxOf (L2.CX P w) P w K mg base N__law_pick "_law_pick" (defScope (top 12)) (He.ga K "_law_pick") cdv A outer s H E).xe := passes_of rfl
  have tk : Takes (cxOf (L2.CX P w) P w K mg base N__law_pick "_law_pick" (defScope (top 12)) (He.ga K "_law_pick") cdv A outer s H E) (fun cls d _ H => E cls d H) := takes_of rfl rfl rfl rfl
  exact (ds_one (ds_ret (de_ixP hG hu1 1 (de_b (k_callO 0 (ok__law_take V) (hr.mono (by decide)) V.g__law_take tk (da_cons (de_bi1 cr_len cd_len V.n_len (by rfl) (de_pk 1)) da_nil))) (by intro _ _; rfl))))
/-! _law_odd -/
def N__law_odd : List Str := ["_law_draw", "_law_some"]
def ps__law_odd : List Str := ["_law_draw"]
def m__law_odd : MS := (s_seq (s_set 1 (m_lst (m_dsp (m_cons (m_c .non) (m_cons (m_c (.bl true)) (m_cons (m_c (.bl false)) (m_cons (m_c (.int 0)) (m_cons (m_c (.int 1)) (m_cons (m_un negF (m_c (.int 1))) (m_cons (m_c (.int 5)) (m_cons (m_op (iC powB fun i j => i ^ j.toNat) (m_c (.int 10)) (m_c (.int 29))) (m_cons (m_c (.str "")) (m_cons (m_c (.str "a")) (m_cons (m_c (.str "A")) (m_cons (m_c (.str "abc")) (m_cons (m_c (.str "a b")) (m_cons (m_tup m_nil) (m_cons (m_lst (m_dsp m_nil)) (m_cons (m_c (.dct [] [])) (m_cons (m_tup (m_cons (m_c (.str "a")) m_nil)) (m_cons (m_lst (m_dsp (m_cons (m_c (.str "a")) m_nil))) m_nil))))))))))))))))))))) (s_ret (m_callO F__law_pick 0 (lenOk 1 (m_cons (m_v 1) m_nil)))))
theorem sc__law_odd : FnScope N__law_odd ps__law_odd (defScope (top 13)) := ⟨rfl, rfl, rfl, by decide +kernel, rfl, by decide +kernel, by decide +kernel⟩
def F__law_odd : List OV → Out D := runF 1 2 m__law_odd
theorem ok__law_odd (V : Ev w K mg) : Ok P w K mg base 3 (He.ga K "_law_odd") ps__law_odd (spOf (GG K) 1 F__law_odd) := by
  obtain ⟨fd, F⟩ := V.d__law_odd
  refine ⟨fd, fn_clean (fn_d (G := GG K) (N := N__law_odd) (ps := ps__law_odd) (m := m__law_odd) F sc__law_odd (fun cdv A outer s H E B hr hm => ?_)) (fun _ _ => rfl), F.kp, F.bindsN fun _ _ _ _ _ _ us hl => match us, hl with | [_], _ => rfl⟩
  have hG : K = (GG K).K := rfl
  have hC : (GG K).C = He.ga (GG K).K := rfl
  have hN : N__law_odd.Nodup := sc__law_odd.nd
  have hu := hr.un
  have hu : (A.deeper (envOfC "_law_odd" (defScope (top 13)) s.heap.objs.size (He.ga K "_law_odd") cdv)).units + 100 < cLine := by omega
  have hu1 : (A.deeper (envOfC "_law_odd" (defScope (top 13)) s.heap.objs.size (He.ga K "_law_odd") cdv)).units + 1 < cLine := by omega
  have hu64 : (A.deeper (envOfC "_law_odd" (defScope (top 13)) s.heap.objs.size (He.ga K "_law_odd") cdv)).units + 64 < cLine := by omega
  have hB : B.args.length ≤ 1 := by rw [hm.1]; decide
  have hc : (cxOf (L2.CX P w) P w K mg base N__law_odd "_law_odd" (defScope (top 13)) (He.ga K "_law_odd") cdv A outer s H E).calm = true := rfl
  have hp : PassesOwn (model P w) (cxOf (L2.CX P w) P w K mg base N__law_odd "_law_odd" (defScope (top 13)) (He.ga K "_law_odd") cdv A outer s H E).A (cxOf (L2.CX P w) P w K mg base N__law_odd "_law_odd" (defScope (top 13)) (He.ga K "_law_odd") cdv A outer s H E).env (cxOf (L2.CX P w) P w K mg base N__law_odd "_law_odd" (defScope (top 13)) (He.ga K "_law_odd") cdv A outer s H E).xe := passes_of rfl
  have tk : Takes (cxOf (L2.CX P w) P w K mg base N__law_odd "_law_odd" (defScope (top 13)) (He.ga K "_law_odd") cdv A outer s H E) (fun cls d _ H => E cls d H) := takes_of rfl rfl rfl rfl
  exact (ds_cons (ds_set 1 (de_lst (dn_dsp (da_cons de_non (da_cons de_bl (da_cons de_bl (da_cons de_int (da_cons de_int (da_cons (k_neg de_int) (da_cons de_int (da_cons (k_op (x_pow) de_int (de_b de_int)) (da_cons de_str (da_cons de_str (da_cons de_str (da_cons de_str (da_cons de_str (da_cons (de_tup da_nil) (da_cons (de_lst (dn_dsp da_nil)) (da_cons de_dct0 (da_cons (de_tup (da_cons de_str da_nil)) (da_cons (de_lst (dn_dsp (da_cons de_str da_nil))) da_nil)))))))))))))))))))) hN) (ds_one (ds_ret (k_callO 0 (ok__law_pick V) (hr.mono (by decide)) V.g__law_pick tk (da_cons (de_v 1) da_nil)))))
/-! _law_is_int -/
def N__law_is_int : List Str := ["_law_worth", "_law_first", "_law_last"]
def ps__law_is_int : List Str := ["_law_worth", "_law_first", "_law_last"]
def m__law_is_int : MS := (s_ret (m_andV (m_un (isaF IT_int) (m_pk 0)) (m_andV (m_notE (m_un (isaF IT_bool) (m_pk 0))) (m_chain (cF fun i j => decide (i ≤ j)) (cF fun i j => decide (i ≤ j)) (m_v 1) (m_v 0) (m_pk 2)))))
theorem sc__law_is_int : FnScope N__law_is_int ps__law_is_int (defScope (top 14)) := ⟨rfl, rfl, rfl, by decide +kernel, rfl, by decide +kernel, by decide +kernel⟩
def F__law_is_int : List OV → Out D := runF 3 3 m__law_is_int
theorem ok__law_is_int (V : Ev w K mg) : Ok P w K mg base 1 (He.ga K "_law_is_int") ps__law_is_int (spOf (GG K) 3 F__law_is_int) := by
  obtain ⟨fd, F⟩ := V.d__law_is_int
  refine ⟨fd, fn_clean (fn_d (G := GG K) (N := N__law_is_int) (ps := ps__law_is_int) (m := m__law_is_int) F sc__law_is_int (fun cdv A outer s H E B hr hm => ?_)) (fun _ _ => rfl), F.kp, F.bindsN fun _ _ _ _ _ _ us hl => match us, hl with | [_, _, _], _ => rfl⟩
  have hG : K = (GG K).K := rfl
  have hC : (GG K).C = He.ga (GG K).K := rfl
  have hN : N__law_is_int.Nodup := sc__law_is_int.nd
  have hu := hr.un
  have hu : (A.deeper (envOfC "_law_is_int" (defScope (top 14)) s.heap.objs.size (He.ga K "_law_is_int") cdv)).units + 100 < cLine := by omega
  have hu1 : (A.deeper (envOfC "_law_is_int" (defScope (top 14)) s.heap.objs.size (He.ga K "_law_is_int") cdv)).units + 1 < cLine := by omega
  have hu64 : (A.deeper (envOfC "_law_is_int" (defScope (top 14)) s.heap.objs.size (He.ga K "_law_is_int") cdv)).units + 64 < cLine := by omega
  have hB : B.args.length ≤ 3 := by rw [hm.1]; decide
  have hc : (cxOf (L2.CX P w) P w K mg base N__law_is_int "_law_is_int" (defScope (top 14)) (He.ga K "_law_is_int") cdv A outer s H E).calm = true := rfl
  have hp : PassesOwn (model P w) (cxOf (L2.CX P w) P w K mg base N__law_is_int "_law_is_int" (defScope (top 14)) (He.ga K "_law_is_int") cdv A outer s H E).A (cxOf (L2.CX P w) P w K mg base N__law_is_int "_law_is_int" (defScope (top 14)) (He.ga K "_law_is_int") cdv A outer s H E).env (cxOf (L2.CX P w) P w K mg base N__law_is_int "_law_is_int" (defScope (top 14)) (He.ga K "_law_is_int") cdv A outer s H E).xe := passes_of rfl
  have tk : Takes (cxOf (L2.CX P w) P w K mg base N__law_is_int "_law_is_int" (defScope (top 14)) (He.ga K "_law_is_int") cdv A outer s H E) (fun cls d _ H => E cls d H) := takes_of rfl rfl rfl rfl
  exact (ds_one (ds_ret (de_and (de_isa (t := IT_int) hG hC V.is_int (.ty _) V.n_isinstance (de_pk 0) (pe_bltn (v := .ty "int") (u := .type "int") rfl V.n_int (by rfl) rfl)) (de_and (k_not (de_isa (t := IT_bool) hG hC V.is_bool (.ty _) V.n_isinstance (de_pk 0) (pe_bltn (v := .ty "bool") (u := .type "bool") rfl V.n_bool (by rfl) rfl))) (de_and1 (k_chain (x_le) (x_le) (de_v 1) (de_v 0) (de_pk 2)))))))
/-! _law_kind -/
def N__law_kind : List Str := ["_law_draw", "_law_shifts", "_law_held_here", "_law_rest_here"]
def ps__law_kind : List Str := ["_law_draw"]
def m__law_kind : MS := (s_seq (s_par 1 2 (m_cons (m_op addF (m_c (.int 1)) (m_callO F__law_take 0 (lenOk 1 (m_cons (m_c (.int 4)) m_nil)))) (m_cons (m_op addF (m_c (.int 1)) (m_callO F__law_take 0 (lenOk 1 (m_cons (m_c (.int 4)) m_nil)))) m_nil))) (s_seq (s_set 3 (m_callO F__law_pick 0 (lenOk 1 (m_cons (m_lst (m_dsp (m_cons (m_c (.int 1)) (m_cons (m_c (.int 2)) (m_cons (m_c (.int 2)) (m_cons (m_c (.int 3)) (m_cons (m_op addF (m_c (.int 1)) (m_callO F__law_take 0 (lenOk 1 (m_cons (m_c (.int 6)) m_nil)))) m_nil))))))) m_nil)))) (s_ret (m_tup (m_cons (m_v 1) (m_cons (m_v 2) (m_cons (m_v 3) (m_cons (m_callO F__law_pick 0 (lenOk 1 (m_cons (m_lst (m_dsp (m_cons (m_c (.int 0)) (m_cons (m_c (.int 1)) (m_cons (m_c (.int 1)) (m_cons (m_c (.int 2)) (m_cons (m_callO F__law_take 0 (lenOk 1 (m_cons (m_c (.int 5)) m_nil))) m_nil))))))) m_nil))) m_nil))))))))
theorem sc__law_kind : FnScope N__law_kind ps__law_kind (defScope (top 15)) := ⟨rfl, rfl, rfl, by decide +kernel, rfl, by decide +kernel, by decide +kernel⟩
def F__law_kind : List OV → Out D := runF 1 4 m__law_kind
theorem ok__law_kind (V : Ev w K mg) : Ok P w K mg base 3 (He.ga K "_law_kind") ps__law_kind (spOf (GG K) 1 F__law_kind) := by
  obtain ⟨fd, F⟩ := V.d__law_kind
  refine ⟨fd, fn_clean (fn_d (G := GG K) (N := N__law_kind) (ps := ps__law_kind) (m := m__law_kind) F sc__law_kind (fun cdv A outer s H E B hr hm => ?_)) (fun _ _ => rfl), F.kp, F.bindsN fun _ _ _ _ _ _ us hl => match us, hl with | [_], _ => rfl⟩
  have hG : K = (GG K).K := rfl
  have hC : (GG K).C = He.ga (GG K).K := rfl
  have hN : N__law_kind.Nodup := sc__law_kind.nd
  have hu := hr.un
  have hu : (A.deeper (envOfC "_law_kind" (defScope (top 15)) s.heap.objs.size (He.ga K "_law_kind") cdv)).units + 100 < cLine := by omega
  have hu1 : (A.deeper (envOfC "_law_kind" (defScope (top 15)) s.heap.objs.size (He.ga K "_law_kind") cdv)).units + 1 < cLine := by omega
  have hu64 : (A.deeper (envOfC "_law_kind" (defScope (top 15)) s.heap.objs.size (He.ga K "_law_kind") cdv)).units + 64 < cLine := by omega
  have hB : B.args.length ≤ 1 := by rw [hm.1]; decide
  have hc : (cxOf (L2.CX P w) P w K mg base N__law_kind "_law_kind" (defScope (top 15)) (He.ga K "_law_kind") cdv A outer s H E).calm = true := rfl
  have hp : PassesOwn (model P w) (cxOf (L2.CX P w) P w K mg base N__law_kind "_law_kind" (defScope (top 15)) (He.ga K "_law_kind") cdv A outer s H E).A (cxOf (L2.CX P w) P w K mg base N__law_kind "_law_kind" (defScope (top 15)) (He.ga K "_law_kind") cdv A outer s H E).env (cxOf (L2.CX P w) P w K mg base N__law_kind "_law_kind" (defScope (top 15)) (He.ga K "_law_kind") cdv A outer s H E).xe := passes_of rfl
  have tk : Takes (cxOf (L2.CX P w) P w K mg base N__law_kind "_law_kind" (defScope (top 15)) (He.ga K "_law_kind") cdv A outer s H E) (fun cls d _ H => E cls d H) := takes_of rfl rfl rfl rfl
  exact (ds_cons (ds_par 1 2 hc hN (da_cons (k_op (x_add hG) de_int (de_b (k_callO 0 (ok__law_take V) (hr.mono (by decide)) V.g__law_take tk (da_cons de_int da_nil)))) (da_cons (k_op (x_add hG) de_int (de_b (k_callO 0 (ok__law_take V) (hr.mono (by decide)) V.g__law_take tk (da_cons de_int da_nil)))) da_nil))) (ds_cons (ds_set 3 (k_callO 0 (ok__law_pick V) (hr.mono (by decide)) V.g__law_pick tk (da_cons (de_lst (dn_dsp (da_cons de_int (da_cons de_int (da_cons de_int (da_cons de_int (da_cons (k_op (x_add hG) de_int (de_b (k_callO 0 (ok__law_take V) (hr.mono (by decide)) V.g__law_take tk (da_cons de_int da_nil)))) da_nil))))))) da_nil)) hN) (ds_one (ds_ret (de_tup (da_cons (de_v 1) (da_cons (de_v 2) (da_cons (de_v 3) (da_cons (k_callO 0 (ok__law_pick V) (hr.mono (by decide)) V.g__law_pick tk (da_cons (de_lst (dn_dsp (da_cons de_int (da_cons de_int (da_cons de_int (da_cons de_int (da_cons (k_callO 0 (ok__law_take V) (hr.mono (by decide)) V.g__law_take tk (da_cons de_int da_nil)) da_nil))))))) da_nil)) da_nil)))))))))
/-! _law_named -/
def N__law_named : List Str := ["_law_worths", "_law_found", "error"]
def ps__law_named : List Str := ["_law_worths"]
def m__law_named : MS := (s_seq (s_set 1 (m_c .non)) (s_seq (s_tryas 2 CM_BadKind (s_ex (m_make "Kind" 1 F_Kind_init (lenOk 4 (m_cons (m_opP ixF 0 (m_c (.int 0))) (m_cons (m_opP ixF 0 (m_c (.int 1))) (m_cons (m_opP ixF 0 (m_c (.int 2))) (m_cons (m_opP ixF 0 (m_c (.int 3))) m_nil))))))) (s_set 1 (m_exat 2 "BadKind"))) (s_ret (m_v 1))))
theorem sc__law_named : FnScope N__law_named ps__law_named (defScope (top 16)) := ⟨rfl, rfl, rfl, by decide +kernel, rfl, by decide +kernel, by decide +kernel⟩
def F__law_named : List OV → Out D := runF 1 3 m__law_named
theorem ok__law_named (V : Ev w K mg) : Ok P w K mg base 5 (He.ga K "_law_named") ps__law_named (spOf (GG K) 1 F__law_named) := by
  obtain ⟨fd, F⟩ := V.d__law_named
  refine ⟨fd, fn_clean (fn_d (G := GG K) (N := N__law_named) (ps := ps__law_named) (m := m__law_named) F sc__law_named (fun cdv A outer s H E B hr hm => ?_)) (fun _ _ => rfl), F.kp, F.bindsN fun _ _ _ _ _ _ us hl => match us, hl with | [_], _ => rfl⟩
  have hG : K = (GG K).K := rfl
  have hC : (GG K).C = He.ga (GG K).K := rfl
  have hN : N__law_named.Nodup := sc__law_named.nd
  have hu := hr.un
  have hu : (A.deeper (envOfC "_law_named" (defScope (top 16)) s.heap.objs.size (He.ga K "_law_named") cdv)).units + 100 < cLine := by omega
  have hu1 : (A.deeper (envOfC "_law_named" (defScope (top 16)) s.heap.objs.size (He.ga K "_law_named") cdv)).units + 1 < cLine := by omega
  have hu64 : (A.deeper (envOfC "_law_named" (defScope (top 16)) s.heap.objs.size (He.ga K "_law_named") cdv)).units + 64 < cLine := by omega
  have hB : B.args.length ≤ 1 := by rw [hm.1]; decide
  have hc : (cxOf (L2.CX P w) P w K mg base N__law_named "_law_named" (defScope (top 16)) (He.ga K "_law_named") cdv A outer s H E).calm = true := rfl
  have hp : PassesOwn (model P w) (cxOf (L2.CX P w) P w K mg base N__law_named "_law_named" (defScope (top 16)) (He.ga K "_law_named") cdv A outer s H E).A (cxOf (L2.CX P w) P w K mg base N__law_named "_law_named" (defScope (top 16)) (He.ga K "_law_named") cdv A outer s H E).env (cxOf (L2.CX P w) P w K mg base N__law_named "_law_named" (defScope (top 16)) (He.ga K "_law_named") cdv A outer s H E).xe := passes_of rfl
  have tk : Takes (cxOf (L2.CX P w) P w K mg base N__law_named "_law_named" (defScope (top 16)) (He.ga K "_law_named") cdv A outer s H E) (fun cls d _ H => E cls d H) := takes_of rfl rfl rfl rfl
  exact (ds_cons (ds_set 1 de_non hN) (ds_cons (ds_tryas 2 hm.2 hG (V.cm_BadKind) rfl rfl hN ⟨rfl, by decide, .inl V.g_BadKind⟩ tk (fun W pn xe tk hp => (ds_one (ds_ex (k_make "Kind" 1 rfl V.mk_Kind (ok_Kind_init V) (hr.mono (by decide)) V.g_Kind tk (da_cons (de_ixP hG hu1 0 (de_b de_int) (by intro _ _; rfl)) (da_cons (de_ixP hG hu1 0 (de_b de_int) (by intro _ _; rfl)) (da_cons (de_ixP hG hu1 0 (de_b de_int) (by intro _ _; rfl)) (da_cons (de_ixP hG hu1 0 (de_b de_int) (by intro _ _; rfl)) da_nil)))))))) (fun a oe cls d pn hz hf2 => (ds_one (ds_set 1 (de_exat 2 "BadKind" hG V.ea_BadKind rfl hz hf2 rfl) hN)))) (ds_one (ds_ret (de_v 1)))))
/-! law -/
def N_law : List Str := ["_law_script", "_law_draw", "_law_turn", "_law_one", "_law_made", "_law_near", "_law_two", "_law_twin", "_law_due", "_law_both", "_law_worths", "_law_bounds", "_law_change", "_law_bad", "_law_at"]
def ps_law : List Str := ["_law_script"]
def st_law_0 : MS := (s_begin 1 0)
def st_law_1 : MS := (s_set 3 (m_callO F__law_kind 1 (lenOk 0 m_nil)))
def st_law_2 : MS := (s_set 4 (m_make "Kind" 1 F_Kind_init (lenOk 4 (m_cons (m_opP ixF 3 (m_c (.int 0))) (m_cons (m_opP ixF 3 (m_c (.int 1))) (m_cons (m_opP ixF 3 (m_c (.int 2))) (m_cons (m_opP ixF 3 (m_c (.int 3))) m_nil)))))))
def st_law_3 : MS := (s_ret (m_c (.bl false)))
def st_law_4 : MS := (s_if (m_or (m_tst tstB (m_op neG (m_un reprF (m_tup (m_cons (m_prop "Kind" F_Kind_changes (m_v 4)) (m_cons (m_prop "Kind" F_Kind_held (m_v 4)) (m_cons (m_prop "Kind" F_Kind_rest (m_v 4)) (m_cons (m_prop "Kind" F_Kind_bounce (m_v 4)) m_nil)))))) (m_un reprF (m_pk 3)))) (m_tst tstB (m_op neG (m_un reprF (m_meth "Kind" F_Kind_numbers (m_v 4) (lenOk 0 m_nil))) (m_un reprF (m_pk 3))))) st_law_3 s_nil)
def st_law_5 : MS := (s_ret (m_c (.bl false)))
def st_law_6 : MS := (s_if (m_or (m_tst tstB (m_eqO true "Kind" CS F_Kind_eq (m_v 4) (m_make "Kind" 1 F_Kind_init (lenOk 4 (m_perm 4 [3, 2, 1, 0] (m_cons (m_opP ixF 3 (m_c (.int 3))) (m_cons (m_opP ixF 3 (m_c (.int 2))) (m_cons (m_opP ixF 3 (m_c (.int 1))) (m_cons (m_opP ixF 3 (m_c (.int 0))) m_nil))))))))) (m_tst tstB (m_eqO false "Kind" CS F_Kind_eq (m_v 4) (m_v 3)))) st_law_5 s_nil)
def st_law_7 : MS := (s_set 5 (m_lst (m_dsp (m_cons (m_callO F__law_kind 1 (lenOk 0 m_nil)) (m_cons (m_op addF (m_sl (m_v 3) m_no (m_pt (m_c (.int 3)))) (m_tup (m_cons (m_op addF (m_op (iC posB fun i j => i % j) (m_opP ixF 3 (m_c (.int 3))) (m_c (.int 4))) (m_c (.int 1))) m_nil))) (m_cons (m_op addF (m_op addF (m_sl (m_v 3) m_no (m_pt (m_c (.int 2)))) (m_tup (m_cons (m_op addF (m_op (iC posB fun i j => i % j) (m_opP ixF 3 (m_c (.int 2))) (m_c (.int 6))) (m_c (.int 1))) m_nil))) (m_sl (m_v 3) (m_pt (m_c (.int 3))) m_no)) m_nil))))))
def st_law_8 : MS := (s_set 5 (m_lst (m_opNP catF 5 (m_lst (m_dsp (m_cons (m_op addF (m_tup (m_cons (m_op addF (m_op (iC posB fun i j => i % j) (m_opP ixF 3 (m_c (.int 0))) (m_c (.int 4))) (m_c (.int 1))) m_nil)) (m_sl (m_v 3) (m_pt (m_c (.int 1))) m_no)) (m_cons (m_op addF (m_op addF (m_sl (m_v 3) m_no (m_pt (m_c (.int 1)))) (m_tup (m_cons (m_op addF (m_op (iC posB fun i j => i % j) (m_opP ixF 3 (m_c (.int 1))) (m_c (.int 4))) (m_c (.int 1))) m_nil))) (m_sl (m_v 3) (m_pt (m_c (.int 2))) m_no)) m_nil)))))))
def st_law_9 : MS := (s_set 6 (m_callO F__law_pick 1 (lenOk 1 (m_cons (m_v 5) m_nil))))
def st_law_10 : MS := (s_set 7 (m_make "Kind" 1 F_Kind_init (lenOk 4 (m_cons (m_opP ixF 6 (m_c (.int 0))) (m_cons (m_opP ixF 6 (m_c (.int 1))) (m_cons (m_opP ixF 6 (m_c (.int 2))) (m_cons (m_opP ixF 6 (m_c (.int 3))) m_nil)))))))
def st_law_11 : MS := (s_set 8 (m_andV (m_op (cF fun i j => decide (i ≤ j)) (m_opP ixF 3 (m_c (.int 0))) (m_opP ixF 6 (m_c (.int 0)))) (m_andV (m_op (cF fun i j => decide (i ≤ j)) (m_opP ixF 3 (m_c (.int 1))) (m_opP ixF 6 (m_c (.int 1)))) (m_andV (m_op (cF fun i j => decide (j ≤ i)) (m_opP ixF 3 (m_c (.int 2))) (m_opP ixF 6 (m_c (.int 2)))) (m_op (cF fun i j => decide (i ≤ j)) (m_opP ixF 3 (m_c (.int 3))) (m_opP ixF 6 (m_c (.int 3))))))))
def st_law_12 : MS := (s_ret (m_c (.bl false)))
def st_law_13 : MS := (s_if (m_or (m_tst tstB (m_op neG (m_un reprF (m_meth "Kind" F_Kind_is_at_most (m_v 4) (lenOk 1 (m_cons (m_v 7) m_nil)))) (m_un reprF (m_pk 8)))) (m_tst tstB (m_op neG (m_meth "Kind" F_Kind_is_at_most (m_v 4) (lenOk 1 (m_perm 1 [0] (m_cons (m_v 7) m_nil)))) (m_pk 8)))) st_law_12 s_nil)
def st_law_14 : MS := (s_ret (m_c (.bl false)))
def st_law_15 : MS := (s_if (m_or (m_tst tstB (m_op neG (m_eqO false "Kind" CS F_Kind_eq (m_v 4) (m_v 7)) (m_opP eqG 3 (m_pk 6)))) (m_not (m_tst tru (m_meth "Kind" F_Kind_is_at_most (m_v 4) (lenOk 1 (m_cons (m_v 4) m_nil)))))) st_law_14 s_nil)
def st_law_16 : MS := (s_set 9 (m_tup (m_cons (m_biA min2F (m_cons (m_opP ixF 3 (m_c (.int 0))) (m_cons (m_opP ixF 6 (m_c (.int 0))) m_nil))) (m_cons (m_biA min2F (m_cons (m_opP ixF 3 (m_c (.int 1))) (m_cons (m_opP ixF 6 (m_c (.int 1))) m_nil))) (m_cons (m_biA max2F (m_cons (m_opP ixF 3 (m_c (.int 2))) (m_cons (m_opP ixF 6 (m_c (.int 2))) m_nil))) (m_cons (m_biA min2F (m_cons (m_opP ixF 3 (m_c (.int 3))) (m_cons (m_opP ixF 6 (m_c (.int 3))) m_nil))) m_nil))))))
def st_law_17 : MS := (s_ret (m_c (.bl false)))
def st_law_18 : MS := (s_if (m_or (m_tst tstB (m_op neG (m_un reprF (m_meth "Kind" F_Kind_numbers (m_binO "Kind" F_Kind_and (m_v 4) (m_v 7)) (lenOk 0 m_nil))) (m_un reprF (m_pk 9)))) (m_tst tstB (m_eqO true "Kind" CS F_Kind_eq (m_binO "Kind" F_Kind_and (m_v 7) (m_v 4)) (m_binO "Kind" F_Kind_and (m_v 4) (m_v 7))))) st_law_17 s_nil)
def st_law_19 : MS := (s_parO 10 11 (m_unN listF (m_pk 3)) (m_lst (m_dsp (m_cons (m_tup (m_cons (m_c (.int 1)) (m_cons (m_c (.int 4)) m_nil))) (m_cons (m_tup (m_cons (m_c (.int 1)) (m_cons (m_c (.int 4)) m_nil))) (m_cons (m_tup (m_cons (m_c (.int 1)) (m_cons (m_c (.int 6)) m_nil))) (m_cons (m_tup (m_cons (m_c (.int 0)) (m_cons (m_c (.int 4)) m_nil))) m_nil)))))))
def st_law_20 : MS := (s_ixset 10 (m_callO F__law_pick 1 (lenOk 1 (m_cons (m_lst (m_dsp (m_cons (m_c (.int 0)) (m_cons (m_c (.int 1)) (m_cons (m_c (.int 4)) (m_cons (m_c (.int 5)) (m_cons (m_c (.int 6)) (m_cons (m_c (.int 7)) (m_cons (m_un negF (m_c (.int 1))) (m_cons (m_c (.bl true)) (m_cons (m_c .non) (m_cons (m_c (.str "1")) (m_cons (m_callO F__law_odd 1 (lenOk 0 m_nil)) m_nil))))))))))))) m_nil))) (m_callO F__law_take 1 (lenOk 1 (m_cons (m_c (.int 4)) m_nil))))
def st_law_21 : MS := (s_for (m_rng1 (m_cons (m_callO F__law_take 1 (lenOk 1 (m_cons (m_c (.int 3)) m_nil))) m_nil)) (g_name 12) st_law_20)
def st_law_22 : MS := (s_setO 13 (m_lc [14] (m_rng1 (m_cons (m_c (.int 4)) m_nil)) (g_name 14) (m_not (m_tst tru (m_call F__law_is_int (lenOk 3 (m_cons (m_opP ixF 10 (m_pk 14)) (m_cons (m_op ixF (m_opP ixF 11 (m_pk 14)) (m_c (.int 0))) (m_cons (m_op ixF (m_opP ixF 11 (m_pk 14)) (m_c (.int 1))) m_nil))))))) (m_v 14)))
def st_law_23 : MS := (s_set 8 (m_ifE (m_tst tstB (m_opP eqG 13 (m_lst (m_dsp m_nil)))) (m_c .non) (m_op ixF (m_lst (m_dsp (m_cons (m_c (.str "changes")) (m_cons (m_c (.str "held")) (m_cons (m_c (.str "rest")) (m_cons (m_c (.str "bounce")) m_nil)))))) (m_opP ixF 13 (m_c (.int 0))))))
def st_law_24 : MS := (s_ret (m_c (.bl false)))
def st_law_25 : MS := (s_if (m_tst tstB (m_op neG (m_call F__law_named (lenOk 1 (m_cons (m_v 10) m_nil))) (m_pk 8))) st_law_24 s_nil)
def st_law_26 : MS := (s_for (m_rng1 (m_cons (m_op addF (m_c (.int 8)) (m_biA min2F (m_cons (m_un lenF (m_pk 0)) (m_cons (m_c (.int 40)) m_nil)))) m_nil)) (g_name 2) (s_seq st_law_1 (s_seq st_law_2 (s_seq st_law_4 (s_seq st_law_6 (s_seq st_law_7 (s_seq st_law_8 (s_seq st_law_9 (s_seq st_law_10 (s_seq st_law_11 (s_seq st_law_13 (s_seq st_law_15 (s_seq st_law_16 (s_seq st_law_18 (s_seq st_law_19 (s_seq st_law_21 (s_seq st_law_22 (s_seq st_law_23 st_law_25))))))))))))))))))
def st_law_27 : MS := (s_ret (m_c (.bl true)))
def m_law : MS := (s_seq st_law_0 (s_seq st_law_26 st_law_27))
theorem sc_law : FnScope N_law ps_law (defScope (top 17)) := ⟨rfl, rfl, rfl, by decide +kernel, rfl, by decide +kernel, by decide +kernel⟩
def F_law : List OV → Out D := runF 1 15 m_law
theorem okD_law (V : Ev w K mg) : ∃ fd, FunD K "law" "law" (defArgs (top 17)) (defBody (top 17)) (defScope (top 17)) [] [] (He.ga K "law") fd ∧ FnG P w K mg base (L2.CX P w) 6 (He.ga K "law") fd ps_law (spOf (GG K) 1 F_law) := by
  obtain ⟨fd, F⟩ := V.d_law
  refine ⟨fd, F, (fn_dG (G := GG K) (N := N_law) (ps := ps_law) (m := m_law) F sc_law (fun cdv A outer s H E B hr hgd hm => ?_))⟩
  have hG : K = (GG K).K := rfl
  have hC : (GG K).C = He.ga (GG K).K := rfl
  have hN : N_law.Nodup := sc_law.nd
  have hu := hr.un
  have hu : (A.deeper (envOfC "law" (defScope (top 17)) s.heap.objs.size (He.ga K "law") cdv)).units + 100 < cLine := by omega
  have hu1 : (A.deeper (envOfC "law" (defScope (top 17)) s.heap.objs.size (He.ga K "law") cdv)).units + 1 < cLine := by omega
  have hu64 : (A.deeper (envOfC "law" (defScope (top 17)) s.heap.objs.size (He.ga K "law") cdv)).units + 64 < cLine := by omega
  have hB : B.args.length ≤ 1 := by rw [hm.1]; decide
  have hc : (cxOf (L2.CX P w) P w K mg base N_law "law" (defScope (top 17)) (He.ga K "law") cdv A outer s H E).calm = true := rfl
  have hp : PassesOwn (model P w) (cxOf (L2.CX P w) P w K mg base N_law "law" (defScope (top 17)) (He.ga K "law") cdv A outer s H E).A (cxOf (L2.CX P w) P w K mg base N_law "law" (defScope (top 17)) (He.ga K "law") cdv A outer s H E).env (cxOf (L2.CX P w) P w K mg base N_law "law" (defScope (top 17)) (He.ga K "law") cdv A outer s H E).xe := passes_of rfl
  have tk : Takes (cxOf (L2.CX P w) P w K mg base N_law "law" (defScope (top 17)) (He.ga K "law") cdv A outer s H E) (fun cls d _ H => E cls d H) := takes_of rfl rfl rfl rfl
  exact (ds_cons (k_begin (pos' := ⟨0, 0, 0, 0⟩) 1 0 hB hG (ok__law_begin V) (hr.mono (by decide)) V.g__law_begin tk hN) (ds_cons (ds_for (ks := [2]) hp hc (di_rng1 (k_op (x_add hG) de_int (de_b (de_biA (call_min2 hc) ca_min2 V.n_min (by rfl) (da_cons (de_bi1 cr_len cd_len V.n_len (by rfl) (de_pk 0)) (da_cons de_int da_nil))))) V.n_range) (dg_name 2 hN) (ds_cons (ds_set 3 (k_callO 1 (ok__law_kind V) (hr.mono (by decide)) V.g__law_kind tk da_nil) hN) (ds_cons (ds_set 4 (k_make "Kind" 1 rfl V.mk_Kind (ok_Kind_init V) (hr.mono (by decide)) V.g_Kind tk (da_cons (de_ixP hG hu1 3 (de_b de_int) (by intro _ _; rfl)) (da_cons (de_ixP hG hu1 3 (de_b de_int) (by intro _ _; rfl)) (da_cons (de_ixP hG hu1 3 (de_b de_int) (by intro _ _; rfl)) (da_cons (de_ixP hG hu1 3 (de_b de_int) (by intro _ _; rfl)) da_nil))))) hN) (ds_cons (ds_if (PW.pt (dw_or (k_cmpT (x_ne hG hu) (de_bi1 (cr_repr hgd hu64) cd_repr V.n_repr (by rfl) (de_b (de_tup (da_cons (k_prop "Kind" hG V.c_Kind V.p_Kind_changes (ok_Kind_changes V) (hr.mono (by decide)) (de_v 4)) (da_cons (k_prop "Kind" hG V.c_Kind V.p_Kind_held (ok_Kind_held V) (hr.mono (by decide)) (de_v 4)) (da_cons (k_prop "Kind" hG V.c_Kind V.p_Kind_rest (ok_Kind_rest V) (hr.mono (by decide)) (de_v 4)) (da_cons (k_prop "Kind" hG V.c_Kind V.p_Kind_bounce (ok_Kind_bounce V) (hr.mono (by decide)) (de_v 4)) da_nil))))))) (de_b (de_bi1 (cr_repr hgd hu64) cd_repr V.n_repr (by rfl) (de_pk 3)))) (dw_or1 (k_cmpT (x_ne hG hu) (de_bi1 (cr_repr hgd hu64) cd_repr V.n_repr (by rfl) (de_b (k_meth0 "Kind" hG V.c_Kind V.m_Kind_numbers NM_Kind_numbers (ok_Kind_numbers V) (hr.mono (by decide)) tk (de_v 4)))) (de_b (de_bi1 (cr_repr hgd hu64) cd_repr V.n_repr (by rfl) (de_pk 3))))))) (ds_one (ds_ret de_bl)) ds_nil) (ds_cons (ds_if (PW.pt (dw_or (k_eqOT true rfl "Kind" CS hG hC V.nf_Kind V.e_Kind (ok_Kind_eq V) (hr.mono (by decide)) (de_v 4) (k_makeK (ks := ["bounce", "rest", "held", "changes"]) "Kind" 1 rfl V.mk_Kind (okK_Kind_init_bounce_rest_held_changes V) (hr.mono (by decide)) V.g_Kind tk (dk_cons (de_ixP hG hu1 3 (de_b de_int) (by intro _ _; rfl)) (dk_cons (de_ixP hG hu1 3 (de_b de_int) (by intro _ _; rfl)) (dk_cons (de_ixP hG hu1 3 (de_b de_int) (by intro _ _; rfl)) (dk_cons (de_ixP hG hu1 3 (de_b de_int) (by intro _ _; rfl)) dk_nil))))) (by first | rfl | exact nobehind _ (by decide) (by decide))) (dw_or1 (k_eqOT false rfl "Kind" CS hG hC V.nf_Kind V.e_Kind (ok_Kind_eq V) (hr.mono (by decide)) (de_v 4) (de_v 3) (by first | rfl | exact nobehind _ (by decide) (by decide)))))) (ds_one (ds_ret de_bl)) ds_nil) (ds_cons (ds_set 5 (de_lst (dn_dsp (da_cons (k_callO 1 (ok__law_kind V) (hr.mono (by decide)) V.g__law_kind tk da_nil) (da_cons (k_op (x_add hG) (de_sl hG (de_v 3) do_no (do_pt de_int)) (de_b (de_tup (da_cons (k_op (x_add hG) (k_op (x_mod) (de_ixP hG hu1 3 (de_b de_int) (by intro _ _; rfl)) (de_b de_int)) (de_b de_int)) da_nil)))) (da_cons (k_op (x_add hG) (k_op (x_add hG) (de_sl hG (de_v 3) do_no (do_pt de_int)) (de_b (de_tup (da_cons (k_op (x_add hG) (k_op (x_mod) (de_ixP hG hu1 3 (de_b de_int) (by intro _ _; rfl)) (de_b de_int)) (de_b de_int)) da_nil)))) (de_b (de_sl hG (de_v 3) (do_pt de_int) do_no))) da_nil))))) hN) (ds_cons (ds_set 5 (de_lst (dn_catP 5 (de_b (de_lst (dn_dsp (da_cons (k_op (x_add hG) (de_tup (da_cons (k_op (x_add hG) (k_op (x_mod) (de_ixP hG hu1 3 (de_b de_int) (by intro _ _; rfl)) (de_b de_int)) (de_b de_int)) da_nil)) (de_b (de_sl hG (de_v 3) (do_pt de_int) do_no))) (da_cons (k_op (x_add hG) (k_op (x_add hG) (de_sl hG (de_v 3) do_no (do_pt de_int)) (de_b (de_tup (da_cons (k_op (x_add hG) (k_op (x_mod) (de_ixP hG hu1 3 (de_b de_int) (by intro _ _; rfl)) (de_b de_int)) (de_b de_int)) da_nil)))) (de_b (de_sl hG (de_v 3) (do_pt de_int) do_no))) da_nil))))))) hN) (ds_cons (ds_set 6 (k_callO 1 (ok__law_pick V) (hr.mono (by decide)) V.g__law_pick tk (da_cons (de_v 5) da_nil)) hN) (ds_cons (ds_set 7 (k_make "Kind" 1 rfl V.mk_Kind (ok_Kind_init V) (hr.mono (by decide)) V.g_Kind tk (da_cons (de_ixP hG hu1 6 (de_b de_int) (by intro _ _; rfl)) (da_cons (de_ixP hG hu1 6 (de_b de_int) (by intro _ _; rfl)) (da_cons (de_ixP hG hu1 6 (de_b de_int) (by intro _ _; rfl)) (da_cons (de_ixP hG hu1 6 (de_b de_int) (by intro _ _; rfl)) da_nil))))) hN) (ds_cons (ds_set 8 (de_and (k_cmp (x_le) (de_ixP hG hu1 3 (de_b de_int) (by intro _ _; rfl)) (de_b (de_ixP hG hu1 6 (de_b de_int) (by intro _ _; rfl)))) (de_and (k_cmp (x_le) (de_ixP hG hu1 3 (de_b de_int) (by intro _ _; rfl)) (de_b (de_ixP hG hu1 6 (de_b de_int) (by intro _ _; rfl)))) (de_and (k_cmp (x_ge) (de_ixP hG hu1 3 (de_b de_int) (by intro _ _; rfl)) (de_b (de_ixP hG hu1 6 (de_b de_int) (by intro _ _; rfl)))) (de_and1 (k_cmp (x_le) (de_ixP hG hu1 3 (de_b de_int) (by intro _ _; rfl)) (de_b (de_ixP hG hu1 6 (de_b de_int) (by intro _ _; rfl)))))))) hN) (ds_cons (ds_if (PW.pt (dw_or (k_cmpT (x_ne hG hu) (de_bi1 (cr_repr hgd hu64) cd_repr V.n_repr (by rfl) (de_b (k_meth "Kind" hG V.c_Kind V.m_Kind_is_at_most NM_Kind_is_at_most (ok_Kind_is_at_most V) (hr.mono (by decide)) tk (de_v 4) (da_cons (de_v 7) da_nil)))) (de_b (de_bi1 (cr_repr hgd hu64) cd_repr V.n_repr (by rfl) (de_pk 8)))) (dw_or1 (k_cmpT (x_ne hG hu) (k_methK (ks := ["other"]) (pl := _) "Kind" hG V.c_Kind V.m_Kind_is_at_most NM_Kind_is_at_most (okK_Kind_is_at_most_other V) (hr.mono (by decide)) tk (de_v 4) (dk_cons (de_v 7) dk_nil)) (de_pk 8))))) (ds_one (ds_ret de_bl)) ds_nil) (ds_cons (ds_if (PW.pt (dw_or (k_cmpT (x_ne hG hu) (k_eqO false rfl "Kind" CS hG hC V.nf_Kind V.e_Kind (ok_Kind_eq V) (hr.mono (by decide)) (de_v 4) (de_v 7) (by first | rfl | exact nobehind _ (by decide) (by decide))) (de_b (k_cmpP (x_eq hG hu) 3 (de_pk 6)))) (dw_or1 (dt_not (dt_tru hG (de_b (k_meth "Kind" hG V.c_Kind V.m_Kind_is_at_most NM_Kind_is_at_most (ok_Kind_is_at_most V) (hr.mono (by decide)) tk (de_v 4) (da_cons (de_v 4) da_nil)))))))) (ds_one (ds_ret de_bl)) ds_nil) (ds_cons (ds_set 9 (de_tup (da_cons (de_biA (call_min2 hc) ca_min2 V.n_min (by rfl) (da_cons (de_ixP hG hu1 3 (de_b de_int) (by intro _ _; rfl)) (da_cons (de_ixP hG hu1 6 (de_b de_int) (by intro _ _; rfl)) da_nil))) (da_cons (de_biA (call_min2 hc) ca_min2 V.n_min (by rfl) (da_cons (de_ixP hG hu1 3 (de_b de_int) (by intro _ _; rfl)) (da_cons (de_ixP hG hu1 6 (de_b de_int) (by intro _ _; rfl)) da_nil))) (da_cons (de_biA (call_max2 hc) ca_max2 V.n_max (by rfl) (da_cons (de_ixP hG hu1 3 (de_b de_int) (by intro _ _; rfl)) (da_cons (de_ixP hG hu1 6 (de_b de_int) (by intro _ _; rfl)) da_nil))) (da_cons (de_biA (call_min2 hc) ca_min2 V.n_min (by rfl) (da_cons (de_ixP hG hu1 3 (de_b de_int) (by intro _ _; rfl)) (da_cons (de_ixP hG hu1 6 (de_b de_int) (by intro _ _; rfl)) da_nil))) da_nil))))) hN) (ds_cons (ds_if (PW.pt (dw_or (k_cmpT (x_ne hG hu) (de_bi1 (cr_repr hgd hu64) cd_repr V.n_repr (by rfl) (de_b (k_meth0 "Kind" hG V.c_Kind V.m_Kind_numbers NM_Kind_numbers (ok_Kind_numbers V) (hr.mono (by decide)) tk (k_binO "Kind" hG V.b_Kind_and (ok_Kind_and V) (hr.mono (by decide)) tk (de_v 4) (de_v 7))))) (de_b (de_bi1 (cr_repr hgd hu64) cd_repr V.n_repr (by rfl) (de_pk 9)))) (dw_or1 (k_eqOT true rfl "Kind" CS hG hC V.nf_Kind V.e_Kind (ok_Kind_eq V) (hr.mono (by decide)) (k_binO "Kind" hG V.b_Kind_and (ok_Kind_and V) (hr.mono (by decide)) tk (de_v 7) (de_v 4)) (k_binO "Kind" hG V.b_Kind_and (ok_Kind_and V) (hr.mono (by decide)) tk (de_v 4) (de_v 7)) (by first | rfl | exact nobehind _ (by decide) (by decide)))))) (ds_one (ds_ret de_bl)) ds_nil) (ds_cons (ds_parO 10 11 (Nat.le_trans hB (by decide)) hG hc hN (dn_ty1 call_list_of cn_list V.n_list (by rfl) (de_pk 3)) (fun B hb => (de_lst (dn_dsp (da_cons (de_tup (da_cons de_int (da_cons de_int da_nil))) (da_cons (de_tup (da_cons de_int (da_cons de_int da_nil))) (da_cons (de_tup (da_cons de_int (da_cons de_int da_nil))) (da_cons (de_tup (da_cons de_int (da_cons de_int da_nil))) da_nil)))))))) (ds_cons (ds_for (ks := [12]) hp hc (di_rng1 (k_callO 1 (ok__law_take V) (hr.mono (by decide)) V.g__law_take tk (da_cons de_int da_nil)) V.n_range) (dg_name 12 hN) (ds_one (ds_ixset 10 (k_callO 1 (ok__law_pick V) (hr.mono (by decide)) V.g__law_pick tk (da_cons (de_lst (dn_dsp (da_cons de_int (da_cons de_int (da_cons de_int (da_cons de_int (da_cons de_int (da_cons de_int (da_cons (k_neg de_int) (da_cons de_bl (da_cons de_non (da_cons de_str (da_cons (k_callO 1 (ok__law_odd V) (hr.mono (by decide)) V.g__law_odd tk da_nil) da_nil))))))))))))) da_nil)) (k_callO 1 (ok__law_take V) (hr.mono (by decide)) V.g__law_take tk (da_cons de_int da_nil))))) (ds_cons (ds_setLc (own := [("_law_at", 14)]) 13 (Nat.le_trans hB (by decide)) hc hN (sw_true rfl rfl rfl (by decide +kernel)) (by show BlkOk N_law (defScope (top 17)) _ _; exact ⟨rfl, by decide +kernel, by decide +kernel, by decide +kernel, by decide +kernel⟩) (by decide) (di_rng1 de_int V.n_range) ⟨fun s H C cl fp B hb => (dg_name 14 hN), fun s H C cl fp B hb => (pts_t (dt_not (dt_tru hG (de_b (k_call (ok__law_is_int V) (hr.mono (by decide)) V.g__law_is_int takes0 (da_cons (de_ixP hG hu1 10 (de_pk 14) (by intro _ _; rfl)) (da_cons (de_ix hG hu1 (de_ixP hG hu1 11 (de_pk 14) (by intro _ _; rfl)) (de_b de_int) (by intro _ _; rfl)) (da_cons (de_ix hG hu1 (de_ixP hG hu1 11 (de_pk 14) (by intro _ _; rfl)) (de_b de_int) (by intro _ _; rfl)) da_nil)))))))), fun s H C cl fp B hb => (de_v 14)⟩) (ds_cons (ds_set 8 (de_ifE (k_cmpTP (x_eq hG hu) 13 (de_b (de_lst (dn_dsp da_nil)))) de_non (de_ix hG hu1 (de_lst (dn_dsp (da_cons de_str (da_cons de_str (da_cons de_str (da_cons de_str da_nil)))))) (de_b (de_ixP hG hu1 13 (de_b de_int) (by intro _ _; rfl))) (by intro _ _; rfl))) hN) (ds_one (ds_if (k_cmpT (x_ne hG hu) (k_call (ok__law_named V) (hr.mono (by decide)) V.g__law_named tk (da_cons (de_v 10) da_nil)) (de_pk 8)) (ds_one (ds_ret de_bl)) ds_nil)))))))))))))))))))) (ds_one (ds_ret de_bl))))
end
end L06
end AT
set_option Elab.async false
set_option linter.all false
set_option maxRecDepth 100000
set_option maxHeartbeats 4000000
namespace AT
open PySem PySem.Spec PyProof.Rows L2
namespace L06
/-- a whole number between two -/
def btw (x : D) (lo hi : Int) : Bool := match x with
  | .int i => decide (lo ≤ i) && decide (i ≤ hi)
  | _ => false
def isI : D → Bool
  | .int _ => true
  | _ => false
@[simp] theorem isI_int (i : Int) : isI (.int i) = true := rfl
@[simp] theorem btw_int (i lo hi : Int) : btw (.int i) lo hi = (decide (lo ≤ i) && decide (i ≤ hi)) := rfl
def okI : D → Bool
  | .ins c _ => c == "Kind"
  | _ => true
theorem e_is_integer (x : D) (h : okI x = true) {Q E} : wO (F_is_integer [.fr x]) Q E = Q (.bl (isI x)) [.fr x] := by
  cases x <;> simp [F_is_integer, m_is_integer, isaF, isB, IT_int, IT_bool, okI, isI] at h ⊢
  subst h
  simp
theorem and_if {P : Bool → Prop} (b c : Bool) : (if b = true then P c else P false) = P (b && c) := by cases b <;> simp
theorem e_is_between (x : D) (lo hi : Int) (h : okI x = true) {Q E} : wO (F_is_between [.fr x, .fr (.int lo), .fr (.int hi)]) Q E = Q (.bl (btw x lo hi)) [.fr x, .fr (.int lo), .fr (.int hi)] := by
  simp only [F_is_between, m_is_between]
  cases x with
  | int i =>
    by_cases h1 : lo ≤ i
    · by_cases h2 : i ≤ hi
      · simp [e_is_integer _ h, h1, h2]
      · simp [e_is_integer _ h, h1, h2, Int.not_le.mp h2]
    · simp [e_is_integer _ h, h1, Int.not_le.mp h1]
  | _ => simp [e_is_integer _ h, isI, btw]
theorem e_law_is_int (x : D) (lo hi : Int) (h : okI x = true) {Q E} : wO (F__law_is_int [.fr x, .fr (.int lo), .fr (.int hi)]) Q E = Q (.bl (btw x lo hi)) [.fr x, .fr (.int lo), .fr (.int hi)] := by
  simp only [F__law_is_int, m__law_is_int]
  cases x with
  | int i =>
    by_cases h1 : lo ≤ i
    · by_cases h2 : i ≤ hi
      · simp [isaF, isB, IT_int, IT_bool, h1, h2]
      · simp [isaF, isB, IT_int, IT_bool, h1, h2, Int.not_le.mp h2]
    · simp [isaF, isB, IT_int, IT_bool, h1, Int.not_le.mp h1]
  | ins c xs =>
    simp [okI] at h
    subst h
    simp [isaF, isB, IT_int, IT_bool, btw]
  | _ => simp [isaF, isB, IT_int, IT_bool, btw]
/-- the part of a kind that is not as described -/
def badK (a b c d : D) : Option Str :=
  if btw a 1 4 = false then some "changes" else if btw b 1 4 = false then some "held" else if btw c 1 6 = false then some "rest" else if btw d 0 4 = false then some "bounce" else none
def kiQ (Q : D → En → Prop) (E : Exn → En → Prop) (a b c d : D) : Option Str → Prop
  | none => Q .non [.ob "Kind" [.tup [a, b, c, d]], .fr a, .fr b, .fr c, .fr d]
  | some p => E ⟨"BadKind", [.str p]⟩ [.ob "Kind" [], .fr a, .fr b, .fr c, .fr d]
theorem zipK_w (ks : List Str) (mb : ME) {QA : List D → En → Prop} {E : Exn → En → Prop} {ρ : En} : wO (m_zipK ks mb ρ) QA E = wO (mb ρ) (fun y ρ => ∃ es, zitF y = some es ∧ QA (zipL (ks.map .str) es) ρ) E := by
  simp only [m_zipK, wO_bind]
  congr; funext y ρ
  cases zitF y <;> simp
theorem kix_w (tab : List (Str × D)) (mb : ME) {Q : D → En → Prop} {E : Exn → En → Prop} {ρ : En} : wO (m_kix tab mb ρ) Q E = wO (mb ρ) (fun y ρ => ∃ z, y = .str z ∧ ∃ d, tab.lookup z = some d ∧ Q d ρ) E := by
  simp only [m_kix, wO_bind]
  congr; funext y ρ
  cases y with
  | str z => simp; cases tab.lookup z <;> simp
  | _ => simp
theorem e_Kind_init (a b c d : D) (ha : okI a = true) (hb : okI b = true) (hc : okI c = true) (hd : okI d = true) {Q E} :
    wO (F_Kind_init [.ob "Kind" [], .fr a, .fr b, .fr c, .fr d]) Q E = kiQ Q E a b c d (badK a b c d) := by
  have hl : (4 : Nat) ≤ LINE := by decide
  have t1 : T_BOUNDS.lookup ("changes" : Str) = some (D.tup [D.int 1, D.int 4]) := by kernel_rfl
  have t2 : T_BOUNDS.lookup ("held" : Str) = some (D.tup [D.int 1, D.int 4]) := by kernel_rfl
  have t3 : T_BOUNDS.lookup ("rest" : Str) = some (D.tup [D.int 1, D.int 6]) := by kernel_rfl
  have t4 : T_BOUNDS.lookup ("bounce" : Str) = some (D.tup [D.int 0, D.int 4]) := by kernel_rfl
  have a0 : ∀ x y : D, atI [x, y] 0 = some x := fun x y => rfl
  have a1 : ∀ x y : D, atI [x, y] 1 = some y := fun x y => rfl
  have hz : ∀ a b c d, zitF (.tup [a, b, c, d]) = some [a, b, c, d] := fun _ _ _ _ => rfl
  have hk : ∀ a b c d, zipL (K_BOUNDS.map .str) [a, b, c, d] = [.tup [.str "changes", a], .tup [.str "held", b], .tup [.str "rest", c], .tup [.str "bounce", d]] := fun _ _ _ _ => rfl
  cases h1 : btw a 1 4 with
  | false => simp [F_Kind_init, m_Kind_init, zipK_w, hl, hz, hk, kix_w, t1, a0, a1, e_is_between a _ _ ha, h1, badK, kiQ]
  | true =>
    cases h2 : btw b 1 4 with
    | false => simp [F_Kind_init, m_Kind_init, zipK_w, hl, hz, hk, kix_w, t1, t2, a0, a1, e_is_between a _ _ ha, e_is_between b _ _ hb, h1, h2, badK, kiQ]
    | true =>
      cases h3 : btw c 1 6 with
      | false => simp [F_Kind_init, m_Kind_init, zipK_w, hl, hz, hk, kix_w, t1, t2, t3, a0, a1, e_is_between a _ _ ha, e_is_between b _ _ hb, e_is_between c _ _ hc, h1, h2, h3, badK, kiQ]
      | true =>
        cases h4 : btw d 0 4 with
        | false => simp [F_Kind_init, m_Kind_init, zipK_w, hl, hz, hk, kix_w, t1, t2, t3, t4, a0, a1, e_is_between a _ _ ha, e_is_between b _ _ hb, e_is_between c _ _ hc, e_is_between d _ _ hd, h1, h2, h3, h4, badK, kiQ]
        | true => simp [F_Kind_init, m_Kind_init, zipK_w, hl, hz, hk, kix_w, t1, t2, t3, t4, a0, a1, e_is_between a _ _ ha, e_is_between b _ _ hb, e_is_between c _ _ hc, e_is_between d _ _ hd, h1, h2, h3, h4, badK, kiQ]
/-- a kind, of whole numbers -/
abbrev kd (a b c d : Int) : D := .ins "Kind" [.tup [.int a, .int b, .int c, .int d]]
structure KB (a b c d : Int) : Prop where
  a0 : 1 ≤ a
  a1 : a ≤ 4
  b0 : 1 ≤ b
  b1 : b ≤ 4
  c0 : 1 ≤ c
  c1 : c ≤ 6
  d0 : 0 ≤ d
  d1 : d ≤ 4
theorem e_init {a b c d : Int} (h : KB a b c d) {Q E} : wO (F_Kind_init [.ob "Kind" [], .fr (.int a), .fr (.int b), .fr (.int c), .fr (.int d)]) Q E = Q .non [.ob "Kind" [.tup [.int a, .int b, .int c, .int d]], .fr (.int a), .fr (.int b), .fr (.int c), .fr (.int d)] := by
  rw [e_Kind_init _ _ _ _ rfl rfl rfl rfl]
  simp [badK, h.a0, h.a1, h.b0, h.b1, h.c0, h.c1, h.d0, h.d1, kiQ]
section
variable {a b c d a' b' c' d' : Int} {Q : D → En → Prop} {E : Exn → En → Prop}
theorem at0 (a b c d : D) : atI [a, b, c, d] 0 = some a := rfl
theorem at1 (a b c d : D) : atI [a, b, c, d] 1 = some b := rfl
theorem at2 (a b c d : D) : atI [a, b, c, d] 2 = some c := rfl
theorem at3 (a b c d : D) : atI [a, b, c, d] 3 = some d := rfl
theorem e_changes : wO (F_Kind_changes [.fr (kd a b c d)]) Q E = Q (.int a) [.fr (kd a b c d)] := by simp [F_Kind_changes, m_Kind_changes, at0]
theorem e_held : wO (F_Kind_held [.fr (kd a b c d)]) Q E = Q (.int b) [.fr (kd a b c d)] := by simp [F_Kind_held, m_Kind_held, at1]
theorem e_rest : wO (F_Kind_rest [.fr (kd a b c d)]) Q E = Q (.int c) [.fr (kd a b c d)] := by simp [F_Kind_rest, m_Kind_rest, at2]
theorem e_bounce : wO (F_Kind_bounce [.fr (kd a b c d)]) Q E = Q (.int d) [.fr (kd a b c d)] := by simp [F_Kind_bounce, m_Kind_bounce, at3]
theorem e_numbers : wO (F_Kind_numbers [.fr (kd a b c d)]) Q E = Q (.tup [.int a, .int b, .int c, .int d]) [.fr (kd a b c d)] := by simp [F_Kind_numbers, m_Kind_numbers]
def eq4 (a b c d a' b' c' d' : Int) : Bool := decide (a = a' ∧ b = b' ∧ c = c' ∧ d = d')
theorem eqG4 : eqG (.tup [.int a, .int b, .int c, .int d]) (.tup [.int a', .int b', .int c', .int d']) = some (.bl (eq4 a b c d a' b' c' d')) := by
  rw [eqG_of (by rfl) (by rfl)]
  have e : ∀ i j : Int, eqvD (.int i) (.int j) = decide (i = j) := fun i j => by rw [eqvD, Bool.eq_iff_iff]; simp
  simp only [eqvD, eqvDs, e, eq4]
  by_cases h1 : a = a' <;> by_cases h2 : b = b' <;> by_cases h3 : c = c' <;> by_cases h4 : d = d' <;> simp [h1, h2, h3, h4]
theorem e_eq : wO (F_Kind_eq [.fr (kd a b c d), .fr (kd a' b' c' d')]) Q E = Q (.bl (eq4 a b c d a' b' c' d')) [.fr (kd a b c d), .fr (kd a' b' c' d')] := by
  have hi : isaF IT_Kind (kd a' b' c' d') = some (.bl true) := by kernel_rfl
  simp [F_Kind_eq, m_Kind_eq, hi, eqG4]
theorem e_eq_tup (x : List D) : wO (F_Kind_eq [.fr (kd a b c d), .fr (.tup x)]) Q E = Q (.bl false) [.fr (kd a b c d), .fr (.tup x)] := by
  have hi : isaF IT_Kind (.tup x) = some (.bl false) := by rfl
  simp [F_Kind_eq, m_Kind_eq, hi]
def le4 (a b c d a' b' c' d' : Int) : Bool := decide (a ≤ a' ∧ b ≤ b' ∧ c' ≤ c ∧ d ≤ d')
theorem e_at_most : wO (F_Kind_is_at_most [.fr (kd a b c d), .fr (kd a' b' c' d')]) Q E = Q (.bl (le4 a b c d a' b' c' d')) [.fr (kd a b c d), .fr (kd a' b' c' d')] := by
  simp only [F_Kind_is_at_most, m_Kind_is_at_most]
  by_cases h1 : a ≤ a'
  · by_cases h2 : b ≤ b'
    · by_cases h3 : d ≤ d'
      · simp [e_changes, e_held, e_rest, e_bounce, h1, h2, h3, le4]
      · simp [e_changes, e_held, e_rest, e_bounce, h1, h2, h3, le4, Int.not_le.mp h3]
    · simp [e_changes, e_held, e_rest, e_bounce, h1, h2, le4, Int.not_le.mp h2]
  · simp [e_changes, e_held, e_rest, e_bounce, h1, le4, Int.not_le.mp h1]
theorem l2 : (2 : Nat) ≤ LINE := by decide
theorem l4 : (4 : Nat) ≤ LINE := by decide
theorem maxF2 (i j : Int) : maxF (.lst [.int i, .int j]) = some (.int (max i j)) := rfl
theorem minF2 (i j : Int) : minF (.lst [.int i, .int j]) = some (.int (min i j)) := rfl
theorem e_and (h : KB a b c d) (h' : KB a' b' c' d') : wO (F_Kind_and [.fr (kd a b c d), .fr (kd a' b' c' d')]) Q E = Q (kd (min a a') (min b b') (max c c') (min d d')) [.fr (kd a b c d), .fr (kd a' b' c' d')] := by
  have hi : isaF IT_Kind (kd a' b' c' d') = some (.bl true) := by kernel_rfl
  have hk : KB (min a a') (min b b') (max c c') (min d d') := by
    obtain ⟨_, _, _, _, _, _, _, _⟩ := h
    obtain ⟨_, _, _, _, _, _, _, _⟩ := h'
    constructor <;> omega
  simp [F_Kind_and, m_Kind_and, hi, e_changes, e_held, e_rest, e_bounce, l2, l4, e_init hk, minF2, maxF2]
/-! the law's draws -/
theorem k_pick {s : Dr} {xs : List D} (hs : s.Ok) (h0 : 0 < xs.length) (h1 : xs.length < 1073741824) (hq : ∀ x s', x ∈ xs → s'.Ok → Q x [.dr s', .fr (.lst xs)]) : wO (F__law_pick [.dr s, .fr (.lst xs)]) Q E := by
  simp [F__law_pick, m__law_pick]
  refine take_k hs (by omega) (by omega) fun i s' hs' i0 i1 => ?_
  obtain ⟨x, e, hx⟩ := atI_r xs i i0 i1
  simp [e]
  exact hq x s' hx hs'
theorem k_kind {s : Dr} (hs : s.Ok) (hq : ∀ a b c d s', s'.Ok → KB a b c d → Q (.tup [.int a, .int b, .int c, .int d]) [.dr s']) : wO (F__law_kind [.dr s]) Q E := by
  have l5 : (5 : Nat) ≤ LINE := by decide
  simp [F__law_kind, m__law_kind]
  refine take_k hs (by decide) (by decide) fun i s1 h1 i0 i1 => ?_
  simp
  refine take_k h1 (by decide) (by decide) fun j s2 h2 j0 j1 => ?_
  simp
  refine take_k h2 (by decide) (by decide) fun k s3 h3 k0 k1 => ?_
  simp [l5]
  refine k_pick h3 (by simp) (by simp) fun x s4 hx h4 => ?_
  simp
  refine take_k h4 (by decide) (by decide) fun l s5 h5 l0 l1 => ?_
  simp [l5]
  refine k_pick h5 (by simp) (by simp) fun y s6 hy h6 => ?_
  obtain ⟨u, rfl, u0, u1⟩ : ∃ u : Int, x = .int u ∧ 1 ≤ u ∧ u ≤ 6 := by
    simp at hx
    rcases hx with rfl | rfl | rfl | rfl <;> exact ⟨_, rfl, by omega, by omega⟩
  obtain ⟨v, rfl, v0, v1⟩ : ∃ v : Int, y = .int v ∧ 0 ≤ v ∧ v ≤ 4 := by
    simp at hy
    rcases hy with rfl | rfl | rfl | rfl <;> exact ⟨_, rfl, by omega, by omega⟩
  simp [l4]
  exact hq _ _ _ _ _ h6 ⟨by omega, by omega, by omega, by omega, by omega, by omega, by omega, by omega⟩
end
end L06
end AT
set_option Elab.async false
set_option linter.all false
set_option maxRecDepth 100000
set_option maxHeartbeats 4000000
namespace AT
open PySem PySem.Spec PyProof.Rows L2
namespace L06
section
variable {Q : D → En → Prop} {E : Exn → En → Prop}
theorem k_odd {s : Dr} (hs : s.Ok) (hq : ∀ x s', s'.Ok → okI x = true → Q x [.dr s']) : wO (F__law_odd [.dr s]) Q E := by
  have hp : powB 10 29 = true := by decide
  have h18 : (18 : Nat) ≤ LINE := by decide
  have h1 : (1 : Nat) ≤ LINE := by decide
  have h0 : (0 : Nat) ≤ LINE := by decide
  simp [F__law_odd, m__law_odd, hp, h18, h1, h0]
  refine k_pick hs (by simp) (by simp) fun x s1 hx k1 => ?_
  simp
  refine hq x s1 k1 ?_
  simp at hx
  rcases hx with h | h | h | h | h | h | h | h | h | h | h | h | h | h | h | h | h | h <;> (rw [h]; rfl)
def dueK (a b c d : D) : D := match badK a b c d with
  | none => .non
  | some p => .str p
theorem e_named (a b c d : D) (ha : okI a = true) (hb : okI b = true) (hc : okI c = true) (hd : okI d = true) :
    wO (F__law_named [.fr (.lst [a, b, c, d])]) Q E = Q (dueK a b c d) [.fr (.lst [a, b, c, d])] := by
  have cm : CM_BadKind ("BadKind" : Str) = some true := by kernel_rfl
  simp [F__law_named, m__law_named, at0, at1, at2, at3, e_Kind_init a b c d ha hb hc hd]
  unfold dueK
  cases h : badK a b c d with
  | none => simp [kiQ]
  | some p => simp [kiQ, cm]
end
end L06
end AT
set_option Elab.async false
set_option linter.all false
set_option maxRecDepth 100000
set_option maxHeartbeats 4000000
namespace AT
open PySem PySem.Spec PyProof.Rows L2
namespace L06
theorem log2_small {n : Nat} (h : n < 1024) : n.log2 < 10 := by
  by_cases z : n = 0
  · subst z; decide
  · exact (Nat.log2_lt z).mpr h
theorem w_small {i : Int} (h : i.natAbs < 1024) : (py (.int i)).weight ≤ 10 ∧ (py (.int i)).showable = true := by
  have := log2_small h
  constructor
  · simp only [py, PyData.weight]
    split <;> omega
  · simp only [py, PyData.showable]
    exact decide_eq_true (by omega)
theorem rp4 {a b c d : Int} (h : KB a b c d) : ∃ z, reprF (.tup [.int a, .int b, .int c, .int d]) = some (.str z) := by
  obtain ⟨_, _, _, _, _, _, _, _⟩ := h
  have ha := w_small (i := a) (by omega)
  have hb := w_small (i := b) (by omega)
  have hc := w_small (i := c) (by omega)
  have hd := w_small (i := d) (by omega)
  unfold reprF
  rw [if_pos]
  · exact ⟨_, rfl⟩
  · refine ⟨by rfl, ?_, ?_⟩
    · simp only [py, pys, PyData.showable, PyData.showableAll] at ha hb hc hd ⊢
      simp [ha.2, hb.2, hc.2, hd.2]
    · have e : (py (.tup [.int a, .int b, .int c, .int d])).weight = (py (.int a)).weight + 1 + ((py (.int b)).weight + 1 + ((py (.int c)).weight + 1 + ((py (.int d)).weight + 1 + 0))) := by simp only [py, pys, PyData.weight, PyData.weightAll]
      omega
theorem rpb (b : Bool) : ∃ z, reprF (.bl b) = some (.str z) := by cases b <;> exact ⟨_, rfl⟩
section
variable {S : Fl → En → Prop} {E : Exn → En → Prop} {ns : List Int}
theorem permL4 (a b c d : D) : permL [3, 2, 1, 0] [a, b, c, d] = [d, c, b, a] := rfl
theorem permL1 (a : D) : permL [0] [a] = [a] := rfl
@[simp] theorem w_parO (i j : Nat) (mr : MA) (mb : ME) (ρ : En) : wO (s_parO i j mr mb ρ) S (fun _ _ => False) = wO (mr ρ) (fun xs ρ => wO (mb ρ) (fun d ρ => S .nx ((ρ.set i (.ol xs)).set j (.fr d))) (fun _ _ => False)) (fun _ _ => False) := by
  unfold s_parO
  cases mr ρ with
  | ok xs ρ => simp; cases mb ρ <;> rfl
  | err e ρ => rfl
  | bad => rfl
def isKd (x : D) : Prop := ∃ a b c d, x = .tup [.int a, .int b, .int c, .int d] ∧ KB a b c d
/-- the loop's state -/
def Inv (ns : List Int) (ρ : En) : Prop := ∃ (s : Dr) (x2 x3 x4 x5 x6 x7 x8 x9 x10 x11 x12 x13 : OV), ρ = [.fr (.scr ns), .dr s, x2, x3, x4, x5, x6, x7, x8, x9, x10, x11, x12, x13, .un] ∧ s.Ok
theorem l0 : (0 : Nat) ≤ LINE := by decide
theorem l1 : (1 : Nat) ≤ LINE := by decide
theorem l3 : (3 : Nat) ≤ LINE := by decide
theorem l5 : (5 : Nat) ≤ LINE := by decide
theorem l11 : (11 : Nat) ≤ LINE := by decide
theorem cut3 (a b c d : D) : cutD [a, b, c, d] none (some 3) = [a, b, c] := rfl
theorem cut2 (a b c d : D) : cutD [a, b, c, d] none (some 2) = [a, b] := rfl
theorem cut1 (a b c d : D) : cutD [a, b, c, d] none (some 1) = [a] := rfl
theorem cuf1 (a b c d : D) : cutD [a, b, c, d] (some 1) none = [b, c, d] := rfl
theorem cuf2 (a b c d : D) : cutD [a, b, c, d] (some 2) none = [c, d] := rfl
theorem cuf3 (a b c d : D) : cutD [a, b, c, d] (some 3) none = [d] := rfl
theorem slF_tup (xs : List D) (l h : Option Int) : slF (.tup xs) l h = some (.tup (cutD xs l h)) := rfl
theorem nf (x : List D) : nfB CS (.tup x) = true := rfl
theorem nfk (x : List D) : nfB CS (.ins "Kind" x) = true := by kernel_rfl
theorem pos4 (i : Int) : posB i 4 = true := rfl
theorem pos6 (i : Int) : posB i 6 = true := rfl
theorem k_change (ρ : En) (s : Dr) (x2 x3 x4 x5 x6 x7 x8 x9 x11 x12 x13 : OV) (w0 w1 w2 w3 : D) (hs : s.Ok) (o0 : okI w0 = true) (o1 : okI w1 = true) (o2 : okI w2 = true) (o3 : okI w3 = true)
    (hq : ∀ s' v0 v1 v2 v3, s'.Ok → okI v0 = true → okI v1 = true → okI v2 = true → okI v3 = true → S .nx [.fr (.scr ns), .dr s', x2, x3, x4, x5, x6, x7, x8, x9, .ol [v0, v1, v2, v3], x11, x12, x13, .un]) :
    wO (st_law_20 [.fr (.scr ns), .dr s, x2, x3, x4, x5, x6, x7, x8, x9, .ol [w0, w1, w2, w3], x11, x12, x13, .un]) S E := by
  simp [st_law_20]
  refine k_odd hs fun x s1 h1 hx => ?_
  simp [l11]
  refine k_pick h1 (by simp) (by simp) fun y s2 hy h2 => ?_
  have oy : okI y = true := by
    simp at hy
    rcases hy with h | h | h | h | h | h | h | h | h | h | h <;> (rw [h]; first | rfl | exact hx)
  simp
  refine take_k h2 (by decide) (by decide) fun i s3 h3 i0 i1 => ?_
  simp
  obtain rfl | rfl | rfl | rfl : i = 0 ∨ i = 1 ∨ i = 2 ∨ i = 3 := by omega
  · exact ⟨0, by rfl, hq _ _ _ _ _ h3 oy o1 o2 o3⟩
  · exact ⟨1, by rfl, hq _ _ _ _ _ h3 o0 oy o2 o3⟩
  · exact ⟨2, by rfl, hq _ _ _ _ _ h3 o0 o1 oy o3⟩
  · exact ⟨3, by rfl, hq _ _ _ _ _ h3 o0 o1 o2 oy⟩
theorem at0' (a b c d e : D) : atI [a, b, c, d, e] 0 = some a := rfl
theorem rng4 : rngL 0 4 = [.int 0, .int 1, .int 2, .int 3] := rfl
theorem at2_0 (a b : D) : atI [a, b] 0 = some a := rfl
theorem at2_1 (a b : D) : atI [a, b] 1 = some b := rfl
theorem tail_ok (s : Dr) (x2 x3 x4 x5 x6 x7 x8 x9 x12 x13 : OV) (v0 v1 v2 v3 : D) (hs : s.Ok) (o0 : okI v0 = true) (o1 : okI v1 = true) (o2 : okI v2 = true) (o3 : okI v3 = true) :
    wO ((s_seq st_law_22 (s_seq st_law_23 st_law_25)) [.fr (.scr ns), .dr s, x2, x3, x4, x5, x6, x7, x8, x9, .ol [v0, v1, v2, v3], .fr (.lst [.tup [.int 1, .int 4], .tup [.int 1, .int 4], .tup [.int 1, .int 6], .tup [.int 0, .int 4]]), x12, x13, .un]) (fun fl ρ => fl = .nx ∧ Inv ns ρ) (fun _ _ => False) := by
  have hr : okR 4 = true := by decide
  have hI : ∀ (y13 : OV) (y10 : OV), Inv ns [.fr (.scr ns), .dr s, x2, x3, x4, x5, x6, x7, .fr (dueK v0 v1 v2 v3), x9, y10, .fr (.lst [.tup [.int 1, .int 4], .tup [.int 1, .int 4], .tup [.int 1, .int 6], .tup [.int 0, .int 4]]), x12, y13, .un] := fun y13 y10 => ⟨s, _, _, _, _, _, _, _, _, _, _, _, _, rfl, hs⟩
  have hn : ∀ b0 b1 b2 b3, btw v0 1 4 = b0 → btw v1 1 4 = b1 → btw v2 1 6 = b2 → btw v3 0 4 = b3 → wO ((s_seq st_law_22 (s_seq st_law_23 st_law_25)) [.fr (.scr ns), .dr s, x2, x3, x4, x5, x6, x7, x8, x9, .ol [v0, v1, v2, v3], .fr (.lst [.tup [.int 1, .int 4], .tup [.int 1, .int 4], .tup [.int 1, .int 6], .tup [.int 0, .int 4]]), x12, x13, .un]) (fun fl ρ => fl = .nx ∧ Inv ns ρ) (fun _ _ => False) := by
    intro b0 b1 b2 b3 e0 e1 e2 e3
    rw [w_seq]; generalize hN : sqQ _ _ = N
    have hp : ([14] : List Nat).all (plainAt [OV.fr (.scr ns), .dr s, x2, x3, x4, x5, x6, x7, x8, x9, .ol [v0, v1, v2, v3], .fr (.lst [.tup [.int 1, .int 4], .tup [.int 1, .int 4], .tup [.int 1, .int 6], .tup [.int 0, .int 4]]), x12, x13, .un]) = true := rfl
    suffices hL : N .nx [.fr (.scr ns), .dr s, x2, x3, x4, x5, x6, x7, x8, x9, .ol [v0, v1, v2, v3], .fr (.lst [.tup [.int 1, .int 4], .tup [.int 1, .int 4], .tup [.int 1, .int 6], .tup [.int 0, .int 4]]), x12, .ol ((if b0 then [] else [.int 0]) ++ ((if b1 then [] else [.int 1]) ++ ((if b2 then [] else [.int 2]) ++ ((if b3 then [] else [.int 3]))))), .un] by
      rw [st_law_22, w_setO, w_lc, w_rng1]
      simp only [w_cons, w_c, w_nil, intsOf_cons, intsOf_nil, Option.map_some, Option.some.injEq, List.cons.injEq, and_true, exists_eq_left']
      refine ⟨hr, hp, by decide, ?_⟩
      rw [show rngL 0 (Int.toNat 4) = [.int 0, .int 1, .int 2, .int 3] from rfl]
      rw [lc_pure (fun d => match d with | .int 0 => !b0 | .int 1 => !b1 | .int 2 => !b2 | .int 3 => !b3 | _ => false) id ?_]
      · cases b0 <;> cases b1 <;> cases b2 <;> cases b3 <;> exact hL
      · intro d hd
        simp at hd
        rcases hd with rfl | rfl | rfl | rfl
        · exact ⟨_, rfl, ok_of fun Q E => by simp [-Bool.exists_bool, at0, at1, at2, at3, at2_0, at2_1, e_law_is_int _ _ _ o0, e0], fun _ => rfl, rfl⟩
        · exact ⟨_, rfl, ok_of fun Q E => by simp [-Bool.exists_bool, at0, at1, at2, at3, at2_0, at2_1, e_law_is_int _ _ _ o1, e1], fun _ => rfl, rfl⟩
        · exact ⟨_, rfl, ok_of fun Q E => by simp [-Bool.exists_bool, at0, at1, at2, at3, at2_0, at2_1, e_law_is_int _ _ _ o2, e2], fun _ => rfl, rfl⟩
        · exact ⟨_, rfl, ok_of fun Q E => by simp [-Bool.exists_bool, at0, at1, at2, at3, at2_0, at2_1, e_law_is_int _ _ _ o3, e3], fun _ => rfl, rfl⟩
    subst hN; rw [sqQ_nx]
    rw [w_seq]; generalize hN : sqQ _ _ = N
    suffices hL : N .nx [.fr (.scr ns), .dr s, x2, x3, x4, x5, x6, x7, .fr (dueK v0 v1 v2 v3), x9, .ol [v0, v1, v2, v3], .fr (.lst [.tup [.int 1, .int 4], .tup [.int 1, .int 4], .tup [.int 1, .int 6], .tup [.int 0, .int 4]]), x12, .ol ((if b0 then [] else [.int 0]) ++ ((if b1 then [] else [.int 1]) ++ ((if b2 then [] else [.int 2]) ++ ((if b3 then [] else [.int 3]))))), .un] by
      have q0 : ∀ xs : List D, okDs 63 xs = true → eqG (.lst xs) (.lst []) = some (.bl (eqvDs xs [])) := fun xs h => by rw [eqG_of (by simpa [okD] using h) (by rfl)]; rfl
      have q00 : eqG (.lst []) (.lst []) = some (.bl true) := by rfl
      simp only [dueK, badK, e0, e1, e2, e3] at hL
      cases b0 <;> cases b1 <;> cases b2 <;> cases b3 <;> simp at hL <;> simp [-Bool.exists_bool, st_law_23, l0, l4, q0, q00, okDs, okD, eqvDs, at0, at1, at2, at3, atI_0, hL]
    subst hN; rw [sqQ_nx]
    have hd : neG (dueK v0 v1 v2 v3) (dueK v0 v1 v2 v3) = some (.bl false) := by
      unfold dueK
      cases badK v0 v1 v2 v3 <;> simp [neG_of, okD, eqvD]
      rfl
    simp [st_law_25, st_law_24, e_named _ _ _ _ o0 o1 o2 o3, hd]
    exact hI _ _
  exact hn _ _ _ _ rfl rfl rfl rfl
theorem body_ok (ρ : En) (h : Inv ns ρ) : wO ((s_seq st_law_1 (s_seq st_law_2 (s_seq st_law_4 (s_seq st_law_6 (s_seq st_law_7 (s_seq st_law_8 (s_seq st_law_9 (s_seq st_law_10 (s_seq st_law_11 (s_seq st_law_13 (s_seq st_law_15 (s_seq st_law_16 (s_seq st_law_18 (s_seq st_law_19 (s_seq st_law_21 (s_seq st_law_22 (s_seq st_law_23 st_law_25))))))))))))))))) ρ) (fun fl ρ => fl = .nx ∧ Inv ns ρ) (fun _ _ => False) := by
  obtain ⟨s, x2, x3, x4, x5, x6, x7, x8, x9, x10, x11, x12, x13, rfl, hs⟩ := h
  rw [w_seq]; generalize hN : sqQ _ _ = N
  simp [st_law_1]
  refine k_kind hs fun a b c d s1 h1 hk => ?_
  simp; subst hN; rw [sqQ_nx]
  rw [w_seq]; generalize hN : sqQ _ _ = N
  simp [st_law_2, at0, at1, at2, at3, e_init hk]
  subst hN; rw [sqQ_nx]
  rw [w_seq]; generalize hN : sqQ _ _ = N
  obtain ⟨z, hz⟩ := rp4 hk
  simp [st_law_4, st_law_3, e_changes, e_held, e_rest, e_bounce, e_numbers, l4, hz]
  subst hN; rw [sqQ_nx]
  rw [w_seq]; generalize hN : sqQ _ _ = N
  simp [st_law_6, st_law_5, at0, at1, at2, at3, permL4, e_init hk, e_eq, e_eq_tup, nf, nfk, eq4]
  subst hN; rw [sqQ_nx]
  rw [w_seq]; generalize hN : sqQ _ _ = N
  simp [st_law_7]
  refine k_kind h1 fun a1 b1 c1 d1 s2 h2 hk1 => ?_
  simp [at0, at1, at2, at3, slF_tup, cut3, cut2, cut1, cuf1, cuf2, cuf3, l0, l1, l2, l3, l4, pos4, pos6]
  subst hN; rw [sqQ_nx]
  rw [w_seq]; generalize hN : sqQ _ _ = N
  simp [st_law_8, at0, at1, at2, at3, slF_tup, cut3, cut2, cut1, cuf1, cuf2, cuf3, l0, l1, l2, l3, l4, l5, pos4, pos6]
  subst hN; rw [sqQ_nx]
  rw [w_seq]; generalize hN : sqQ _ _ = N
  simp [st_law_9]
  refine k_pick h2 (by simp) (by simp) fun x s3 hx h3 => ?_
  obtain ⟨a', b', c', d', rfl, hk'⟩ : isKd x := by
    obtain ⟨_, _, _, _, _, _, _, _⟩ := hk
    simp at hx
    rcases hx with h | h | h | h | h
    · exact ⟨_, _, _, _, h, hk1⟩
    · exact ⟨_, _, _, _, h, by constructor <;> omega⟩
    · exact ⟨_, _, _, _, h, by constructor <;> omega⟩
    · exact ⟨_, _, _, _, h, by constructor <;> omega⟩
    · exact ⟨_, _, _, _, h, by constructor <;> omega⟩
  clear hx
  simp
  subst hN; rw [sqQ_nx]
  rw [w_seq]; generalize hN : sqQ _ _ = N
  simp [st_law_10, at0, at1, at2, at3, e_init hk']
  subst hN; rw [sqQ_nx]
  rw [w_seq]; generalize hN : sqQ _ _ = N
  suffices hL : N .nx [.fr (.scr ns), .dr s3, x2, .fr (.tup [.int a, .int b, .int c, .int d]), .fr (kd a b c d), .fr (.lst [.tup [.int a1, .int b1, .int c1, .int d1], .tup [.int a, .int b, .int c, .int (d % 4 + 1)], .tup [.int a, .int b, .int (c % 6 + 1), .int d], .tup [.int (a % 4 + 1), .int b, .int c, .int d], .tup [.int a, .int (b % 4 + 1), .int c, .int d]]), .fr (.tup [.int a', .int b', .int c', .int d']), .fr (kd a' b' c' d'), .fr (.bl (le4 a b c d a' b' c' d')), x9, x10, x11, x12, x13, .un] by
    by_cases q1 : a ≤ a'
    · by_cases q2 : b ≤ b'
      · by_cases q3 : c' ≤ c
        · by_cases q4 : d ≤ d'
          · simp [le4, q1, q2, q3, q4] at hL
            simp [st_law_11, at0, at1, at2, at3, q1, q2, q3, q4, hL]
          · simp [le4, q1, q2, q3, q4, Int.not_le.mp q4] at hL
            simp [st_law_11, at0, at1, at2, at3, q1, q2, q3, q4, hL, Int.not_le.mp q4]
        · simp [le4, q1, q2, q3, Int.not_le.mp q3] at hL
          simp [st_law_11, at0, at1, at2, at3, q1, q2, q3, hL, Int.not_le.mp q3]
      · simp [le4, q1, q2, Int.not_le.mp q2] at hL
        simp [st_law_11, at0, at1, at2, at3, q1, q2, hL, Int.not_le.mp q2]
    · simp [le4, q1, Int.not_le.mp q1] at hL
      simp [st_law_11, at0, at1, at2, at3, q1, hL, Int.not_le.mp q1]
  subst hN; rw [sqQ_nx]
  rw [w_seq]; generalize hN : sqQ _ _ = N
  obtain ⟨zb, hzb⟩ := rpb (le4 a b c d a' b' c' d')
  have hbb : ∀ b : Bool, neG (.bl b) (.bl b) = some (.bl false) := fun b => by cases b <;> rfl
  simp [st_law_13, st_law_12, e_at_most, hzb, permL1, hbb]
  subst hN; rw [sqQ_nx]
  rw [w_seq]; generalize hN : sqQ _ _ = N
  have hle : le4 a b c d a b c d = true := by simp [le4]
  simp [-Bool.exists_bool, st_law_15, st_law_14, e_at_most, e_eq, eqG4, hle, hbb, nfk]
  subst hN; rw [sqQ_nx]
  rw [w_seq]; generalize hN : sqQ _ _ = N
  simp [st_law_16, at0, at1, at2, at3, l4]
  subst hN; rw [sqQ_nx]
  rw [w_seq]; generalize hN : sqQ _ _ = N
  have hkm : KB (min a a') (min b b') (max c c') (min d d') := by
    obtain ⟨_, _, _, _, _, _, _, _⟩ := hk
    obtain ⟨_, _, _, _, _, _, _, _⟩ := hk'
    constructor <;> omega
  obtain ⟨zm, hzm⟩ := rp4 hkm
  have e44 : eq4 (min a' a) (min b' b) (max c' c) (min d' d) (min a a') (min b b') (max c c') (min d d') = true := by
    simp only [eq4, decide_eq_true_eq]; omega
  simp [st_law_18, st_law_17, e_and hk hk', e_and hk' hk, e_numbers, hzm, e_eq, e44, nfk]
  subst hN; rw [sqQ_nx]
  rw [w_seq]; generalize hN : sqQ _ _ = N
  simp [st_law_19, l2, l4]
  subst hN; rw [sqQ_nx]
  rw [w_seq]; generalize hN : sqQ _ _ = N
  simp [st_law_21]
  refine take_k h3 (by decide) (by decide) fun i s4 h4 i0 i1 => ?_
  have oki : okR i = true := by simp [okR]; omega
  simp [oki]
  refine w_forI (fun _ ρ => ∃ s' v0 v1 v2 v3 y12, s'.Ok ∧ okI v0 = true ∧ okI v1 = true ∧ okI v2 = true ∧ okI v3 = true ∧ ρ = [.fr (.scr ns), .dr s', x2, .fr (.tup [.int a, .int b, .int c, .int d]), .fr (kd a b c d), .fr (.lst [.tup [.int a1, .int b1, .int c1, .int d1], .tup [.int a, .int b, .int c, .int (d % 4 + 1)], .tup [.int a, .int b, .int (c % 6 + 1), .int d], .tup [.int (a % 4 + 1), .int b, .int c, .int d], .tup [.int a, .int (b % 4 + 1), .int c, .int d]]), .fr (.tup [.int a', .int b', .int c', .int d']), .fr (kd a' b' c' d'), .fr (.bl (le4 a b c d a' b' c' d')), .fr (.tup [.int (min a a'), .int (min b b'), .int (max c c'), .int (min d d')]), .ol [v0, v1, v2, v3], .fr (.lst [.tup [.int 1, .int 4], .tup [.int 1, .int 4], .tup [.int 1, .int 6], .tup [.int 0, .int 4]]), y12, x13, .un]) ?_ ?_ ?_
  · exact ⟨s4, _, _, _, _, _, h4, rfl, rfl, rfl, rfl, rfl⟩
  · rintro dd r ρ ⟨s', v0, v1, v2, v3, y12, hs', o0, o1, o2, o3, rfl⟩
    refine ⟨_, rfl, ?_⟩
    refine k_change [] s' _ _ _ _ _ _ _ _ _ _ _ _ _ _ _ hs' o0 o1 o2 o3 fun s'' u0 u1 u2 u3 k p0 p1 p2 p3 => ?_
    exact ⟨_, _, _, _, _, _, k, p0, p1, p2, p3, rfl⟩
  rintro ρ ⟨s', v0, v1, v2, v3, y12, hs', o0, o1, o2, o3, rfl⟩
  subst hN; rw [sqQ_nx]
  exact tail_ok s' _ _ _ _ _ _ _ _ _ _ v0 v1 v2 v3 hs' o0 o1 o2 o3
end
end L06
end AT
set_option Elab.async false
set_option linter.all false
set_option maxRecDepth 100000
set_option maxHeartbeats 4000000
namespace AT
open PySem PySem.Spec PyProof.Rows L2
namespace L06
theorem law_ok (ns : List Int) (h : ns.length ≤ 63) : wO (F_law [.fr (.scr ns)]) (fun d _ => d = .bl true) (fun _ _ => False) := by
  have hd : (newDr ns).Ok := ⟨by show (0 : Int) ≤ 7; decide, by show (7 : Int) < 2147483629; decide, by show ns.length ≤ 1000; omega⟩
  have e0 : st_law_0 (.fr (.scr ns) :: List.replicate 14 .un) = .ok .nx (.fr (.scr ns) :: .dr (newDr ns) :: List.replicate 13 .un) := by
    show (if ns.length ≤ 1000 then Out.ok Fl.nx _ else .bad) = _
    rw [if_pos (by omega)]; rfl
  simp only [F_law, w_run]
  show wO (m_law (.fr (.scr ns) :: List.replicate 14 .un)) _ _
  rw [m_law, w_seq, e0, wO_ok, sqQ_nx, w_seq, st_law_26, w_for, w_rng1]
  have hr : okR (8 + min (ns.length : Int) 40) = true := by simp [okR]; omega
  simp [hr]
  refine w_forI (fun _ ρ => Inv ns ρ) ?_ ?_ ?_
  · exact ⟨_, _, _, _, _, _, _, _, _, _, _, _, _, rfl, hd⟩
  · intro d r ρ hI
    obtain ⟨s, x2, x3, x4, x5, x6, x7, x8, x9, x10, x11, x12, x13, rfl, hs⟩ := hI
    refine ⟨_, rfl, (body_ok (ns := ns) _ ⟨s, _, _, _, _, _, _, _, _, _, _, _, _, rfl, hs⟩).imp fun fl ρ q => ?_⟩
    obtain ⟨rfl, q⟩ := q
    exact q
  · intro ρ _
    rw [sqQ_nx, st_law_27]
    simp
end L06
end AT
set_option Elab.async false
set_option linter.all false
set_option maxRecDepth 100000
set_option maxHeartbeats 4000000
namespace AT
open PySem PySem.Spec PyProof.Rows L2
namespace L06
def fa : List He.Fa := [.free "abs", .free "bool", .free "divmod", .free "int", .free "isinstance", .free "len", .free "list", .free "max", .free "min", .free "range", .free "repr", .free "zip", .glo "BadKind", .glo "Kind", .glo "_law_begin", .glo "_law_is_int", .glo "_law_kind", .glo "_law_named", .glo "_law_odd", .glo "_law_pick", .glo "_law_take", .glo "is_between", .glo "is_integer", .glo "law", .cls "Kind", .noat "Kind" "k_numbers", .mkr "Kind", .meth "Kind" "is_at_most", .meth "Kind" "numbers", .glo "BOUNDS"]
def fn : List He.DefD := [D_is_integer, D_is_between, D_Kind_init, D_Kind_eq, D_Kind_is_at_most, D_Kind_and, D_Kind_numbers, D__law_begin, D__law_take, D__law_pick, D__law_odd, D__law_is_int, D__law_kind, D__law_named, D_law]
def prs : List Hk.PDef := [D_Kind_changes, D_Kind_held, D_Kind_rest, D_Kind_bounce]
def ers : List Hk.EDef := [E_BadKind]
def tbs : List He.Tab := [(fun K => He.ga K "BOUNDS", K_BOUNDS)]
def exL (K : PySem.W.Frag) : List Bool := [eqB K "Kind", chkNf K "Kind" CS, binB K "Kind" "__and__", chkIs K IT_Kind (fun v => PySem.W.kitOne K v (.ref (He.ga K "Kind"))), chkIs K IT_bool (fun v => PySem.W.kitOne K v (.type "bool")), chkIs K IT_int (fun v => PySem.W.kitOne K v (.type "int")), cmB K "BadKind" CML_BadKind, kTabB K (He.ga K "BOUNDS") T_BOUNDS]
def exF (K : PySem.W.Frag) : Bool := (exL K).all id
theorem exOf {K : PySem.W.Frag} (h : exF K = true) (i : Nat) {b : Bool} (e : (exL K)[i]? = some b := by rfl) : b = true := List.all_eq_true.mp h b (List.mem_of_getElem? e)
theorem ev_of {w : World} {K : PySem.W.Frag} {h : Heap} {mg : Str → Option Value} (Xin : K.In h) (Gm : h.Ns mainGlobals mg) (c : Hk.SaysB P fa fn tbs ers prs exF w K) : Ev w K mg := by
  have X := Xin
  have hx := c.ex_
  exact ⟨(He.free_ok X Gm (c.a.fact 0 rfl)),
    (He.free_ok X Gm (c.a.fact 1 rfl)),
    (He.free_ok X Gm (c.a.fact 2 rfl)),
    (He.free_ok X Gm (c.a.fact 3 rfl)),
    (He.free_ok X Gm (c.a.fact 4 rfl)),
    (He.free_ok X Gm (c.a.fact 5 rfl)),
    (He.free_ok X Gm (c.a.fact 6 rfl)),
    (He.free_ok X Gm (c.a.fact 7 rfl)),
    (He.free_ok X Gm (c.a.fact 8 rfl)),
    (He.free_ok X Gm (c.a.fact 9 rfl)),
    (He.free_ok X Gm (c.a.fact 10 rfl)),
    (He.free_ok X Gm (c.a.fact 11 rfl)),
    (He.glo_ok X Gm (c.a.fact 12 rfl)),
    (He.glo_ok X Gm (c.a.fact 13 rfl)),
    (He.glo_ok X Gm (c.a.fact 14 rfl)),
    (He.glo_ok X Gm (c.a.fact 15 rfl)),
    (He.glo_ok X Gm (c.a.fact 16 rfl)),
    (He.glo_ok X Gm (c.a.fact 17 rfl)),
    (He.glo_ok X Gm (c.a.fact 18 rfl)),
    (He.glo_ok X Gm (c.a.fact 19 rfl)),
    (He.glo_ok X Gm (c.a.fact 20 rfl)),
    (He.glo_ok X Gm (c.a.fact 21 rfl)),
    (He.glo_ok X Gm (c.a.fact 22 rfl)),
    (He.glo_ok X Gm (c.a.fact 23 rfl)),
    (He.cls_ok (c.a.fact 24 rfl)),
    (He.noat_ok (c.a.fact 25 rfl)),
    (He.mkr_ok (c.a.fact 26 rfl)),
    (He.meth_ok (c.a.fact 27 rfl)),
    (He.meth_ok (c.a.fact 28 rfl)),
    ⟨_, (c.prop 0 (d := D_Kind_changes) rfl).1⟩,
    (c.prop 0 (d := D_Kind_changes) rfl).2,
    ⟨_, (c.prop 1 (d := D_Kind_held) rfl).1⟩,
    (c.prop 1 (d := D_Kind_held) rfl).2,
    ⟨_, (c.prop 2 (d := D_Kind_rest) rfl).1⟩,
    (c.prop 2 (d := D_Kind_rest) rfl).2,
    ⟨_, (c.prop 3 (d := D_Kind_bounce) rfl).1⟩,
    (c.prop 3 (d := D_Kind_bounce) rfl).2,
    (c.a.def_ 0 (d := D_is_integer) rfl),
    (c.a.def_ 1 (d := D_is_between) rfl),
    (c.a.def_ 2 (d := D_Kind_init) rfl),
    (c.a.def_ 3 (d := D_Kind_eq) rfl),
    (c.a.def_ 4 (d := D_Kind_is_at_most) rfl),
    (c.a.def_ 5 (d := D_Kind_and) rfl),
    (c.a.def_ 6 (d := D_Kind_numbers) rfl),
    (c.a.def_ 7 (d := D__law_begin) rfl),
    (c.a.def_ 8 (d := D__law_take) rfl),
    (c.a.def_ 9 (d := D__law_pick) rfl),
    (c.a.def_ 10 (d := D__law_odd) rfl),
    (c.a.def_ 11 (d := D__law_is_int) rfl),
    (c.a.def_ 12 (d := D__law_kind) rfl),
    (c.a.def_ 13 (d := D__law_named) rfl),
    (c.a.def_ 14 (d := D_law) rfl),
    (eqB_ok (exOf hx 0)),
    (exOf hx 1),
    (binB_ok (exOf hx 2)),
    (exOf hx 3),
    (exOf hx 4),
    (exOf hx 5),
    (Hk.err_ok X Gm T_BadKind rfl (c.a.err 0 rfl).1 (c.a.err 0 rfl).2).1,
    (Hk.err_ok X Gm T_BadKind rfl (c.a.err 0 rfl).1 (c.a.err 0 rfl).2).2,
    (cm_of (exOf hx 6)),
    (fun X e1 e2 e3 => ⟨by rw [e1]; exact He.glo_ok Xin Gm (c.a.fact 29 rfl), by rw [e2, e3]; exact Hk.dic_ok (c.dic 0 rfl)⟩),
    (exOf hx 7)⟩

abbrev R : PySem.W.OpenRow := PySem.W.OpenLaw.row PySem.Challenge.rw_anytypist_k06_kinds_made_and_ordered
abbrev hk : PySem.W.Hook := Hk.hookB P 5 fa fn tbs ers prs exF
def ob (s : PySem.W.SharedT) : Hk.AlB := Hk.obsB P fa fn tbs ers prs exF (Hk.frA 5 (HandSHeadRun.getT s))
theorem ob_eq (s : PySem.W.SharedT) : ob s = hk.obs s.abs := Hk.obsB_eq (HandSHeadRun.getT_eq s)
def loose : List Str := (["TypistError", "BadKind", "is_integer", "is_between", "BOUNDS", "Kind", "_law_begin", "_law_take", "_law_pick", "_law_odd", "_law_is_int", "_law_kind", "_law_named"] : List Str)
theorem runF0 (w : World) : HandSHeadRun.RunEq R (PySem.W.view R.prog [17]) hk ob 4000 loose (w.withFollow "special-get-raises" false) := by
  intro os
  kernel_rfl
theorem runT0 (w : World) : HandSHeadRun.RunEq R (PySem.W.view R.prog [17]) hk ob 4000 loose (w.withFollow "special-get-raises" true) := by
  intro os
  kernel_rfl
theorem run (w : World) : HandSHeadRun.RunEq R (PySem.W.view R.prog [17]) hk ob 4000 loose w := PySem.W.byRow2 "special-get-raises" (P := fun w => HandSHeadRun.RunEq R (PySem.W.view R.prog [17]) hk ob 4000 loose w) runF0 runT0 w
end L06
end AT
set_option Elab.async false
set_option linter.all false
set_option maxRecDepth 100000
set_option maxHeartbeats 4000000
namespace AT
open PySem PySem.Spec PyProof.Rows L2
namespace L06
theorem facts {w : World} {K : PySem.W.Frag} {h : Heap} {mg : Str → Option Value} {f : Addr} (X : K.In h) (G : h.Ns mainGlobals mg) (hfa : mg ("law" : Str) = some (.ref f)) (c : Hk.SaysB P fa fn tbs ers prs exF w K) :
    ∃ fd : FuncData, (∀ (s : Shared) (v : Value), BindsTo s fd ⟨[v], []⟩ [("_law_script", v)]) ∧ ∀ base : Heap, FnG P w K mg base (L2.CX P w) 6 f fd ["_law_script"] (spOf (GG K) 1 F_law) := by
  have V := ev_of X G c
  have e := hfa.symm.trans V.g_law
  cases e
  obtain ⟨fd, F⟩ := V.d_law
  refine ⟨fd, ?_, fun base => ?_⟩
  · have b := FunD.bindsA (ps := ["_law_script"]) F fun _ _ _ _ _ _ us hl => match us, hl with | [_], _ => rfl
    exact fun s v => b s [v] rfl
  · obtain ⟨fd', F', FO⟩ := okD_law (base := base) V
    cases funD_eq F F'
    exact FO
theorem sp_law {K : PySem.W.Frag} {H : Hp} {a : Addr} {ns : List Int} (hl : ns.length ≤ 63) (hS : SqL K H a (ns.map V.int)) : spOf (GG K) 1 F_law [.ref a] H (fun v _ => v = .bl true) (fun _ _ _ => False) := by
  refine ⟨rfl, H, fun _ => False, [.fr (.scr ns)], Same.refl H, rfl, fun _ z => z.elim, fun i v x h1 h2 => ?_, ?_⟩
  · match i, h1, h2 with
    | 0, h1, h2 =>
      cases h1; cases h2
      exact ⟨rfl, _, rfl, .scr hS⟩
  · have k := law_ok ns hl
    cases e : F_law [.fr (.scr ns)] with
    | ok d outs =>
      rw [e] at k
      have k : d = .bl true := k
      subst k
      intro F' H' v _ hv
      cases hv
      rfl
    | err e' outs => rw [e] at k; exact k.elim
    | bad => rw [e] at k; exact k.elim
end L06
end AT
open PySem PySem.W PySem.Calls PyProof.Rows
set_option maxHeartbeats 0
theorem PySem.Challenge.cw_anytypist_k06_kinds_made_and_ordered_holds : PySem.Challenge.rw_anytypist_k06_kinds_made_and_ordered.Holds := by
  w_on; o_law
  refine HandSHeadRun.head_any (r := OpenLaw.row PySem.Challenge.rw_anytypist_k06_kinds_made_and_ordered) (q := view (OpenLaw.row PySem.Challenge.rw_anytypist_k06_kinds_made_and_ordered).prog [17]) (H := AT.L06.hk) (ob := AT.L06.ob) (M := 4000) (loose := AT.L06.loose) (d := HandSHeadRun.topDef (OpenLaw.row PySem.Challenge.rw_anytypist_k06_kinds_made_and_ordered).prog 17) (kwd := []) AT.L06.ob_eq
    (by kernel_rfl) (fun s => by kernel_rfl) AT.L06.run (by kernel_rfl) (by kernel_rfl) (by kernel_rfl) (by rfl) (by first | assumption | decide +kernel) (by decide +kernel) ⟨rfl, rfl, rfl, rfl, rfl, by decide +kernel⟩ ?hw ?hc
  case hw => w_witness2
  case hc =>
    refine AT.Hk.walk_ofG (l := PySem.Challenge.rw_anytypist_k06_kinds_made_and_ordered) (n := 63) (k := 6) (x := "_law_script") (CX := AT.CXn) rfl (by decide) (by kernel_rfl) ⟨rfl, by decide, by decide⟩ ?F (fun _ _ _ _ z => AT.cxn_no z)
    intro w mg fa h Y G hmg0
    obtain ⟨K, KX, c⟩ := Y
    have hmg : mg ("law" : PySem.Str) = some (.ref fa) := by
      have e : (HandSHeadRun.topDef (OpenLaw.row PySem.Challenge.rw_anytypist_k06_kinds_made_and_ordered).prog 17).name = ("law" : PySem.Str) := by kernel_rfl
      rw [← e]
      exact hmg0
    obtain ⟨fd, hb, hF⟩ := AT.L06.facts (w := w) KX G hmg c
    exact ⟨K, fd, _, KX, hb, fun H a ns hl hS => AT.L06.sp_law hl hS, fun base _ _ => AT.fnG_cxn (hF base)⟩
