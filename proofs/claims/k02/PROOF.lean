import PyProof.Rows.All
import Wide.All
import OpenK.AllK
import Wide.FinOn
import HandS.ForMost
import HandS.Exc
import HandS.TryOnly
import HandS.ExcOwn
import HandS.WordsExc
import HandS.Evl
import HandS.Defaults
import HandS.Wide
import HandS.IsInst
import HandS.TupAny
import HandS.Lambda
import HandS.HeadHook4
import HandS.Zip
import HandS.TupMul
import HandS.Dict
import HandS.More
import HandS.ExcValue
import HandS.CallLocal
import PySem.Challenge.RW_forepaid_k02_whole_fractions_and_what_is
import HandS.ExcIs
import HandS.SetFor
import KE.KStateDown
import HandS.Head0
import HandS.Head1
import HandS.Head2
import HandS.HeadEnd
import HandS.HeadHook1
import HandS.HeadHook2
import HandS.HeadHook3
import HandS.HeadWalk
import HandS.NestedK
set_option Elab.async false
set_option linter.all false
set_option maxRecDepth 100000
set_option maxHeartbeats 0
/-! A program logic over data, upon the hand layer: values are data, mutable lists are owned by a slot, one shared list (the hand). -/
namespace PL
open PySem PySem.Spec PyProof.Rows L2

/-- data: what never changes -/
inductive D where
  | non | bl (b : Bool) | int (i : Int) | str (s : Str) | tup (xs : List D) | lst (xs : List D) | ro (xs : List D) | dct (ks : List Key) (ds : List D) | fn (x : Str)

mutual
inductive RD (K : PySem.W.Frag) (mg : Str → Option Value) (F : Hp) : D → V → Prop
  | non : RD K mg F .non .non
  | bl (b : Bool) : RD K mg F (.bl b) (.bl b)
  | int (i : Int) : RD K mg F (.int i) (.int i)
  | str (s : Str) : RD K mg F (.str s) (.str s)
  | tup {a : Addr} {xs : List V} {ds : List D} : SqT K F a xs → RDs K mg F ds xs → RD K mg F (.tup ds) (.ref a)
  | lst {a : Addr} {xs : List V} {ds : List D} : F a = some (.lst xs) → RDs K mg F ds xs → RD K mg F (.lst ds) (.ref a)
  | ro {a : Addr} {xs : List V} {ds : List D} : SqL K F a xs → RDs K mg F ds xs → RD K mg F (.ro ds) (.ref a)
  | dct {a : Addr} {kvs : List (Key × V)} {ks : List Key} {ds : List D} {vs : List V} : F a = some (.dK kvs) → kvs = ks.zip vs → ks.length = vs.length → RDs K mg F ds vs → RD K mg F (.dct ks ds) (.ref a)
  | fn {x : Str} {a : Addr} : mg x = some (.ref a) → RD K mg F (.fn x) (.ref a)
inductive RDs (K : PySem.W.Frag) (mg : Str → Option Value) (F : Hp) : List D → List V → Prop
  | nil : RDs K mg F [] []
  | cons {d : D} {ds : List D} {v : V} {vs : List V} : RD K mg F d v → RDs K mg F ds vs → RDs K mg F (d :: ds) (v :: vs)
end

abbrev Ext (F F' : Hp) : Prop := ∀ a o, F a = some o → F' a = some o
theorem Ext.refl (F : Hp) : Ext F F := fun _ _ h => h
theorem Ext.trans {F F1 F2 : Hp} (a : Ext F F1) (b : Ext F1 F2) : Ext F F2 := fun x o h => b x o (a x o h)
theorem Ext.new {F : Hp} {p : Addr} {o : HO} (h : F p = none) : Ext F (upd F p o) := fun a u e => by
  rw [upd_ne (ne_of_none e h)]
  exact e
theorem sqT_ext {K : PySem.W.Frag} {F F' : Hp} {a : Addr} {xs : List V} (e : Ext F F') (h : SqT K F a xs) : SqT K F' a xs := Evl.ex_t e h
theorem sqL_ext {K : PySem.W.Frag} {F F' : Hp} {a : Addr} {xs : List V} (e : Ext F F') (h : SqL K F a xs) : SqL K F' a xs := Evl.ex_l e h

section
variable {K : PySem.W.Frag} {mg : Str → Option Value} {F F' : Hp}
mutual
theorem RD.ext (e : Ext F F') : ∀ {d : D} {v : V}, RD K mg F d v → RD K mg F' d v
  | _, _, .non => .non
  | _, _, .bl b => .bl b
  | _, _, .int i => .int i
  | _, _, .str s => .str s
  | _, _, .fn h => .fn h
  | _, _, .dct h h1 h2 k => .dct (e _ _ h) h1 h2 (RDs.ext e k)
  | _, _, .tup h k => .tup (sqT_ext e h) (RDs.ext e k)
  | _, _, .lst h k => .lst (e _ _ h) (RDs.ext e k)
  | _, _, .ro h k => .ro (sqL_ext e h) (RDs.ext e k)
theorem RDs.ext (e : Ext F F') : ∀ {ds : List D} {vs : List V}, RDs K mg F ds vs → RDs K mg F' ds vs
  | _, _, .nil => .nil
  | _, _, .cons h k => .cons (RD.ext e h) (RDs.ext e k)
end
theorem RDs.len : ∀ {ds : List D} {vs : List V}, RDs K mg F ds vs → vs.length = ds.length
  | _, _, .nil => rfl
  | _, _, .cons _ k => by rw [List.length_cons, List.length_cons, RDs.len k]
theorem RDs.get : ∀ {ds : List D} {vs : List V} {i : Nat} {d : D}, RDs K mg F ds vs → ds[i]? = some d → ∃ v, vs[i]? = some v ∧ RD K mg F d v
  | _, _, _, _, .nil, e => by simp at e
  | _, _, 0, _, .cons h _, e => by
    simp at e
    subst e
    exact ⟨_, rfl, h⟩
  | _, _, i + 1, x, .cons _ k, e => by
    obtain ⟨u, e1, e2⟩ := RDs.get (i := i) (d := x) k (by simpa using e)
    exact ⟨u, by simpa using e1, e2⟩
theorem RDs.append : ∀ {ds es : List D} {vs us : List V}, RDs K mg F ds vs → RDs K mg F es us → RDs K mg F (ds ++ es) (vs ++ us)
  | _, _, _, _, .nil, k => k
  | _, _, _, _, .cons h t, k => .cons h (RDs.append t k)
theorem RDs.take : ∀ {ds : List D} {vs : List V} (n : Nat), RDs K mg F ds vs → RDs K mg F (ds.take n) (vs.take n)
  | _, _, _, .nil => by
    rw [List.take_nil, List.take_nil]
    exact .nil
  | _, _, 0, .cons _ _ => .nil
  | _, _, n + 1, .cons h k => .cons h (RDs.take n k)
theorem RDs.drop : ∀ {ds : List D} {vs : List V} (n : Nat), RDs K mg F ds vs → RDs K mg F (ds.drop n) (vs.drop n)
  | _, _, _, .nil => by
    rw [List.drop_nil, List.drop_nil]
    exact .nil
  | _, _, 0, .cons h k => .cons h k
  | _, _, n + 1, .cons _ k => RDs.drop n k
end

/-- what a slot holds, what an expression gives: data; a list that the slot owns (or that is fresh); the slot i's own list; the hand -/
inductive W where
  | val (d : D) | own (ds : List D) | loc (i : Nat) | hnd
  /-- a zip object, not yet walked -/
  | zip (ds es : List D)
  /-- the hand, open -/
  | hown (ds : List D)
abbrev Store := List (Option W)

/-- what the hand holds -/
class Hand where
  HI : Hp → HO → Prop
  mono : ∀ F F' o, Ext F F' → HI F o → HI F' o
  nt : ∀ F o, HI F o → ∀ ps, o ≠ .tbl ps
  /-- the tables of code objects -/
  T : List (Addr × Str)
variable [Hand]
/-- a run of a def: the hand's place and what it holds; the heaps at the entry; what is wished of an exception -/
structure Cfg where
  hd : Option Addr
  F0 : Hp
  H0 : Hp
  /-- what is known (what is new isn't there) -/
  N : Hp
  /-- what is not to be changed -/
  Pr : Hp
  blk : Bool
  W : WX
  n0 : Nat := 0
  fs : List Addr := []
  /-- zip objects may stand -/
  zs : Bool := true

/-- a new thing, known by its object -/
def XO (c : Cfg) (F H : Hp) (p : Addr) (φ : Heap → Prop) : Prop := H p = some (.ext fun h => φ h ∧ c.n0 ≤ p ∧ p ∉ c.fs) ∧ F p = none ∧ c.Pr p = none ∧ c.hd ≠ some p ∧ c.N p = none ∧ c.zs = true
/-- a zip object over two lists -/
def ZipR (K : PySem.W.Frag) (mg : Str → Option Value) (c : Cfg) (F H : Hp) (v : V) (ds es : List D) : Prop :=
  ∃ (z TI TO i1 i2 a b : Addr) (xs ys : List V), v = .ref z ∧ ZipApart z TI TO i1 i2 a b ∧ (XO c F H z (fun h => IsZip h z TI TO .none) ∧ XO c F H TI (fun h => IsPair h TI (.ref i1) (.ref i2)) ∧ XO c F H TO (fun h => ∃ x y, IsPair h TO x y) ∧ XO c F H i1 (fun h => h.IsListIter i1 a 0) ∧ XO c F H i2 (fun h => h.IsListIter i2 b 0)) ∧
    SqL K F a xs ∧ RDs K mg F ds xs ∧ SqL K F b ys ∧ RDs K mg F es ys

def RW (K : PySem.W.Frag) (mg : Str → Option Value) (c : Cfg) (F H : Hp) (σ : L2.St) : W → V → Prop
  | .val d, v => RD K mg F d v
  | .own ds, v => ∃ p xs, v = .ref p ∧ H p = some (.lst xs) ∧ F p = none ∧ c.Pr p = none ∧ c.hd ≠ some p ∧ RDs K mg F ds xs
  | .loc i, v => σ[i]? = some (some v)
  | .hnd, v => ∃ p, c.hd = some p ∧ v = .ref p
  | .zip ds es, v => ZipR K mg c F H v ds es
  | .hown ds, v => ∃ p xs, c.hd = some p ∧ v = .ref p ∧ H p = some (.lst xs) ∧ RDs K mg F ds xs
/-- no zip object, no open hand -/
def clean (ρ : Store) : Bool := ρ.all fun w => match w with
  | some (.zip _ _) => false
  | some (.hown _) => false
  | _ => true
theorem clean_at {ρ : Store} {i : Nat} {w : W} (h : clean ρ = true) (e : ρ[i]? = some (some w)) : (∀ ds es, w ≠ .zip ds es) ∧ ∀ ds, w ≠ .hown ds := by
  have := List.all_eq_true.mp h _ (List.mem_of_getElem? e)
  constructor
  · intro ds es q
    subst q
    cases this
  · intro ds q
    subst q
    cases this

/-- not a table -/
abbrev NoT (o : HO) : Prop := ∀ ps, o ≠ .tbl ps
/-- what is written over: no table, no code object -/
def PlainO (o : HO) : Prop := (∀ ps, o ≠ .tbl ps) ∧ ∀ φ, o ≠ .ext φ
theorem noT_lst (xs : List V) : NoT (.lst xs) := fun _ q => nomatch q
theorem noT_tup (xs : List V) : NoT (.tup xs) := fun _ q => nomatch q
theorem noT_dK (xs : List (Key × V)) : NoT (.dK xs) := fun _ q => nomatch q
theorem plain_lst (xs : List V) : PlainO (.lst xs) := ⟨fun _ q => (nomatch q), fun _ q => (nomatch q)⟩
theorem plain_dK (xs : List (Key × V)) : PlainO (.dK xs) := ⟨fun _ q => (nomatch q), fun _ q => (nomatch q)⟩
/-- the tables -/
structure Tb (c : Cfg) (F H : Hp) : Prop where
  nF : ∀ a o, F a = some o → NoT o
  nP : ∀ a o, c.Pr a = some o → NoT o
  tabs : LamX.Tabs Hand.T H
theorem Tb.grow {c : Cfg} {F H : Hp} {p : Addr} {o : HO} (t : Tb c F H) (hp : H p = none) (ho : NoT o) : Tb c (upd F p o) (upd H p o) :=
  ⟨fun a u e => by
    by_cases h : a = p
    · subst h
      rw [upd_same] at e
      cases e
      exact ho
    · rw [upd_ne h] at e
      exact t.nF a u e, t.nP, t.tabs.ext fun b u e => Ext.new hp b u e⟩
theorem Tb.growH {c : Cfg} {F H : Hp} {p : Addr} {o : HO} (t : Tb c F H) (hp : H p = none) : Tb c F (upd H p o) :=
  ⟨t.nF, t.nP, t.tabs.ext fun b u e => Ext.new hp b u e⟩
theorem Tb.freeze {c : Cfg} {F H : Hp} {p : Addr} {o : HO} (t : Tb c F H) (ho : NoT o) : Tb c (upd F p o) H :=
  ⟨fun a u e => by
    by_cases h : a = p
    · subst h
      rw [upd_same] at e
      cases e
      exact ho
    · rw [upd_ne h] at e
      exact t.nF a u e, t.nP, t.tabs⟩
theorem tabs_write {T : List (Addr × Str)} {H : Hp} {p : Addr} {o u : HO} (t : LamX.Tabs T H) (hp : H p = some u) (hu : PlainO u) : LamX.Tabs T (upd H p o) := fun q hq => by
  obtain ⟨ps, h1, h2, h3⟩ := t q hq
  have n1 : q.1 ≠ p := fun e => by
    rw [e, hp] at h1
    exact hu.1 ps (Option.some.inj h1)
  refine ⟨ps, by rw [upd_ne n1]; exact h1, h2, fun pos cv hc => ?_⟩
  obtain ⟨c, e1, e2⟩ := h3 pos cv hc
  have n2 : c ≠ p := fun e => by
    rw [e, hp] at e2
    exact hu.2 _ (Option.some.inj e2)
  exact ⟨c, e1, by rw [upd_ne n2]; exact e2⟩
theorem Tb.write {c : Cfg} {F H : Hp} {p : Addr} {o u : HO} (t : Tb c F H) (hp : H p = some u) (hu : PlainO u) : Tb c F (upd H p o) :=
  ⟨t.nF, t.nP, tabs_write t.tabs hp hu⟩
/-- behind a part of the run -/
structure Aft (c : Cfg) (F H : Hp) : Prop where
  sub : Ext F H
  f0 : Ext c.F0 F
  pr : Ext c.Pr H
  pr0 : ∀ a o, c.H0 a = some o → c.hd ≠ some a → c.Pr a = some o
  new : ∀ a o, F a = some o → c.F0 a = some o ∨ c.N a = none
  nn : ∀ a o, c.N a = some o → ∃ o', H a = some o' ∧ NoT o'
  nb : c.blk = false → c.N = c.H0
  hand : ∀ p, c.hd = some p → F p = none ∧ c.Pr p = none ∧ ∃ o, H p = some o ∧ Hand.HI F o
  tb : Tb c F H

structure Rel (K : PySem.W.Frag) (mg : Str → Option Value) (c : Cfg) (F H : Hp) (σ : L2.St) (ρ : Store) : Prop where
  aft : Aft c F H
  slot : ∀ (i : Nat) (w : W), ρ[i]? = some (some w) → (∀ j, w ≠ .loc j) ∧ ∃ v, σ[i]? = some (some v) ∧ RW K mg c F H σ w v
  apart : ∀ (i j : Nat) (ds es : List D) (v : V), i ≠ j → ρ[i]? = some (some (.own ds)) → ρ[j]? = some (some (.own es)) → σ[i]? = some (some v) → σ[j]? = some (some v) → False

/-- the wish of an exception, by its class's name -/
def Lk (X : Cx) (c : Cfg) (Y : Str → Store → Prop) : Prop := (Takes X c.W ∧ PassesOwn (model X.prog X.w) X.A X.env X.xe ∧ (c.zs = true → c.n0 = X.s_0.heap.objs.size ∧ c.fs = X.fs)) ∧ ∀ x C F H σ ρ, Y x ρ → X.mg x = some (.ref C) → Rel X.K X.mg c F H σ ρ → c.W (.ref C) none σ H

abbrev Po := W → Store → Prop
def VP (K : PySem.W.Frag) (mg : Str → Option Value) (c : Cfg) (σ : L2.St) (P : Po) : VK := fun v H => ∃ F ρ w, Rel K mg c F H σ ρ ∧ RW K mg c F H σ w v ∧ P w ρ
/-- the best reading of an expression -/
def bE (X : Cx) (e : Expr) : TE := fun σ H Q => ∀ pins s, Inv X pins σ H s → wpAny (model X.prog X.w) X.A (eval e X.env) (EP X pins σ Q) X.xe s
theorem pe_best {X : Cx} {e : Expr} : PE X e (bE X e) := ⟨fun pins s σ H Q I h => h pins s I⟩
theorem bst {X : Cx} {e : Expr} {t : TE} (h : PE X e t) {σ : L2.St} {H : Hp} {Q : VK} (q : t σ H Q) : bE X e σ H Q := fun pins s I => h.run pins s σ H Q I q

def WE (X : Cx) (e : Expr) (ρ : Store) (Y : Str → Store → Prop) (P : Po) : Prop :=
  ∀ c F H σ, Rel X.K X.mg c F H σ ρ → Lk X c Y → bE X e σ H (VP X.K X.mg c σ P)
end PL

namespace PL
open PySem PySem.Spec PyProof.Rows L2
variable [Hand]
section
variable {K : PySem.W.Frag} {mg : Str → Option Value} {c : Cfg} {F H : Hp} {σ : L2.St} {ρ : Store}

theorem Aft.fresh0 (A : Aft c F H) {p : Addr} (hp : H p = none) : c.N p = none ∧ c.hd ≠ some p ∧ F p = none ∧ c.Pr p = none := by
  refine ⟨?_, fun e => ?_, ?_, ?_⟩
  · cases e : c.N p with
    | none => rfl
    | some o =>
      obtain ⟨o', q, _⟩ := A.nn p o e
      rw [hp] at q
      cases q
  · obtain ⟨_, _, o, q, _⟩ := A.hand p e
    rw [hp] at q
    cases q
  · cases e : F p with
    | none => rfl
    | some o =>
      have := A.sub p o e
      rw [hp] at this
      cases this
  · cases e : c.Pr p with
    | none => rfl
    | some o =>
      have := A.pr p o e
      rw [hp] at this
      cases this
theorem nn_ext {H H' : Hp} (e : Ext H H') {a : Addr} (h : ∃ o, H a = some o ∧ NoT o) : ∃ o, H' a = some o ∧ NoT o := by
  obtain ⟨o, q, z⟩ := h
  exact ⟨o, e _ _ q, z⟩
theorem Aft.grow (A : Aft c F H) {p : Addr} {o : HO} (hp : H p = none) (ho : NoT o) : Aft c (upd F p o) (upd H p o) := by
  obtain ⟨h0, hd, f, _⟩ := A.fresh0 hp
  refine ⟨fun a u e => ?_, A.f0.trans (.new f), A.pr.trans (.new hp), A.pr0, fun a u e => ?_, fun a u e => nn_ext (.new hp) (A.nn a u e), A.nb, fun q hq => ?_, A.tb.grow hp ho⟩
  · by_cases h : a = p
    · subst h
      rw [upd_same] at e ⊢
      exact e
    · rw [upd_ne h] at e ⊢
      exact A.sub a u e
  · by_cases h : a = p
    · subst h
      exact .inr h0
    · rw [upd_ne h] at e
      exact A.new a u e
  · obtain ⟨a1, a5, u, a3, a4⟩ := A.hand q hq
    have hne : q ≠ p := fun e => by
      subst e
      exact hd hq
    exact ⟨by rw [upd_ne hne]; exact a1, a5, u, by rw [upd_ne hne]; exact a3, Hand.mono _ _ _ (.new f) a4⟩
/-- a new thing that isn't frozen -/
theorem Aft.growH (A : Aft c F H) {p : Addr} {o : HO} (hp : H p = none) : Aft c F (upd H p o) := by
  obtain ⟨h0, hd, f, _⟩ := A.fresh0 hp
  refine ⟨A.sub.trans (.new hp), A.f0, A.pr.trans (.new hp), A.pr0, A.new, fun a u e => nn_ext (.new hp) (A.nn a u e), A.nb, fun q hq => ?_, A.tb.growH hp⟩
  obtain ⟨a1, a5, u, a3, a4⟩ := A.hand q hq
  have hne : q ≠ p := fun e => by
    subst e
    exact hd hq
  exact ⟨a1, a5, u, by rw [upd_ne hne]; exact a3, a4⟩

/-- what stays -/
structure Stay (c : Cfg) (F H F' H' : Hp) (hb : Bool) : Prop where
  sub : Ext F F'
  keep : ∀ p o, H p = some o → NoT o → F p = none → c.Pr p = none → c.hd ≠ some p → H' p = some o ∧ F' p = none
  hand : hb = true → ∀ p o, c.hd = some p → H p = some o → H' p = some o
theorem noT_ext (φ : Heap → Prop) : NoT (.ext φ) := fun _ q => nomatch q
theorem XO.mono {F' H' : Hp} {hb : Bool} {p : Addr} {φ : Heap → Prop} (x : XO c F H p φ) (s : Stay c F H F' H' hb) : XO c F' H' p φ := by
  obtain ⟨h1, h2, h3, h4, h5⟩ := x
  obtain ⟨k1, k2⟩ := s.keep p _ h1 (noT_ext _) h2 h3 h4
  exact ⟨k1, k2, h3, h4, h5⟩
theorem RW.mono {F' H' : Hp} {hb : Bool} {w : W} {v : V} (h : RW K mg c F H σ w v) (s : Stay c F H F' H' hb) (hw : hb = true ∨ ∀ ds, w ≠ .hown ds) : RW K mg c F' H' σ w v := by
  cases w with
  | val d => exact RD.ext s.sub h
  | own ds =>
    obtain ⟨p, xs, rfl, h1, h2, h3, h4, h5⟩ := h
    obtain ⟨k1, k2⟩ := s.keep p _ h1 (noT_lst _) h2 h3 h4
    exact ⟨p, xs, rfl, k1, k2, h3, h4, RDs.ext s.sub h5⟩
  | loc i => exact h
  | hnd => exact h
  | zip ds es =>
    obtain ⟨z, TI, TO, i1, i2, a, b, xs, ys, e1, e2, ⟨x1, x2, x3, x4, x5⟩, e3, e4, e5, e6⟩ := h
    exact ⟨z, TI, TO, i1, i2, a, b, xs, ys, e1, e2, ⟨x1.mono s, x2.mono s, x3.mono s, x4.mono s, x5.mono s⟩, sqL_ext s.sub e3, RDs.ext s.sub e4, sqL_ext s.sub e5, RDs.ext s.sub e6⟩
  | hown ds =>
    obtain ⟨p, xs, h1, h2, h3, h4⟩ := h
    rcases hw with hw | hw
    · exact ⟨p, xs, h1, h2, s.hand hw p _ h1 h3, RDs.ext s.sub h4⟩
    · exact absurd rfl (hw ds)
theorem Rel.mono {F' H' : Hp} {hb : Bool} (R : Rel K mg c F H σ ρ) (A : Aft c F' H') (s : Stay c F H F' H' hb) (hw : hb = true ∨ clean ρ = true) : Rel K mg c F' H' σ ρ :=
  ⟨A, fun i w hi => by
    obtain ⟨h1, v, h2, h3⟩ := R.slot i w hi
    exact ⟨h1, v, h2, h3.mono s (hw.imp id fun q => (clean_at q hi).2)⟩, R.apart⟩
theorem Rel.grow (R : Rel K mg c F H σ ρ) {p : Addr} {o : HO} (hp : H p = none) (ho : NoT o) : Rel K mg c (upd F p o) (upd H p o) σ ρ := by
  obtain ⟨h0, hd, f, _⟩ := R.aft.fresh0 hp
  refine R.mono (hb := true) (R.aft.grow hp ho) ⟨.new f, fun q u h1 _ h2 _ _ => ?_, fun _ q u _ h1 => Ext.new hp q u h1⟩ (.inl rfl)
  have hne : q ≠ p := ne_of_none h1 hp
  exact ⟨by rw [upd_ne hne]; exact h1, by rw [upd_ne hne]; exact h2⟩
theorem Rel.growH (R : Rel K mg c F H σ ρ) {p : Addr} {o : HO} (hp : H p = none) : Rel K mg c F (upd H p o) σ ρ := by
  refine R.mono (hb := true) (R.aft.growH hp) ⟨.refl F, fun q u h1 _ h2 _ _ => ?_, fun _ q u _ h1 => Ext.new hp q u h1⟩ (.inl rfl)
  have hne : q ≠ p := ne_of_none h1 hp
  exact ⟨by rw [upd_ne hne]; exact h1, h2⟩
theorem RD.int_inv {i : Int} {v : V} (h : RD K mg F (.int i) v) : v = .int i := by cases h; rfl
theorem RD.bl_inv {b : Bool} {v : V} (h : RD K mg F (.bl b) v) : v = .bl b := by cases h; rfl
theorem RD.str_inv {x : Str} {v : V} (h : RD K mg F (.str x) v) : v = .str x := by cases h; rfl
theorem RD.non_inv {v : V} (h : RD K mg F .non v) : v = .non := by cases h; rfl
theorem RD.tup_inv {ds : List D} {v : V} (h : RD K mg F (.tup ds) v) : ∃ a xs, v = .ref a ∧ SqT K F a xs ∧ RDs K mg F ds xs := by
  cases h with
  | tup h k => exact ⟨_, _, rfl, h, k⟩
theorem RD.lst_inv {ds : List D} {v : V} (h : RD K mg F (.lst ds) v) : ∃ a xs, v = .ref a ∧ F a = some (.lst xs) ∧ RDs K mg F ds xs := by
  cases h with
  | lst h k => exact ⟨_, _, rfl, h, k⟩
theorem Rel.tupNew (R : Rel K mg c F H σ ρ) {p : Addr} {xs : List V} {ds : List D} (hp : H p = none) (h : RDs K mg F ds xs) : Rel K mg c (upd F p (.tup xs)) (upd H p (.tup xs)) σ ρ ∧ RD K mg (upd F p (.tup xs)) (.tup ds) (.ref p) :=
  ⟨R.grow hp (noT_tup _), .tup (.inl (.inl upd_same)) (h.ext (.new (R.aft.fresh0 hp).2.2.1))⟩
theorem Rel.lstNew (R : Rel K mg c F H σ ρ) {p : Addr} {xs : List V} {ds : List D} (hp : H p = none) (h : RDs K mg F ds xs) : Rel K mg c (upd F p (.lst xs)) (upd H p (.lst xs)) σ ρ ∧ RD K mg (upd F p (.lst xs)) (.lst ds) (.ref p) :=
  ⟨R.grow hp (noT_lst _), .lst upd_same (h.ext (.new (R.aft.fresh0 hp).2.2.1))⟩
end

section
variable {X : Cx} {ρ : Store} {Y : Str → Store → Prop} {P : Po}
/-- data out -/
abbrev Pv (P : D → Store → Prop) : Po := fun w ρ => ∃ d, w = .val d ∧ P d ρ
theorem WE.imp {e : Expr} {P Q : Po} (h : WE X e ρ Y P) (k : ∀ w ρ', P w ρ' → Q w ρ') : WE X e ρ Y Q := fun c F H σ R L pins s I =>
  thn (h c F H σ R L pins s I) fun u s1 ⟨v, H1, I1, r, F1, ρ1, w, R1, q1, p1⟩ => ⟨v, H1, I1, r, F1, ρ1, w, R1, q1, k w ρ1 p1⟩
theorem bE.imp {e : Expr} {σ : L2.St} {H : Hp} {Q Q' : VK} (h : bE X e σ H Q) (k : ∀ v H', Q v H' → Q' v H') : bE X e σ H Q' := fun pins s I =>
  thn (h pins s I) fun u s1 ⟨v, H1, I1, r, q⟩ => ⟨v, H1, I1, r, k v H1 q⟩

theorem we_int {i : Int} {j pos} (h : P (.val (.int i)) ρ) : WE X (.Constant (.int i) j pos) ρ Y P := fun c F H σ R L => bst (σ := σ) (H := H) pe_int ⟨F, ρ, .val (.int i), R, .int i, h⟩
theorem we_bl {b : Bool} {j pos} (h : P (.val (.bl b)) ρ) : WE X (.Constant (.bool b) j pos) ρ Y P := fun c F H σ R L => bst (σ := σ) (H := H) pe_bl ⟨F, ρ, .val (.bl b), R, .bl b, h⟩
theorem we_non {j pos} (h : P (.val .non) ρ) : WE X (.Constant .none j pos) ρ Y P := fun c F H σ R L => bst (σ := σ) (H := H) pe_non ⟨F, ρ, .val .non, R, .non, h⟩
theorem we_str {x : Str} {j pos} (h : P (.val (.str x)) ρ) : WE X (.Constant (.str x) j pos) ρ Y P := fun c F H σ R L => bst (σ := σ) (H := H) pe_str ⟨F, ρ, .val (.str x), R, .str x, h⟩

theorem we_slot (i : Nat) {x : Str} {pos : Pos} {w : W} {w' : W} (hN : X.N[i]? = some x) (hv : Vis X.env.scope x) (hw : ρ[i]? = some (some w)) (hw' : w' = (match w with | .own _ => .loc i | .hown _ => .loc i | w => w)) (h : P w' ρ) (hd : (x == ("__debug__" : Str)) = false := by decide)
    (hcd : (x == ("__classdict__" : Str)) = false := by decide) : WE X (.Name x pos) ρ Y P := fun c F H σ R L => by
  obtain ⟨h1, v, h2, h3⟩ := R.slot i w hw
  refine bst (σ := σ) (H := H) (pe_var (i := i) hN hv hd hcd) ⟨v, h2, F, ρ, w', R, ?_, h⟩
  subst hw'
  cases w with
  | own ds => exact h2
  | hown ds => exact h2
  | zip ds es => exact h3
  | val d => exact h3
  | loc j => exact absurd rfl (h1 j)
  | hnd => exact h3
/-- a name of the module -/
theorem we_glob {x : Str} {u : Value} {d : D} {pos : Pos} (hg : Gl X x) (hm : X.mg x = some u) (r : ∀ F : Hp, ∃ v, RelV v u ∧ RD X.K X.mg F d v) (h : P (.val d) ρ) (hd : (x == ("__debug__" : Str)) = false := by decide) : WE X (.Name x pos) ρ Y P := fun c F H σ R L => by
  obtain ⟨v, r1, r2⟩ := r F
  exact bst (σ := σ) (H := H) (pe_glob (v := v) hg hm r1 hd) ⟨F, ρ, .val d, R, r2, h⟩

/-! ### the run from a state, keeping what was frozen -/
def Cfg.at (c : Cfg) (F : Hp) : Cfg := { c with F0 := F }
theorem Aft.into {c : Cfg} {F H : Hp} (A : Aft c F H) : Aft (c.at F) F H := ⟨A.sub, .refl F, A.pr, A.pr0, fun a o e => .inl e, A.nn, A.nb, A.hand, ⟨A.tb.nF, A.tb.nP, A.tb.tabs⟩⟩
theorem Aft.back {c : Cfg} {F F' H' : Hp} (h0 : Ext c.F0 F) (hn : ∀ a o, F a = some o → c.F0 a = some o ∨ c.N a = none) (A : Aft (c.at F) F' H') : Aft c F' H' := ⟨A.sub, h0.trans A.f0, A.pr, A.pr0, fun a o e => by
  rcases A.new a o e with h | h
  · exact hn a o h
  · exact .inr h, A.nn, A.nb, A.hand, ⟨A.tb.nF, A.tb.nP, A.tb.tabs⟩⟩
theorem Rel.into {K : PySem.W.Frag} {mg : Str → Option Value} {c : Cfg} {F H : Hp} {σ : L2.St} {ρ : Store} (R : Rel K mg c F H σ ρ) : Rel K mg (c.at F) F H σ ρ :=
  ⟨R.aft.into, R.slot, R.apart⟩
theorem Rel.back {K : PySem.W.Frag} {mg : Str → Option Value} {c : Cfg} {F F' H' : Hp} {σ : L2.St} {ρ : Store} (h0 : Ext c.F0 F) (hn : ∀ a o, F a = some o → c.F0 a = some o ∨ c.N a = none) (R : Rel K mg (c.at F) F' H' σ ρ) : Rel K mg c F' H' σ ρ :=
  ⟨R.aft.back h0 hn, R.slot, R.apart⟩
theorem Lk.into {c : Cfg} {F : Hp} (h0 : Ext c.F0 F) (hn : ∀ a o, F a = some o → c.F0 a = some o ∨ c.N a = none) (L : Lk X c Y) : Lk X (c.at F) Y :=
  ⟨L.1, fun x C F' H' σ ρ' hy hm R => L.2 x C F' H' σ ρ' hy hm (R.back h0 hn)⟩
theorem WE.run {e : Expr} {c : Cfg} {F H : Hp} {σ : L2.St} (h : WE X e ρ Y P) (R : Rel X.K X.mg c F H σ ρ) (L : Lk X c Y) :
    bE X e σ H fun v H' => ∃ F' ρ' w, Ext F F' ∧ Rel X.K X.mg c F' H' σ ρ' ∧ RW X.K X.mg c F' H' σ w v ∧ P w ρ' :=
  bE.imp (h (c.at F) F H σ R.into (L.into R.aft.f0 R.aft.new)) fun v H' ⟨F', ρ', w, R', r, p⟩ => ⟨F', ρ', w, R'.aft.f0, R'.back R.aft.f0 R.aft.new, r, p⟩

/-! ### operators on ints -/
theorem we_binI {op : Operator} {C : Int → Int → Prop} {g : Int → Int → Int} {a b : Expr} {pos : Pos} (ho : OpR X (binaryOp op) (rI C fun i j => .int (g i j)))
    (h : WE X a ρ Y fun x ρ1 => WE X b ρ1 Y fun y ρ2 => ∃ i j, x = .val (.int i) ∧ y = .val (.int j) ∧ C i j ∧ P (.val (.int (g i j))) ρ2) : WE X (.BinOp a op b pos) ρ Y P := fun c F H σ R L => by
  refine bst (pe_op ho pe_best pe_best) ?_
  refine (h.run R L).imp fun v H1 ⟨F1, ρ1, w, _, R1, r1, hb⟩ => (hb.run R1 L).imp fun u H2 ⟨F2, ρ2, w2, _, R2, r2, i, j, e1, e2, hC, hP⟩ => ?_
  subst e1 e2
  exact ⟨i, j, RD.int_inv r1, RD.int_inv r2, hC, F2, ρ2, .val (.int (g i j)), R2, RD.int (g i j), hP⟩
theorem we_binI0 {op : Operator} {g : Int → Int → Int} {a b : Expr} {pos : Pos} (ho : OpR X (binaryOp op) (rI0 fun i j => .int (g i j)))
    (h : WE X a ρ Y fun x ρ1 => WE X b ρ1 Y fun y ρ2 => ∃ i j, x = .val (.int i) ∧ y = .val (.int j) ∧ P (.val (.int (g i j))) ρ2) : WE X (.BinOp a op b pos) ρ Y P := fun c F H σ R L => by
  refine bst (pe_op ho pe_best pe_best) ?_
  refine (h.run R L).imp fun v H1 ⟨F1, ρ1, w, _, R1, r1, hb⟩ => (hb.run R1 L).imp fun u H2 ⟨F2, ρ2, w2, _, R2, r2, i, j, e1, e2, hP⟩ => ?_
  subst e1 e2
  exact ⟨i, j, RD.int_inv r1, RD.int_inv r2, F2, ρ2, .val (.int (g i j)), R2, RD.int (g i j), hP⟩
theorem we_add {a b : Expr} {pos : Pos} (h : WE X a ρ Y fun x ρ1 => WE X b ρ1 Y fun y ρ2 => ∃ i j, x = .val (.int i) ∧ y = .val (.int j) ∧ P (.val (.int (i + j))) ρ2) : WE X (.BinOp a .Add b pos) ρ Y P := we_binI0 op_add h
theorem we_sub {a b : Expr} {pos : Pos} (h : WE X a ρ Y fun x ρ1 => WE X b ρ1 Y fun y ρ2 => ∃ i j, x = .val (.int i) ∧ y = .val (.int j) ∧ P (.val (.int (i - j))) ρ2) : WE X (.BinOp a .Sub b pos) ρ Y P := we_binI0 op_sub h
/-- * : together below a million bits, or one of both small -/
theorem we_mul {a b : Expr} {pos : Pos} (h : WE X a ρ Y fun x ρ1 => WE X b ρ1 Y fun y ρ2 => ∃ i j, x = .val (.int i) ∧ y = .val (.int j) ∧ CMulW i j ∧ P (.val (.int (i * j))) ρ2) : WE X (.BinOp a .Mult b pos) ρ Y P := we_binI op_mulW h
theorem we_mulS {a b : Expr} {pos : Pos} (h : WE X a ρ Y fun x ρ1 => WE X b ρ1 Y fun y ρ2 => ∃ i j, x = .val (.int i) ∧ y = .val (.int j) ∧ CMul i j ∧ P (.val (.int (i * j))) ρ2) : WE X (.BinOp a .Mult b pos) ρ Y P := we_binI op_mul h
/-- // by any divisor but 0 below 2 ^ 9000 -/
def CDivG (_ j : Int) : Prop := j ≠ 0 ∧ j.natAbs.log2 < 9000
theorem op_fdivG : OpR X (binaryOp .FloorDiv) (rI CDivG fun i j => .int (i.fdiv j)) := opI fun i j _ _ _ _ _ hc q => floordiv_int hc.1 q (.inl (PyProof.noPylong_of_log2 hc.2))
theorem we_fdiv {a b : Expr} {pos : Pos} (h : WE X a ρ Y fun x ρ1 => WE X b ρ1 Y fun y ρ2 => ∃ i j, x = .val (.int i) ∧ y = .val (.int j) ∧ CDivG i j ∧ P (.val (.int (i.fdiv j))) ρ2) : WE X (.BinOp a .FloorDiv b pos) ρ Y P := we_binI op_fdivG h
theorem we_mod {a b : Expr} {pos : Pos} (h : WE X a ρ Y fun x ρ1 => WE X b ρ1 Y fun y ρ2 => ∃ i j, x = .val (.int i) ∧ y = .val (.int j) ∧ j ≠ 0 ∧ P (.val (.int (i.fmod j))) ρ2) : WE X (.BinOp a .Mod b pos) ρ Y P := we_binI (C := fun _ j => j ≠ 0) op_modN h
end
end PL

namespace PL
open PySem PySem.Spec PyProof.Rows L2
variable [Hand]
section
variable {X : Cx} {ρ : Store} {Y : Str → Store → Prop} {P : Po}

/-! ### tests -/
abbrev Pb := Bool → Store → Prop
def bT (X : Cx) (e : Expr) : TT := fun σ H Q => ∀ pins s, Inv X pins σ H s → wpAny (model X.prog X.w) X.A (isTrue e X.env (eval e X.env)) (TP X pins σ Q) X.xe s
def bW (X : Cx) (e : Expr) : TT := fun σ H Q => ∀ whole pins s, Inv X pins σ H s → wpAny (model X.prog X.w) X.A (isTrue e X.env whole) (TP X pins σ Q) X.xe s
theorem pt_best {e : Expr} : PT X e (bT X e) := ⟨fun pins s σ H Q I h => h pins s I⟩
theorem pw_best {e : Expr} : PW X e (bW X e) := ⟨fun whole pins s σ H Q I h => h whole pins s I⟩
theorem bstT {e : Expr} {t : TT} {σ : L2.St} {H : Hp} {Q : Bool → Hp → Prop} (h : PT X e t) (q : t σ H Q) : bT X e σ H Q := fun pins s I => h.run pins s σ H Q I q
theorem bstW {e : Expr} {t : TT} {σ : L2.St} {H : Hp} {Q : Bool → Hp → Prop} (h : PW X e t) (q : t σ H Q) : bW X e σ H Q := fun whole pins s I => h.run whole pins s σ H Q I q
theorem bT.imp {e : Expr} {σ : L2.St} {H : Hp} {Q Q' : Bool → Hp → Prop} (h : bT X e σ H Q) (k : ∀ v H', Q v H' → Q' v H') : bT X e σ H Q' := fun pins s I =>
  thn (h pins s I) fun u s1 ⟨H1, I1, q⟩ => ⟨H1, I1, k u H1 q⟩
def BP (K : PySem.W.Frag) (mg : Str → Option Value) (c : Cfg) (σ : L2.St) (P : Pb) : Bool → Hp → Prop := fun b H => ∃ F ρ, Rel K mg c F H σ ρ ∧ P b ρ
def WT (X : Cx) (e : Expr) (ρ : Store) (Y : Str → Store → Prop) (P : Pb) : Prop := ∀ c F H σ, Rel X.K X.mg c F H σ ρ → Lk X c Y → bT X e σ H (BP X.K X.mg c σ P)
def WW (X : Cx) (e : Expr) (ρ : Store) (Y : Str → Store → Prop) (P : Pb) : Prop := ∀ c F H σ, Rel X.K X.mg c F H σ ρ → Lk X c Y → bW X e σ H (BP X.K X.mg c σ P)
theorem WT.run {e : Expr} {c : Cfg} {F H : Hp} {σ : L2.St} {P : Pb} (h : WT X e ρ Y P) (R : Rel X.K X.mg c F H σ ρ) (L : Lk X c Y) :
    bT X e σ H fun b H' => ∃ F' ρ', Ext F F' ∧ Rel X.K X.mg c F' H' σ ρ' ∧ P b ρ' :=
  bT.imp (h (c.at F) F H σ R.into (L.into R.aft.f0 R.aft.new)) fun v H' ⟨F', ρ', R', p⟩ => ⟨F', ρ', R'.aft.f0, R'.back R.aft.f0 R.aft.new, p⟩
theorem wt_of {e : Expr} {P : Pb} (h : WW X e ρ Y P) : WT X e ρ Y P := fun c F H σ R L pins s I => h c F H σ R L _ pins s I
theorem wt_val {e : Expr} {P : Pb} (h : WE X e ρ Y fun w ρ' => ∃ b, w = .val (.bl b) ∧ P b ρ') (he : ∀ whole, isTrue e X.env whole = (do let v ← whole; standAt e.pos; holding [v] (truthy v)) := by intro _; rfl) : WT X e ρ Y P := fun c F H σ R L => by
  refine bstT (pt_val pe_best he) ?_
  refine (h.run R L).imp fun v H1 ⟨F1, ρ1, w, _, R1, r1, b, e1, hb⟩ => ?_
  subst e1
  exact ⟨b, RD.bl_inv r1, F1, ρ1, R1, hb⟩
theorem ww_and1 {a : Expr} {pos : Pos} {P : Pb} (h : WT X a ρ Y P) : WW X (.BoolOp .And [a] pos) ρ Y P := fun c F H σ R L => bstW (pw_and1 pt_best) (h c F H σ R L)
theorem ww_or1 {a : Expr} {pos : Pos} {P : Pb} (h : WT X a ρ Y P) : WW X (.BoolOp .Or [a] pos) ρ Y P := fun c F H σ R L => bstW (pw_or1 pt_best) (h c F H σ R L)
theorem ww_and {a b : Expr} {rest : List Expr} {pos : Pos} {P : Pb} (h : WT X a ρ Y fun k ρ1 => if k = true then WW X (.BoolOp .And (b :: rest) pos) ρ1 Y P else P false ρ1) : WW X (.BoolOp .And (a :: b :: rest) pos) ρ Y P := fun c F H σ R L => by
  refine bstW (pw_and pt_best pw_best) ?_
  refine (h.run R L).imp fun k H1 ⟨F1, ρ1, _, R1, q⟩ => ?_
  cases k with
  | true => exact q c F1 H1 σ R1 L
  | false => exact ⟨F1, ρ1, R1, q⟩
theorem ww_or {a b : Expr} {rest : List Expr} {pos : Pos} {P : Pb} (h : WT X a ρ Y fun k ρ1 => if k = true then P true ρ1 else WW X (.BoolOp .Or (b :: rest) pos) ρ1 Y P) : WW X (.BoolOp .Or (a :: b :: rest) pos) ρ Y P := fun c F H σ R L => by
  refine bstW (pw_or pt_best pw_best) ?_
  refine (h.run R L).imp fun k H1 ⟨F1, ρ1, _, R1, q⟩ => ?_
  cases k with
  | true => exact ⟨F1, ρ1, R1, q⟩
  | false => exact q c F1 H1 σ R1 L
theorem wt_not {a : Expr} {pos : Pos} {P : Pb} (h : WT X a ρ Y fun k ρ1 => P (!k) ρ1) : WT X (.UnaryOp .Not a pos) ρ Y P := fun c F H σ R L => by
  refine bstT (pt_not pt_best) ?_
  exact (h c F H σ R L)

/-! ### comparisons -/
theorem we_cmpI {op : CmpOp} {g : Int → Int → Bool} {a b : Expr} {pos : Pos} (ho : OpR X (compareOp op) (rI0 fun i j => .bl (g i j))) (hm : behindInMarks op b = false)
    (h : WE X a ρ Y fun x ρ1 => WE X b ρ1 Y fun y ρ2 => ∃ i j, x = .val (.int i) ∧ y = .val (.int j) ∧ P (.val (.bl (g i j))) ρ2) : WE X (.Compare a [op] [b] pos) ρ Y P := fun c F H σ R L => by
  refine bst (pe_cmpR ho pe_best pe_best hm) ?_
  refine (h.run R L).imp fun v H1 ⟨F1, ρ1, w, _, R1, r1, hb⟩ => (hb.run R1 L).imp fun u H2 ⟨F2, ρ2, w2, _, R2, r2, i, j, e1, e2, hP⟩ => ?_
  subst e1 e2
  exact ⟨i, j, RD.int_inv r1, RD.int_inv r2, F2, ρ2, .val (.bl (g i j)), R2, RD.bl _, hP⟩
theorem wt_cmpI {op : CmpOp} {g : Int → Int → Bool} {a b : Expr} {pos : Pos} {P : Pb} (ho : OpR X (compareOp op) (rI0 fun i j => .bl (g i j))) (hm : behindInMarks op b = false)
    (h : WE X a ρ Y fun x ρ1 => WE X b ρ1 Y fun y ρ2 => ∃ i j, x = .val (.int i) ∧ y = .val (.int j) ∧ P (g i j) ρ2) : WT X (.Compare a [op] [b] pos) ρ Y P := fun c F H σ R L => by
  refine bstT (pt_cmpR ho pe_best pe_best hm) ?_
  refine (h.run R L).imp fun v H1 ⟨F1, ρ1, w, _, R1, r1, hb⟩ => (hb.run R1 L).imp fun u H2 ⟨F2, ρ2, w2, _, R2, r2, i, j, e1, e2, hP⟩ => ?_
  subst e1 e2
  exact ⟨i, j, RD.int_inv r1, RD.int_inv r2, g i j, rfl, F2, ρ2, R2, hP⟩
/-- scalars -/
def D.sc : D → Option V
  | .non => some .non
  | .bl b => some (.bl b)
  | .int i => some (.int i)
  | .str s => some (.str s)
  | _ => none
theorem RD.sc {K : PySem.W.Frag} {mg : Str → Option Value} {F : Hp} {d : D} {v u : V} (h : RD K mg F d v) (e : d.sc = some u) : v = u := by
  cases h <;> first | (cases e; rfl) | cases e
theorem we_eqS {a b : Expr} {pos : Pos} (h : WE X a ρ Y fun x ρ1 => WE X b ρ1 Y fun y ρ2 => ∃ d e u v, x = .val d ∧ y = .val e ∧ d.sc = some u ∧ e.sc = some v ∧ scal u v = true ∧ P (.val (.bl (decide (u = v)))) ρ2) : WE X (.Compare a [.Eq] [b] pos) ρ Y P := fun c F H σ R L => by
  refine bst (pe_cmpR op_eq pe_best pe_best (nomark _)) ?_
  refine (h.run R L).imp fun v H1 ⟨F1, ρ1, w, _, R1, r1, hb⟩ => (hb.run R1 L).imp fun u H2 ⟨F2, ρ2, w2, _, R2, r2, d, e, p, q, e1, e2, s1, s2, hs, hP⟩ => ?_
  subst e1 e2
  have k1 := RD.sc r1 s1
  have k2 := RD.sc r2 s2
  subst k1 k2
  exact ⟨hs, F2, ρ2, .val (.bl _), R2, RD.bl _, hP⟩
theorem we_neS {a b : Expr} {pos : Pos} (h : WE X a ρ Y fun x ρ1 => WE X b ρ1 Y fun y ρ2 => ∃ d e u v, x = .val d ∧ y = .val e ∧ d.sc = some u ∧ e.sc = some v ∧ scal u v = true ∧ P (.val (.bl (!decide (u = v)))) ρ2) : WE X (.Compare a [.NotEq] [b] pos) ρ Y P := fun c F H σ R L => by
  refine bst (pe_cmpR op_ne pe_best pe_best (nomark _)) ?_
  refine (h.run R L).imp fun v H1 ⟨F1, ρ1, w, _, R1, r1, hb⟩ => (hb.run R1 L).imp fun u H2 ⟨F2, ρ2, w2, _, R2, r2, d, e, p, q, e1, e2, s1, s2, hs, hP⟩ => ?_
  subst e1 e2
  have k1 := RD.sc r1 s1
  have k2 := RD.sc r2 s2
  subst k1 k2
  exact ⟨hs, F2, ρ2, .val (.bl _), R2, RD.bl _, hP⟩
theorem wt_eqS {a b : Expr} {pos : Pos} {P : Pb} (h : WE X a ρ Y fun x ρ1 => WE X b ρ1 Y fun y ρ2 => ∃ d e u v, x = .val d ∧ y = .val e ∧ d.sc = some u ∧ e.sc = some v ∧ scal u v = true ∧ P (decide (u = v)) ρ2) : WT X (.Compare a [.Eq] [b] pos) ρ Y P := fun c F H σ R L => by
  refine bstT (pt_cmpR op_eq pe_best pe_best (nomark _)) ?_
  refine (h.run R L).imp fun v H1 ⟨F1, ρ1, w, _, R1, r1, hb⟩ => (hb.run R1 L).imp fun u H2 ⟨F2, ρ2, w2, _, R2, r2, d, e, p, q, e1, e2, s1, s2, hs, hP⟩ => ?_
  subst e1 e2
  have k1 := RD.sc r1 s1
  have k2 := RD.sc r2 s2
  subst k1 k2
  exact ⟨hs, _, rfl, F2, ρ2, R2, hP⟩
theorem wt_neS {a b : Expr} {pos : Pos} {P : Pb} (h : WE X a ρ Y fun x ρ1 => WE X b ρ1 Y fun y ρ2 => ∃ d e u v, x = .val d ∧ y = .val e ∧ d.sc = some u ∧ e.sc = some v ∧ scal u v = true ∧ P (!decide (u = v)) ρ2) : WT X (.Compare a [.NotEq] [b] pos) ρ Y P := fun c F H σ R L => by
  refine bstT (pt_cmpR op_ne pe_best pe_best (nomark _)) ?_
  refine (h.run R L).imp fun v H1 ⟨F1, ρ1, w, _, R1, r1, hb⟩ => (hb.run R1 L).imp fun u H2 ⟨F2, ρ2, w2, _, R2, r2, d, e, p, q, e1, e2, s1, s2, hs, hP⟩ => ?_
  subst e1 e2
  have k1 := RD.sc r1 s1
  have k2 := RD.sc r2 s2
  subst k1 k2
  exact ⟨hs, _, rfl, F2, ρ2, R2, hP⟩
/-! ### and, or, not, if-else as values -/
theorem we_and1 {op : BoolOp} {a : Expr} {pos : Pos} (h : WE X a ρ Y P) : WE X (.BoolOp op [a] pos) ρ Y P := fun c F H σ R L => bst (pe_one pe_best) (h c F H σ R L)
theorem we_and {a b : Expr} {rest : List Expr} {pos : Pos} (h : WE X a ρ Y fun x ρ1 => ∃ k, x = .val (.bl k) ∧ if k = true then WE X (.BoolOp .And (b :: rest) pos) ρ1 Y P else P (.val (.bl false)) ρ1) : WE X (.BoolOp .And (a :: b :: rest) pos) ρ Y P := fun c F H σ R L => by
  refine bst (pe_and pe_best pe_best) ?_
  refine (h.run R L).imp fun v H1 ⟨F1, ρ1, w, _, R1, r1, k, e1, hb⟩ => ?_
  subst e1
  refine ⟨k, RD.bl_inv r1, ?_⟩
  cases k with
  | true => exact hb c F1 H1 σ R1 L
  | false => exact ⟨F1, ρ1, .val (.bl false), R1, RD.bl _, hb⟩
theorem we_or {a b : Expr} {rest : List Expr} {pos : Pos} (h : WE X a ρ Y fun x ρ1 => ∃ k, x = .val (.bl k) ∧ if k = true then P (.val (.bl true)) ρ1 else WE X (.BoolOp .Or (b :: rest) pos) ρ1 Y P) : WE X (.BoolOp .Or (a :: b :: rest) pos) ρ Y P := fun c F H σ R L => by
  refine bst (pe_or pe_best pe_best) ?_
  refine (h.run R L).imp fun v H1 ⟨F1, ρ1, w, _, R1, r1, k, e1, hb⟩ => ?_
  subst e1
  refine ⟨k, RD.bl_inv r1, ?_⟩
  cases k with
  | true => exact ⟨F1, ρ1, .val (.bl true), R1, RD.bl _, hb⟩
  | false => exact hb c F1 H1 σ R1 L
theorem we_not {a : Expr} {pos : Pos} (h : WE X a ρ Y fun x ρ1 => ∃ k, x = .val (.bl k) ∧ P (.val (.bl (!k))) ρ1) : WE X (.UnaryOp .Not a pos) ρ Y P := fun c F H σ R L => by
  refine bst (pe_not pe_best) ?_
  refine (h.run R L).imp fun v H1 ⟨F1, ρ1, w, _, R1, r1, k, e1, hb⟩ => ?_
  subst e1
  exact ⟨k, RD.bl_inv r1, F1, ρ1, .val (.bl (!k)), R1, RD.bl _, hb⟩
theorem we_neg {a : Expr} {pos : Pos} (h : WE X a ρ Y fun x ρ1 => ∃ i, x = .val (.int i) ∧ P (.val (.int (-i))) ρ1) : WE X (.UnaryOp .USub a pos) ρ Y P := fun c F H σ R L => by
  refine bst (pe_un un_neg pe_best) ?_
  refine (h.run R L).imp fun v H1 ⟨F1, ρ1, w, _, R1, r1, k, e1, hb⟩ => ?_
  subst e1
  exact ⟨k, RD.int_inv r1, F1, ρ1, .val (.int (-k)), R1, RD.int _, hb⟩
theorem we_if {t a b : Expr} {pos : Pos} (h : WT X t ρ Y fun k ρ1 => if k = true then WE X a ρ1 Y P else WE X b ρ1 Y P) : WE X (.IfExp t a b pos) ρ Y P := fun c F H σ R L => by
  refine bst (pe_ifExp pt_best pe_best pe_best) ?_
  refine (h.run R L).imp fun k H1 ⟨F1, ρ1, _, R1, q⟩ => ?_
  cases k with
  | true => exact q c F1 H1 σ R1 L
  | false => exact q c F1 H1 σ R1 L
end
end PL

namespace PL
open PySem PySem.Spec PyProof.Rows L2
variable [Hand]
section
variable {X : Cx} {ρ : Store} {Y : Str → Store → Prop} {P : Po}

/-! ### sequences -/
def D.seq : D → Option (List D)
  | .tup ds => some ds
  | .lst ds => some ds
  | .ro ds => some ds
  | _ => none
/-- the items of a value, by the store -/
def seqW (ρ : Store) : W → Option (List D)
  | .val d => d.seq
  | .loc i => match ρ[i]? with
    | some (some (.own ds)) => some ds
    | some (some (.hown ds)) => some ds
    | _ => none
  | _ => none
theorem RD.seq {K : PySem.W.Frag} {mg : Str → Option Value} {F : Hp} {d : D} {v : V} {ds : List D} (h : RD K mg F d v) (e : d.seq = some ds) : ∃ p xs, v = .ref p ∧ (SqL K F p xs ∨ SqT K F p xs) ∧ RDs K mg F ds xs := by
  cases h with
  | tup h k =>
    cases e
    exact ⟨_, _, rfl, .inr h, k⟩
  | lst h k =>
    cases e
    exact ⟨_, _, rfl, .inl (.inl (.inl h)), k⟩
  | ro h k =>
    cases e
    exact ⟨_, _, rfl, .inl h, k⟩
  | _ => cases e
theorem Rel.loc {K : PySem.W.Frag} {mg : Str → Option Value} {c : Cfg} {F H : Hp} {σ : L2.St} {i : Nat} {v : V} {ds : List D} (R : Rel K mg c F H σ ρ) (h : σ[i]? = some (some v)) (e : ρ[i]? = some (some (.own ds))) :
    ∃ p xs, v = .ref p ∧ H p = some (.lst xs) ∧ F p = none ∧ c.Pr p = none ∧ c.hd ≠ some p ∧ RDs K mg F ds xs := by
  obtain ⟨_, u, h1, h2⟩ := R.slot i _ e
  rw [h] at h1
  cases h1
  exact h2
theorem seqW_sq {K : PySem.W.Frag} {mg : Str → Option Value} {c : Cfg} {F H : Hp} {σ : L2.St} {w : W} {v : V} {ds : List D} (R : Rel K mg c F H σ ρ) (r : RW K mg c F H σ w v) (e : seqW ρ w = some ds) :
    ∃ p xs, v = .ref p ∧ (SqL K H p xs ∨ SqT K H p xs) ∧ RDs K mg F ds xs := by
  cases w with
  | val d =>
    obtain ⟨p, xs, e1, e2, e3⟩ := RD.seq (show RD K mg F d v from r) e
    exact ⟨p, xs, e1, e2.imp (sqL_ext R.aft.sub) (sqT_ext R.aft.sub), e3⟩
  | loc i =>
    cases q : ρ[i]? with
    | none =>
      simp only [seqW, q] at e
      cases e
    | some o =>
      cases o with
      | none =>
        simp only [seqW, q] at e
        cases e
      | some w' =>
        cases w' with
        | own es =>
          simp only [seqW, q] at e
          cases e
          obtain ⟨p, xs, e1, e2, _, _, _, e3⟩ := R.loc (show σ[i]? = some (some v) from r) q
          exact ⟨p, xs, e1, .inl (.inl (.inl e2)), e3⟩
        | hown es =>
          simp only [seqW, q] at e
          cases e
          obtain ⟨_, u, h1, p, xs, _, e1, e2, e3⟩ := R.slot i _ q
          rw [show σ[i]? = some (some v) from r] at h1
          cases h1
          exact ⟨p, xs, e1, .inl (.inl (.inl e2)), e3⟩
        | _ =>
          simp only [seqW, q] at e
          cases e
  | own ds => cases e
  | hnd => cases e
  | zip _ _ => cases e
  | hown _ => cases e
theorem RDs.atI {K : PySem.W.Frag} {mg : Str → Option Value} {F : Hp} {ds : List D} {vs : List V} {i : Int} {d : D} (h : RDs K mg F ds vs) (e : L2.atI ds i = some d) : ∃ v, L2.atI vs i = some v ∧ RD K mg F d v := by
  unfold L2.atI at e ⊢
  rw [h.len]
  cases q : ixN ds.length i with
  | none =>
    rw [q] at e
    cases e
  | some j =>
    rw [q] at e
    exact h.get e

/-- a[i]: a tuple or a list -/
theorem we_ix {a b : Expr} {pos : Pos} (h : WE X a ρ Y fun x ρ1 => WE X b ρ1 Y fun y ρ2 => ∃ ds i d, seqW ρ2 x = some ds ∧ y = .val (.int i) ∧ atI ds i = some d ∧ P (.val d) ρ2) (hs : PlainIx b := by exact fun _ _ => rfl) : WE X (.Subscript a b pos) ρ Y P := fun c F H σ R L => by
  refine bst (pe_ix (ix_list.or ix_tup) pe_best pe_best hs) ?_
  refine (h.run R L).imp fun v H1 ⟨F1, ρ1, w, _, R1, r1, hb⟩ => (hb.run R1 L).imp fun u H2 ⟨F2, ρ2, w2, E2, R2, r2, ds, i, d, e1, e2, e3, hP⟩ => ?_
  subst e2
  have r1' : RW X.K X.mg c F2 H2 σ w v := by
    cases w with
    | val d => exact RD.ext E2 r1
    | loc i => exact r1
    | hnd => exact r1
    | own ds => cases e1
    | zip _ _ => cases e1
    | hown _ => cases e1
  obtain ⟨p, xs, rfl, hq, hr⟩ := seqW_sq R2 r1' e1
  obtain ⟨z, e4, e5⟩ := hr.atI e3
  have fin : VP X.K X.mg c σ P z H2 := ⟨F2, ρ2, .val d, R2, e5, hP⟩
  rcases hq with hq | hq
  · exact .inl ⟨p, xs, i, z, rfl, RD.int_inv r2, hq, e4, fin⟩
  · exact .inr ⟨p, xs, i, z, rfl, RD.int_inv r2, hq, e4, fin⟩

/-! ### arguments -/
def W.st : W → Bool
  | .own _ => false
  | .zip _ _ => false
  | .hown _ => false
  | _ => true
theorem RW.keep {K : PySem.W.Frag} {mg : Str → Option Value} {c : Cfg} {F F' H H' : Hp} {σ : L2.St} {w : W} {v : V} (h : RW K mg c F H σ w v) (s : w.st = true) (e : Ext F F') : RW K mg c F' H' σ w v := by
  cases w with
  | val d => exact RD.ext e h
  | loc i => exact h
  | hnd => exact h
  | own ds => cases s
  | zip _ _ => cases s
  | hown _ => cases s
inductive RWs (K : PySem.W.Frag) (mg : Str → Option Value) (c : Cfg) (F H : Hp) (σ : L2.St) : List W → List V → Prop
  | nil : RWs K mg c F H σ [] []
  | cons {w : W} {ws : List W} {v : V} {vs : List V} : RW K mg c F H σ w v → RWs K mg c F H σ ws vs → RWs K mg c F H σ (w :: ws) (v :: vs)
def bA (X : Cx) (es : List Expr) : TA := fun σ H Q => ∀ (pos : Pos) pins s, Inv X pins σ H s → wpAny (model X.prog X.w) X.A (spliced (backTo pos (starEach es X.env))) (AP X pins σ Q) X.xe s
theorem pa_best {es : List Expr} : PA X es (bA X es) := ⟨fun pos pins s σ H Q I h => h pos pins s I⟩
theorem bstA {es : List Expr} {t : TA} {σ : L2.St} {H : Hp} {Q : List V → Hp → Prop} (h : PA X es t) (q : t σ H Q) : bA X es σ H Q := fun pos pins s I => h.run pos pins s σ H Q I q
theorem bA.imp {es : List Expr} {σ : L2.St} {H : Hp} {Q Q' : List V → Hp → Prop} (h : bA X es σ H Q) (k : ∀ v H', Q v H' → Q' v H') : bA X es σ H Q' := fun pos pins s I =>
  thn (h pos pins s I) fun u s1 ⟨v, H1, I1, r, q⟩ => ⟨v, H1, I1, r, k v H1 q⟩
def WA (X : Cx) (es : List Expr) (ρ : Store) (Y : Str → Store → Prop) (P : List W → Store → Prop) : Prop :=
  ∀ c F H σ, Rel X.K X.mg c F H σ ρ → Lk X c Y → bA X es σ H fun vs H' => ∃ F' ρ' ws, Ext F F' ∧ Rel X.K X.mg c F' H' σ ρ' ∧ RWs X.K X.mg c F' H' σ ws vs ∧ P ws ρ'
theorem wa_nil {P : List W → Store → Prop} (h : P [] ρ) : WA X [] ρ Y P := fun c F H σ R L => bstA pa_nil ⟨F, ρ, [], .refl F, R, .nil, h⟩
theorem wa_cons {e : Expr} {es : List Expr} {P : List W → Store → Prop} (h : WE X e ρ Y fun w ρ1 => w.st = true ∧ WA X es ρ1 Y fun ws ρ2 => P (w :: ws) ρ2) (hs : starEach (e :: es) X.env = (false, eval e X.env) :: starEach es X.env := by rfl) : WA X (e :: es) ρ Y P := fun c F H σ R L => by
  refine bstA (pa_cons pe_best pa_best hs) ?_
  refine (h.run R L).imp fun v H1 ⟨F1, ρ1, w, E1, R1, r1, st, hb⟩ => (hb c F1 H1 σ R1 L).imp fun vs H2 ⟨F2, ρ2, ws, E2, R2, r2, hP⟩ => ?_
  exact ⟨F2, ρ2, w :: ws, E1.trans E2, R2, .cons (r1.keep st E2) r2, hP⟩
/-- all data -/
def vals : List W → Option (List D)
  | [] => some []
  | .val d :: ws => match vals ws with
    | some ds => some (d :: ds)
    | none => none
  | _ :: _ => none
theorem RWs.vals {K : PySem.W.Frag} {mg : Str → Option Value} {c : Cfg} {F H : Hp} {σ : L2.St} : ∀ {ws : List W} {vs : List V} {ds : List D}, RWs K mg c F H σ ws vs → PL.vals ws = some ds → RDs K mg F ds vs
  | _, _, _, .nil, e => by
    cases e
    exact .nil
  | w :: ws, _, ds, .cons h k, e => by
    cases w with
    | val d =>
      cases q : PL.vals ws with
      | none =>
        simp only [PL.vals, q] at e
        cases e
      | some es =>
        simp only [PL.vals, q] at e
        cases e
        exact .cons h (RWs.vals k q)
    | _ => cases e
theorem we_tup {es : List Expr} {x1 : Nat} {pos : Pos} (h : WA X es ρ Y fun ws ρ1 => ∃ ds, vals ws = some ds ∧ ds.length ≤ 100000 ∧ P (.val (.tup ds)) ρ1) : WE X (.Tuple es x1 pos) ρ Y P := fun c F H σ R L => by
  refine bst (pe_tup pa_best) ?_
  refine (h c F H σ R L).imp fun vs H1 ⟨F1, ρ1, ws, _, R1, r1, ds, e1, hz, hP⟩ => ?_
  have r2 := r1.vals e1
  refine ⟨by rw [r2.len]; exact Evl.sz_of hz, fun p hp => ?_⟩
  obtain ⟨R3, r3⟩ := R1.tupNew hp r2
  exact ⟨_, ρ1, .val (.tup ds), R3, r3, hP⟩
theorem we_lst {es : List Expr} {pos : Pos} (h : WA X es ρ Y fun ws ρ1 => ∃ ds, vals ws = some ds ∧ ds.length ≤ 100000 ∧ P (.val (.lst ds)) ρ1) : WE X (.List es pos) ρ Y P := fun c F H σ R L => by
  refine bst (pe_lst pa_best) ?_
  refine (h c F H σ R L).imp fun vs H1 ⟨F1, ρ1, ws, _, R1, r1, ds, e1, hz, hP⟩ => ?_
  have r2 := r1.vals e1
  refine ⟨by rw [r2.len]; exact Evl.sz_of hz, fun p hp => ?_⟩
  obtain ⟨R3, r3⟩ := R1.lstNew hp r2
  exact ⟨_, ρ1, .val (.lst ds), R3, r3, hP⟩

/-! ### built-ins -/
theorem we_cb1 {x : Str} {id : String} {r : List V → Hp → VK → Prop} {e : Expr} {p pos : Pos} (hc : CallR X (.builtin id) r) (hg : Gl X x) (hm : X.mg x = none) (hv : bootBuiltins x = some (.builtin id))
    (h : WE X e ρ Y fun w ρ1 => ∀ c F H σ v, Rel X.K X.mg c F H σ ρ1 → RW X.K X.mg c F H σ w v → r [v] H (VP X.K X.mg c σ P)) (hn : x ≠ "__name__" := by decide) (hdb : (x == ("__debug__" : Str)) = false := by decide)
    (he : starEach (e :: []) X.env = (false, eval e X.env) :: starEach [] X.env := by rfl) (hpl : (backTo pos (starEach [] X.env)).any (·.1) = false := by rfl) : WE X (.Call (.Name x p) [e] [] pos) ρ Y P := fun c F H σ R L => by
  refine bst (pe_callB hc hg hm hv (pa_cons pe_best pa_nil he) hn hdb he hpl) ?_
  refine (h.run R L).imp fun v H1 ⟨F1, ρ1, w, _, R1, r1, k⟩ => ?_
  exact k c F1 H1 σ v R1 r1
theorem we_ct1 {x : Str} {T : String} {r : List V → Hp → VK → Prop} {e : Expr} {p pos : Pos} (hc : CallR X (.type T) r) (hg : Gl X x) (hm : X.mg x = none) (hv : bootBuiltins x = some (.type T))
    (h : WE X e ρ Y fun w ρ1 => ∀ c F H σ v, Rel X.K X.mg c F H σ ρ1 → RW X.K X.mg c F H σ w v → r [v] H (VP X.K X.mg c σ P)) (hn : x ≠ "__name__" := by decide) (hdb : (x == ("__debug__" : Str)) = false := by decide)
    (he : starEach (e :: []) X.env = (false, eval e X.env) :: starEach [] X.env := by rfl) (hpl : (backTo pos (starEach [] X.env)).any (·.1) = false := by rfl) : WE X (.Call (.Name x p) [e] [] pos) ρ Y P := fun c F H σ R L => by
  refine bst (pe_callTy hc hg hm hv (pa_cons pe_best pa_nil he) hn hdb he hpl) ?_
  refine (h.run R L).imp fun v H1 ⟨F1, ρ1, w, _, R1, r1, k⟩ => ?_
  exact k c F1 H1 σ v R1 r1
theorem vp {c : Cfg} {F H : Hp} {σ : L2.St} {d : D} {v : V} (R : Rel X.K X.mg c F H σ ρ) (r : RD X.K X.mg F d v) (h : P (.val d) ρ) : VP X.K X.mg c σ P v H := ⟨F, ρ, .val d, R, r, h⟩
theorem we_len {e : Expr} {p pos : Pos} (hg : Gl X "len") (hm : X.mg "len" = none) (h : WE X e ρ Y fun w ρ1 => ∃ ds, seqW ρ1 w = some ds ∧ P (.val (.int ds.length)) ρ1) (he : starEach [e] X.env = (false, eval e X.env) :: starEach [] X.env := by rfl) : WE X (.Call (.Name "len" p) [e] [] pos) ρ Y P :=
  we_cb1 (he := he) call_len_seq hg hm boot_len (h.imp fun w ρ1 ⟨ds, e1, hP⟩ c F H σ v R r => by
    obtain ⟨p, xs, rfl, hq, hr⟩ := seqW_sq R r e1
    refine ⟨p, xs, rfl, hq, ?_⟩
    rw [hr.len]
    exact vp R (.int _) hP)
theorem we_abs {e : Expr} {p pos : Pos} (hg : Gl X "abs") (hm : X.mg "abs" = none) (h : WE X e ρ Y fun w ρ1 => ∃ i, w = .val (.int i) ∧ P (.val (.int (i.natAbs : Int))) ρ1) (he : starEach [e] X.env = (false, eval e X.env) :: starEach [] X.env := by rfl) : WE X (.Call (.Name "abs" p) [e] [] pos) ρ Y P :=
  we_cb1 (he := he) call_abs hg hm (by decide +kernel) (h.imp fun w ρ1 ⟨i, e1, hP⟩ c F H σ v R r => by
    subst e1
    refine ⟨i, by rw [RD.int_inv r], ?_⟩
    have e : (if i < 0 then -i else i) = (i.natAbs : Int) := by
      split <;> omega
    rw [e]
    exact vp R (.int _) hP)
theorem we_intI {e : Expr} {p pos : Pos} (hg : Gl X "int") (hm : X.mg "int" = none) (h : WE X e ρ Y fun w ρ1 => ∃ i, w = .val (.int i) ∧ P (.val (.int i)) ρ1) (he : starEach [e] X.env = (false, eval e X.env) :: starEach [] X.env := by rfl) : WE X (.Call (.Name "int" p) [e] [] pos) ρ Y P :=
  we_ct1 (he := he) call_int1 hg hm (by decide +kernel) (h.imp fun w ρ1 ⟨i, e1, hP⟩ c F H σ v R r => by
    subst e1
    exact .inl ⟨i, by rw [RD.int_inv r], vp R (.int _) hP⟩)
theorem we_listOf {e : Expr} {p pos : Pos} (hg : Gl X "list") (hm : X.mg "list" = none) (h : WE X e ρ Y fun w ρ1 => ∃ ds, seqW ρ1 w = some ds ∧ P (.val (.lst ds)) ρ1) (he : starEach [e] X.env = (false, eval e X.env) :: starEach [] X.env := by rfl) : WE X (.Call (.Name "list" p) [e] [] pos) ρ Y P :=
  we_ct1 (he := he) call_list_of hg hm (by decide +kernel) (h.imp fun w ρ1 ⟨ds, e1, hP⟩ c F H σ v R r => by
    obtain ⟨p, xs, rfl, hq, hr⟩ := seqW_sq R r e1
    refine ⟨p, xs, rfl, hq, fun l hl => ?_⟩
    obtain ⟨R3, r3⟩ := R.lstNew hl hr
    exact vp R3 r3 hP)
theorem we_tupleOf {e : Expr} {p pos : Pos} (hg : Gl X "tuple") (hm : X.mg "tuple" = none) (h : WE X e ρ Y fun w ρ1 => ∃ ds, seqW ρ1 w = some ds ∧ P (.val (.tup ds)) ρ1) (he : starEach [e] X.env = (false, eval e X.env) :: starEach [] X.env := by rfl) : WE X (.Call (.Name "tuple" p) [e] [] pos) ρ Y P :=
  we_ct1 (he := he) call_tuple_of hg hm (by decide +kernel) (h.imp fun w ρ1 ⟨ds, e1, hP⟩ c F H σ v R r => by
    cases w with
    | val d =>
      have r' : RD X.K X.mg F d v := r
      cases r' with
      | tup h1 k =>
        cases e1
        exact ⟨_, _, rfl, .inr ⟨sqT_ext R.aft.sub h1, vp R (.tup h1 k) hP⟩⟩
      | lst h1 k =>
        cases e1
        refine ⟨_, _, rfl, .inl ⟨.inl (.inl (R.aft.sub _ _ h1)), fun l hl => ?_⟩⟩
        obtain ⟨R3, r3⟩ := R.tupNew hl k
        exact vp R3 r3 hP
      | ro h1 k =>
        cases e1
        refine ⟨_, _, rfl, .inl ⟨sqL_ext R.aft.sub h1, fun l hl => ?_⟩⟩
        obtain ⟨R3, r3⟩ := R.tupNew hl k
        exact vp R3 r3 hP
      | _ => cases e1
    | loc i =>
      cases q : ρ1[i]? with
      | none =>
        simp only [seqW, q] at e1
        cases e1
      | some o =>
        cases o with
        | none =>
          simp only [seqW, q] at e1
          cases e1
        | some w' =>
          cases w' with
          | own es =>
            simp only [seqW, q] at e1
            cases e1
            obtain ⟨p, xs, rfl, h2, _, _, _, k⟩ := R.loc (show σ[i]? = some (some v) from r) q
            refine ⟨_, _, rfl, .inl ⟨.inl (.inl h2), fun l hl => ?_⟩⟩
            obtain ⟨R3, r3⟩ := R.tupNew hl k
            exact vp R3 r3 hP
          | hown es =>
            simp only [seqW, q] at e1
            cases e1
            obtain ⟨_, u, h1, p, xs, _, e1, h2, k⟩ := R.slot i _ q
            rw [show σ[i]? = some (some v) from r] at h1
            cases h1
            subst e1
            refine ⟨_, _, rfl, .inl ⟨.inl (.inl h2), fun l hl => ?_⟩⟩
            obtain ⟨R3, r3⟩ := R.tupNew hl k
            exact vp R3 r3 hP
          | _ =>
            simp only [seqW, q] at e1
            cases e1
    | own ds => cases e1
    | zip _ _ => cases e1
    | hown _ => cases e1
    | hnd => cases e1)
/-- all of flags -/
def D.bools : List D → Option (List Bool)
  | [] => some []
  | .bl b :: ds => match D.bools ds with
    | some bs => some (b :: bs)
    | none => none
  | _ :: _ => none
theorem RDs.bools {K : PySem.W.Frag} {mg : Str → Option Value} {F : Hp} : ∀ {ds : List D} {vs : List V} {bs : List Bool}, RDs K mg F ds vs → D.bools ds = some bs → vs = bs.map V.bl
  | _, _, _, .nil, e => by
    cases e
    rfl
  | d :: ds, _, bs, .cons h k, e => by
    cases h with
    | bl b =>
      cases q : D.bools ds with
      | none =>
        simp only [D.bools, q] at e
        cases e
      | some es =>
        simp only [D.bools, q] at e
        cases e
        rw [RDs.bools k q]
        rfl
    | _ => cases e
theorem bools_map {α : Type} (f : α → Bool) : ∀ xs : List α, D.bools (xs.map fun x => D.bl (f x)) = some (xs.map f)
  | [] => rfl
  | x :: xs => by
    simp only [List.map_cons, D.bools, bools_map f xs]
theorem we_all {e : Expr} {p pos : Pos} (hc : X.calm = true) (hg : Gl X "all") (hm : X.mg "all" = none) (h : WE X e ρ Y fun w ρ1 => ∃ ds bs, w = .val (.lst ds) ∧ D.bools ds = some bs ∧ P (.val (.bl (bs.all id))) ρ1) (he : starEach [e] X.env = (false, eval e X.env) :: starEach [] X.env := by rfl) : WE X (.Call (.Name "all" p) [e] [] pos) ρ Y P :=
  we_cb1 (he := he) (cr_all hc) hg hm (by decide +kernel) (h.imp fun w ρ1 ⟨ds, bs, e1, e2, hP⟩ c F H σ v R r => by
    subst e1
    obtain ⟨a, xs, rfl, h1, k⟩ := RD.lst_inv r
    refine ⟨a, bs, rfl, ?_, vp R (.bl _) hP⟩
    rw [← k.bools e2]
    exact .inl (.inl (R.aft.sub _ _ h1)))
theorem we_any {e : Expr} {p pos : Pos} (hc : X.calm = true) (hg : Gl X "any") (hm : X.mg "any" = none) (h : WE X e ρ Y fun w ρ1 => ∃ ds bs, w = .val (.lst ds) ∧ D.bools ds = some bs ∧ P (.val (.bl (bs.any id))) ρ1) (he : starEach [e] X.env = (false, eval e X.env) :: starEach [] X.env := by rfl) : WE X (.Call (.Name "any" p) [e] [] pos) ρ Y P :=
  we_cb1 (he := he) (cr_any hc) hg hm (by decide +kernel) (h.imp fun w ρ1 ⟨ds, bs, e1, e2, hP⟩ c F H σ v R r => by
    subst e1
    obtain ⟨a, xs, rfl, h1, k⟩ := RD.lst_inv r
    refine ⟨a, bs, rfl, ?_, vp R (.bl _) hP⟩
    rw [← k.bools e2]
    exact .inl (.inl (R.aft.sub _ _ h1)))
end
end PL

namespace PL
open PySem PySem.Spec PyProof.Rows L2
variable [Hand]
/-- what is wanted behind a statement -/
structure Pst where
  nx : Store → Prop
  rt : D → Prop
  bk : Store → Prop := fun _ => False
  ct : Store → Prop := fun _ => False
def EndsOf (K : PySem.W.Frag) (mg : Str → Option Value) (c : Cfg) (T : Pst) : Ends where
  nx := fun σ H => ∃ F ρ, Rel K mg c F H σ ρ ∧ T.nx ρ
  rt := fun v H => ∃ F d, Aft c F H ∧ RD K mg F d v ∧ T.rt d
  bk := fun σ H => ∃ F ρ, Rel K mg c F H σ ρ ∧ T.bk ρ
  ct := fun σ H => ∃ F ρ, Rel K mg c F H σ ρ ∧ T.ct ρ
def bS (X : Cx) (st : Stmt) : TS := fun D σ H => ∀ pins s, Inv X pins σ H s → wpAny (model X.prog X.w) X.A (exec st X.env) (SP X pins D) X.xe s
def bB (X : Cx) (st : List Stmt) : TS := fun D σ H => ∀ pins s, Inv X pins σ H s → wpAny (model X.prog X.w) X.A (execs st X.env) (SP X pins D) X.xe s
theorem ps_best {X : Cx} {st : Stmt} : PS X st (bS X st) := ⟨fun pins s σ H D I h => h pins s I⟩
theorem pss_best {X : Cx} {st : List Stmt} : PSs X st (bB X st) := ⟨fun pins s σ H D I h => h pins s I⟩
theorem bstS {X : Cx} {st : Stmt} {t : TS} {σ : L2.St} {H : Hp} {D : Ends} (h : PS X st t) (q : t D σ H) : bS X st D σ H := fun pins s I => h.run pins s σ H D I q
theorem bstB {X : Cx} {st : List Stmt} {t : TS} {σ : L2.St} {H : Hp} {D : Ends} (h : PSs X st t) (q : t D σ H) : bB X st D σ H := fun pins s I => h.run pins s σ H D I q
/-- not within a block -/
def Cfg.out (c : Cfg) : Prop := c.blk = false ∧ c.zs = true
def WS (X : Cx) (st : Stmt) (ρ : Store) (Y : Str → Store → Prop) (T : Pst) : Prop := ∀ c F H σ, c.out → Rel X.K X.mg c F H σ ρ → Lk X c Y → bS X st (EndsOf X.K X.mg c T) σ H
def WB (X : Cx) (st : List Stmt) (ρ : Store) (Y : Str → Store → Prop) (T : Pst) : Prop := ∀ c F H σ, c.out → Rel X.K X.mg c F H σ ρ → Lk X c Y → bB X st (EndsOf X.K X.mg c T) σ H
section
variable {X : Cx} {ρ : Store} {Y : Str → Store → Prop} {T : Pst}
theorem wb_nil (h : T.nx ρ) : WB X [] ρ Y T := fun c F H σ nb R L => bstB pss_nil ⟨F, ρ, R, h⟩
theorem wb_one {st : Stmt} (h : WS X st ρ Y T) : WB X [st] ρ Y T := fun c F H σ nb R L => bstB (pss_one ps_best) (h c F H σ nb R L)
theorem bS.imp {st : Stmt} {σ : L2.St} {H : Hp} {D D' : Ends} (h : bS X st D σ H) (h1 : ∀ σ H, D.nx σ H → D'.nx σ H) (h2 : ∀ v H, D.rt v H → D'.rt v H) (h3 : ∀ σ H, D.bk σ H → D'.bk σ H) (h4 : ∀ σ H, D.ct σ H → D'.ct σ H) : bS X st D' σ H := fun pins s I =>
  thn (h pins s I) fun f s1 q => by
    cases f with
    | next =>
      obtain ⟨σ', H', I', q⟩ := q
      exact ⟨σ', H', I', h1 _ _ q⟩
    | brk =>
      obtain ⟨σ', H', I', q⟩ := q
      exact ⟨σ', H', I', h3 _ _ q⟩
    | cont =>
      obtain ⟨σ', H', I', q⟩ := q
      exact ⟨σ', H', I', h4 _ _ q⟩
    | ret u =>
      obtain ⟨v, σ', H', I', r, q⟩ := q
      exact ⟨v, σ', H', I', r, h2 _ _ q⟩
theorem wb_cons {st : Stmt} {rest : List Stmt} (h : WS X st ρ Y { T with nx := fun ρ1 => WB X rest ρ1 Y T }) : WB X (st :: rest) ρ Y T := fun c F H σ nb R L => by
  refine bstB (pss_cons ps_best pss_best) ?_
  refine bS.imp (h c F H σ nb R L) (fun σ1 H1 ⟨F1, ρ1, R1, q⟩ => ?_) (fun v H1 q => q) (fun _ _ q => q) (fun _ _ q => q)
  exact q c F1 H1 σ1 nb R1 L
/-- what a return hands back -/
def retW (ρ : Store) : W → Option D
  | .val d => some d
  | .loc i => match ρ[i]? with
    | some (some (.own ds)) => some (.lst ds)
    | _ => none
  | _ => none
theorem Aft.freeze {c : Cfg} {F H : Hp} (nb : c.blk = false) (A : Aft c F H) {p : Addr} {o : HO} (ho : NoT o) (hp : H p = some o) (hf : F p = none) (hpr : c.Pr p = none) (hd : c.hd ≠ some p) : Aft c (upd F p o) H := by
  refine ⟨fun a u e => ?_, A.f0.trans (.new hf), A.pr, A.pr0, fun a u e => ?_, A.nn, A.nb, fun q hq => ?_, A.tb.freeze ho⟩
  · by_cases h : a = p
    · subst h
      rw [upd_same] at e
      cases e
      exact hp
    · rw [upd_ne h] at e
      exact A.sub a u e
  · by_cases h : a = p
    · subst h
      right
      rw [A.nb nb]
      cases z : c.H0 a with
      | none => rfl
      | some o' =>
        have := A.pr0 a o' z hd
        rw [hpr] at this
        cases this
    · rw [upd_ne h] at e
      exact A.new a u e
  · obtain ⟨a1, a5, u, a3, a4⟩ := A.hand q hq
    have hne : q ≠ p := fun e => by
      subst e
      exact hd hq
    exact ⟨by rw [upd_ne hne]; exact a1, a5, u, a3, Hand.mono _ _ _ (.new hf) a4⟩
theorem retW_ok {K : PySem.W.Frag} {mg : Str → Option Value} {c : Cfg} {F H : Hp} {σ : L2.St} {w : W} {v : V} {d : D} (nb : c.blk = false) (R : Rel K mg c F H σ ρ) (r : RW K mg c F H σ w v) (e : retW ρ w = some d) : ∃ F', Ext F F' ∧ Aft c F' H ∧ RD K mg F' d v := by
  cases w with
  | val d' =>
    cases e
    exact ⟨F, .refl F, R.aft, r⟩
  | loc i =>
    cases q : ρ[i]? with
    | none =>
      simp only [retW, q] at e
      cases e
    | some o =>
      cases o with
      | none =>
        simp only [retW, q] at e
        cases e
      | some w' =>
        cases w' with
        | own es =>
          simp only [retW, q] at e
          cases e
          obtain ⟨p, xs, rfl, h2, h3, h4, h5, k⟩ := R.loc (show σ[i]? = some (some v) from r) q
          exact ⟨upd F p (.lst xs), .new h3, R.aft.freeze nb (noT_lst _) h2 h3 h4 h5, .lst upd_same (k.ext (.new h3))⟩
        | _ =>
          simp only [retW, q] at e
          cases e
  | own ds => cases e
  | hnd => cases e
  | zip _ _ => cases e
  | hown _ => cases e
theorem ws_ret {e : Expr} {pos : Pos} (h : WE X e ρ Y fun w ρ1 => ∃ d, retW ρ1 w = some d ∧ T.rt d) : WS X (.Return (some e) pos) ρ Y T := fun c F H σ nb R L => by
  refine bstS (ps_ret pe_best) ?_
  refine (h.run R L).imp fun v H1 ⟨F1, ρ1, w, _, R1, r1, d, e1, hP⟩ => ?_
  obtain ⟨F2, _, A2, r2⟩ := retW_ok nb.1 R1 r1 e1
  exact ⟨F2, d, A2, r2, hP⟩
theorem ws_retN {pos : Pos} (h : T.rt .non) : WS X (.Return none pos) ρ Y T := fun c F H σ nb R L => bstS ps_retN ⟨F, .non, R.aft, .non, h⟩
theorem ws_pass {pos : Pos} (h : T.nx ρ) : WS X (.Pass pos) ρ Y T := fun c F H σ nb R L => bstS ps_pass ⟨F, ρ, R, h⟩
theorem ws_cont {pos : Pos} (h : T.ct ρ) : WS X (.Continue pos) ρ Y T := fun c F H σ nb R L => bstS ps_continue ⟨F, ρ, R, h⟩
theorem ws_break {pos : Pos} (h : T.bk ρ) : WS X (.Break pos) ρ Y T := fun c F H σ nb R L => bstS ps_break ⟨F, ρ, R, h⟩
theorem ws_expr {e : Expr} {pos : Pos} (h : WE X e ρ Y fun w ρ1 => T.nx ρ1) (hs : swapsWith e none pos.line X.env = pure false := by rfl) : WS X (.Expr e pos) ρ Y T := fun c F H σ nb R L => by
  refine bstS (ps_expr pe_best hs) ?_
  refine (h.run R L).imp fun v H1 ⟨F1, ρ1, w, _, R1, r1, hP⟩ => ⟨F1, ρ1, R1, hP⟩
theorem ws_if {t : Expr} {a b : List Stmt} {pos : Pos} (h : WT X t ρ Y fun k ρ1 => if k = true then WB X a ρ1 Y T else WB X b ρ1 Y T) : WS X (.If t a b pos) ρ Y T := fun c F H σ nb R L => by
  refine bstS (ps_if pt_best pss_best pss_best) ?_
  refine (h.run R L).imp fun k H1 ⟨F1, ρ1, _, R1, q⟩ => ?_
  cases k with
  | true => exact q c F1 H1 σ nb R1 L
  | false => exact q c F1 H1 σ nb R1 L
/-- a slot gets data -/
theorem Rel.setVal {K : PySem.W.Frag} {mg : Str → Option Value} {c : Cfg} {F H : Hp} {σ : L2.St} {i : Nat} {d : D} {v : V} (R : Rel K mg c F H σ ρ) (hi : i < σ.length) (r : RD K mg F d v) : Rel K mg c F H (σ.set i (some v)) (ρ.set i (some (.val d))) := by
  refine ⟨R.aft, fun j w hw => ?_, fun j k ds es u hjk h1 h2 h3 h4 => ?_⟩
  · by_cases hj : j = i
    · subst hj
      rw [List.getElem?_set] at hw
      split at hw
      · split at hw
        · cases hw
          exact ⟨(fun _ q => nomatch q), v, by rw [List.getElem?_set_self hi], r⟩
        · cases hw
      · rename_i q
        exact absurd rfl q
    · rw [List.getElem?_set_ne (Ne.symm hj)] at hw
      obtain ⟨h1, u, h2, h3⟩ := R.slot j w hw
      refine ⟨h1, u, by rw [List.getElem?_set_ne (Ne.symm hj)]; exact h2, ?_⟩
      cases w with
      | loc k => exact absurd rfl (h1 k)
      | _ => exact h3
  · have e1 : j ≠ i := fun q => by
      subst q
      rw [List.getElem?_set] at h1
      split at h1
      · split at h1 <;> cases h1
      · rename_i q
        exact absurd rfl q
    have e2 : k ≠ i := fun q => by
      subst q
      rw [List.getElem?_set] at h2
      split at h2
      · split at h2 <;> cases h2
      · rename_i q
        exact absurd rfl q
    rw [List.getElem?_set_ne (Ne.symm e1)] at h1 h3
    rw [List.getElem?_set_ne (Ne.symm e2)] at h2 h4
    exact R.apart j k ds es u hjk h1 h2 h3 h4
theorem bE.inv {e : Expr} {σ : L2.St} {H : Hp} {Q : VK} (h : σ.length = X.N.length → bE X e σ H Q) : bE X e σ H Q := fun pins s I => h I.len pins s I
theorem bS.inv {st : Stmt} {σ : L2.St} {H : Hp} {D : Ends} (h : σ.length = X.N.length → bS X st D σ H) : bS X st D σ H := fun pins s I => h I.len pins s I
theorem lt_of_ix {i : Nat} {x : Str} (h : X.N[i]? = some x) : i < X.N.length := (List.getElem?_eq_some_iff.mp h).1
theorem ws_asg (i : Nat) {x : Str} {e : Expr} {pos' pos : Pos} (hN : X.N.Nodup) (hi : X.N[i]? = some x) (hx : Loc X.env.scope x) (h : WE X e ρ Y fun w ρ1 => ∃ d, w = .val d ∧ T.nx (ρ1.set i (some (.val d)))) (hs : swapsWith e (some (.Name x pos')) pos.line X.env = pure false := by rfl)
    (hf : X.fn x = true ∨ X.env.scope.names.lookup x = some .local := by first | exact .inl rfl | exact .inr rfl | assumption) : WS X (.Assign [.Name x pos'] e pos) ρ Y T := fun c F H σ nb R L => bS.inv fun hl => by
  refine bstS (ps_set hN hi hx pe_best hs hf) ?_
  refine (h.run R L).imp fun v H1 ⟨F1, ρ1, w, _, R1, r1, d, e1, hP⟩ => ?_
  subst e1
  exact ⟨F1, _, R1.setVal (by rw [hl]; exact lt_of_ix hi) r1, hP⟩
theorem ws_aug (i : Nat) {x : Str} {e : Expr} {pos' pos : Pos} (hN : X.N.Nodup) (hi : X.N[i]? = some x) (hx : Loc X.env.scope x) {a : Int} (ha : ρ[i]? = some (some (.val (.int a)))) (h : WE X e ρ Y fun w ρ1 => ∃ b, w = .val (.int b) ∧ T.nx (ρ1.set i (some (.val (.int (a + b))))))
    (hf : X.fn x = true ∨ X.env.scope.names.lookup x = some .local := by first | exact .inl rfl | exact .inr rfl | assumption) : WS X (.AugAssign (.Name x pos') .Add e pos) ρ Y T := fun c F H σ nb R L => bS.inv fun hl => by
  refine bstS (ps_aug hN hi hx pe_best ip_add hf) ?_
  obtain ⟨_, v, h1, h2⟩ := R.slot i _ ha
  refine ⟨v, h1, (h.run R L).imp fun u H1 ⟨F1, ρ1, w, _, R1, r1, b, e1, hP⟩ => ?_⟩
  subst e1
  exact ⟨a, b, RD.int_inv h2, RD.int_inv r1, F1, _, R1.setVal (by rw [hl]; exact lt_of_ix hi) (.int _), hP⟩
/-- while: the invariant by a measure -/
theorem ws_while {t : Expr} {body : List Stmt} {pos : Pos} (I : Nat → Store → Prop) (m0 : Nat) (h0 : I m0 ρ)
    (hs : ∀ m ρ1, I m ρ1 → WT X t ρ1 Y fun k ρ2 => if k = true then WB X body ρ2 Y { T with nx := fun ρ3 => ∃ m', m' < m ∧ I m' ρ3, ct := fun ρ3 => ∃ m', m' < m ∧ I m' ρ3, bk := T.nx } else T.nx ρ2) : WS X (.While t body [] pos) ρ Y T := fun c F H σ nb R L => by
  refine bstS (ps_while L.1.2.1 pt_best pss_best) ?_
  refine ⟨fun m σ H => ∃ F ρ, Rel X.K X.mg c F H σ ρ ∧ I m ρ, ⟨m0, F, ρ, R, h0⟩, fun m σ1 H1 ⟨F1, ρ1, R1, hI⟩ => ?_⟩
  refine ((hs m ρ1 hI).run R1 L).imp fun k H2 ⟨F2, ρ2, _, R2, q⟩ => ?_
  cases k with
  | true =>
    refine ⟨fun σ' H' => ∃ F ρ, Rel X.K X.mg c F H' σ' ρ ∧ ∃ m', m' < m ∧ I m' ρ, fun σ' H' ⟨F', ρ', R', m', hm, hI'⟩ => ⟨m', hm, F', ρ', R', hI'⟩, ?_⟩
    exact q c F2 H2 σ1 nb R2 L
  | false => exact ⟨F2, ρ2, R2, q⟩
end
/-! ### what a def promises -/
/-- a def's meaning: the arguments, what is wanted of the answer, of an exception -/
abbrev Sem1 := List W → (D → Prop) → (Str → Prop) → Prop
structure Aft' (c : Cfg) (F' H' : Hp) : Prop where
  sub : Ext F' H'
  f0 : Ext c.F0 F'
  h0 : ∀ a o, c.H0 a = some o → c.hd ≠ some a → H' a = some o
  new : ∀ a o, F' a = some o → c.F0 a = some o ∨ c.H0 a = none
  nn : ∀ a o, c.H0 a = some o → ∃ o', H' a = some o' ∧ NoT o'
  hand : ∀ p, c.hd = some p → F' p = none ∧ ∃ o, H' p = some o ∧ Hand.HI F' o
  nF : ∀ a o, F' a = some o → NoT o
  tabs : LamX.Tabs Hand.T H'
def HO.isT : HO → Bool
  | .tbl _ => true
  | _ => false
theorem noT_iff {o : HO} : NoT o ↔ HO.isT o = false := by
  cases o <;> first | exact ⟨fun h => absurd rfl (h _), fun h => nomatch h⟩ | exact ⟨fun _ => rfl, fun _ _ q => nomatch q⟩
/-- all but the tables -/
def noTb (H : Hp) : Hp := fun a => (H a).filter fun o => !HO.isT o
theorem noTb_some {H : Hp} {a : Addr} {o : HO} : noTb H a = some o ↔ H a = some o ∧ NoT o := by
  unfold noTb
  rw [noT_iff]
  simp [Option.filter_eq_some_iff]
theorem noTb_none {H : Hp} {a : Addr} (h : noTb H a = none) : H a = none ∨ ∃ ps, H a = some (.tbl ps) := by
  cases e : H a with
  | none => exact .inl rfl
  | some o =>
    cases o with
    | tbl ps => exact .inr ⟨ps, rfl⟩
    | _ =>
      unfold noTb at h
      rw [e] at h
      cases h
theorem Aft.freshN {c : Cfg} {F H : Hp} (A : Aft c F H) {a : Addr} (h : noTb H a = none) : c.N a = none := by
  rcases noTb_none h with h | ⟨ps, h⟩
  · exact (A.fresh0 h).1
  · cases z : c.N a with
    | none => rfl
    | some o1 =>
      obtain ⟨o', q, n⟩ := A.nn a o1 z
      rw [h] at q
      exact absurd (Option.some.inj q).symm (n ps)
def hide (H : Hp) (hd : Option Addr) : Hp := fun a => if hd = some a then none else noTb H a
theorem hide_some {H : Hp} {hd : Option Addr} {a : Addr} {o : HO} : hide H hd a = some o ↔ hd ≠ some a ∧ H a = some o ∧ NoT o := by
  unfold hide
  rw [← noTb_some]
  by_cases h : hd = some a
  · simp [h]
  · simp [h]
/-- the run's data at the entry -/
def cfg0 (hd : Option Addr) (F H : Hp) (W : WX) (n0 : Nat := 0) (fs : List Addr := []) : Cfg := ⟨hd, F, noTb H, noTb H, hide H hd, false, W, n0, fs, true⟩
def spS (K : PySem.W.Frag) (mg : Str → Option Value) (n : Nat) (S : Sem1) : Sp := fun vs H Q E => ∃ (hd : Option Addr) (F : Hp) (ws : List W) (P : D → Prop) (Y : Str → Prop),
  vs.length = n ∧ Ext F H ∧ (∀ a o, F a = some o → NoT o) ∧ LamX.Tabs Hand.T H ∧ (∀ p, hd = some p → F p = none ∧ ∃ o, H p = some o ∧ Hand.HI F o) ∧ RWs K mg (cfg0 hd F H fun _ _ _ _ => False) F H [] ws vs ∧ (∀ w ∈ ws, (∃ d, w = .val d) ∨ w = .hnd) ∧ S ws P Y ∧
  (∀ d v F' H', P d → Aft' (cfg0 hd F H fun _ _ _ _ => False) F' H' → RD K mg F' d v → Q v H') ∧
  (∀ x C F' H', Y x → mg x = some (.ref C) → Aft' (cfg0 hd F H fun _ _ _ _ => False) F' H' → E (.ref C) none H')
end PL

namespace PL
open PySem PySem.Spec PyProof.Rows L2
variable [Hand]
section
variable {K : PySem.W.Frag} {mg : Str → Option Value}
theorem Rel.after {c : Cfg} {F H F' H' : Hp} {σ : L2.St} {ρ : Store} {W : WX} (R : Rel K mg c F H σ ρ) (A : Aft' (cfg0 c.hd F H W) F' H') (hcl : clean ρ = true) : Rel K mg c F' H' σ ρ := by
  refine R.mono (hb := false) ⟨A.sub, R.aft.f0.trans A.f0, fun a o e => ?_, R.aft.pr0, fun a o e => ?_, fun a o e => ?_, R.aft.nb, fun p hp => ?_, ⟨A.nF, R.aft.tb.nP, A.tabs⟩⟩ ⟨A.f0, fun p o h1 hn h2 h3 h4 => ⟨A.h0 p _ (noTb_some.mpr ⟨h1, hn⟩) h4, ?_⟩, fun q => nomatch q⟩ (.inr hcl)
  · refine A.h0 a o (noTb_some.mpr ⟨R.aft.pr a o e, R.aft.tb.nP a o e⟩) fun h => ?_
    obtain ⟨_, q, _⟩ := R.aft.hand a h
    rw [q] at e
    cases e
  · rcases A.new a o e with h | h
    · exact R.aft.new a o h
    · exact .inr (R.aft.freshN h)
  · obtain ⟨o', q, n⟩ := R.aft.nn a o e
    exact A.nn a o' (noTb_some.mpr ⟨q, n⟩)
  · obtain ⟨h1, h2, _⟩ := R.aft.hand p hp
    obtain ⟨k1, o, k2, k3⟩ := A.hand p hp
    exact ⟨k1, h2, o, k2, k3⟩
  · cases e : F' p with
    | none => rfl
    | some u =>
      rcases A.new p u e with h | h
      · have h : F p = some u := h
        rw [h2] at h
        cases h
      · have h : noTb H p = none := h
        rw [noTb_some.mpr ⟨h1, hn⟩] at h
        cases h
theorem RWs.toCall {c c' : Cfg} {F H F' H' : Hp} {σ σ' : L2.St} : ∀ {ws : List W} {vs : List V}, RWs K mg c F H σ ws vs → Ext F F' → c'.hd = c.hd → (∀ w ∈ ws, (∃ d, w = .val d) ∨ w = .hnd) → RWs K mg c' F' H' σ' ws vs
  | _, _, .nil, _, _, _ => .nil
  | w :: ws, _, .cons h k, e, hh, hw => by
    refine .cons ?_ (RWs.toCall k e hh fun w' hm => hw w' (List.mem_cons_of_mem _ hm))
    rcases hw w List.mem_cons_self with ⟨d, rfl⟩ | rfl
    · exact RD.ext e h
    · obtain ⟨p, h1, h2⟩ := h
      exact ⟨p, hh.trans h1, h2⟩
theorem RWs.len {c : Cfg} {F H : Hp} {σ : L2.St} : ∀ {ws : List W} {vs : List V}, RWs K mg c F H σ ws vs → vs.length = ws.length
  | _, _, .nil => rfl
  | _, _, .cons _ k => by rw [List.length_cons, List.length_cons, RWs.len k]
theorem RWs.get {c : Cfg} {F H : Hp} {σ : L2.St} : ∀ {ws : List W} {vs : List V} {i : Nat} {w : W}, RWs K mg c F H σ ws vs → ws[i]? = some w → ∃ v, vs[i]? = some v ∧ RW K mg c F H σ w v
  | _, _, _, _, .nil, e => by simp at e
  | _, _, 0, _, .cons h _, e => by
    simp at e
    subst e
    exact ⟨_, rfl, h⟩
  | _, _, i + 1, x, .cons _ k, e => by
    obtain ⟨u, e1, e2⟩ := RWs.get (i := i) (w := x) k (by simpa using e)
    exact ⟨u, by simpa using e1, e2⟩
end

/-- the module's def x: its meaning, called at level k -/
structure Cal (P : Program) (w : World) (K : PySem.W.Frag) (mg : Str → Option Value) (base : Heap) (k : Nat) (x : Str) (n : Nat) (S : Sem1) : Prop where
  ex : ∃ f fd ps, FnOk P w K mg base (L2.CX P w) k f fd ps (spS K mg n S) ∧ mg x = some (.ref f) ∧ PySem.W.keepIn K (.ref f) = true ∧ Binds K fd ps []
abbrev datas (ws : List W) : Prop := ∀ w ∈ ws, (∃ d, w = .val d) ∨ w = .hnd
def W.dat : W → Bool
  | .val _ => true
  | .hnd => true
  | _ => false
theorem datas_of {ws : List W} (h : ws.all W.dat = true) : datas ws := fun w hw => by
  have := List.all_eq_true.mp h w hw
  cases w with
  | val d => exact .inl ⟨d, rfl⟩
  | hnd => exact .inr rfl
  | _ => cases this
section
variable {X : Cx} {ρ : Store} {Y : Str → Store → Prop} {P : Po}
theorem we_call {k j n : Nat} {x : Str} {S : Sem1} {e : Expr} {es : List Expr} {p pos : Pos} (C : Cal X.prog X.w X.K X.mg X.base k x n S) (hr : Room j X.A) (hk : k ≤ j) (hg : Gl X x)
    (h : WA X (e :: es) ρ Y fun ws ρ1 => ws.length = n ∧ (ws.all W.dat && clean ρ1) = true ∧ S ws (fun d => P (.val d) ρ1) (fun x => Y x ρ1)) (hdb : (x == ("__debug__" : Str)) = false := by decide) (he : starEach (e :: es) X.env = (false, eval e X.env) :: starEach es X.env := by rfl)
    (hpl : (backTo pos (starEach es X.env)).any (·.1) = false := by rfl) : WE X (.Call (.Name x p) (e :: es) [] pos) ρ Y P := fun c F H σ R L => by
  obtain ⟨f, fd, ps, hF, hm, hkp, hb⟩ := C.ex
  refine bst (pe_callS hF (hr.mono hk) hg hm hkp hb (fun σ => passAt L.1.1 σ) pa_best hdb he hpl) ?_
  refine (h c F H σ R L).imp fun vs H1 ⟨F1, ρ1, ws, _, R1, r1, hn, hw, hS⟩ => ?_
  rw [Bool.and_eq_true] at hw
  have hcl := hw.2
  have hw' := datas_of hw.1
  refine ⟨c.hd, F1, ws, _, _, by rw [r1.len]; exact hn, R1.aft.sub, R1.aft.tb.nF, R1.aft.tb.tabs, fun p hp => ?_, r1.toCall (.refl _) rfl hw', hw', hS, fun d v F' H' hP A r => ?_, fun x C F' H' hY hm A => ?_⟩
  · obtain ⟨a1, _, o, a3, a4⟩ := R1.aft.hand p hp
    exact ⟨a1, o, a3, a4⟩
  · exact vp (R1.after A hcl) r hP
  · exact L.2 x C F' H' σ ρ1 hY hm (R1.after A hcl)
end

/-! ### a def by its body -/
/-- the slots at the entry -/
def store0 (N : List Str) (ws : List W) : Store := ws.map some ++ List.replicate (N.length - ws.length) none
theorem rel0 {K : PySem.W.Frag} {mg : Str → Option Value} {hd : Option Addr} {F H : Hp} {W : WX} {N : List Str} {ws : List PL.W} {vs : List V} {n0 : Nat} {fs : List Addr} (sub : Ext F H) (nF : ∀ a o, F a = some o → NoT o) (tabs : LamX.Tabs Hand.T H) (hh : ∀ p, hd = some p → F p = none ∧ ∃ o, H p = some o ∧ Hand.HI F o)
    (r : RWs K mg (cfg0 hd F H fun _ _ _ _ => False) F H [] ws vs) (hw : datas ws) : Rel K mg (cfg0 hd F H W n0 fs) F H (L2.start N vs) (store0 N ws) := by
  refine ⟨⟨sub, .refl F, fun a o e => (hide_some.mp e).2.1, fun a o e hn => hide_some.mpr ⟨hn, noTb_some.mp e⟩, fun a o e => .inl e, fun a o e => ⟨o, noTb_some.mp e⟩, fun _ => rfl, fun p hp => ?_, ⟨nF, fun a o e => (hide_some.mp e).2.2, tabs⟩⟩, fun i w hi => ?_, fun i j ds es v _ hi _ _ _ => ?_⟩
  · obtain ⟨h1, o, h2, h3⟩ := hh p hp
    refine ⟨h1, ?_, o, h2, h3⟩
    cases e : hide H hd p with
    | none => exact e
    | some o' => exact absurd hp (hide_some.mp e).1
  · have hlt : i < ws.length := by
      unfold store0 at hi
      by_cases hlt : i < ws.length
      · exact hlt
      · rw [List.getElem?_append_right (by simpa using hlt), List.getElem?_replicate] at hi
        split at hi <;> cases hi
    have hi' : ws[i]? = some w := by
      unfold store0 at hi
      rw [List.getElem?_append_left (by simpa using hlt), List.getElem?_map] at hi
      cases e : ws[i]? with
      | none =>
        rw [e] at hi
        cases hi
      | some a =>
        rw [e] at hi
        cases hi
        rfl
    obtain ⟨v, h1, h2⟩ := r.get hi'
    have hv : (L2.start N vs)[i]? = some (some v) := by
      unfold L2.start
      rw [List.getElem?_append_left (by rw [List.length_map, r.len]; exact hlt), List.getElem?_map, h1]
      rfl
    rcases hw w (List.mem_of_getElem? hi') with ⟨d, rfl⟩ | rfl
    · exact ⟨(fun _ q => nomatch q), v, hv, h2⟩
    · exact ⟨(fun _ q => nomatch q), v, hv, h2⟩
  · have hi' : ∃ w ∈ ws, w = .own ds := by
      unfold store0 at hi
      by_cases hlt : i < ws.length
      · rw [List.getElem?_append_left (by simpa using hlt), List.getElem?_map] at hi
        cases e : ws[i]? with
        | none =>
          rw [e] at hi
          cases hi
        | some a =>
          rw [e] at hi
          cases hi
          exact ⟨_, List.mem_of_getElem? e, rfl⟩
      · rw [List.getElem?_append_right (by simpa using hlt), List.getElem?_replicate] at hi
        split at hi <;> cases hi
    obtain ⟨w, hm, rfl⟩ := hi'
    rcases hw _ hm with ⟨d, q⟩ | q <;> cases q
theorem Aft.to' {hd : Option Addr} {F H F' H' : Hp} {W W' : WX} {n0 : Nat} {fs : List Addr} (A : Aft (cfg0 hd F H W n0 fs) F' H') : Aft' (cfg0 hd F H W') F' H' :=
  ⟨A.sub, A.f0, fun a o e hn => A.pr a o (hide_some.mpr ⟨hn, noTb_some.mp e⟩), A.new, A.nn, fun p hp => by
    obtain ⟨h1, _, o, h2, h3⟩ := A.hand p hp
    exact ⟨h1, o, h2, h3⟩, A.tb.nF, A.tb.tabs⟩
/-- a def's body, read -/
theorem body_ok {P : Program} {w : World} {K : PySem.W.Frag} {mg : Str → Option Value} {base : Heap} {x : Str} {st : Stmt} {f : Addr} {N ps : List Str} {S : Sem1} {cdv : Value} {A : Around} {outer : List Env} {s : Shared} {H : Hp} {vs : List V} {Qv : VK} {E : XK} (h : spS K mg ps.length S vs H Qv E)
    (hbody : ∀ (ws : List PL.W) (Q : D → Prop) (Y : Str → Prop), S ws Q Y → ws.length = ps.length →
      WB (cxOf (L2.CX P w) P w K mg base N x (defScope st) f cdv A outer s H E) (defBody st) (store0 N ws) (fun x _ => Y x) { nx := fun _ => Q .non, rt := Q }) :
    bB (cxOf (L2.CX P w) P w K mg base N x (defScope st) f cdv A outer s H E) (defBody st) { nx := fun _ H' => Qv .non H', rt := Qv } (L2.start N vs) H := by
  obtain ⟨hd, F0, ws, Pd, Y, hl, sub, nF, tabs, hh, r, hw, hS, hQ, hE⟩ := h
  have hb := hbody ws Pd Y hS (by rw [← r.len]; exact hl)
  have R := rel0 (W := fun cls d _ H' => E cls d H') (N := N) (n0 := s.heap.objs.size) (fs := frs outer) sub nF tabs hh r hw
  have tk : Takes (cxOf (L2.CX P w) P w K mg base N x (defScope st) f cdv A outer s H E) (fun cls d _ H => E cls d H) := takes_of rfl rfl rfl rfl
  have po := passes_of (X := cxOf (L2.CX P w) P w K mg base N x (defScope st) f cdv A outer s H E) rfl
  have L : Lk (cxOf (L2.CX P w) P w K mg base N x (defScope st) f cdv A outer s H E) (cfg0 hd F0 H (fun cls d _ H' => E cls d H') s.heap.objs.size (frs outer)) (fun x _ => Y x) :=
    ⟨⟨tk, po, fun _ => ⟨rfl, rfl⟩⟩, fun x C F' H' σ' ρ' hY hm R' => hE x C F' H' hY hm R'.aft.to'⟩
  intro pins s1 I
  refine thn (hb _ _ _ _ ⟨rfl, rfl⟩ R L pins s1 I) fun fl s2 q => ?_
  cases fl with
  | next =>
    obtain ⟨σ', H', I', F', ρ', R', q⟩ := q
    exact ⟨σ', H', I', hQ .non .non F' H' q R'.aft.to' .non⟩
  | ret u =>
    obtain ⟨v, σ', H', I', rv, F', d, A', rd, q⟩ := q
    exact ⟨v, σ', H', I', rv, hQ d v F' H' q A'.to' rd⟩
  | brk =>
    obtain ⟨_, _, _, _, _, _, q⟩ := q
    exact q.elim
  | cont =>
    obtain ⟨_, _, _, _, _, _, q⟩ := q
    exact q.elim
theorem spS_len {K : PySem.W.Frag} {mg : Str → Option Value} {n : Nat} {S : Sem1} {vs : List V} {H : Hp} {Q : VK} {E : XK} (h : spS K mg n S vs H Q E) : vs.length = n := by
  obtain ⟨_, _, _, _, _, hl, _⟩ := h
  exact hl
/-- THE RULE for a def -/
theorem fn_ok {P : Program} {w : World} {K : PySem.W.Frag} {mg : Str → Option Value} {base : Heap} {k : Nat} {x : Str} {st : Stmt} {f : Addr} {fd : FuncData} {N ps : List Str} {S : Sem1} (F : FunD K x x (defArgs st) (defBody st) (defScope st) [] [] f fd) (Sc : FnScope N ps (defScope st))
    (hbody : ∀ (cdv : Value) (A : Around) (outer : List Env) (s : Shared) (H : Hp) (E : XK) (ws : List PL.W) (Q : D → Prop) (Y : Str → Prop), Room k (A.deeper (envOfC x (defScope st) s.heap.objs.size f cdv)) → S ws Q Y → ws.length = ps.length →
      WB (cxOf (L2.CX P w) P w K mg base N x (defScope st) f cdv A outer s H E) (defBody st) (store0 N ws) (fun x _ => Y x) { nx := fun _ => Q .non, rt := Q }) : FnOk P w K mg base (L2.CX P w) (k + 1) f fd ps (spS K mg ps.length S) := by
  refine F.ok Sc (fun vs H Q E h => spS_len h) (fun cdv A outer s H vs Q E hr h => ⟨_, pss_best, body_ok h fun ws Q Y hS hl => hbody cdv A outer s H E ws Q Y hr hS hl⟩)
/-- .. of a def whose code object is told -/
theorem fn_okL {P : Program} {w : World} {K : PySem.W.Frag} {mg : Str → Option Value} {base : Heap} {k : Nat} {x : Str} {st : Stmt} {f : Addr} {fd : FuncData} {N ps : List Str} {S : Sem1} {p : Str × Option Str} (F : FunD K x x (defArgs st) (defBody st) (defScope st) [] [] f fd) (hf : f = He.fAd K p) (Sc : FnScope N ps (defScope st))
    (hbody : ∀ (A : Around) (outer : List Env) (s : Shared) (H : Hp) (E : XK) (ws : List PL.W) (Q : D → Prop) (Y : Str → Prop), Room k (A.deeper (envOfC x (defScope st) s.heap.objs.size f (.ref (He.codeOf K p)))) → S ws Q Y → ws.length = ps.length →
      WB (cxOf (L2.CX P w) P w K mg base N x (defScope st) f (.ref (He.codeOf K p)) A outer s H E) (defBody st) (store0 N ws) (fun x _ => Y x) { nx := fun _ => Q .non, rt := Q }) : FnOk P w K mg base (L2.CX P w) (k + 1) f fd ps (spS K mg ps.length S) := by
  obtain ⟨oc, od, dV, kV, doc, pm, an, cdv, ct, osl, rfl, lk, hcd, _, _⟩ := F.ex
  obtain ⟨c, rfl⟩ := He.codeIn_ref hcd
  have e : He.codeOf K p = c := He.codeOf_eq (by rw [← hf]; exact lk) rfl
  subst e
  exact fn_of lk hcd Sc (fun vs H Q E h => spS_len h) fun A outer s H vs Q E hr h => ⟨_, pss_best, body_ok h fun ws Q Y hS hl => hbody A outer s H E ws Q Y hr hS hl⟩
end PL

namespace PL
open PySem PySem.Spec PyProof.Rows L2
variable [Hand]
section
variable {X : Cx} {ρ : Store} {Y : Str → Store → Prop} {P : Po} {T : Pst}

/-! ### fresh lists, owned lists -/
def Fr1 (c : Cfg) (F H : Hp) (σ : L2.St) (ρ : Store) (p : Addr) : Prop := F p = none ∧ c.Pr p = none ∧ c.hd ≠ some p ∧ (∀ (i : Nat) (ds : List D), ρ[i]? = some (some (.own ds)) → σ[i]? ≠ some (some (.ref p))) ∧ c.N p = none
def WO (X : Cx) (e : Expr) (ρ : Store) (Y : Str → Store → Prop) (P : List D → Store → Prop) : Prop := ∀ c F H σ, Rel X.K X.mg c F H σ ρ → Lk X c Y →
  bE X e σ H fun v H' => ∃ F' ρ' p xs ds, v = .ref p ∧ H' p = some (.lst xs) ∧ Fr1 c F' H' σ ρ' p ∧ Ext F F' ∧ Rel X.K X.mg c F' H' σ ρ' ∧ RDs X.K X.mg F' ds xs ∧ P ds ρ'
theorem fr1_new {K : PySem.W.Frag} {mg : Str → Option Value} {c : Cfg} {F H : Hp} {σ : L2.St} {p : Addr} {o : HO} (R : Rel K mg c F H σ ρ) (hp : H p = none) : Fr1 c F (upd H p o) σ ρ p := by
  obtain ⟨h1, h2, h3, h4⟩ := R.aft.fresh0 hp
  refine ⟨h3, h4, h2, fun i ds e q => ?_, h1⟩
  obtain ⟨q1, xs, q2, q3, _⟩ := R.loc q e
  cases q2
  rw [hp] at q3
  cases q3
theorem wo_list {es : List Expr} {pos : Pos} {P : List D → Store → Prop} (h : WA X es ρ Y fun ws ρ1 => ∃ ds, vals ws = some ds ∧ ds.length ≤ 100000 ∧ P ds ρ1) : WO X (.List es pos) ρ Y P := fun c F H σ R L => by
  refine bst (pe_lst pa_best) ?_
  refine (h c F H σ R L).imp fun vs H1 ⟨F1, ρ1, ws, E1, R1, r1, ds, e1, hz, hP⟩ => ?_
  have r2 := r1.vals e1
  refine ⟨by rw [r2.len]; exact Evl.sz_of hz, fun p hp => ?_⟩
  exact ⟨F1, ρ1, p, vs, ds, rfl, upd_same, fr1_new R1 hp, E1, R1.growH hp, r2, hP⟩
theorem wo_listOf {e : Expr} {p pos : Pos} {P : List D → Store → Prop} (hg : Gl X "list") (hm : X.mg "list" = none) (h : WE X e ρ Y fun w ρ1 => ∃ ds, seqW ρ1 w = some ds ∧ P ds ρ1) (he : starEach [e] X.env = (false, eval e X.env) :: starEach [] X.env := by rfl) : WO X (.Call (.Name "list" p) [e] [] pos) ρ Y P := fun c F H σ R L => by
  refine bst (pe_callTy call_list_of hg hm (by decide +kernel) (pa_cons pe_best pa_nil he) (by decide) (by decide) he rfl) ?_
  refine (h.run R L).imp fun v H1 ⟨F1, ρ1, w, E1, R1, r1, ds, e1, hP⟩ => ?_
  obtain ⟨p, xs, rfl, hq, hr⟩ := seqW_sq R1 r1 e1
  refine ⟨p, xs, rfl, hq, fun l hl => ?_⟩
  exact ⟨F1, ρ1, l, xs, ds, rfl, upd_same, fr1_new R1 hl, E1, R1.growH hl, hr, hP⟩
/-- a slot gets a fresh list -/
theorem Rel.setOwn {K : PySem.W.Frag} {mg : Str → Option Value} {c : Cfg} {F H : Hp} {σ : L2.St} {i : Nat} {p : Addr} {xs : List V} {ds : List D} (R : Rel K mg c F H σ ρ) (hi : i < σ.length) (hp : H p = some (.lst xs)) (f : Fr1 c F H σ ρ p) (r : RDs K mg F ds xs) :
    Rel K mg c F H (σ.set i (some (.ref p))) (ρ.set i (some (.own ds))) := by
  obtain ⟨f1, f2, f3, f4, f5⟩ := f
  refine ⟨R.aft, fun j w hw => ?_, fun j k ds' es u hjk h1 h2 h3 h4 => ?_⟩
  · by_cases hj : j = i
    · subst hj
      rw [List.getElem?_set] at hw
      split at hw
      · split at hw
        · cases hw
          exact ⟨(fun _ q => nomatch q), _, by rw [List.getElem?_set_self hi], p, xs, rfl, hp, f1, f2, f3, r⟩
        · cases hw
      · rename_i q
        exact absurd rfl q
    · rw [List.getElem?_set_ne (Ne.symm hj)] at hw
      obtain ⟨h1, u, h2, h3⟩ := R.slot j w hw
      refine ⟨h1, u, by rw [List.getElem?_set_ne (Ne.symm hj)]; exact h2, ?_⟩
      cases w with
      | loc k => exact absurd rfl (h1 k)
      | _ => exact h3
  · by_cases ej : j = i
    · subst ej
      have ek : k ≠ j := Ne.symm hjk
      rw [List.getElem?_set_self hi] at h3
      cases h3
      rw [List.getElem?_set_ne (Ne.symm ek)] at h2 h4
      exact f4 k es h2 h4
    · by_cases ek : k = i
      · subst ek
        rw [List.getElem?_set_self hi] at h4
        cases h4
        rw [List.getElem?_set_ne (Ne.symm ej)] at h1 h3
        exact f4 j ds' h1 h3
      · rw [List.getElem?_set_ne (Ne.symm ej)] at h1 h3
        rw [List.getElem?_set_ne (Ne.symm ek)] at h2 h4
        exact R.apart j k ds' es u hjk h1 h2 h3 h4
theorem ws_asgO (i : Nat) {x : Str} {e : Expr} {pos' pos : Pos} (hN : X.N.Nodup) (hi : X.N[i]? = some x) (hx : Loc X.env.scope x) (h : WO X e ρ Y fun ds ρ1 => T.nx (ρ1.set i (some (.own ds)))) (hs : swapsWith e (some (.Name x pos')) pos.line X.env = pure false := by rfl)
    (hf : X.fn x = true ∨ X.env.scope.names.lookup x = some .local := by first | exact .inl rfl | exact .inr rfl | assumption) : WS X (.Assign [.Name x pos'] e pos) ρ Y T := fun c F H σ nb R L => bS.inv fun hl => by
  refine bstS (ps_set hN hi hx pe_best hs hf) ?_
  refine bE.imp (h c F H σ R L) fun v H1 ⟨F1, ρ1, p, xs, ds, e1, h1, f1, _, R1, r1, hP⟩ => ?_
  subst e1
  exact ⟨F1, _, R1.setOwn (by rw [hl]; exact lt_of_ix hi) h1 f1 r1, hP⟩
/-- a, b = x, y -/
theorem ws_par (i j : Nat) {x y : Str} {a b : Expr} {px py pt pos : Pos} {kt k2 pt2} (hc : X.calm = true) (hN : X.N.Nodup) (hi : X.N[i]? = some x) (hj : X.N[j]? = some y) (hij : i ≠ j) (hx : X.env.scope.names.lookup x = some .local) (hy : X.env.scope.names.lookup y = some .local)
    (h : WE X a ρ Y fun u ρ1 => ∃ d, u = .val d ∧ WE X b ρ1 Y fun v ρ2 => ∃ e, v = .val e ∧ T.nx ((ρ2.set i (some (.val d))).set j (some (.val e))))
    (hw : swappedStores [.Tuple [.Name x px, .Name y py] kt pt] (.Tuple [a, b] k2 pt2) X.env = pure (some [x, y]) := by rfl)
    (hs : swapsWithSole [.Tuple [.Name x px, .Name y py] kt pt] (.Tuple [a, b] k2 pt2) pos.line X.env = pure false := by rfl)
    (h1 : starEach (a :: [b]) X.env = (false, eval a X.env) :: starEach [b] X.env := by rfl) (h2 : starEach (b :: []) X.env = (false, eval b X.env) :: starEach [] X.env := by rfl) :
    WS X (.Assign [.Tuple [.Name x px, .Name y py] kt pt] (.Tuple [a, b] k2 pt2) pos) ρ Y T := fun c F H σ nb R L => bS.inv fun hl => by
  refine bstS (ps_par hc hN hi hj hij hx hy (pa_cons pe_best (pa_cons pe_best pa_nil h2) h1) hw hs) ?_
  refine (h.run R L).imp fun u H1 ⟨F1, ρ1, w, _, R1, r1, d, e1, hb⟩ => (hb.run R1 L).imp fun v H2 ⟨F2, ρ2, w2, E2, R2, r2, e, e2, hP⟩ => ?_
  subst e1 e2
  refine ⟨u, v, rfl, F2, _, ?_, hP⟩
  exact (R2.setVal (by rw [hl]; exact lt_of_ix hi) (RD.ext E2 r1)).setVal (by rw [List.length_set, hl]; exact lt_of_ix hj) r2
/-- a, b = x, [..]: the second a fresh list -/
theorem ws_parO (i j : Nat) {x y : Str} {a b : Expr} {px py pt pos : Pos} {kt k2 pt2} (hc : X.calm = true) (hN : X.N.Nodup) (hi : X.N[i]? = some x) (hj : X.N[j]? = some y) (hij : i ≠ j) (hx : X.env.scope.names.lookup x = some .local) (hy : X.env.scope.names.lookup y = some .local)
    (h : WE X a ρ Y fun u ρ1 => ∃ d, u = .val d ∧ WO X b ρ1 Y fun ds ρ2 => T.nx ((ρ2.set i (some (.val d))).set j (some (.own ds)))) (ho : ∀ ds, ρ[i]? ≠ some (some (.own ds)))
    (hw : swappedStores [.Tuple [.Name x px, .Name y py] kt pt] (.Tuple [a, b] k2 pt2) X.env = pure (some [x, y]) := by rfl)
    (hs : swapsWithSole [.Tuple [.Name x px, .Name y py] kt pt] (.Tuple [a, b] k2 pt2) pos.line X.env = pure false := by rfl)
    (h1 : starEach (a :: [b]) X.env = (false, eval a X.env) :: starEach [b] X.env := by rfl) (h2 : starEach (b :: []) X.env = (false, eval b X.env) :: starEach [] X.env := by rfl) :
    WS X (.Assign [.Tuple [.Name x px, .Name y py] kt pt] (.Tuple [a, b] k2 pt2) pos) ρ Y T := fun c F H σ nb R L => bS.inv fun hl => by
  refine bstS (ps_par hc hN hi hj hij hx hy (pa_cons pe_best (pa_cons pe_best pa_nil h2) h1) hw hs) ?_
  refine (h.run R L).imp fun u H1 ⟨F1, ρ1, w, _, R1, r1, d, e1, hb⟩ => bE.imp (hb c F1 H1 σ R1 L) fun v H2 ⟨F2, ρ2, p, xs, ds, e2, q2, f2, E2, R2, r2, hP⟩ => ?_
  subst e1 e2
  refine ⟨u, .ref p, rfl, F2, _, ?_, hP⟩
  refine (R2.setVal (by rw [hl]; exact lt_of_ix hi) (RD.ext E2 r1)).setOwn (by rw [List.length_set, hl]; exact lt_of_ix hj) q2 ⟨f2.1, f2.2.1, f2.2.2.1, fun k es hk hσ => ?_, f2.2.2.2.2⟩ r2
  by_cases hki : k = i
  · subst hki
    rw [List.getElem?_set] at hk
    split at hk
    · split at hk <;> cases hk
    · rename_i q
      exact absurd rfl q
  · rw [List.getElem?_set_ne (Ne.symm hki)] at hk hσ
    exact f2.2.2.2.1 k es hk hσ
theorem RD.tup2 {K : PySem.W.Frag} {mg : Str → Option Value} {F : Hp} {d e : D} {v : V} (h : RD K mg F (.tup [d, e]) v) : ∃ a x y, v = .ref a ∧ SqT K F a [x, y] ∧ RD K mg F d x ∧ RD K mg F e y := by
  obtain ⟨a, xs, rfl, h1, h2⟩ := RD.tup_inv h
  cases h2 with
  | cons p q =>
    cases q with
    | cons p' q' =>
      cases q'
      exact ⟨a, _, _, rfl, h1, p, p'⟩
theorem RD.tup3 {K : PySem.W.Frag} {mg : Str → Option Value} {F : Hp} {d e f : D} {v : V} (h : RD K mg F (.tup [d, e, f]) v) : ∃ a x y z, v = .ref a ∧ SqT K F a [x, y, z] ∧ RD K mg F d x ∧ RD K mg F e y ∧ RD K mg F f z := by
  obtain ⟨a, xs, rfl, h1, h2⟩ := RD.tup_inv h
  cases h2 with
  | cons p q =>
    cases q with
    | cons p' q' =>
      cases q' with
      | cons p'' q'' =>
        cases q''
        exact ⟨a, _, _, _, rfl, h1, p, p', p''⟩
/-- a, b = e, e a pair -/
theorem ws_asgT (i j : Nat) {x y : Str} {e : Expr} {px py pt pos : Pos} {kt} (hc : X.calm = true) (hN : X.N.Nodup) (hi : X.N[i]? = some x) (hj : X.N[j]? = some y) (hx : Loc X.env.scope x) (hy : Loc X.env.scope y)
    (h : WE X e ρ Y fun u ρ1 => ∃ d d', u = .val (.tup [d, d']) ∧ T.nx ((ρ1.set i (some (.val d))).set j (some (.val d'))))
    (hs : swapsWithSole [.Tuple [.Name x px, .Name y py] kt pt] e pos.line X.env = pure false := by rfl) (hw : swappedStores [.Tuple [.Name x px, .Name y py] kt pt] e X.env = pure none := by rfl)
    (hf1 : X.fn x = true ∨ X.env.scope.names.lookup x = some .local := by first | exact .inl rfl | exact .inr rfl | assumption) (hf2 : X.fn y = true ∨ X.env.scope.names.lookup y = some .local := by first | exact .inl rfl | exact .inr rfl | assumption) :
    WS X (.Assign [.Tuple [.Name x px, .Name y py] kt pt] e pos) ρ Y T := fun c F H σ nb R L => bS.inv fun hl => by
  refine bstS (ps_asg pe_best (pg_tup hc (pgs_cons (pg_name hN hi hx hf1) (pgs_cons (pg_name hN hj hy hf2) pgs_nil))) hs hw) ?_
  refine (h.run R L).imp fun u H1 ⟨F1, ρ1, w, _, R1, r1, d, d', e1, hP⟩ => ?_
  subst e1
  obtain ⟨a, v1, v2, rfl, q1, q2, q3⟩ := RD.tup2 r1
  refine ⟨a, [v1, v2], rfl, sqT_ext R1.aft.sub q1, rfl, v1, [v2], rfl, v2, [], rfl, rfl, F1, _, ?_, hP⟩
  exact (R1.setVal (by rw [hl]; exact lt_of_ix hi) q2).setVal (by rw [List.length_set, hl]; exact lt_of_ix hj) q3
theorem ws_asgT3 (i j k : Nat) {x y z : Str} {e : Expr} {px py pz pt pos : Pos} {kt} (hc : X.calm = true) (hN : X.N.Nodup) (hi : X.N[i]? = some x) (hj : X.N[j]? = some y) (hk : X.N[k]? = some z) (hx : Loc X.env.scope x) (hy : Loc X.env.scope y) (hz : Loc X.env.scope z)
    (h : WE X e ρ Y fun u ρ1 => ∃ d d' d'', u = .val (.tup [d, d', d'']) ∧ T.nx (((ρ1.set i (some (.val d))).set j (some (.val d'))).set k (some (.val d''))))
    (hs : swapsWithSole [.Tuple [.Name x px, .Name y py, .Name z pz] kt pt] e pos.line X.env = pure false := by rfl) (hw : swappedStores [.Tuple [.Name x px, .Name y py, .Name z pz] kt pt] e X.env = pure none := by rfl)
    (hf1 : X.fn x = true ∨ X.env.scope.names.lookup x = some .local := by first | exact .inl rfl | exact .inr rfl | assumption) (hf2 : X.fn y = true ∨ X.env.scope.names.lookup y = some .local := by first | exact .inl rfl | exact .inr rfl | assumption)
    (hf3 : X.fn z = true ∨ X.env.scope.names.lookup z = some .local := by first | exact .inl rfl | exact .inr rfl | assumption) :
    WS X (.Assign [.Tuple [.Name x px, .Name y py, .Name z pz] kt pt] e pos) ρ Y T := fun c F H σ nb R L => bS.inv fun hl => by
  refine bstS (ps_asg pe_best (pg_tup hc (pgs_cons (pg_name hN hi hx hf1) (pgs_cons (pg_name hN hj hy hf2) (pgs_cons (pg_name hN hk hz hf3) pgs_nil)))) hs hw) ?_
  refine (h.run R L).imp fun u H1 ⟨F1, ρ1, w, _, R1, r1, d, d', d'', e1, hP⟩ => ?_
  subst e1
  obtain ⟨a, v1, v2, v3, rfl, q1, q2, q3, q4⟩ := RD.tup3 r1
  refine ⟨a, [v1, v2, v3], rfl, sqT_ext R1.aft.sub q1, rfl, v1, [v2, v3], rfl, v2, [v3], rfl, v3, [], rfl, rfl, F1, _, ?_, hP⟩
  exact ((R1.setVal (by rw [hl]; exact lt_of_ix hi) q2).setVal (by rw [List.length_set, hl]; exact lt_of_ix hj) q3).setVal (by rw [List.length_set, List.length_set, hl]; exact lt_of_ix hk) q4

/-! ### an owned list changed -/
theorem XO.upd1 {c : Cfg} {F H : Hp} {p q : Addr} {o u : HO} {φ : Heap → Prop} (x : XO c F H q φ) (hp : H p = some u) (hu : PlainO u) : XO c F (upd H p o) q φ := by
  obtain ⟨h1, h2, h3, h4, h5⟩ := x
  have hne : q ≠ p := fun e => by
    rw [e, hp] at h1
    exact hu.2 _ (Option.some.inj h1)
  exact ⟨by rw [upd_ne hne]; exact h1, h2, h3, h4, h5⟩
theorem ZipR.upd1 {K : PySem.W.Frag} {mg : Str → Option Value} {c : Cfg} {F H : Hp} {p : Addr} {o u : HO} {v : V} {ds es : List D} (x : ZipR K mg c F H v ds es) (hp : H p = some u) (hu : PlainO u) : ZipR K mg c F (upd H p o) v ds es := by
  obtain ⟨z, TI, TO, i1, i2, a, b, xs, ys, e1, e2, ⟨x1, x2, x3, x4, x5⟩, r⟩ := x
  exact ⟨z, TI, TO, i1, i2, a, b, xs, ys, e1, e2, ⟨x1.upd1 hp hu, x2.upd1 hp hu, x3.upd1 hp hu, x4.upd1 hp hu, x5.upd1 hp hu⟩, r⟩
theorem Aft.write {c : Cfg} {F H : Hp} (A : Aft c F H) {p : Addr} {o u0 : HO} (ho : NoT o) (hp0 : H p = some u0) (hu0 : PlainO u0) (hf : F p = none) (hpr : c.Pr p = none) (hd : c.hd ≠ some p) : Aft c F (upd H p o) := by
  refine ⟨fun a u e => ?_, A.f0, fun a u e => ?_, A.pr0, A.new, fun a u e => ?_, A.nb, fun q hq => ?_, A.tb.write hp0 hu0⟩
  · have h : a ≠ p := ne_of_none e hf
    rw [upd_ne h]
    exact A.sub a u e
  · have h : a ≠ p := ne_of_none e hpr
    rw [upd_ne h]
    exact A.pr a u e
  · by_cases h : a = p
    · subst h
      exact ⟨_, upd_same, ho⟩
    · rw [upd_ne h]
      exact A.nn a u e
  · obtain ⟨a1, a5, u, a3, a4⟩ := A.hand q hq
    have hne : q ≠ p := fun e => by
      subst e
      exact hd hq
    exact ⟨a1, a5, u, by rw [upd_ne hne]; exact a3, a4⟩
theorem Rel.write {K : PySem.W.Frag} {mg : Str → Option Value} {c : Cfg} {F H : Hp} {σ : L2.St} {i : Nat} {p : Addr} {ds es : List D} {ys : List V} (R : Rel K mg c F H σ ρ) (hi : ρ[i]? = some (some (.own ds))) (hv : σ[i]? = some (some (.ref p))) (r : RDs K mg F es ys) :
    Rel K mg c F (upd H p (.lst ys)) σ (ρ.set i (some (.own es))) := by
  obtain ⟨q, xs, eq, h1, h2, h3, h4, _⟩ := R.loc hv hi
  cases eq
  have hlt : i < ρ.length := (List.getElem?_eq_some_iff.mp hi).1
  refine ⟨R.aft.write (noT_lst _) h1 (plain_lst _) h2 h3 h4, fun j w hw => ?_, fun j k ds' es' u hjk k1 k2 k3 k4 => ?_⟩
  · by_cases hj : j = i
    · subst hj
      rw [List.getElem?_set_self hlt] at hw
      cases hw
      exact ⟨(fun _ q => nomatch q), _, hv, p, ys, rfl, upd_same, h2, h3, h4, r⟩
    · rw [List.getElem?_set_ne (Ne.symm hj)] at hw
      obtain ⟨a1, u, a2, a3⟩ := R.slot j w hw
      refine ⟨a1, u, a2, ?_⟩
      cases w with
      | own ds' =>
        obtain ⟨p', xs', e', b1, b2, b3, b4, b5⟩ := a3
        subst e'
        have hne : p' ≠ p := fun e => by
          subst e
          exact R.apart j i ds' ds _ hj hw hi a2 hv
        exact ⟨p', xs', rfl, by rw [upd_ne hne]; exact b1, b2, b3, b4, b5⟩
      | zip _ _ => exact ZipR.upd1 a3 h1 (plain_lst _)
      | hown ds' =>
        obtain ⟨p', xs', g1, e', b1, b5⟩ := a3
        have hne : p' ≠ p := fun e => h4 (e ▸ g1)
        exact ⟨p', xs', g1, e', by rw [upd_ne hne]; exact b1, b5⟩
      | _ => exact a3
  · have own : ∀ (m : Nat) (zs : List D), (ρ.set i (some (.own es)))[m]? = some (some (.own zs)) → ∃ zs', ρ[m]? = some (some (.own zs')) := fun m zs hm => by
      by_cases e : m = i
      · subst e
        exact ⟨_, hi⟩
      · rw [List.getElem?_set_ne (Ne.symm e)] at hm
        exact ⟨_, hm⟩
    obtain ⟨z1, e1⟩ := own j ds' k1
    obtain ⟨z2, e2⟩ := own k es' k2
    exact R.apart j k z1 z2 u hjk e1 e2 k3 k4
section
variable {o : Expr} {apos cpos : Pos}
theorem snoc_of {α : Type} {xs : List α} (h : xs ≠ []) : ∃ ys y, xs = ys ++ [y] := ⟨xs.dropLast, xs.getLast h, (List.dropLast_concat_getLast h).symm⟩
theorem we_pop (h : WE X o ρ Y fun w ρ1 => ∃ i ds d, w = .loc i ∧ ρ1[i]? = some (some (.own (ds ++ [d]))) ∧ P (.val d) (ρ1.set i (some (.own ds))))
    (hp : PE X (.Call (.Attribute o "pop" apos) [] [] cpos) (tBM0 X.K "list" rPop (bE X o)) := by exact pe_bm0 PySem.F.plainAttrs_list PySem.F.slot_list_pop PySem.F.type_list_pop mt_pop pe_best) : WE X (.Call (.Attribute o "pop" apos) [] [] cpos) ρ Y P := fun c F H σ R L => by
  refine bst hp ?_
  refine (h.run R L).imp fun v H1 ⟨F1, ρ1, w, E1, R1, r1, i, ds, d, e1, h1, hP⟩ => ?_
  subst e1
  have r1' : σ[i]? = some (some v) := r1
  obtain ⟨p, xs, rfl, h2, h3, h4, h5, k⟩ := R1.loc r1' h1
  have hne : xs ≠ [] := fun e => by
    subst e
    have := k.len
    simp at this
  obtain ⟨ys, y, rfl⟩ := snoc_of hne
  have hl : ys.length = ds.length := by
    have := k.len
    simp at this
    exact this
  have k1 : RDs X.K X.mg F1 ds ys := by
    have := k.take ds.length
    rw [List.take_left, ← hl, List.take_left] at this
    exact this
  obtain ⟨y', e2, k2⟩ := k.get (i := ds.length) (d := d) (by simp)
  rw [← hl] at e2
  simp at e2
  subst e2
  refine ⟨.inl ⟨rfl, _, .inl (.inl h2)⟩, p, _, y, rfl, rfl, h2, by simp, ?_⟩
  rw [List.dropLast_concat]
  exact ⟨F1, _, .val d, R1.write h1 r1' k1, k2, hP⟩
theorem we_append {e : Expr} (h : WE X o ρ Y fun w ρ1 => ∃ i zs, w = .loc i ∧ ρ1[i]? = some (some (.own zs)) ∧ WE X e ρ1 Y fun u ρ2 => ∃ d ds, u = .val d ∧ ρ2[i]? = some (some (.own ds)) ∧ ds.length < 100000 ∧ P (.val .non) (ρ2.set i (some (.own (ds ++ [d])))))
    (hp : PE X (.Call (.Attribute o "append" apos) [e] [] cpos) (tBM X.K "list" rAppend (bE X o) (tCons (bE X e) tNil)) := by exact pe_bm PySem.F.plainAttrs_list PySem.F.slot_list_append PySem.F.type_list_append mt_append pe_best (pa_cons pe_best pa_nil)) :
    WE X (.Call (.Attribute o "append" apos) [e] [] cpos) ρ Y P := fun c F H σ R L => by
  refine bst hp ?_
  refine (h.run R L).imp fun v H1 ⟨F1, ρ1, w, E1, R1, r1, i, zs, e1, hz1, hb⟩ => ?_
  subst e1
  have r1' : σ[i]? = some (some v) := r1
  obtain ⟨p, xs, rfl, h3, _, _, _, _⟩ := R1.loc r1' hz1
  refine ⟨.inl ⟨rfl, _, .inl (.inl h3)⟩, (hb.run R1 L).imp fun u H2 ⟨F2, ρ2, w2, E2, R2, r2, d, ds, e2, h2, hz, hP⟩ => ?_⟩
  subst e2
  obtain ⟨p', xs', e3, h3, h4, h5, h6, k⟩ := R2.loc r1' h2
  cases e3
  refine ⟨p, xs', u, rfl, rfl, h3, by rw [k.len]; exact Evl.sz_lt hz, ?_⟩
  exact ⟨F2, _, .val .non, R2.write h2 r1' (k.append (.cons r2 .nil)), .non, hP⟩
theorem we_extend {e : Expr} (h : WE X o ρ Y fun w ρ1 => ∃ i zs, w = .loc i ∧ ρ1[i]? = some (some (.own zs)) ∧ WE X e ρ1 Y fun u ρ2 => ∃ es ds, u = .val (.lst es) ∧ ρ2[i]? = some (some (.own ds)) ∧ ds.length + es.length ≤ 100000 ∧ P (.val .non) (ρ2.set i (some (.own (ds ++ es)))))
    (hp : PE X (.Call (.Attribute o "extend" apos) [e] [] cpos) (tBM X.K "list" rExtend (bE X o) (tCons (bE X e) tNil)) := by exact pe_bm PySem.F.plainAttrs_list PySem.F.slot_list_extend PySem.F.type_list_extend mt_extend pe_best (pa_cons pe_best pa_nil)) :
    WE X (.Call (.Attribute o "extend" apos) [e] [] cpos) ρ Y P := fun c F H σ R L => by
  refine bst hp ?_
  refine (h.run R L).imp fun v H1 ⟨F1, ρ1, w, E1, R1, r1, i, zs, e1, hz1, hb⟩ => ?_
  subst e1
  have r1' : σ[i]? = some (some v) := r1
  obtain ⟨p, xs, rfl, h3, _, _, _, _⟩ := R1.loc r1' hz1
  refine ⟨.inl ⟨rfl, _, .inl (.inl h3)⟩, (hb.run R1 L).imp fun u H2 ⟨F2, ρ2, w2, E2, R2, r2, es, ds, e2, h2, hz, hP⟩ => ?_⟩
  subst e2
  obtain ⟨p', xs', e3, h3, h4, h5, h6, k⟩ := R2.loc r1' h2
  cases e3
  obtain ⟨b, ys, rfl, hb1, k2⟩ := RD.lst_inv r2
  refine ⟨p, b, xs', ys, rfl, rfl, h3, R2.aft.sub _ _ hb1, by rw [k.len, k2.len]; exact Evl.sz_of hz, ?_⟩
  exact ⟨F2, _, .val .non, R2.write h2 r1' (k.append k2), .non, hP⟩
end
end
end PL

namespace PL
open PySem PySem.Spec PyProof.Rows L2
variable [Hand]
/-! ### isinstance -/
def D.ty : D → String
  | .non => "NoneType" | .bl _ => "bool" | .int _ => "int" | .str _ => "str" | .tup _ => "tuple" | .lst _ => "list" | .ro _ => "list" | .dct _ _ => "dict" | .fn _ => "function"
def D.plain : D → Bool
  | .fn _ => false
  | _ => true
def D.isTup : D → Bool | .tup _ => true | _ => false
def D.isLst : D → Bool | .lst _ => true | .ro _ => true | _ => false
def D.isDct : D → Bool | .dct _ _ => true | _ => false
def D.isStr : D → Bool | .str _ => true | _ => false
def D.isBl : D → Bool | .bl _ => true | _ => false
def D.isInt : D → Bool | .int _ => true | .bl _ => true | _ => false
theorem RD.tyx {K : PySem.W.Frag} {mg : Str → Option Value} {F H : Hp} {d : D} {v : V} (h : RD K mg F d v) (e : Ext F H) (hp : d.plain = true) : TyX K H v (.type d.ty) := by
  cases h with
  | non => exact .base .non
  | bl b => exact .base (.bl b)
  | int i => exact .base (.int i)
  | str s => exact .base (.str s)
  | tup h k =>
    rcases sqT_ext e h with (h | ⟨o, h⟩) | h
    · exact .base (.tup h)
    · exact .fTuple h
    · obtain ⟨o, its, n, h1, h2, _⟩ := h
      exact .kTuple h1 h2
  | lst h k => exact .base (.lst (e _ _ h))
  | ro h k =>
    rcases sqL_ext e h with (h | ⟨o, h⟩) | h
    · exact .base (.lst h)
    · exact .base (.frz h)
    · obtain ⟨o, its, n, h1, h2, _⟩ := h
      exact .kList h1 h2
  | dct h h1 h2 k => exact .base (.dK (e _ _ h))
  | fn h => cases hp
theorem kit_tup (d : D) (h : d.plain = true) : kitB d.ty "tuple" = some d.isTup := by
  cases d with
  | non => exact (by decide +kernel : kitB "NoneType" "tuple" = some false)
  | bl _ => exact (by decide +kernel : kitB "bool" "tuple" = some false)
  | int _ => exact (by decide +kernel : kitB "int" "tuple" = some false)
  | str _ => exact (by decide +kernel : kitB "str" "tuple" = some false)
  | tup _ => exact (by decide +kernel : kitB "tuple" "tuple" = some true)
  | lst _ => exact (by decide +kernel : kitB "list" "tuple" = some false)
  | ro _ => exact (by decide +kernel : kitB "list" "tuple" = some false)
  | dct => exact (by decide +kernel : kitB "dict" "tuple" = some false)
  | fn _ => cases h
theorem kit_lst (d : D) (h : d.plain = true) : kitB d.ty "list" = some d.isLst := by
  cases d with
  | non => exact (by decide +kernel : kitB "NoneType" "list" = some false)
  | bl _ => exact (by decide +kernel : kitB "bool" "list" = some false)
  | int _ => exact (by decide +kernel : kitB "int" "list" = some false)
  | str _ => exact (by decide +kernel : kitB "str" "list" = some false)
  | tup _ => exact (by decide +kernel : kitB "tuple" "list" = some false)
  | lst _ => exact (by decide +kernel : kitB "list" "list" = some true)
  | ro _ => exact (by decide +kernel : kitB "list" "list" = some true)
  | dct => exact (by decide +kernel : kitB "dict" "list" = some false)
  | fn _ => cases h
theorem kit_dct (d : D) (h : d.plain = true) : kitB d.ty "dict" = some d.isDct := by
  cases d with
  | non => exact (by decide +kernel : kitB "NoneType" "dict" = some false)
  | bl _ => exact (by decide +kernel : kitB "bool" "dict" = some false)
  | int _ => exact (by decide +kernel : kitB "int" "dict" = some false)
  | str _ => exact (by decide +kernel : kitB "str" "dict" = some false)
  | tup _ => exact (by decide +kernel : kitB "tuple" "dict" = some false)
  | lst _ => exact (by decide +kernel : kitB "list" "dict" = some false)
  | ro _ => exact (by decide +kernel : kitB "list" "dict" = some false)
  | dct => exact (by decide +kernel : kitB "dict" "dict" = some true)
  | fn _ => cases h
theorem kit_str (d : D) (h : d.plain = true) : kitB d.ty "str" = some d.isStr := by
  cases d with
  | non => exact (by decide +kernel : kitB "NoneType" "str" = some false)
  | bl _ => exact (by decide +kernel : kitB "bool" "str" = some false)
  | int _ => exact (by decide +kernel : kitB "int" "str" = some false)
  | str _ => exact (by decide +kernel : kitB "str" "str" = some true)
  | tup _ => exact (by decide +kernel : kitB "tuple" "str" = some false)
  | lst _ => exact (by decide +kernel : kitB "list" "str" = some false)
  | ro _ => exact (by decide +kernel : kitB "list" "str" = some false)
  | dct => exact (by decide +kernel : kitB "dict" "str" = some false)
  | fn _ => cases h
theorem kit_bl (d : D) (h : d.plain = true) : kitB d.ty "bool" = some d.isBl := by
  cases d with
  | non => exact (by decide +kernel : kitB "NoneType" "bool" = some false)
  | bl _ => exact (by decide +kernel : kitB "bool" "bool" = some true)
  | int _ => exact (by decide +kernel : kitB "int" "bool" = some false)
  | str _ => exact (by decide +kernel : kitB "str" "bool" = some false)
  | tup _ => exact (by decide +kernel : kitB "tuple" "bool" = some false)
  | lst _ => exact (by decide +kernel : kitB "list" "bool" = some false)
  | ro _ => exact (by decide +kernel : kitB "list" "bool" = some false)
  | dct => exact (by decide +kernel : kitB "dict" "bool" = some false)
  | fn _ => cases h
theorem kit_int (d : D) (h : d.plain = true) : kitB d.ty "int" = some d.isInt := by
  cases d with
  | non => exact (by decide +kernel : kitB "NoneType" "int" = some false)
  | bl _ => exact (by decide +kernel : kitB "bool" "int" = some true)
  | int _ => exact (by decide +kernel : kitB "int" "int" = some true)
  | str _ => exact (by decide +kernel : kitB "str" "int" = some false)
  | tup _ => exact (by decide +kernel : kitB "tuple" "int" = some false)
  | lst _ => exact (by decide +kernel : kitB "list" "int" = some false)
  | ro _ => exact (by decide +kernel : kitB "list" "int" = some false)
  | dct => exact (by decide +kernel : kitB "dict" "int" = some false)
  | fn _ => cases h
section
variable {X : Cx} {ρ : Store} {Y : Str → Store → Prop} {P : Po} {T : Pst}
theorem we_isi {N : String} {x : Str} {g : D → Bool} {e : Expr} {p p2 pos : Pos} (hk : ∀ d : D, d.plain = true → kitB d.ty N = some (g d)) (hg : Gl X "isinstance") (hm : X.mg "isinstance" = none) (hg2 : Gl X x) (hm2 : X.mg x = none) (hv : bootBuiltins x = some (.type N)) (hn : x ≠ "__name__") (hdb : (x == ("__debug__" : Str)) = false)
    (h : WE X e ρ Y fun w ρ1 => ∃ d, w = .val d ∧ d.plain = true ∧ P (.val (.bl (g d))) ρ1) (he : starEach (e :: [.Name x p2]) X.env = (false, eval e X.env) :: starEach [.Name x p2] X.env := by rfl) :
    WE X (.Call (.Name "isinstance" p) [e, .Name x p2] [] pos) ρ Y P := fun c F H σ R L => by
  refine bst (pe_callB call_isi hg hm (by decide +kernel) (pa_cons pe_best (pa_cons (pe_bltn (v := .ty N) hg2 hm2 hv rfl hn hdb) pa_nil) he) (by decide) (by decide) he) ?_
  refine (h.run R L).imp fun v H1 ⟨F1, ρ1, w, _, R1, r1, d, e1, hp, hP⟩ => ?_
  subst e1
  exact ⟨v, .ty N, .type d.ty, .type N, g d, rfl, .ty N, RD.tyx r1 R1.aft.sub hp, kit_ty (hk d hp), vp R1 (.bl _) hP⟩
theorem we_isTup {e : Expr} {p p2 pos : Pos} (hg : Gl X "isinstance") (hm : X.mg "isinstance" = none) (hg2 : Gl X "tuple") (hm2 : X.mg "tuple" = none) (h : WE X e ρ Y fun w ρ1 => ∃ d, w = .val d ∧ d.plain = true ∧ P (.val (.bl d.isTup)) ρ1)
    (he : starEach (e :: [.Name "tuple" p2]) X.env = (false, eval e X.env) :: starEach [.Name "tuple" p2] X.env := by rfl) : WE X (.Call (.Name "isinstance" p) [e, .Name "tuple" p2] [] pos) ρ Y P := we_isi kit_tup hg hm hg2 hm2 (by decide +kernel) (by decide) (by decide) h he
theorem we_isLst {e : Expr} {p p2 pos : Pos} (hg : Gl X "isinstance") (hm : X.mg "isinstance" = none) (hg2 : Gl X "list") (hm2 : X.mg "list" = none) (h : WE X e ρ Y fun w ρ1 => ∃ d, w = .val d ∧ d.plain = true ∧ P (.val (.bl d.isLst)) ρ1)
    (he : starEach (e :: [.Name "list" p2]) X.env = (false, eval e X.env) :: starEach [.Name "list" p2] X.env := by rfl) : WE X (.Call (.Name "isinstance" p) [e, .Name "list" p2] [] pos) ρ Y P := we_isi kit_lst hg hm hg2 hm2 (by decide +kernel) (by decide) (by decide) h he
theorem we_isDct {e : Expr} {p p2 pos : Pos} (hg : Gl X "isinstance") (hm : X.mg "isinstance" = none) (hg2 : Gl X "dict") (hm2 : X.mg "dict" = none) (h : WE X e ρ Y fun w ρ1 => ∃ d, w = .val d ∧ d.plain = true ∧ P (.val (.bl d.isDct)) ρ1)
    (he : starEach (e :: [.Name "dict" p2]) X.env = (false, eval e X.env) :: starEach [.Name "dict" p2] X.env := by rfl) : WE X (.Call (.Name "isinstance" p) [e, .Name "dict" p2] [] pos) ρ Y P := we_isi kit_dct hg hm hg2 hm2 (by decide +kernel) (by decide) (by decide) h he
theorem we_isStr {e : Expr} {p p2 pos : Pos} (hg : Gl X "isinstance") (hm : X.mg "isinstance" = none) (hg2 : Gl X "str") (hm2 : X.mg "str" = none) (h : WE X e ρ Y fun w ρ1 => ∃ d, w = .val d ∧ d.plain = true ∧ P (.val (.bl d.isStr)) ρ1)
    (he : starEach (e :: [.Name "str" p2]) X.env = (false, eval e X.env) :: starEach [.Name "str" p2] X.env := by rfl) : WE X (.Call (.Name "isinstance" p) [e, .Name "str" p2] [] pos) ρ Y P := we_isi kit_str hg hm hg2 hm2 (by decide +kernel) (by decide) (by decide) h he
theorem we_isBl {e : Expr} {p p2 pos : Pos} (hg : Gl X "isinstance") (hm : X.mg "isinstance" = none) (hg2 : Gl X "bool") (hm2 : X.mg "bool" = none) (h : WE X e ρ Y fun w ρ1 => ∃ d, w = .val d ∧ d.plain = true ∧ P (.val (.bl d.isBl)) ρ1)
    (he : starEach (e :: [.Name "bool" p2]) X.env = (false, eval e X.env) :: starEach [.Name "bool" p2] X.env := by rfl) : WE X (.Call (.Name "isinstance" p) [e, .Name "bool" p2] [] pos) ρ Y P := we_isi kit_bl hg hm hg2 hm2 (by decide +kernel) (by decide) (by decide) h he
theorem we_isInt {e : Expr} {p p2 pos : Pos} (hg : Gl X "isinstance") (hm : X.mg "isinstance" = none) (hg2 : Gl X "int") (hm2 : X.mg "int" = none) (h : WE X e ρ Y fun w ρ1 => ∃ d, w = .val d ∧ d.plain = true ∧ P (.val (.bl d.isInt)) ρ1)
    (he : starEach (e :: [.Name "int" p2]) X.env = (false, eval e X.env) :: starEach [.Name "int" p2] X.env := by rfl) : WE X (.Call (.Name "isinstance" p) [e, .Name "int" p2] [] pos) ρ Y P := we_isi kit_int hg hm hg2 hm2 (by decide +kernel) (by decide) (by decide) h he
/-- isinstance(e, (tuple, list)) -/
theorem we_isTL {e : Expr} {p p2 p3 pos p4 : Pos} {k4} (hg : Gl X "isinstance") (hm : X.mg "isinstance" = none) (hg2 : Gl X "tuple") (hm2 : X.mg "tuple" = none) (hg3 : Gl X "list") (hm3 : X.mg "list" = none)
    (h : WE X e ρ Y fun w ρ1 => ∃ d, w = .val d ∧ d.plain = true ∧ P (.val (.bl (d.isTup || d.isLst))) ρ1) (he : starEach (e :: [.Tuple [.Name "tuple" p2, .Name "list" p3] k4 p4]) X.env = (false, eval e X.env) :: starEach [.Tuple [.Name "tuple" p2, .Name "list" p3] k4 p4] X.env := by rfl) :
    WE X (.Call (.Name "isinstance" p) [e, .Tuple [.Name "tuple" p2, .Name "list" p3] k4 p4] [] pos) ρ Y P := fun c F H σ R L => by
  refine bst (pe_callB call_isiT hg hm (by decide +kernel) (pa_cons pe_best (pa_cons (pe_tup (pa_cons (pe_bltn (v := .ty "tuple") hg2 hm2 (by decide +kernel) rfl) (pa_cons (pe_bltn (v := .ty "list") hg3 hm3 (by decide +kernel) rfl) pa_nil))) pa_nil) he) (by decide) (by decide) he) ?_
  refine (h.run R L).imp fun v H1 ⟨F1, ρ1, w, _, R1, r1, d, e1, hp, hP⟩ => ?_
  subst e1
  refine ⟨by show 2 ≤ sizeLine; decide, fun q hq => ?_⟩
  have R2 := R1.growH (o := .tup [V.ty "tuple", V.ty "list"]) hq
  refine ⟨v, q, [.ty "tuple", .ty "list"], .type d.ty, [.type "tuple", .type "list"], d.isTup || d.isLst, rfl, upd_same, .cons (.ty _) (.cons (.ty _) .nil), RD.tyx r1 R2.aft.sub hp, ?_, vp R2 (.bl _) hP⟩
  refine kitAny_cons (kit_ty (kit_tup d hp)) (fun e => ?_) (fun e => by rw [e]; rfl)
  rw [e, Bool.false_or]
  refine kitAny_cons (kit_ty (kit_lst d hp)) (fun e => ?_) (fun e => e)
  rw [e]
  exact kitAny_nil

/-! ### raising -/
/-- the module's own exception class -/
structure Exc1 (K : PySem.W.Frag) (mg : Str → Option Value) (x : Str) : Prop where
  ex : ∃ (C : Addr), mg x = some (.ref C) ∧ PySem.W.excIn K C [.type "ValueError", .type "Exception", .type "BaseException", .type "object"] "ValueError.__new__" = true ∧ PySem.W.keepIn K (.ref C) = true ∧ PySem.W.subIn K (.ref C) (.type "BaseException") = some true ∧ PySem.W.typeIn K (.ref C) = some (.type "type")
theorem pmk_own0 {C : Addr} {bmB : List Value} {x : Str} {p pos : Pos} {B newId initId : String} (F : ExcBaseFacts B newId initId bmB) (q : PySem.W.excIn X.K C bmB newId = true) (gC : X.mg x = some (.ref C)) (kC : PySem.W.keepIn X.K (.ref C) = true) (r : Raises X (.ref C)) (hg : Gl X x)
    (hdb : (x == ("__debug__" : Str)) = false := by decide) : PMk X (.Call (.Name x p) [] [] pos) (fun _ H Q => Q (.ref C) none H) := by
  intro pins s σ H Q I h
  refine wpAny_Call_Name_kw (ld_glob I hg gC ?_ hdb)
  refine PySem.W.callWith_K0 I.kIn kC ?_
  show wpAny _ _ (call (.ref C) []) _ _ _
  obtain ⟨bm, N, nm, qn, bs, hdct, sn, sub, ab, col, dd, k0, k1, k2, k3, k5, mN, hC, hN, hni, T⟩ := exc_obj I.kIn q
  refine wpAny_call_exc_subT F T hC hN hni (fun h' e hm => ?_) (by show 0 ≤ sizeLine; rw [sizeLine_eq]; omega)
  exact mk_of I hm r h (I.hok.gone hm.new)
theorem ws_raise {x : Str} {p pos pos' : Pos} (hc : X.calm = true) (E : Exc1 X.K X.mg x) (hg : Gl X x) (h : Y x ρ) (hdb : (x == ("__debug__" : Str)) = false := by decide) : WS X (.Raise (some (.Call (.Name x p) [] [] pos)) none pos') ρ Y T := fun c F H σ nb R L => by
  obtain ⟨C, h1, h2, h3, h4, h5⟩ := E.ex
  refine bstS (ps_raise hc L.1.1 (pmk_own0 PySem.F.excBase_ValueError h2 h1 h3 (raises_own h4 h5) hg hdb)) ?_
  exact L.2 x C F H σ ρ h h1 R
end
end PL

namespace PL
open PySem PySem.Spec PyProof.Rows L2
variable [Hand]
/-! ### what is walked -/
structure IsIt (K : PySem.W.Frag) (mg : Str → Option Value) (c : Cfg) (F0 : Hp) (J : It) (items : List D) : Prop where
  go : ∀ i d F H, items[i]? = some d → Ext F0 F → Aft c F H → J.go i H
  yld : ∀ i d F H v H', items[i]? = some d → Ext F0 F → Aft c F H → J.yld i H v H' → (H' = H ∧ RD K mg F d v) ∨ ∃ p o, H p = none ∧ H' = upd H p o ∧ NoT o ∧ RD K mg (upd F p o) d v
  stop : ∀ F H, Ext F0 F → Aft c F H → J.stop items.length H
section
variable {K : PySem.W.Frag} {mg : Str → Option Value} {c : Cfg} {F0 : Hp}
theorem RDs.none_of {F : Hp} {ds : List D} {vs : List V} (h : RDs K mg F ds vs) {i : Nat} {d : D} (e : ds[i]? = some d) : ∃ v, vs[i]? = some v ∧ RD K mg F d v := h.get e
theorem isIt_list {a : Addr} {xs : List V} {ds : List D} (h : SqL K F0 a xs) (r : RDs K mg F0 ds xs) : IsIt K mg c F0 (Itl K a) ds where
  go := fun i d F H e h1 A => by
    obtain ⟨v, e1, _⟩ := r.get e
    exact ⟨xs, v, sqL_ext A.sub (sqL_ext h1 h), e1⟩
  yld := fun i d F H v H' e h1 A y => by
    obtain ⟨q, k⟩ := y
    obtain ⟨u, e1, r1⟩ := r.get e
    have := k xs (sqL_ext A.sub (sqL_ext h1 h))
    rw [e1] at this
    cases this
    exact .inl ⟨q, r1.ext h1⟩
  stop := fun F H h1 A => ⟨xs, sqL_ext A.sub (sqL_ext h1 h), by rw [r.len]; exact Nat.le_refl _⟩
theorem isIt_tup {a : Addr} {xs : List V} {ds : List D} (h : SqT K F0 a xs) (r : RDs K mg F0 ds xs) : IsIt K mg c F0 (Itt K a) ds where
  go := fun i d F H e h1 A => by
    obtain ⟨v, e1, _⟩ := r.get e
    exact ⟨xs, v, sqT_ext A.sub (sqT_ext h1 h), e1⟩
  yld := fun i d F H v H' e h1 A y => by
    obtain ⟨q, k⟩ := y
    obtain ⟨u, e1, r1⟩ := r.get e
    have := k xs (sqT_ext A.sub (sqT_ext h1 h))
    rw [e1] at this
    cases this
    exact .inl ⟨q, r1.ext h1⟩
  stop := fun F H h1 A => ⟨xs, sqT_ext A.sub (sqT_ext h1 h), by rw [r.len]; exact Nat.le_refl _⟩
theorem isIt_rng {lo : Int} {n : Nat} : IsIt K mg c F0 (Itr lo n) ((List.range n).map fun (k : Nat) => D.int (lo + k)) where
  go := fun i d F H e h1 A => by
    have h := (List.getElem?_eq_some_iff.mp e).1
    rw [List.length_map, List.length_range] at h
    exact h
  yld := fun i d F H v H' e h1 A y => by
    obtain ⟨q, k⟩ := y
    have h := (List.getElem?_eq_some_iff.mp e).1
    rw [List.length_map, List.length_range] at h
    rw [List.getElem?_map, List.getElem?_range h] at e
    cases e
    subst k
    exact .inl ⟨q, .int _⟩
  stop := fun F H h1 A => by
    show n ≤ _
    rw [List.length_map, List.length_range]
    exact Nat.le_refl _
theorem zip_get {ds es : List D} {i : Nat} {d : D} (e : (List.zipWith (fun x y => D.tup [x, y]) ds es)[i]? = some d) : ∃ x y, ds[i]? = some x ∧ es[i]? = some y ∧ d = .tup [x, y] := by
  rw [List.getElem?_zipWith] at e
  cases h1 : ds[i]? with
  | none =>
    rw [h1] at e
    cases e
  | some x =>
    cases h2 : es[i]? with
    | none =>
      rw [h1, h2] at e
      cases e
    | some y =>
      rw [h1, h2] at e
      cases e
      exact ⟨x, y, rfl, rfl, rfl⟩
theorem isIt_zip {a b : Addr} {xs ys : List V} {ds es : List D} (h : SqL K F0 a xs) (r : RDs K mg F0 ds xs) (h' : SqL K F0 b ys) (r' : RDs K mg F0 es ys) : IsIt K mg c F0 (Itz K a b) (List.zipWith (fun x y => D.tup [x, y]) ds es) where
  go := fun i d F H e h1 A => by
    obtain ⟨x, y, e1, e2, _⟩ := zip_get e
    obtain ⟨v, q1, _⟩ := r.get e1
    obtain ⟨u, q2, _⟩ := r'.get e2
    exact ⟨xs, ys, v, u, sqL_ext A.sub (sqL_ext h1 h), sqL_ext A.sub (sqL_ext h1 h'), q1, q2⟩
  yld := fun i d F H v H' e h1 A y => by
    obtain ⟨x, y', e1, e2, rfl⟩ := zip_get e
    obtain ⟨T, z1, z2, rfl, hT, rfl, k1, k2⟩ := y
    obtain ⟨v1, q1, r1⟩ := r.get e1
    obtain ⟨v2, q2, r2⟩ := r'.get e2
    have w1 := k1 xs (sqL_ext A.sub (sqL_ext h1 h))
    rw [q1] at w1
    cases w1
    have w2 := k2 ys (sqL_ext A.sub (sqL_ext h1 h'))
    rw [q2] at w2
    cases w2
    have hF := (A.fresh0 hT).2.2.1
    exact .inr ⟨T, _, hT, rfl, noT_tup _, .tup (.inl (.inl upd_same)) (.cons (r1.ext (h1.trans (.new hF))) (.cons (r2.ext (h1.trans (.new hF))) .nil))⟩
  stop := fun F H h1 A => ⟨xs, ys, sqL_ext A.sub (sqL_ext h1 h), sqL_ext A.sub (sqL_ext h1 h'), by
    rw [List.length_zipWith, r.len, r'.len]
    omega⟩
theorem isIt_zipT {a b : Addr} {xs ys : List V} {ds es : List D} (h : SqT K F0 a xs) (r : RDs K mg F0 ds xs) (h' : SqT K F0 b ys) (r' : RDs K mg F0 es ys) : IsIt K mg c F0 (RZ.ItzT K a b) (List.zipWith (fun x y => D.tup [x, y]) ds es) where
  go := fun i d F H e h1 A => by
    obtain ⟨x, y, e1, e2, _⟩ := zip_get e
    obtain ⟨v, q1, _⟩ := r.get e1
    obtain ⟨u, q2, _⟩ := r'.get e2
    exact ⟨xs, ys, v, u, sqT_ext A.sub (sqT_ext h1 h), sqT_ext A.sub (sqT_ext h1 h'), q1, q2⟩
  yld := fun i d F H v H' e h1 A y => by
    obtain ⟨x, y', e1, e2, rfl⟩ := zip_get e
    obtain ⟨T, z1, z2, rfl, hT, rfl, k1, k2⟩ := y
    obtain ⟨v1, q1, r1⟩ := r.get e1
    obtain ⟨v2, q2, r2⟩ := r'.get e2
    have w1 := k1 xs (sqT_ext A.sub (sqT_ext h1 h))
    rw [q1] at w1
    cases w1
    have w2 := k2 ys (sqT_ext A.sub (sqT_ext h1 h'))
    rw [q2] at w2
    cases w2
    have hF := (A.fresh0 hT).2.2.1
    exact .inr ⟨T, _, hT, rfl, noT_tup _, .tup (.inl (.inl upd_same)) (.cons (r1.ext (h1.trans (.new hF))) (.cons (r2.ext (h1.trans (.new hF))) .nil))⟩
  stop := fun F H h1 A => ⟨xs, ys, sqT_ext A.sub (sqT_ext h1 h), sqT_ext A.sub (sqT_ext h1 h'), by
    rw [List.length_zipWith, r.len, r'.len]
    omega⟩
end
def bI (X : Cx) (tg iter : Expr) : TI := fun σ H R => ∀ pins s, Inv X pins σ H s → wpAny (model X.prog X.w) X.A (eval iter X.env) (fun v s1 => wpAny (model X.prog X.w) X.A (pyIter v) (PIE X pins σ tg R) X.xe s1) X.xe s
theorem pi_best {X : Cx} {tg iter : Expr} : PI X tg iter (bI X tg iter) := ⟨fun pins s σ H R I h => h pins s I⟩
theorem bstI {X : Cx} {tg iter : Expr} {w : TI} {σ : L2.St} {H : Hp} {R : It → Hp → Prop} (h : PI X tg iter w) (q : w σ H R) : bI X tg iter σ H R := fun pins s I => h.run pins s σ H R I q
theorem bI.imp {X : Cx} {tg iter : Expr} {σ : L2.St} {H : Hp} {R R' : It → Hp → Prop} (h : bI X tg iter σ H R) (k : ∀ J H, R J H → R' J H) : bI X tg iter σ H R' := fun pins s I =>
  thn (h pins s I) fun v s1 h1 => thn h1 fun u s2 ⟨it, fp, tn, J, H', e, I', tr, h0, hf, r⟩ => ⟨it, fp, tn, J, H', e, I', tr, h0, hf, k J H' r⟩
def WI (X : Cx) (tg iter : Expr) (ρ : Store) (Y : Str → Store → Prop) (P : List D → Store → Prop) : Prop := ∀ c F H σ, Rel X.K X.mg c F H σ ρ → Lk X c Y →
  bI X tg iter σ H fun J H' => ∃ F' ρ' items, Ext F F' ∧ Rel X.K X.mg c F' H' σ ρ' ∧ IsIt X.K X.mg c F' J items ∧ P items ρ'
section
variable {X : Cx} {ρ : Store} {Y : Str → Store → Prop} {P : List D → Store → Prop} {tg e : Expr}
theorem wi_lst (hc : X.calm = true) (h : WE X e ρ Y fun w ρ1 => ∃ ds, (w = .val (.lst ds) ∨ w = .val (.ro ds)) ∧ P ds ρ1) (hpi : ∀ te, PE X e te → PI X tg e (iList X.K te)) : WI X tg e ρ Y P := fun c F H σ R L => by
  refine bstI (hpi _ pe_best) ?_
  refine (h.run R L).imp fun v H1 ⟨F1, ρ1, w, E1, R1, r1, ds, e1, hP⟩ => ?_
  have r2 : ∃ a xs, v = .ref a ∧ SqL X.K F1 a xs ∧ RDs X.K X.mg F1 ds xs := by
    rcases e1 with rfl | rfl
    · obtain ⟨a, xs, q1, q2, q3⟩ := RD.lst_inv r1
      exact ⟨a, xs, q1, .inl (.inl q2), q3⟩
    · have r1' : RD X.K X.mg F1 (.ro ds) v := r1
      cases r1' with
      | ro h k => exact ⟨_, _, rfl, h, k⟩
  obtain ⟨a, xs, rfl, q2, q3⟩ := r2
  exact ⟨a, rfl, ⟨xs, sqL_ext R1.aft.sub q2⟩, F1, ρ1, ds, E1, R1, isIt_list q2 q3, hP⟩
theorem wi_tup (hc : X.calm = true) (h : WE X e ρ Y fun w ρ1 => ∃ ds, w = .val (.tup ds) ∧ P ds ρ1) (hpi : ∀ te, PE X e te → PI X tg e (iTup X.K te)) : WI X tg e ρ Y P := fun c F H σ R L => by
  refine bstI (hpi _ pe_best) ?_
  refine (h.run R L).imp fun v H1 ⟨F1, ρ1, w, E1, R1, r1, ds, e1, hP⟩ => ?_
  subst e1
  obtain ⟨a, xs, rfl, q2, q3⟩ := RD.tup_inv r1
  exact ⟨a, rfl, ⟨xs, sqT_ext R1.aft.sub q2⟩, F1, ρ1, ds, E1, R1, isIt_tup q2 q3, hP⟩
end
end PL

namespace PL
open PySem PySem.Spec PyProof.Rows L2
variable [Hand]
/-! ### slots set, slots wiped -/
def setS : L2.St → List Nat → List V → L2.St
  | σ, j :: js, v :: vs => setS (σ.set j (some v)) js vs
  | σ, _, _ => σ
def setW : Store → List Nat → List D → Store
  | ρ, j :: js, d :: ds => setW (ρ.set j (some (.val d))) js ds
  | ρ, _, _ => ρ
def wipeW : Store → List Nat → Store
  | ρ, [] => ρ
  | ρ, j :: js => (wipeW ρ js).set j none
section
variable {K : PySem.W.Frag} {mg : Str → Option Value} {c : Cfg} {F H : Hp} {σ : L2.St} {ρ : Store}
theorem Rel.setAll : ∀ {js : List Nat} {ds : List D} {vs : List V} {σ : L2.St} {ρ : Store}, Rel K mg c F H σ ρ → RDs K mg F ds vs → (∀ j ∈ js, j < σ.length) → Rel K mg c F H (setS σ js vs) (setW ρ js ds)
  | [], _, _, _, _, R, _, _ => by
    unfold setS setW
    exact R
  | j :: js, _, _, _, _, R, .nil, _ => by
    unfold setS setW
    exact R
  | j :: js, _, _, _, _, R, .cons h k, hj => by
    unfold setS setW
    refine Rel.setAll (R.setVal (hj j List.mem_cons_self) h) k fun i hi => ?_
    rw [List.length_set]
    exact hj i (List.mem_cons_of_mem _ hi)
theorem Rel.clear1 (R : Rel K mg c F H σ ρ) (j : Nat) : Rel K mg c F H (σ.set j none) (ρ.set j none) := by
  have key : ∀ (i : Nat) (w : W), (ρ.set j none)[i]? = some (some w) → i ≠ j ∧ ρ[i]? = some (some w) := fun i w hi => by
    have hne : i ≠ j := fun e => by
      subst e
      rw [List.getElem?_set] at hi
      split at hi
      · split at hi <;> cases hi
      · rename_i q
        exact absurd rfl q
    rw [List.getElem?_set_ne (Ne.symm hne)] at hi
    exact ⟨hne, hi⟩
  refine ⟨R.aft, fun i w hi => ?_, fun i k ds es v hik h1 h2 h3 h4 => ?_⟩
  · obtain ⟨hne, hi'⟩ := key i w hi
    obtain ⟨a1, v, a2, a3⟩ := R.slot i w hi'
    refine ⟨a1, v, by rw [List.getElem?_set_ne (Ne.symm hne)]; exact a2, ?_⟩
    cases w with
    | loc k => exact absurd rfl (a1 k)
    | _ => exact a3
  · obtain ⟨n1, h1'⟩ := key i _ h1
    obtain ⟨n2, h2'⟩ := key k _ h2
    rw [List.getElem?_set_ne (Ne.symm n1)] at h3
    rw [List.getElem?_set_ne (Ne.symm n2)] at h4
    exact R.apart i k ds es v hik h1' h2' h3 h4
theorem Rel.wipe : ∀ (vs : List Nat), Rel K mg c F H σ ρ → Rel K mg c F H (wipe σ vs) (wipeW ρ vs)
  | [], R => R
  | v :: vs, R => (Rel.wipe vs R).clear1 v
theorem setS_out {i : Nat} : ∀ {js : List Nat} {vs : List V} {σ : L2.St}, i ∉ js → (setS σ js vs)[i]? = σ[i]?
  | [], _, _, _ => by
    unfold setS
    rfl
  | j :: js, [], _, _ => by
    unfold setS
    rfl
  | j :: js, v :: vs, σ, h => by
    unfold setS
    rw [setS_out fun q => h (List.mem_cons_of_mem _ q), List.getElem?_set_ne fun e => h (by rw [e]; exact List.mem_cons_self)]
theorem setW_out {i : Nat} : ∀ {js : List Nat} {ds : List D} {ρ : Store}, i ∉ js → (setW ρ js ds)[i]? = ρ[i]?
  | [], _, _, _ => by
    unfold setW
    rfl
  | j :: js, [], _, _ => by
    unfold setW
    rfl
  | j :: js, v :: vs, σ, h => by
    unfold setW
    rw [setW_out fun q => h (List.mem_cons_of_mem _ q), List.getElem?_set_ne fun e => h (by rw [e]; exact List.mem_cons_self)]
theorem wipe_out' {i : Nat} : ∀ {vs : List Nat}, i ∉ vs → (L2.wipe σ vs)[i]? = σ[i]?
  | [], _ => rfl
  | v :: vs, h => by
    unfold L2.wipe
    rw [List.getElem?_set_ne fun e => h (by rw [e]; exact List.mem_cons_self)]
    exact wipe_out' fun q => h (List.mem_cons_of_mem _ q)
theorem wipeW_out {i : Nat} : ∀ {vs : List Nat}, i ∉ vs → (wipeW ρ vs)[i]? = ρ[i]?
  | [], _ => rfl
  | v :: vs, h => by
    unfold wipeW
    rw [List.getElem?_set_ne fun e => h (by rw [e]; exact List.mem_cons_self)]
    exact wipeW_out fun q => h (List.mem_cons_of_mem _ q)
theorem setS_len : ∀ {js : List Nat} {vs : List V} {σ : L2.St}, (setS σ js vs).length = σ.length
  | [], _, _ => by
    unfold setS
    rfl
  | j :: js, [], _ => by
    unfold setS
    rfl
  | j :: js, v :: vs, σ => by
    unfold setS
    rw [setS_len, List.length_set]
theorem wipe_get (σ : L2.St) : ∀ (vs : List Nat) (i : Nat), (L2.wipe σ vs)[i]? = if i ∈ vs then (σ[i]?).map (fun _ => none) else σ[i]?
  | [], i => by simp [L2.wipe]
  | v :: vs, i => by
    unfold L2.wipe
    rw [List.getElem?_set]
    by_cases h : v = i
    · subst h
      rw [if_pos rfl, if_pos List.mem_cons_self, wipe_length]
      by_cases hl : v < σ.length
      · rw [if_pos hl, List.getElem?_eq_getElem hl]
        rfl
      · rw [if_neg hl, List.getElem?_eq_none (by omega)]
        rfl
    · rw [if_neg h, wipe_get σ vs i]
      have e : (i ∈ v :: vs) ↔ i ∈ vs := by
        rw [List.mem_cons]
        exact ⟨fun q => q.resolve_left (Ne.symm h), .inr⟩
      by_cases hm : i ∈ vs
      · rw [if_pos hm, if_pos (e.mpr hm)]
      · rw [if_neg hm, if_neg fun q => hm (e.mp q)]
/-- what is set is wiped again -/
theorem wipe_set {js : List Nat} {vs : List V} {ws : List Nat} (h : ∀ j ∈ js, j ∈ ws) : L2.wipe (setS (L2.wipe σ ws) js vs) ws = L2.wipe σ ws := by
  apply List.ext_getElem?
  intro i
  rw [wipe_get, wipe_get]
  by_cases hm : i ∈ ws
  · rw [if_pos hm, if_pos hm]
    have hl : (setS (L2.wipe σ ws) js vs).length = σ.length := by rw [setS_len, wipe_length]
    by_cases hi : i < σ.length
    · rw [List.getElem?_eq_getElem (by rw [hl]; exact hi), List.getElem?_eq_getElem hi]
      rfl
    · rw [List.getElem?_eq_none (by rw [hl]; omega), List.getElem?_eq_none (by omega)]
  · rw [if_neg hm, if_neg hm, setS_out fun q => hm (h i q), wipe_out' hm]
end
/-- no slot of these is a list of one's own -/
def notOwn : Option (Option W) → Bool
  | some (some (.own _)) => false
  | _ => true
def freeOwn (ρ : Store) (vs : List Nat) : Prop := (clean ρ && vs.all fun i => notOwn ρ[i]?) = true
theorem freeOwn.cl {ρ : Store} {vs : List Nat} (h : freeOwn ρ vs) : clean ρ = true := (by unfold freeOwn at h; exact Bool.and_eq_true_iff.mp h : _ ∧ _).1
theorem freeOwn.at_ {ρ : Store} {vs : List Nat} (h : freeOwn ρ vs) (i : Nat) (hi : i ∈ vs) (ds : List D) : ρ[i]? ≠ some (some (.own ds)) := fun e => by
  unfold freeOwn at h
  have := List.all_eq_true.mp (Bool.and_eq_true_iff.mp h).2 i hi
  rw [e] at this
  cases this
/-- the cfg within a block: the list that is made is not to be changed -/
def Cfg.blk' (c : Cfg) (F H : Hp) (p : Addr) (xs : List V) : Cfg := { c with F0 := F, N := noTb H, Pr := upd c.Pr p (.lst xs), blk := true, zs := false, W := fun _ _ _ _ => False }
section
variable {K : PySem.W.Frag} {mg : Str → Option Value} {c : Cfg} {F H F2 H2 : Hp} {σ : L2.St} {ρ : Store} {p : Addr} {xs : List V}
theorem Rel.intoBlk (R : Rel K mg c F H σ ρ) (hcl : clean ρ = true) (hp : H p = some (.lst xs)) (f : Fr1 c F H σ ρ p) : Rel K mg (c.blk' F H p xs) F H σ ρ := by
  obtain ⟨f1, f2, f3, f4, f5⟩ := f
  refine ⟨⟨R.aft.sub, .refl F, fun a o e => ?_, fun a o e hn => ?_, fun a o e => .inl e, fun a o e => ⟨o, noTb_some.mp e⟩, (fun q => by cases q), fun q hq => ?_, ⟨R.aft.tb.nF, fun a o e => ?_, R.aft.tb.tabs⟩⟩, fun i w hw => ?_, R.apart⟩
  · have e : upd c.Pr p (.lst xs) a = some o := e
    by_cases h : a = p
    · subst h
      rw [upd_same] at e
      cases e
      exact hp
    · rw [upd_ne h] at e
      exact R.aft.pr a o e
  · show upd c.Pr p (.lst xs) a = some o
    have h1 := R.aft.pr0 a o e hn
    rw [upd_ne (ne_of_none h1 f2)]
    exact h1
  · obtain ⟨a1, a2, a3⟩ := R.aft.hand q hq
    have hne : q ≠ p := fun e => f3 (e ▸ hq)
    exact ⟨a1, by show upd c.Pr p (.lst xs) q = none; rw [upd_ne hne]; exact a2, a3⟩
  · have e : upd c.Pr p (.lst xs) a = some o := e
    by_cases h : a = p
    · subst h
      rw [upd_same] at e
      cases e
      exact noT_lst _
    · rw [upd_ne h] at e
      exact R.aft.tb.nP a o e
  · obtain ⟨a1, v, a2, a3⟩ := R.slot i w hw
    refine ⟨a1, v, a2, ?_⟩
    cases w with
    | own ds =>
      obtain ⟨q, ys, e1, e2, e3, e4, e5, e6⟩ := a3
      subst e1
      have hne : q ≠ p := fun e => by
        subst e
        exact f4 i ds hw a2
      exact ⟨q, ys, rfl, e2, e3, by show upd c.Pr p (.lst xs) q = none; rw [upd_ne hne]; exact e4, e5, e6⟩
    | zip ds es => exact absurd rfl ((clean_at hcl hw).1 ds es)
    | _ => exact a3
/-- back from the block -/
theorem Rel.ofBlk {js vs : List Nat} {ds : List D} {us : List V} (R : Rel K mg c F H σ ρ) (hp : H p = some (.lst xs)) (f : Fr1 c F H σ ρ p) (fo : freeOwn ρ vs) (hj : ∀ j ∈ js, j ∈ vs)
    (R2 : Rel K mg (c.blk' F H p xs) F2 H2 (setS (L2.wipe σ vs) js us) (setW (wipeW ρ vs) js ds)) : Rel K mg c F2 H2 σ ρ ∧ H2 p = some (.lst xs) ∧ Fr1 c F2 H2 σ ρ p ∧ Ext F F2 := by
  obtain ⟨f1, f2, f3, f4, f5⟩ := f
  have E : Ext F F2 := R2.aft.f0
  have hF2 : F2 p = none := by
    cases e : F2 p with
    | none => rfl
    | some o =>
      rcases R2.aft.new p o e with h | h
      · have h : F p = some o := h
        rw [f1] at h
        cases h
      · have h : noTb H p = none := h
        rw [noTb_some.mpr ⟨hp, noT_lst _⟩] at h
        cases h
  have A : Aft c F2 H2 := by
    refine ⟨R2.aft.sub, R.aft.f0.trans E, fun a o e => ?_, R.aft.pr0, fun a o e => ?_, fun a o e => ?_, R.aft.nb, fun q hq => ?_, ⟨R2.aft.tb.nF, R.aft.tb.nP, R2.aft.tb.tabs⟩⟩
    · refine R2.aft.pr a o (show upd c.Pr p (.lst xs) a = some o from ?_)
      rw [upd_ne (ne_of_none e f2)]
      exact e
    · rcases R2.aft.new a o e with h | h
      · exact R.aft.new a o h
      · exact .inr (R.aft.freshN h)
    · obtain ⟨o', q⟩ := R.aft.nn a o e
      exact R2.aft.nn a o' (noTb_some.mpr q)
    · obtain ⟨a1, _, a3⟩ := R2.aft.hand q hq
      obtain ⟨_, b2, _⟩ := R.aft.hand q hq
      exact ⟨a1, b2, a3⟩
  refine ⟨⟨A, fun i w hw => ?_, R.apart⟩, R2.aft.pr p _ (show upd c.Pr p (.lst xs) p = some (.lst xs) from upd_same), ⟨hF2, f2, f3, f4, f5⟩, E⟩
  obtain ⟨a1, v, a2, a3⟩ := R.slot i w hw
  refine ⟨a1, v, a2, ?_⟩
  by_cases hm : i ∈ vs
  · cases w with
    | own ds' => exact absurd hw (fo.at_ i hm ds')
    | val d => exact RD.ext E a3
    | zip ds es => exact absurd rfl ((clean_at fo.cl hw).1 ds es)
    | hown ds => exact absurd rfl ((clean_at fo.cl hw).2 ds)
    | _ => exact a3
  · have e1 : (setW (wipeW ρ vs) js ds)[i]? = some (some w) := by
      rw [setW_out fun q => hm (hj i q), wipeW_out hm]
      exact hw
    have e2 : (setS (L2.wipe σ vs) js us)[i]? = σ[i]? := by rw [setS_out fun q => hm (hj i q), wipe_out' hm]
    obtain ⟨_, u, b2, b3⟩ := R2.slot i w e1
    rw [e2, a2] at b2
    cases b2
    cases w with
    | own ds' =>
      obtain ⟨q, ys, g1, g2, g3, g4, g5, g6⟩ := b3
      subst g1
      have g4' : upd c.Pr p (.lst xs) q = none := g4
      have hne : q ≠ p := fun e => by
        subst e
        rw [upd_same] at g4'
        cases g4'
      rw [upd_ne hne] at g4'
      exact ⟨q, ys, rfl, g2, g3, g4', g5, g6⟩
    | loc k => exact absurd rfl (a1 k)
    | zip ds es => exact absurd rfl ((clean_at fo.cl hw).1 ds es)
    | hown ds => exact absurd rfl ((clean_at fo.cl hw).2 ds)
    | _ => exact b3
end
/-! ### the block's judgements -/
section
variable {X : Cx} {scope : Scope}
abbrev Blk (X : Cx) (s : Shared) (H : Hp) (scope : Scope) (C : Addr) (cl : List (Str × Addr)) (fp : List Addr) : Cx := X.blk s H scope (compEnvC scope cl C X.env) fp
def WEb (X : Cx) (scope : Scope) (e : Expr) (ρ : Store) (P : Po) : Prop := ∀ (s : Shared) (H : Hp) (C : Addr) (cl : List (Str × Addr)) (fp : List Addr), WE (Blk X s H scope C cl fp) e ρ (fun _ _ => False) P
def WTb (X : Cx) (scope : Scope) (e : Expr) (ρ : Store) (P : Pb) : Prop := ∀ (s : Shared) (H : Hp) (C : Addr) (cl : List (Str × Addr)) (fp : List Addr), WT (Blk X s H scope C cl fp) e ρ (fun _ _ => False) P
def bEb (X : Cx) (scope : Scope) (e : Expr) : TE := fun σ H Q => ∀ (s : Shared) (H0 : Hp) (C : Addr) (cl : List (Str × Addr)) (fp : List Addr), bE (Blk X s H0 scope C cl fp) e σ H Q
def bTb (X : Cx) (scope : Scope) (e : Expr) : TT := fun σ H Q => ∀ (s : Shared) (H0 : Hp) (C : Addr) (cl : List (Str × Addr)) (fp : List Addr), bT (Blk X s H0 scope C cl fp) e σ H Q
theorem lk_blk {s : Shared} {H : Hp} {C : Addr} {cl : List (Str × Addr)} {fp : List Addr} {c : Cfg} (hw : c.W = fun _ _ _ _ => False) (hb : c.zs = false) : Lk (Blk X s H scope C cl fp) c (fun _ _ => False) :=
  ⟨⟨by rw [hw]; exact takes0, PassesOwn.never, fun q => by rw [hb] at q; cases q⟩, fun _ _ _ _ _ _ h => h.elim⟩
/-- the meaning of a comprehension's turns: un: what the target is bound to by an item -/
def LcW (un : D → Option (List D)) (cond : List D → (Bool → Prop) → Prop) (elt : List D → (D → Prop) → Prop) : List D → List D → (List D → Prop) → Prop
  | [], acc, K => K acc
  | it :: r, acc, K => ∃ ds, un it = some ds ∧ cond ds fun b => if b = true then elt ds fun d => LcW un cond elt r (acc ++ [d]) K else LcW un cond elt r acc K
/-- the target g at the slots js -/
def Tgt (K : PySem.W.Frag) (mg : Str → Option Value) (g : TG) (js : List Nat) (un : D → Option (List D)) : Prop :=
  ∀ (F H : Hp) (d : D) (ds : List D) (v : V) (σ : L2.St) (Q : L2.St → Hp → Prop), Ext F H → RD K mg F d v → un d = some ds → (∀ vs, RDs K mg F ds vs → Q (setS σ js vs) H) → g v σ H Q
def un1 (d : D) : Option (List D) := some [d]
def un2 : D → Option (List D)
  | .tup [a, b] => some [a, b]
  | _ => none
theorem tgt1 {K : PySem.W.Frag} {mg : Str → Option Value} {j : Nat} : Tgt K mg (gName j) [j] un1 := fun F H d ds v σ Q e r h k => by
  cases h
  exact k [v] (.cons r .nil)
theorem tgt2 {K : PySem.W.Frag} {mg : Str → Option Value} {i j : Nat} : Tgt K mg (gTup K 2 (gCons (gName i) (gCons (gName j) gNil))) [i, j] un2 := fun F H d ds v σ Q e r h k => by
  unfold un2 at h
  split at h
  · cases h
    obtain ⟨a, x, y, rfl, q1, q2, q3⟩ := RD.tup2 r
    exact ⟨a, [x, y], rfl, sqT_ext e q1, rfl, x, [y], rfl, y, [], rfl, rfl, k [x, y] (.cons q2 (.cons q3 .nil))⟩
  · cases h
end
end PL

namespace PL
open PySem PySem.Spec PyProof.Rows L2
variable [Hand]
section
variable {X : Cx} {ρ : Store} {Y : Str → Store → Prop} {P : Po} {T : Pst}
/-- the tests of a comprehension: none, or one -/
def condN (ρb : List D → Store) : List D → (Bool → Prop) → Prop := fun _ K => K true
def condC (X : Cx) (scope : Scope) (ρb : List D → Store) (t : Expr) : List D → (Bool → Prop) → Prop := fun ds K => WTb X scope t (ρb ds) fun b ρ2 => ρ2 = ρb ds ∧ K b
def eltE (X : Cx) (scope : Scope) (ρb : List D → Store) (e : Expr) : List D → (D → Prop) → Prop := fun ds K => WEb X scope e (ρb ds) fun w ρ2 => ρ2 = ρb ds ∧ ∃ d, w = .val d ∧ K d
def FreshP (X : Cx) (c : Cfg) (F0 : Hp) (σ : L2.St) (P : List D → Store → Prop) : VK := fun v H' => ∃ F' ρ' p xs ds, v = .ref p ∧ H' p = some (.lst xs) ∧ Fr1 c F' H' σ ρ' p ∧ Ext F0 F' ∧ Rel X.K X.mg c F' H' σ ρ' ∧ RDs X.K X.mg F' ds xs ∧ P ds ρ'
theorem Rel.writeFr {K : PySem.W.Frag} {mg : Str → Option Value} {c : Cfg} {F H : Hp} {σ : L2.St} {ρ : Store} {p : Addr} {o u0 : HO} (R : Rel K mg c F H σ ρ) (ho : NoT o) (hp0 : H p = some u0) (hu0 : PlainO u0) (f : Fr1 c F H σ ρ p) : Rel K mg c F (upd H p o) σ ρ := by
  obtain ⟨f1, f2, f3, f4, f5⟩ := f
  refine ⟨R.aft.write ho hp0 hu0 f1 f2 f3, fun i w hw => ?_, R.apart⟩
  obtain ⟨a1, v, a2, a3⟩ := R.slot i w hw
  refine ⟨a1, v, a2, ?_⟩
  cases w with
  | own ds =>
    obtain ⟨q, ys, e1, e2, e3⟩ := a3
    subst e1
    have hne : q ≠ p := fun e => by
      subst e
      exact f4 i ds hw a2
    exact ⟨q, ys, rfl, by rw [upd_ne hne]; exact e2, e3⟩
  | zip _ _ => exact ZipR.upd1 a3 hp0 hu0
  | hown ds' =>
    obtain ⟨p', xs', g1, e', b1, b5⟩ := a3
    have hne : p' ≠ p := fun e => f3 (e ▸ g1)
    exact ⟨p', xs', g1, e', by rw [upd_ne hne]; exact b1, b5⟩
  | _ => exact a3
/-- the reading of a comprehension, whatever its test -/
theorem lc_run {tg iter : Expr} {scope : Scope} {vs js : List Nat} {g : TG} {un : D → Option (List D)} {elt : Expr} {tt : TT} {cond : Store → List D → (Bool → Prop) → Prop} {P : List D → Store → Prop} {c : Cfg} {F H : Hp} {σ : L2.St}
    (hg : Tgt X.K X.mg g js un) (hj : ∀ j ∈ js, j ∈ vs) (hl : ∀ j ∈ js, j < σ.length)
    (ht : ∀ (c : Cfg) (F H : Hp) (σ : L2.St) (ρb : Store) (ds : List D) (K : Bool → Prop), c.W = (fun _ _ _ _ => False) → c.zs = false → Rel X.K X.mg c F H σ (setW (wipeW ρb vs) js ds) → cond ρb ds K → ∀ Q : Bool → Hp → Prop, (∀ b H' F', Rel X.K X.mg c F' H' σ (setW (wipeW ρb vs) js ds) → K b → Q b H') → tt σ H Q)
    (h : WI X tg iter ρ Y fun items ρ1 => items.length ≤ 40000 ∧ freeOwn ρ1 vs ∧ LcW un (cond ρ1) (eltE X scope (fun ds => setW (wipeW ρ1 vs) js ds) elt) items [] fun ds => P ds ρ1) (R : Rel X.K X.mg c F H σ ρ) (L : Lk X c Y) {Q : VK} (hq : ∀ v H', FreshP X c F σ P v H' → Q v H') :
    tLc (bI X tg iter) g tt (bEb X scope elt) vs σ H Q := by
  refine bI.imp (h c F H σ R L) fun J H1 ⟨F1, ρ1, items, E1, R1, it, hz, fo, hL⟩ => ?_
  intro p hp
  refine ⟨fun i m H' => m = items.length - i ∧ i ≤ items.length ∧ ∃ F' acc xs, Ext F1 F' ∧ Rel X.K X.mg c F' H' σ ρ1 ∧ H' p = some (.lst xs) ∧ Fr1 c F' H' σ ρ1 p ∧ RDs X.K X.mg F' acc xs ∧ acc.length ≤ i ∧ LcW un (cond ρ1) (eltE X scope (fun ds => setW (wipeW ρ1 vs) js ds) elt) (items.drop i) acc fun ds => P ds ρ1,
    ⟨items.length, by simp, Nat.zero_le _, F1, [], [], .refl F1, R1.growH hp, upd_same, fr1_new R1 hp, .nil, Nat.le_refl _, hL⟩, ?_⟩
  rintro i m H' ⟨rfl, hi, F', acc, xs, E2, R2, h2, f2, k2, ha, hL2⟩
  by_cases hlt : i < items.length
  · refine .inr ⟨it.go i items[i] F' H' (by simp [hlt]) E2 R2.aft, fun H3 => ∃ F3 acc3 xs3, Ext F1 F3 ∧ Rel X.K X.mg c F3 H3 σ ρ1 ∧ H3 p = some (.lst xs3) ∧ Fr1 c F3 H3 σ ρ1 p ∧ RDs X.K X.mg F3 acc3 xs3 ∧ acc3.length ≤ i + 1 ∧ LcW un (cond ρ1) (eltE X scope (fun ds => setW (wipeW ρ1 vs) js ds) elt) (items.drop (i + 1)) acc3 fun ds => P ds ρ1,
      fun H3 q => ⟨items.length - (i + 1), by omega, rfl, hlt, q⟩, fun v H3 y => ?_⟩
    rw [List.drop_eq_getElem_cons hlt] at hL2
    obtain ⟨ds, hun, hc⟩ := hL2
    -- the item
    have item : ∃ F3, Ext F' F3 ∧ Rel X.K X.mg c F3 H3 σ ρ1 ∧ H3 p = some (.lst xs) ∧ Fr1 c F3 H3 σ ρ1 p ∧ RD X.K X.mg F3 items[i] v := by
      rcases it.yld i items[i] F' H' v H3 (by simp [hlt]) E2 R2.aft y with ⟨rfl, r⟩ | ⟨q, o, hq, rfl, hno, r⟩
      · exact ⟨F', .refl F', R2, h2, f2, r⟩
      · have hne : p ≠ q := ne_of_none h2 hq
        obtain ⟨g1, g2, g3, g4, g5⟩ := f2
        exact ⟨upd F' q o, .new (R2.aft.fresh0 hq).2.2.1, R2.grow hq hno, by rw [upd_ne hne]; exact h2, ⟨by rw [upd_ne hne]; exact g1, g2, g3, g4, g5⟩, r⟩
    obtain ⟨F3, E3, R3, h3, f3, r3⟩ := item
    have Rb := (R3.intoBlk fo.cl h3 f3).wipe vs
    refine hg F3 H3 items[i] ds v (L2.wipe σ vs) _ R3.aft.sub r3 hun fun us ku => ⟨wipe_set hj, ?_⟩
    have Rb2 := Rb.setAll (js := js) ku fun j hjm => by rw [wipe_length]; exact hl j hjm
    refine ht (c.blk' F3 H3 p xs) F3 H3 _ ρ1 ds _ rfl rfl Rb2 hc _ fun b H4 F4 R4 kb => ?_
    cases b with
    | true =>
      have kb : eltE X scope (fun ds => setW (wipeW ρ1 vs) js ds) elt ds _ := kb
      intro s0 H0 C cl fp
      refine bE.imp (kb s0 H0 C cl fp (c.blk' F3 H3 p xs) F4 H4 _ R4 (lk_blk rfl rfl)) fun y H5 ⟨F5, ρ5, w, R5, r5, e5, d, e6, kd⟩ => ?_
      subst e5 e6
      obtain ⟨R6, h6, f6, E6⟩ := R3.ofBlk h3 f3 fo hj R5
      refine ⟨xs, h6, ?_, F5, acc ++ [d], xs ++ [y], (E2.trans E3).trans E6, ?_, upd_same, ?_, ?_, by rw [List.length_append]; simp; omega, kd⟩
      · rw [k2.len]
        exact Evl.sz_lt (by omega)
      · exact R6.writeFr (noT_lst _) h6 (plain_lst _) f6
      · exact f6
      · exact (k2.ext (E3.trans E6)).append (.cons r5 .nil)
    | false =>
      obtain ⟨R6, h6, f6, E6⟩ := R3.ofBlk h3 f3 fo hj R4
      exact ⟨F4, acc, xs, (E2.trans E3).trans E6, R6, h6, f6, k2.ext (E3.trans E6), by omega, kb⟩
  · have e : i = items.length := by omega
    subst e
    rw [List.drop_length] at hL2
    exact .inl ⟨it.stop F' H' E2 R2.aft, hq _ _ ⟨F', ρ1, p, xs, acc, rfl, h2, f2, E1.trans E2, R2, k2, hL2⟩⟩

theorem ht_none {vs js : List Nat} (c : Cfg) (F H : Hp) (σ : L2.St) (ρb : Store) (ds : List D) (K : Bool → Prop) (_ : c.W = (fun _ _ _ _ => False)) (_ : c.zs = false) (R : Rel X.K X.mg c F H σ (setW (wipeW ρb vs) js ds)) (h : condN (fun ds => setW (wipeW ρb vs) js ds) ds K)
    (Q : Bool → Hp → Prop) (k : ∀ b H' F', Rel X.K X.mg c F' H' σ (setW (wipeW ρb vs) js ds) → K b → Q b H') : tYes σ H Q := k true H F R h
theorem ht_one {scope : Scope} {t : Expr} {vs js : List Nat} (c : Cfg) (F H : Hp) (σ : L2.St) (ρb : Store) (ds : List D) (K : Bool → Prop) (hw : c.W = (fun _ _ _ _ => False)) (hbk : c.zs = false) (R : Rel X.K X.mg c F H σ (setW (wipeW ρb vs) js ds)) (h : condC X scope (fun ds => setW (wipeW ρb vs) js ds) t ds K)
    (Q : Bool → Hp → Prop) (k : ∀ b H' F', Rel X.K X.mg c F' H' σ (setW (wipeW ρb vs) js ds) → K b → Q b H') : bTb X scope t σ H Q := fun s0 H0 C cl fp =>
  bT.imp (h s0 H0 C cl fp c F H σ R (lk_blk hw hbk)) fun b H' ⟨F', ρ', R', e, kb⟩ => by
    subst e
    exact k b H' F' R' kb
theorem Aft.freezeN {c : Cfg} {F H : Hp} (A : Aft c F H) {p : Addr} {o : HO} (ho : NoT o) (hp : H p = some o) (hf : F p = none) (hd : c.hd ≠ some p) (hN : c.N p = none) : Aft c (upd F p o) H := by
  refine ⟨fun a u e => ?_, A.f0.trans (.new hf), A.pr, A.pr0, fun a u e => ?_, A.nn, A.nb, fun q hq => ?_, A.tb.freeze ho⟩
  · by_cases h : a = p
    · subst h
      rw [upd_same] at e
      cases e
      exact hp
    · rw [upd_ne h] at e
      exact A.sub a u e
  · by_cases h : a = p
    · subst h
      exact .inr hN
    · rw [upd_ne h] at e
      exact A.new a u e
  · obtain ⟨a1, a5, u, a3, a4⟩ := A.hand q hq
    have hne : q ≠ p := fun e => by
      subst e
      exact hd hq
    exact ⟨by rw [upd_ne hne]; exact a1, a5, u, a3, Hand.mono _ _ _ (.new hf) a4⟩
theorem Rel.freezeFr {K : PySem.W.Frag} {mg : Str → Option Value} {c : Cfg} {F H : Hp} {σ : L2.St} {ρ : Store} {p : Addr} {o : HO} (R : Rel K mg c F H σ ρ) (ho : PlainO o) (hp : H p = some o) (f : Fr1 c F H σ ρ p) : Rel K mg c (upd F p o) H σ ρ := by
  obtain ⟨f1, f2, f3, f4, f5⟩ := f
  refine ⟨R.aft.freezeN ho.1 hp f1 f3 f5, fun i w hw => ?_, R.apart⟩
  obtain ⟨a1, v, a2, a3⟩ := R.slot i w hw
  refine ⟨a1, v, a2, ?_⟩
  cases w with
  | own ds =>
    obtain ⟨q, ys, e1, e2, e3, e4, e5, e6⟩ := a3
    subst e1
    have hne : q ≠ p := fun e => by
      subst e
      exact f4 i ds hw a2
    exact ⟨q, ys, rfl, e2, by rw [upd_ne hne]; exact e3, e4, e5, e6.ext (.new f1)⟩
  | zip ds es =>
    obtain ⟨z, TI, TO, i1, i2, a, b, xs, ys, e1, e2, ⟨x1, x2, x3, x4, x5⟩, r1, r2, r3, r4⟩ := a3
    have k : ∀ {q : Addr} {φ : Heap → Prop}, XO c F H q φ → XO c (upd F p o) H q φ := fun {q φ} ⟨h1, h2, h3, h4, h5⟩ => by
      have hne : q ≠ p := fun e => by
        rw [e, hp] at h1
        exact ho.2 _ (Option.some.inj h1)
      exact ⟨h1, by rw [upd_ne hne]; exact h2, h3, h4, h5⟩
    exact ⟨z, TI, TO, i1, i2, a, b, xs, ys, e1, e2, ⟨k x1, k x2, k x3, k x4, k x5⟩, sqL_ext (.new f1) r1, r2.ext (.new f1), sqL_ext (.new f1) r3, r4.ext (.new f1)⟩
  | hown ds' =>
    obtain ⟨p', xs', g1, e', b1, b5⟩ := a3
    exact ⟨p', xs', g1, e', b1, b5.ext (.new f1)⟩
  | val d => exact RD.ext (.new f1) a3
  | _ => exact a3
/-- frozen -/
theorem FreshP.vp {c : Cfg} {F0 : Hp} {σ : L2.St} {v : V} {H : Hp} {P : List D → Store → Prop} {P' : Po} (h : FreshP X c F0 σ P v H) (k : ∀ ds ρ, P ds ρ → P' (.val (.lst ds)) ρ) : VP X.K X.mg c σ P' v H := by
  obtain ⟨F', ρ', p, xs, ds, rfl, h1, f, E, R, r, hP⟩ := h
  exact ⟨upd F' p (.lst xs), ρ', .val (.lst ds), R.freezeFr (plain_lst _) h1 f, .lst upd_same (r.ext (.new f.1)), k ds ρ' hP⟩
/-- [elt for tg in iter] -/
theorem we_lc {tg iter elt : Expr} {scope : Scope} {own : List (Str × Nat)} {js : List Nat} {g : TG} {un : D → Option (List D)} {pos : Pos} (hc : X.calm = true) (hN : X.N.Nodup) (ok : BlkOk X.N X.env.scope scope own)
    (hpg : ∀ (s : Shared) (H : Hp) (C : Addr) (cl : List (Str × Addr)) (fp : List Addr), PG (X.blk s H scope (compEnvC scope cl C X.env) fp) tg g) (hg : Tgt X.K X.mg g js un) (hj : ∀ j ∈ js, j ∈ own.map (·.2)) (hl : ∀ j ∈ js, j < X.N.length)
    (h : WI X tg iter ρ Y fun items ρ1 => items.length ≤ 40000 ∧ freeOwn ρ1 (own.map (·.2)) ∧ LcW un (condN (fun ds => setW (wipeW ρ1 (own.map (·.2))) js ds)) (eltE X scope (fun ds => setW (wipeW ρ1 (own.map (·.2))) js ds) elt) items [] fun ds => P (.val (.lst ds)) ρ1)
    (hs : ∀ x, foldedSetIterable iter X.env x = pure x := by intro _; rfl) : WE X (.ListComp elt [⟨tg, iter, [], 0⟩] scope pos) ρ Y P := fun c F H σ R L => bE.inv fun hlen => by
  refine bst (pe_lc (te := bEb X scope elt) hc hN pi_best ok hpg (fun s H C cl fp => pts_nil) (fun s H C cl fp => ⟨fun pins s' σ' H' Q I h => h s H C cl fp pins s' I⟩) hs) ?_
  exact lc_run (P := fun ds ρ1 => P (.val (.lst ds)) ρ1) (vs := own.map (·.2)) hg hj (fun j hj => by rw [hlen]; exact hl j hj) (fun c F H σ ρb ds K => ht_none c F H σ ρb ds K) h R L fun v H' q => q.vp fun ds ρ hP => hP
theorem we_lcIf {tg iter elt : Expr} {t : Expr} {scope : Scope} {own : List (Str × Nat)} {js : List Nat} {g : TG} {un : D → Option (List D)} {pos : Pos} (hc : X.calm = true) (hN : X.N.Nodup) (ok : BlkOk X.N X.env.scope scope own)
    (hpg : ∀ (s : Shared) (H : Hp) (C : Addr) (cl : List (Str × Addr)) (fp : List Addr), PG (X.blk s H scope (compEnvC scope cl C X.env) fp) tg g) (hg : Tgt X.K X.mg g js un) (hj : ∀ j ∈ js, j ∈ own.map (·.2)) (hl : ∀ j ∈ js, j < X.N.length)
    (h : WI X tg iter ρ Y fun items ρ1 => items.length ≤ 40000 ∧ freeOwn ρ1 (own.map (·.2)) ∧ LcW un (condC X scope (fun ds => setW (wipeW ρ1 (own.map (·.2))) js ds) t) (eltE X scope (fun ds => setW (wipeW ρ1 (own.map (·.2))) js ds) elt) items [] fun ds => P (.val (.lst ds)) ρ1)
    (hs : ∀ x, foldedSetIterable iter X.env x = pure x := by intro _; rfl) : WE X (.ListComp elt [⟨tg, iter, [t], 0⟩] scope pos) ρ Y P := fun c F H σ R L => bE.inv fun hlen => by
  refine bst (pe_lc (te := bEb X scope elt) (tt := bTb X scope t) hc hN pi_best ok hpg (fun s H C cl fp => pts_one ⟨fun pins s' σ' H' Q I h => h s H C cl fp pins s' I⟩) (fun s H C cl fp => ⟨fun pins s' σ' H' Q I h => h s H C cl fp pins s' I⟩) hs) ?_
  exact lc_run (P := fun ds ρ1 => P (.val (.lst ds)) ρ1) (vs := own.map (·.2)) hg hj (fun j hj => by rw [hlen]; exact hl j hj) (fun c F H σ ρb ds K => ht_one c F H σ ρb ds K) h R L fun v H' q => q.vp fun ds ρ hP => hP
theorem ws_lc (i : Nat) {y : Str} {py spos : Pos} {tg iter elt : Expr} {scope : Scope} {own : List (Str × Nat)} {js : List Nat} {g : TG} {un : D → Option (List D)} {pos : Pos} (hy : X.N[i]? = some y) (hyl : X.env.scope.names.lookup y = some .local) (hc : X.calm = true) (hN : X.N.Nodup) (ok : BlkOk X.N X.env.scope scope own)
    (hpg : ∀ (s : Shared) (H : Hp) (C : Addr) (cl : List (Str × Addr)) (fp : List Addr), PG (X.blk s H scope (compEnvC scope cl C X.env) fp) tg g) (hg : Tgt X.K X.mg g js un) (hj : ∀ j ∈ js, j ∈ own.map (·.2)) (hl : ∀ j ∈ js, j < X.N.length)
    (h : WI X tg iter ρ Y fun items ρ1 => items.length ≤ 40000 ∧ freeOwn ρ1 (own.map (·.2)) ∧ LcW un (condN (fun ds => setW (wipeW ρ1 (own.map (·.2))) js ds)) (eltE X scope (fun ds => setW (wipeW ρ1 (own.map (·.2))) js ds) elt) items [] fun ds => T.nx (ρ1.set i (some (.val (.lst ds)))))
    (hsw : swapsWith (.ListComp elt [⟨tg, iter, [], 0⟩] scope pos) (some (.Name y py)) spos.line X.env = pure true)
    (hs : ∀ x, foldedSetIterable iter X.env x = pure x := by intro _; rfl) : WS X (.Assign [.Name y py] (.ListComp elt [⟨tg, iter, [], 0⟩] scope pos) spos) ρ Y T := fun c F H σ nb R L => bS.inv fun hlen => by
  refine bstS (ps_setLc (te := bEb X scope elt) hc hN hy hyl hsw pi_best ok hpg (fun s H C cl fp => pts_nil) (fun s H C cl fp => ⟨fun pins s' σ' H' Q I h => h s H C cl fp pins s' I⟩) hs) ?_
  refine lc_run (P := fun ds ρ1 => T.nx (ρ1.set i (some (.val (.lst ds))))) (vs := own.map (·.2)) hg hj (fun j hj => by rw [hlen]; exact hl j hj) (fun c F H σ ρb ds K => ht_none c F H σ ρb ds K) h R L fun v H' q => ?_
  obtain ⟨F', ρ', w, R', r', d, e, hP⟩ := q.vp (P' := fun w ρ => ∃ d, w = .val (.lst d) ∧ T.nx (ρ.set i (some (.val (.lst d))))) fun ds ρ hP => ⟨ds, rfl, hP⟩
  subst e
  exact ⟨F', _, R'.setVal (by rw [hlen]; exact lt_of_ix hy) r', hP⟩
theorem ws_lcIf (i : Nat) {y : Str} {py spos : Pos} {tg iter elt : Expr} {t : Expr} {scope : Scope} {own : List (Str × Nat)} {js : List Nat} {g : TG} {un : D → Option (List D)} {pos : Pos} (hy : X.N[i]? = some y) (hyl : X.env.scope.names.lookup y = some .local) (hc : X.calm = true) (hN : X.N.Nodup) (ok : BlkOk X.N X.env.scope scope own)
    (hpg : ∀ (s : Shared) (H : Hp) (C : Addr) (cl : List (Str × Addr)) (fp : List Addr), PG (X.blk s H scope (compEnvC scope cl C X.env) fp) tg g) (hg : Tgt X.K X.mg g js un) (hj : ∀ j ∈ js, j ∈ own.map (·.2)) (hl : ∀ j ∈ js, j < X.N.length)
    (h : WI X tg iter ρ Y fun items ρ1 => items.length ≤ 40000 ∧ freeOwn ρ1 (own.map (·.2)) ∧ LcW un (condC X scope (fun ds => setW (wipeW ρ1 (own.map (·.2))) js ds) t) (eltE X scope (fun ds => setW (wipeW ρ1 (own.map (·.2))) js ds) elt) items [] fun ds => T.nx (ρ1.set i (some (.val (.lst ds)))))
    (hsw : swapsWith (.ListComp elt [⟨tg, iter, [t], 0⟩] scope pos) (some (.Name y py)) spos.line X.env = pure true)
    (hs : ∀ x, foldedSetIterable iter X.env x = pure x := by intro _; rfl) : WS X (.Assign [.Name y py] (.ListComp elt [⟨tg, iter, [t], 0⟩] scope pos) spos) ρ Y T := fun c F H σ nb R L => bS.inv fun hlen => by
  refine bstS (ps_setLc (te := bEb X scope elt) (tt := bTb X scope t) hc hN hy hyl hsw pi_best ok hpg (fun s H C cl fp => pts_one ⟨fun pins s' σ' H' Q I h => h s H C cl fp pins s' I⟩) (fun s H C cl fp => ⟨fun pins s' σ' H' Q I h => h s H C cl fp pins s' I⟩) hs) ?_
  refine lc_run (P := fun ds ρ1 => T.nx (ρ1.set i (some (.val (.lst ds))))) (vs := own.map (·.2)) hg hj (fun j hj => by rw [hlen]; exact hl j hj) (fun c F H σ ρb ds K => ht_one c F H σ ρb ds K) h R L fun v H' q => ?_
  obtain ⟨F', ρ', w, R', r', d, e, hP⟩ := q.vp (P' := fun w ρ => ∃ d, w = .val (.lst d) ∧ T.nx (ρ.set i (some (.val (.lst d))))) fun ds ρ hP => ⟨ds, rfl, hP⟩
  subst e
  exact ⟨F', _, R'.setVal (by rw [hlen]; exact lt_of_ix hy) r', hP⟩
theorem ws_lcO (i : Nat) {y : Str} {py spos : Pos} {tg iter elt : Expr} {scope : Scope} {own : List (Str × Nat)} {js : List Nat} {g : TG} {un : D → Option (List D)} {pos : Pos} (hy : X.N[i]? = some y) (hyl : X.env.scope.names.lookup y = some .local) (hc : X.calm = true) (hN : X.N.Nodup) (ok : BlkOk X.N X.env.scope scope own)
    (hpg : ∀ (s : Shared) (H : Hp) (C : Addr) (cl : List (Str × Addr)) (fp : List Addr), PG (X.blk s H scope (compEnvC scope cl C X.env) fp) tg g) (hg : Tgt X.K X.mg g js un) (hj : ∀ j ∈ js, j ∈ own.map (·.2)) (hl : ∀ j ∈ js, j < X.N.length)
    (h : WI X tg iter ρ Y fun items ρ1 => items.length ≤ 40000 ∧ freeOwn ρ1 (own.map (·.2)) ∧ LcW un (condN (fun ds => setW (wipeW ρ1 (own.map (·.2))) js ds)) (eltE X scope (fun ds => setW (wipeW ρ1 (own.map (·.2))) js ds) elt) items [] fun ds => T.nx (ρ1.set i (some (.own ds))))
    (hsw : swapsWith (.ListComp elt [⟨tg, iter, [], 0⟩] scope pos) (some (.Name y py)) spos.line X.env = pure true)
    (hs : ∀ x, foldedSetIterable iter X.env x = pure x := by intro _; rfl) : WS X (.Assign [.Name y py] (.ListComp elt [⟨tg, iter, [], 0⟩] scope pos) spos) ρ Y T := fun c F H σ nb R L => bS.inv fun hlen => by
  refine bstS (ps_setLc (te := bEb X scope elt) hc hN hy hyl hsw pi_best ok hpg (fun s H C cl fp => pts_nil) (fun s H C cl fp => ⟨fun pins s' σ' H' Q I h => h s H C cl fp pins s' I⟩) hs) ?_
  refine lc_run (P := fun ds ρ1 => T.nx (ρ1.set i (some (.own ds)))) (vs := own.map (·.2)) hg hj (fun j hj => by rw [hlen]; exact hl j hj) (fun c F H σ ρb ds K => ht_none c F H σ ρb ds K) h R L fun v H' q => ?_
  obtain ⟨F', ρ', p, xs, ds, rfl, h1, f, E, R', r, hP⟩ := q
  exact ⟨F', _, R'.setOwn (by rw [hlen]; exact lt_of_ix hy) h1 f r, hP⟩
theorem ws_lcOIf (i : Nat) {y : Str} {py spos : Pos} {tg iter elt : Expr} {t : Expr} {scope : Scope} {own : List (Str × Nat)} {js : List Nat} {g : TG} {un : D → Option (List D)} {pos : Pos} (hy : X.N[i]? = some y) (hyl : X.env.scope.names.lookup y = some .local) (hc : X.calm = true) (hN : X.N.Nodup) (ok : BlkOk X.N X.env.scope scope own)
    (hpg : ∀ (s : Shared) (H : Hp) (C : Addr) (cl : List (Str × Addr)) (fp : List Addr), PG (X.blk s H scope (compEnvC scope cl C X.env) fp) tg g) (hg : Tgt X.K X.mg g js un) (hj : ∀ j ∈ js, j ∈ own.map (·.2)) (hl : ∀ j ∈ js, j < X.N.length)
    (h : WI X tg iter ρ Y fun items ρ1 => items.length ≤ 40000 ∧ freeOwn ρ1 (own.map (·.2)) ∧ LcW un (condC X scope (fun ds => setW (wipeW ρ1 (own.map (·.2))) js ds) t) (eltE X scope (fun ds => setW (wipeW ρ1 (own.map (·.2))) js ds) elt) items [] fun ds => T.nx (ρ1.set i (some (.own ds))))
    (hsw : swapsWith (.ListComp elt [⟨tg, iter, [t], 0⟩] scope pos) (some (.Name y py)) spos.line X.env = pure true)
    (hs : ∀ x, foldedSetIterable iter X.env x = pure x := by intro _; rfl) : WS X (.Assign [.Name y py] (.ListComp elt [⟨tg, iter, [t], 0⟩] scope pos) spos) ρ Y T := fun c F H σ nb R L => bS.inv fun hlen => by
  refine bstS (ps_setLc (te := bEb X scope elt) (tt := bTb X scope t) hc hN hy hyl hsw pi_best ok hpg (fun s H C cl fp => pts_one ⟨fun pins s' σ' H' Q I h => h s H C cl fp pins s' I⟩) (fun s H C cl fp => ⟨fun pins s' σ' H' Q I h => h s H C cl fp pins s' I⟩) hs) ?_
  refine lc_run (P := fun ds ρ1 => T.nx (ρ1.set i (some (.own ds)))) (vs := own.map (·.2)) hg hj (fun j hj => by rw [hlen]; exact hl j hj) (fun c F H σ ρb ds K => ht_one c F H σ ρb ds K) h R L fun v H' q => ?_
  obtain ⟨F', ρ', p, xs, ds, rfl, h1, f, E, R', r, hP⟩ := q
  exact ⟨F', _, R'.setOwn (by rw [hlen]; exact lt_of_ix hy) h1 f r, hP⟩
end
end PL

namespace PL
open PySem PySem.Spec PyProof.Rows L2
variable [Hand]
section
variable {X : Cx} {ρ : Store} {Y : Str → Store → Prop} {P : Po} {T : Pst}

/-! ### for -/
theorem bB.impI {st : List Stmt} {σ : L2.St} {H : Hp} {D D' : Ends} (h : bB X st D σ H) (h1 : ∀ σ H, σ.length = X.N.length → D.nx σ H → D'.nx σ H) (h2 : ∀ v H, D.rt v H → D'.rt v H) (h3 : ∀ σ H, D.bk σ H → D'.bk σ H) (h4 : ∀ σ H, σ.length = X.N.length → D.ct σ H → D'.ct σ H) : bB X st D' σ H := fun pins s I =>
  thn (h pins s I) fun f s1 q => by
    cases f with
    | next =>
      obtain ⟨σ', H', I', q⟩ := q
      exact ⟨σ', H', I', h1 _ _ I'.len q⟩
    | brk =>
      obtain ⟨σ', H', I', q⟩ := q
      exact ⟨σ', H', I', h3 _ _ q⟩
    | cont =>
      obtain ⟨σ', H', I', q⟩ := q
      exact ⟨σ', H', I', h4 _ _ I'.len q⟩
    | ret u =>
      obtain ⟨v, σ', H', I', r, q⟩ := q
      exact ⟨v, σ', H', I', r, h2 _ _ q⟩
theorem ws_for {tg iter : Expr} {body : List Stmt} {pos : Pos} {js : List Nat} {g : TG} {un : D → Option (List D)} (hc : X.calm = true) (hpg : PG X tg g) (hg : Tgt X.K X.mg g js un) (hl : ∀ j ∈ js, j < X.N.length)
    (h : WI X tg iter ρ Y fun items ρ1 => ∃ J : Nat → Store → Prop, J 0 ρ1 ∧ (∀ i d ρ2, items[i]? = some d → J i ρ2 → ∃ ds, un d = some ds ∧ WB X body (setW ρ2 js ds) Y { T with nx := J (i + 1), ct := J (i + 1), bk := T.nx }) ∧ (∀ ρ2, J items.length ρ2 → T.nx ρ2))
    (hs : ∀ x, foldedSetIterable iter X.env x = pure x := by intro _; rfl) : WS X (.For tg iter body [] pos) ρ Y T := fun c F H σ nb R L => bS.inv fun hlen => by
  refine bstS (ps_for L.1.2.1 hc pi_best hpg pss_best hs) ?_
  refine bI.imp (h c F H σ R L) fun J H1 ⟨F1, ρ1, items, E1, R1, it, V, v0, vs, vn⟩ => ?_
  have f0 : Ext c.F0 F1 := R1.aft.f0
  have fn : ∀ a o, F1 a = some o → c.F0 a = some o ∨ c.N a = none := R1.aft.new
  have L' : Lk X (c.at F1) Y := L.into f0 fn
  refine ⟨fun i m σ' H' => σ'.length = X.N.length ∧ i ≤ items.length ∧ m = items.length - i ∧ ∃ F' ρ', Rel X.K X.mg (c.at F1) F' H' σ' ρ' ∧ V i ρ', ⟨items.length, hlen, Nat.zero_le _, rfl, F1, ρ1, R1.into, v0⟩, fun i m σ2 H2 ⟨hl2, hi, hm, F2, ρ2, R2, hV⟩ => ?_⟩
  by_cases hlt : i < items.length
  · right
    have hd : items[i]? = some items[i] := List.getElem?_eq_getElem hlt
    have e12 : Ext F1 F2 := R2.aft.f0
    have A2 : Aft c F2 H2 := (R2.back f0 fn).aft
    refine ⟨it.go i _ F2 H2 hd e12 A2, fun σ' H' => σ'.length = X.N.length ∧ ∃ F' ρ', Rel X.K X.mg (c.at F1) F' H' σ' ρ' ∧ V (i + 1) ρ', fun σ' H' ⟨hl', F', ρ', R', hV'⟩ => ⟨items.length - (i + 1), by omega, hl', by omega, rfl, F', ρ', R', hV'⟩, fun x H3 y => ?_⟩
    obtain ⟨ds, hu, hb⟩ := vs i _ ρ2 hd hV
    have key : ∀ F3, Ext F2 F3 → Rel X.K X.mg (c.at F1) F3 H3 σ2 ρ2 → RD X.K X.mg F3 items[i] x → g x σ2 H3 fun σ4 H4 => bB X body { nx := fun σ' H' => σ'.length = X.N.length ∧ ∃ F' ρ', Rel X.K X.mg (c.at F1) F' H' σ' ρ' ∧ V (i + 1) ρ', rt := (EndsOf X.K X.mg c T).rt, bk := (EndsOf X.K X.mg c T).nx, ct := fun σ' H' => σ'.length = X.N.length ∧ ∃ F' ρ', Rel X.K X.mg (c.at F1) F' H' σ' ρ' ∧ V (i + 1) ρ' } σ4 H4 := fun F3 e23 R3 r3 => by
      refine hg F3 H3 _ ds x σ2 _ R3.aft.sub r3 hu fun us ru => ?_
      have R4 := R3.setAll (js := js) ru fun j hj => by rw [hl2]; exact hl j hj
      refine bB.impI (hb (c.at F1) F3 H3 _ nb R4 L') (fun σ' H' hl' ⟨F', ρ', R', q⟩ => ⟨hl', F', ρ', R', q⟩) (fun v H' ⟨F', d, A', r', q⟩ => ⟨F', d, A'.back f0 fn, r', q⟩) (fun σ' H' ⟨F', ρ', R', q⟩ => ⟨F', ρ', R'.back f0 fn, q⟩) (fun σ' H' hl' ⟨F', ρ', R', q⟩ => ⟨hl', F', ρ', R', q⟩)
    rcases it.yld i _ F2 H2 x H3 hd e12 A2 y with ⟨rfl, r⟩ | ⟨p, o, hp, rfl, hno, r⟩
    · exact key F2 (.refl _) R2 r
    · exact key (upd F2 p o) (.new (R2.aft.fresh0 hp).2.2.1) (R2.grow hp hno) r
  · left
    have e : i = items.length := by omega
    subst e
    exact ⟨it.stop F2 H2 R2.aft.f0 (R2.back f0 fn).aft, F2, ρ2, R2.back f0 fn, vn ρ2 hV⟩

/-! ### what is walked: zip, range -/
theorem RWs.two {K : PySem.W.Frag} {mg : Str → Option Value} {c : Cfg} {F H : Hp} {σ : L2.St} {d e : D} {vs : List V} (h : RWs K mg c F H σ [.val d, .val e] vs) : ∃ x y, vs = [x, y] ∧ RD K mg F d x ∧ RD K mg F e y := by
  cases h with
  | cons p q =>
    cases q with
    | cons p' q' =>
      cases q'
      exact ⟨_, _, rfl, p, p'⟩
theorem RWs.one {K : PySem.W.Frag} {mg : Str → Option Value} {c : Cfg} {F H : Hp} {σ : L2.St} {d : D} {vs : List V} (h : RWs K mg c F H σ [.val d] vs) : ∃ x, vs = [x] ∧ RD K mg F d x := by
  cases h with
  | cons p q =>
    cases q
    exact ⟨_, rfl, p⟩
theorem wi_zipT {e e2 : Expr} {P : List D → Store → Prop} {p pos tpos : Pos} {elts : List Expr} {kk : Nat} (hg : Gl X "zip") (hm : X.mg "zip" = none) (h : WA X [e, e2] ρ Y fun ws ρ1 => ∃ ds es, ws = [.val (.tup ds), .val (.tup es)] ∧ P (List.zipWith (fun x y => D.tup [x, y]) ds es) ρ1)
    (hs : starEach [e, e2] X.env = (false, eval e X.env) :: starEach [e2] X.env := by rfl) (hpl : (backTo pos (starEach [e2] X.env)).any (·.1) = false := by rfl) : WI X (.Tuple elts kk tpos) (.Call (.Name "zip" p) [e, e2] [] pos) ρ Y P := fun c F H σ R L => by
  refine bstI (RZ.pi_zipA hg hm pa_best hs hpl) ?_
  refine (h c F H σ R L).imp fun vs H1 ⟨F1, ρ1, ws, E1, R1, r1, ds, es, e1, hP⟩ => ?_
  subst e1
  obtain ⟨x, y, rfl, q1, q2⟩ := r1.two
  obtain ⟨a, xs, rfl, a1, a2⟩ := RD.tup_inv q1
  obtain ⟨b, ys, rfl, b1, b2⟩ := RD.tup_inv q2
  exact ⟨a, b, xs, ys, rfl, .inr ⟨sqT_ext R1.aft.sub a1, sqT_ext R1.aft.sub b1, F1, ρ1, _, E1, R1, isIt_zipT a1 a2 b1 b2, hP⟩⟩
theorem wi_zipL {e e2 : Expr} {P : List D → Store → Prop} {p pos tpos : Pos} {elts : List Expr} {kk : Nat} (hg : Gl X "zip") (hm : X.mg "zip" = none) (h : WA X [e, e2] ρ Y fun ws ρ1 => ∃ ds es, ws = [.val (.lst ds), .val (.lst es)] ∧ P (List.zipWith (fun x y => D.tup [x, y]) ds es) ρ1)
    (hs : starEach [e, e2] X.env = (false, eval e X.env) :: starEach [e2] X.env := by rfl) (hpl : (backTo pos (starEach [e2] X.env)).any (·.1) = false := by rfl) : WI X (.Tuple elts kk tpos) (.Call (.Name "zip" p) [e, e2] [] pos) ρ Y P := fun c F H σ R L => by
  refine bstI (RZ.pi_zipA hg hm pa_best hs hpl) ?_
  refine (h c F H σ R L).imp fun vs H1 ⟨F1, ρ1, ws, E1, R1, r1, ds, es, e1, hP⟩ => ?_
  subst e1
  obtain ⟨x, y, rfl, q1, q2⟩ := r1.two
  obtain ⟨a, xs, rfl, a1, a2⟩ := RD.lst_inv q1
  obtain ⟨b, ys, rfl, b1, b2⟩ := RD.lst_inv q2
  exact ⟨a, b, xs, ys, rfl, .inl ⟨sqL_ext R1.aft.sub (.inl (.inl a1)), sqL_ext R1.aft.sub (.inl (.inl b1)), F1, ρ1, _, E1, R1, isIt_zip (.inl (.inl a1)) a2 (.inl (.inl b1)) b2, hP⟩⟩
theorem wi_range1 {tg a : Expr} {P : List D → Store → Prop} {p pos : Pos} (hg : Gl X "range") (hm : X.mg "range" = none) (h : WE X a ρ Y fun w ρ1 => ∃ j : Int, w = .val (.int j) ∧ -(2 ^ 62) ≤ j ∧ j < 2 ^ 62 ∧ P ((List.range j.toNat).map fun (k : Nat) => D.int (0 + k)) ρ1)
    (hs : starEach [a] X.env = [(false, eval a X.env)] := by rfl) : WI X tg (.Call (.Name "range" p) [a] [] pos) ρ Y P := fun c F H σ R L => by
  refine bstI (pi_range1 hg hm (pa_cons pe_best pa_nil (by rw [hs]; rfl)) hs) ?_
  refine (h.run R L).imp fun v H1 ⟨F1, ρ1, w, E1, R1, r1, j, e1, h1, h2, hP⟩ => ?_
  subst e1
  exact ⟨j, by rw [RD.int_inv r1], h1, h2, F1, ρ1, _, E1, R1, isIt_rng, hP⟩

/-! ### powers, lists and tuples joined, cut -/
theorem we_pow {a b : Expr} {pos : Pos} (h : WE X a ρ Y fun x ρ1 => WE X b ρ1 Y fun y ρ2 => ∃ i j, x = .val (.int i) ∧ y = .val (.int j) ∧ CPow i j ∧ P (.val (.int (i ^ j.toNat))) ρ2) : WE X (.BinOp a .Pow b pos) ρ Y P := we_binI op_pow h
/-- lists -/
def lstW (ρ : Store) : W → Option (List D)
  | .val (.lst ds) => some ds
  | .loc i => match ρ[i]? with
    | some (some (.own ds)) => some ds
    | _ => none
  | _ => none
theorem lstW_h {K : PySem.W.Frag} {mg : Str → Option Value} {c : Cfg} {F H : Hp} {σ : L2.St} {w : W} {v : V} {ds : List D} (R : Rel K mg c F H σ ρ) (r : RW K mg c F H σ w v) (e : lstW ρ w = some ds) : ∃ p xs, v = .ref p ∧ H p = some (.lst xs) ∧ RDs K mg F ds xs := by
  cases w with
  | val d =>
    cases d with
    | lst es =>
      cases e
      obtain ⟨p, xs, e1, e2, e3⟩ := RD.lst_inv r
      exact ⟨p, xs, e1, R.aft.sub _ _ e2, e3⟩
    | _ => cases e
  | loc i =>
    cases q : ρ[i]? with
    | none =>
      simp only [lstW, q] at e
      cases e
    | some o =>
      cases o with
      | none =>
        simp only [lstW, q] at e
        cases e
      | some w' =>
        cases w' with
        | own es =>
          simp only [lstW, q] at e
          cases e
          obtain ⟨p, xs, e1, e2, _, _, _, e3⟩ := R.loc (show σ[i]? = some (some v) from r) q
          exact ⟨p, xs, e1, e2, e3⟩
        | _ =>
          simp only [lstW, q] at e
          cases e
  | own ds => cases e
  | hnd => cases e
  | zip _ _ => cases e
  | hown _ => cases e
theorem lstW_st {w : W} {ds : List D} (e : lstW ρ w = some ds) : w.st = true := by
  cases w with
  | own ds => cases e
  | zip _ _ => cases e
  | hown _ => cases e
  | _ => rfl
theorem we_cat {a b : Expr} {pos : Pos} (h : WE X a ρ Y fun x ρ1 => WE X b ρ1 Y fun y ρ2 => ∃ ds es, lstW ρ2 x = some ds ∧ lstW ρ2 y = some es ∧ ds.length + es.length ≤ 100000 ∧ P (.val (.lst (ds ++ es))) ρ2) : WE X (.BinOp a .Add b pos) ρ Y P := fun c F H σ R L => by
  refine bst (pe_op op_cat pe_best pe_best) ?_
  refine (h.run R L).imp fun v H1 ⟨F1, ρ1, w, _, R1, r1, hb⟩ => (hb.run R1 L).imp fun u H2 ⟨F2, ρ2, w2, E2, R2, r2, ds, es, e1, e2, hz, hP⟩ => ?_
  obtain ⟨p, xs, rfl, h1, k1⟩ := lstW_h R2 (r1.keep (H' := H2) (lstW_st e1) E2) e1
  obtain ⟨q, ys, rfl, h2, k2⟩ := lstW_h R2 r2 e2
  refine ⟨p, q, xs, ys, rfl, rfl, h1, h2, by rw [k1.len, k2.len]; exact Evl.sz_of hz, fun l hl => ?_⟩
  obtain ⟨R3, r3⟩ := R2.lstNew hl (k1.append k2)
  exact vp R3 r3 hP
theorem RDs.flat {K : PySem.W.Frag} {mg : Str → Option Value} {F : Hp} {ds : List D} {vs : List V} (h : RDs K mg F ds vs) : ∀ n : Nat, RDs K mg F (List.replicate n ds).flatten (List.replicate n vs).flatten
  | 0 => .nil
  | n + 1 => by
    rw [List.replicate_succ, List.replicate_succ, List.flatten_cons, List.flatten_cons]
    exact h.append (RDs.flat h n)
theorem we_rep {a b : Expr} {pos : Pos} (h : WE X a ρ Y fun x ρ1 => WE X b ρ1 Y fun y ρ2 => ∃ ds k, lstW ρ2 x = some ds ∧ y = .val (.int k) ∧ -(2 ^ 63) ≤ k ∧ k < 2 ^ 63 ∧ ds.length * k.toNat ≤ 100000 ∧ P (.val (.lst (List.replicate k.toNat ds).flatten)) ρ2) : WE X (.BinOp a .Mult b pos) ρ Y P := fun c F H σ R L => by
  refine bst (pe_op op_rep pe_best pe_best) ?_
  refine (h.run R L).imp fun v H1 ⟨F1, ρ1, w, _, R1, r1, hb⟩ => (hb.run R1 L).imp fun u H2 ⟨F2, ρ2, w2, E2, R2, r2, ds, k, e1, e2, hl, hu, hz, hP⟩ => ?_
  subst e2
  obtain ⟨p, xs, rfl, h1, k1⟩ := lstW_h R2 (r1.keep (H' := H2) (lstW_st e1) E2) e1
  refine ⟨p, k, xs, rfl, RD.int_inv r2, h1, hl, hu, by rw [k1.len]; exact Evl.sz_of hz, fun l hl => ?_⟩
  obtain ⟨R3, r3⟩ := R2.lstNew hl (k1.flat k.toNat)
  exact vp R3 r3 hP
theorem we_catT {a b : Expr} {pos : Pos} (h : WE X a ρ Y fun x ρ1 => WE X b ρ1 Y fun y ρ2 => ∃ ds es, x = .val (.tup ds) ∧ y = .val (.tup es) ∧ ds.length + es.length ≤ 100000 ∧ P (.val (.tup (ds ++ es))) ρ2) : WE X (.BinOp a .Add b pos) ρ Y P := fun c F H σ R L => by
  refine bst (pe_op op_catA pe_best pe_best) ?_
  refine (h.run R L).imp fun v H1 ⟨F1, ρ1, w, _, R1, r1, hb⟩ => (hb.run R1 L).imp fun u H2 ⟨F2, ρ2, w2, E2, R2, r2, ds, es, e1, e2, hz, hP⟩ => ?_
  subst e1 e2
  obtain ⟨p, xs, rfl, h1, k1⟩ := RD.tup_inv (RD.ext E2 r1)
  obtain ⟨q, ys, rfl, h2, k2⟩ := RD.tup_inv r2
  refine ⟨p, q, xs, ys, rfl, rfl, sqT_ext R2.aft.sub h1, sqT_ext R2.aft.sub h2, by rw [k1.len, k2.len]; exact Evl.sz_of hz, fun e => ?_, fun _ e => ?_, fun _ _ l hl => ?_⟩
  · subst e
    cases k1
    exact vp R2 (.tup h2 k2) hP
  · subst e
    cases k2
    rw [List.append_nil] at hP
    exact vp R2 (.tup h1 k1) hP
  · obtain ⟨R3, r3⟩ := R2.tupNew hl (k1.append k2)
    exact vp R3 r3 hP
/-- a slice's items -/
def cutD (ds : List D) (lo hi : Option Int) : List D := (ds.drop (HT.sIx ds.length 0 lo)).take (HT.sIx ds.length ds.length hi - HT.sIx ds.length 0 lo)
theorem RDs.cut {K : PySem.W.Frag} {mg : Str → Option Value} {F : Hp} {ds : List D} {vs : List V} {lo hi : Option Int} (h : RDs K mg F ds vs) : RDs K mg F (cutD ds lo hi) (cutV vs lo hi) := by
  unfold cutD cutV
  rw [h.len]
  exact (h.drop _).take _
theorem cut_whole {ds : List D} {lo hi : Option Int} (h : HT.sIx ds.length 0 lo = 0 ∧ HT.sIx ds.length ds.length hi = ds.length) : cutD ds lo hi = ds := by
  unfold cutD
  rw [h.1, h.2]
  simp
/-- a slice's part -/
def WPt (X : Cx) (e : Option Expr) (ρ : Store) (Y : Str → Store → Prop) (P : Option Int → Store → Prop) : Prop := match e with
  | none => P none ρ
  | some e => WE X e ρ Y fun w ρ1 => ∃ i, w = .val (.int i) ∧ P (some i) ρ1
def bO (X : Cx) (e : Option Expr) : TO := match e with
  | none => tNoPart
  | some e => tPart (bE X e)
theorem po_best {e : Option Expr} : PO X e (bO X e) := by
  cases e with
  | none => exact po_none
  | some e => exact po_some pe_best
theorem WPt.run {e : Option Expr} {P : Option Int → Store → Prop} {c : Cfg} {F H : Hp} {σ : L2.St} (h : WPt X e ρ Y P) (R : Rel X.K X.mg c F H σ ρ) (L : Lk X c Y) {Q : Option Int → Hp → Prop} (hq : ∀ o F' H' ρ', Ext F F' → Rel X.K X.mg c F' H' σ ρ' → P o ρ' → Q o H') : bO X e σ H Q := by
  cases e with
  | none => exact hq none F H ρ (.refl F) R h
  | some e =>
    refine (WE.run h R L).imp fun v H1 ⟨F1, ρ1, w, E1, R1, r1, i, e1, hP⟩ => ?_
    subst e1
    exact ⟨i, RD.int_inv r1, hq (some i) F1 H1 ρ1 E1 R1 hP⟩
theorem we_slT {e : Expr} {lo hi : Option Expr} {pos p2 : Pos} (h : WE X e ρ Y fun x ρ1 => WPt X lo ρ1 Y fun l ρ2 => WPt X hi ρ2 Y fun u ρ3 => ∃ ds, x = .val (.tup ds) ∧ P (.val (.tup (cutD ds l u))) ρ3) : WE X (.Subscript e (.Slice lo hi none p2) pos) ρ Y P := fun c F H σ R L => by
  refine bst (pe_slice sl_tupA pe_best po_best po_best) ?_
  refine (h.run R L).imp fun v H1 ⟨F1, ρ1, w, _, R1, r1, hl⟩ => hl.run R1 L fun l F2 H2 ρ2 E2 R2 hu => hu.run R2 L fun u F3 H3 ρ3 E3 R3 ⟨ds, e1, hP⟩ => ?_
  subst e1
  obtain ⟨p, xs, rfl, h1, k1⟩ := RD.tup_inv (RD.ext (E2.trans E3) r1)
  refine ⟨p, xs, rfl, sqT_ext R3.aft.sub h1, fun hw => ?_, fun hw q hq => ?_⟩
  · rw [k1.len] at hw
    rw [cut_whole hw] at hP
    exact vp R3 (.tup h1 k1) hP
  · obtain ⟨R4, r4⟩ := R3.tupNew hq k1.cut
    exact vp R4 r4 hP
theorem we_slL {e : Expr} {lo hi : Option Expr} {pos p2 : Pos} (h : WE X e ρ Y fun x ρ1 => WPt X lo ρ1 Y fun l ρ2 => WPt X hi ρ2 Y fun u ρ3 => ∃ ds, (x = .val (.lst ds) ∨ x = .val (.ro ds)) ∧ P (.val (.lst (cutD ds l u))) ρ3) : WE X (.Subscript e (.Slice lo hi none p2) pos) ρ Y P := fun c F H σ R L => by
  refine bst (pe_slice sl_list pe_best po_best po_best) ?_
  refine (h.run R L).imp fun v H1 ⟨F1, ρ1, w, _, R1, r1, hl⟩ => hl.run R1 L fun l F2 H2 ρ2 E2 R2 hu => hu.run R2 L fun u F3 H3 ρ3 E3 R3 ⟨ds, e1, hP⟩ => ?_
  have r2 : ∃ a xs, v = .ref a ∧ SqL X.K F3 a xs ∧ RDs X.K X.mg F3 ds xs := by
    rcases e1 with rfl | rfl
    · obtain ⟨a, xs, q1, q2, q3⟩ := RD.lst_inv (RD.ext (E2.trans E3) r1)
      exact ⟨a, xs, q1, .inl (.inl q2), q3⟩
    · have r1' : RD X.K X.mg F3 (.ro ds) v := RD.ext (E2.trans E3) r1
      cases r1' with
      | ro h k => exact ⟨_, _, rfl, h, k⟩
  obtain ⟨a, xs, rfl, h1, k1⟩ := r2
  refine ⟨a, xs, rfl, sqL_ext R3.aft.sub h1, fun q hq => ?_⟩
  obtain ⟨R4, r4⟩ := R3.lstNew hq k1.cut
  exact vp R4 r4 hP

/-! ### in, is None -/
def scs : List D → Option (List V)
  | [] => some []
  | d :: ds => match d.sc, scs ds with
    | some v, some vs => some (v :: vs)
    | _, _ => none
theorem sc_flat {d : D} {v : V} (e : d.sc = some v) : flatV v = true := by
  cases d <;> first | (cases e; rfl) | cases e
theorem scs_flat : ∀ {ds : List D} {us : List V}, scs ds = some us → us.all flatV = true
  | [], us, e => by
    cases e
    rfl
  | d :: ds, us, e => by
    unfold scs at e
    split at e
    · rename_i v vs q1 q2
      cases e
      rw [List.all_cons, sc_flat q1, scs_flat q2]
      rfl
    · cases e
theorem RDs.scs {K : PySem.W.Frag} {mg : Str → Option Value} {F : Hp} : ∀ {ds : List D} {vs us : List V}, RDs K mg F ds vs → PL.scs ds = some us → vs = us
  | _, _, us, .nil, e => by
    cases e
    rfl
  | d :: ds, _, us, .cons h k, e => by
    unfold PL.scs at e
    split at e
    · rename_i v vs q1 q2
      cases e
      rw [RD.sc h q1, RDs.scs k q2]
    · cases e
theorem wt_notIn {a b : Expr} {pos : Pos} {P : Pb} (hm : behindInMarks .NotIn b = false) (h : WE X a ρ Y fun x ρ1 => WE X b ρ1 Y fun y ρ2 => ∃ d u ds us, x = .val d ∧ d.sc = some u ∧ seqW ρ2 y = some ds ∧ scs ds = some us ∧ P (!inV u us) ρ2) : WT X (.Compare a [.NotIn] [b] pos) ρ Y P := fun c F H σ R L => by
  refine bstT (pt_cmpR op_notIn_seq pe_best pe_best hm) ?_
  refine (h.run R L).imp fun v H1 ⟨F1, ρ1, w, _, R1, r1, hb⟩ => (hb.run R1 L).imp fun u H2 ⟨F2, ρ2, w2, _, R2, r2, d, z, ds, us, e1, s1, e2, s2, hP⟩ => ?_
  subst e1
  have k1 := RD.sc r1 s1
  subst k1
  obtain ⟨p, xs, rfl, hq, hr⟩ := seqW_sq R2 r2 e2
  have k2 := hr.scs s2
  subst k2
  exact ⟨p, xs, rfl, hq, sc_flat s1, scs_flat s2, _, rfl, F2, ρ2, R2, hP⟩
def D.isNon : D → Bool
  | .non => true
  | _ => false
theorem RD.isNon {K : PySem.W.Frag} {mg : Str → Option Value} {F : Hp} {d : D} {v : V} (h : RD K mg F d v) : decide (v = .non) = d.isNon := by
  cases h <;> rfl
theorem wt_isN {a : Expr} {pos pos' : Pos} {j} {P : Pb} (h : WE X a ρ Y fun x ρ1 => ∃ d, x = .val d ∧ P d.isNon ρ1) : WT X (.Compare a [.Is] [.Constant .none j pos'] pos) ρ Y P := fun c F H σ R L => by
  refine bstT (pt_cmp (pc_isN pe_best)) ?_
  refine (h.run R L).imp fun v H1 ⟨F1, ρ1, w, _, R1, r1, d, e1, hP⟩ => ?_
  subst e1
  refine ⟨_, rfl, F1, ρ1, R1, ?_⟩
  rw [RD.isNon r1]
  exact hP
theorem wt_notN {a : Expr} {pos pos' : Pos} {j} {P : Pb} (h : WE X a ρ Y fun x ρ1 => ∃ d, x = .val d ∧ P (!d.isNon) ρ1) : WT X (.Compare a [.IsNot] [.Constant .none j pos'] pos) ρ Y P := fun c F H σ R L => by
  refine bstT (pt_cmp (pc_notN pe_best)) ?_
  refine (h.run R L).imp fun v H1 ⟨F1, ρ1, w, _, R1, r1, d, e1, hP⟩ => ?_
  subst e1
  refine ⟨_, rfl, F1, ρ1, R1, ?_⟩
  rw [RD.isNon r1]
  exact hP
end
end PL

namespace PL
open PySem PySem.Spec PyProof.Rows L2
variable [Hand]
/-! ### a new thing, guarded -/
def Cfg.grd (c : Cfg) (F H : Hp) (p : Addr) (o : HO) : Cfg := { c with F0 := F, N := noTb H, Pr := upd c.Pr p o, blk := true }
section
variable {K : PySem.W.Frag} {mg : Str → Option Value} {c : Cfg} {F H F2 H2 : Hp} {σ σ2 : L2.St} {ρ ρ2 : Store} {p : Addr} {o : HO}
theorem Rel.intoGrd (R : Rel K mg c F H σ ρ) (hcl : clean ρ = true) (ho : NoT o) (hp : H p = some o) (f : Fr1 c F H σ ρ p) : Rel K mg (c.grd F H p o) F H σ ρ := by
  obtain ⟨f1, f2, f3, f4, f5⟩ := f
  refine ⟨⟨R.aft.sub, .refl F, fun a u e => ?_, fun a u e hn => ?_, fun a u e => .inl e, fun a u e => ⟨u, noTb_some.mp e⟩, (fun q => by cases q), fun q hq => ?_, ⟨R.aft.tb.nF, fun a u e => ?_, R.aft.tb.tabs⟩⟩, fun i w hw => ?_, R.apart⟩
  · have e : upd c.Pr p o a = some u := e
    by_cases h : a = p
    · subst h
      rw [upd_same] at e
      cases e
      exact hp
    · rw [upd_ne h] at e
      exact R.aft.pr a u e
  · show upd c.Pr p o a = some u
    have h1 := R.aft.pr0 a u e hn
    rw [upd_ne (ne_of_none h1 f2)]
    exact h1
  · obtain ⟨a1, a2, a3⟩ := R.aft.hand q hq
    have hne : q ≠ p := fun e => f3 (e ▸ hq)
    exact ⟨a1, by show upd c.Pr p o q = none; rw [upd_ne hne]; exact a2, a3⟩
  · have e : upd c.Pr p o a = some u := e
    by_cases h : a = p
    · subst h
      rw [upd_same] at e
      cases e
      exact ho
    · rw [upd_ne h] at e
      exact R.aft.tb.nP a u e
  · obtain ⟨a1, v, a2, a3⟩ := R.slot i w hw
    refine ⟨a1, v, a2, ?_⟩
    cases w with
    | own ds =>
      obtain ⟨q, ys, e1, e2, e3, e4, e5, e6⟩ := a3
      subst e1
      have hne : q ≠ p := fun e => by
        subst e
        exact f4 i ds hw a2
      exact ⟨q, ys, rfl, e2, e3, by show upd c.Pr p o q = none; rw [upd_ne hne]; exact e4, e5, e6⟩
    | zip ds es => exact absurd rfl ((clean_at hcl hw).1 ds es)
    | _ => exact a3
theorem Rel.ofGrd (R : Rel K mg c F H σ ρ) (ho : NoT o) (hp : H p = some o) (f : Fr1 c F H σ ρ p) (R2 : Rel K mg (c.grd F H p o) F2 H2 σ2 ρ2) : Rel K mg c F2 H2 σ2 ρ2 ∧ H2 p = some o ∧ Fr1 c F2 H2 σ2 ρ2 p ∧ Ext F F2 := by
  obtain ⟨f1, f2, f3, f4, f5⟩ := f
  have E : Ext F F2 := R2.aft.f0
  have hF2 : F2 p = none := by
    cases e : F2 p with
    | none => rfl
    | some u =>
      rcases R2.aft.new p u e with h | h
      · have h : F p = some u := h
        rw [f1] at h
        cases h
      · have h : noTb H p = none := h
        rw [noTb_some.mpr ⟨hp, ho⟩] at h
        cases h
  have A : Aft c F2 H2 := by
    refine ⟨R2.aft.sub, R.aft.f0.trans E, fun a u e => ?_, R.aft.pr0, fun a u e => ?_, fun a u e => ?_, R.aft.nb, fun q hq => ?_, ⟨R2.aft.tb.nF, R.aft.tb.nP, R2.aft.tb.tabs⟩⟩
    · refine R2.aft.pr a u (show upd c.Pr p o a = some u from ?_)
      rw [upd_ne (ne_of_none e f2)]
      exact e
    · rcases R2.aft.new a u e with h | h
      · exact R.aft.new a u h
      · exact .inr (R.aft.freshN h)
    · obtain ⟨o', q⟩ := R.aft.nn a u e
      exact R2.aft.nn a o' (noTb_some.mpr q)
    · obtain ⟨a1, _, a3⟩ := R2.aft.hand q hq
      obtain ⟨_, b2, _⟩ := R.aft.hand q hq
      exact ⟨a1, b2, a3⟩
  have key : ∀ q, (upd c.Pr p o) q = none → q ≠ p ∧ c.Pr q = none := fun q e => by
    have hne : q ≠ p := fun z => by
      subst z
      rw [upd_same] at e
      cases e
    rw [upd_ne hne] at e
    exact ⟨hne, e⟩
  refine ⟨⟨A, fun i w hw => ?_, R2.apart⟩, R2.aft.pr p _ (show upd c.Pr p o p = some o from upd_same), ⟨hF2, f2, f3, fun i ds hi q => ?_, f5⟩, E⟩
  · obtain ⟨a1, v, a2, a3⟩ := R2.slot i w hw
    refine ⟨a1, v, a2, ?_⟩
    cases w with
    | own ds =>
      obtain ⟨q, ys, e1, e2, e3, e4, e5, e6⟩ := a3
      exact ⟨q, ys, e1, e2, e3, (key q e4).2, e5, e6⟩
    | zip ds es =>
      obtain ⟨z, TI, TO, i1, i2, a, b, xs, ys, e1, e2, ⟨x1, x2, x3, x4, x5⟩, r⟩ := a3
      have k : ∀ {q : Addr} {φ : Heap → Prop}, XO (c.grd F H p o) F2 H2 q φ → XO c F2 H2 q φ := fun {q φ} ⟨h1, h2, h3, h4, h5⟩ => ⟨h1, h2, (key q h3).2, h4, R.aft.freshN h5.1, h5.2⟩
      exact ⟨z, TI, TO, i1, i2, a, b, xs, ys, e1, e2, ⟨k x1, k x2, k x3, k x4, k x5⟩, r⟩
    | _ => exact a3
  · obtain ⟨_, v, a2, a3⟩ := R2.slot i _ hi
    rw [q] at a2
    cases a2
    obtain ⟨q', ys, e1, e2, e3, e4, e5, e6⟩ := a3
    cases e1
    exact (key p e4).1 rfl
end
/-! ### dicts as data -/
def D.key : D → Option Key
  | .int i => some (.inl i)
  | .str x => some (.inr x)
  | _ => none
theorem RD.key {K : PySem.W.Frag} {mg : Str → Option Value} {F : Hp} {d : D} {v : V} {k : Key} (h : RD K mg F d v) (e : d.key = some k) : v = kV k := by
  cases h <;> first | (cases e; rfl) | cases e
def lookD : List Key → List D → Key → Option D
  | k :: ks, d :: ds, x => if k = x then some d else lookD ks ds x
  | _, _, _ => none
theorem RDs.look {K : PySem.W.Frag} {mg : Str → Option Value} {F : Hp} {x : Key} {d : D} : ∀ {ks : List Key} {ds : List D} {vs : List V}, RDs K mg F ds vs → lookD ks ds x = some d → ∃ v, valV (ks.zip vs) x = some v ∧ RD K mg F d v
  | [], _, _, _, e => by
    unfold lookD at e
    cases e
  | k :: ks, _, _, .nil, e => by
    unfold lookD at e
    cases e
  | k :: ks, _, _, .cons h t, e => by
    unfold lookD at e
    rw [List.zip_cons_cons]
    by_cases q : k = x
    · rw [if_pos q] at e
      cases e
      exact ⟨_, valV_pos (p := (k, _)) q, h⟩
    · rw [if_neg q] at e
      obtain ⟨v, e1, e2⟩ := RDs.look t e
      exact ⟨v, by rw [valV_neg (p := (k, _)) q]; exact e1, e2⟩
theorem valV_not {kvs : List (Key × V)} {k : Key} (h : k ∉ kvs.map (·.1)) : valV kvs k = none := by
  induction kvs with
  | nil => rfl
  | cons p r ih =>
    rw [List.map_cons, List.mem_cons, not_or] at h
    rw [valV_neg (Ne.symm h.1)]
    exact ih h.2
theorem mergeK_new : ∀ (more kvs : List (Key × V)), ((kvs ++ more).map (·.1)).Nodup → mergeK kvs more = kvs ++ more
  | [], kvs, _ => by
    rw [List.append_nil]
    rfl
  | p :: r, kvs, h => by
    have e : kvs ++ p :: r = (kvs ++ [p]) ++ r := by rw [List.append_assoc]; rfl
    have hv : valV kvs p.1 = none := by
      refine valV_not fun hm => ?_
      rw [List.map_append, List.nodup_append] at h
      exact h.2.2 _ hm _ (by rw [List.map_cons]; exact List.mem_cons_self) rfl
    show mergeK (putK kvs p.1 p.2) r = _
    rw [putK_new _ hv, e]
    exact mergeK_new r _ (by rw [← e]; exact h)
section
variable {X : Cx} {ρ : Store} {Y : Str → Store → Prop} {P : Po} {T : Pst}
def bPs (X : Cx) : List (Option Expr) → List Expr → List (TE × TE)
  | some k :: ks, v :: vs => (bE X k, bE X v) :: bPs X ks vs
  | _, _ => []
theorem pps_best {pos : Pos} : ∀ {ks : List (Option Expr)} {vs : List Expr}, ks.all (·.isSome) = true → ks.length = vs.length → PPs X pos ks vs (bPs X ks vs)
  | [], [], _, _ => pps_nil
  | some k :: ks, v :: vs, h, e => pps_cons pe_best pe_best (pps_best (by simpa using h) (by simpa using e))
  | none :: ks, _, h, _ => by simp at h
/-- the pairs of a display -/
def WD (X : Cx) (ks : List (Option Expr)) (vs : List Expr) (ρ : Store) (Y : Str → Store → Prop) (P : List Key → List D → Store → Prop) : Prop :=
  ∀ c F H σ, Rel X.K X.mg c F H σ ρ → Lk X c Y → tPairs (bPs X ks vs) σ H fun ps H' => ∃ F' ρ' kk us ds, Ext F F' ∧ Rel X.K X.mg c F' H' σ ρ' ∧ RDs X.K X.mg F' ds us ∧ kk.length = us.length ∧ ps = (kk.zip us).map (fun kv => (kV kv.1, kv.2)) ∧ P kk ds ρ'
theorem tPairs.imp : ∀ {l : List (Expr × Expr)} {σ : L2.St} {H : Hp} {Q Q' : List (V × V) → Hp → Prop}, tPairs (l.map fun p => (bE X p.1, bE X p.2)) σ H Q → (∀ v H', Q v H' → Q' v H') → tPairs (l.map fun p => (bE X p.1, bE X p.2)) σ H Q'
  | [], _, H, _, _, h, k => k _ _ h
  | p :: r, _, _, _, _, h, k => bE.imp h fun _ _ h1 => bE.imp h1 fun _ _ h2 => tPairs.imp h2 fun _ _ q => k _ _ q
theorem bPs_eq : ∀ (ks : List (Option Expr)) (vs : List Expr), ∃ l : List (Expr × Expr), bPs X ks vs = l.map fun p => (bE X p.1, bE X p.2)
  | [], _ => ⟨[], rfl⟩
  | none :: _, _ => ⟨[], rfl⟩
  | some k :: ks, [] => ⟨[], rfl⟩
  | some k :: ks, v :: vs => by
    obtain ⟨l, e⟩ := bPs_eq ks vs
    exact ⟨(k, v) :: l, by rw [bPs, e]; rfl⟩
theorem bPs_imp {ks : List (Option Expr)} {vs : List Expr} {σ : L2.St} {H : Hp} {Q Q' : List (V × V) → Hp → Prop} (h : tPairs (bPs X ks vs) σ H Q) (k : ∀ v H', Q v H' → Q' v H') : tPairs (bPs X ks vs) σ H Q' := by
  obtain ⟨l, e⟩ := bPs_eq (X := X) ks vs
  rw [e] at h ⊢
  exact tPairs.imp h k
theorem wd_nil {P : List Key → List D → Store → Prop} (h : P [] [] ρ) : WD X [] [] ρ Y P := fun c F H σ R L => ⟨F, ρ, [], [], [], .refl F, R, .nil, rfl, rfl, h⟩
theorem wd_cons {k v : Expr} {ks : List (Option Expr)} {vs : List Expr} {P : List Key → List D → Store → Prop} (h : WE X k ρ Y fun x ρ1 => ∃ d kk, x = .val d ∧ d.key = some kk ∧ WE X v ρ1 Y fun y ρ2 => ∃ e, y = .val e ∧ WD X ks vs ρ2 Y fun kks ds ρ3 => P (kk :: kks) (e :: ds) ρ3) : WD X (some k :: ks) (v :: vs) ρ Y P := fun c F H σ R L => by
  refine (h.run R L).imp fun x H1 ⟨F1, ρ1, w, E1, R1, r1, d, kk, e1, e2, hb⟩ => (hb.run R1 L).imp fun y H2 ⟨F2, ρ2, w2, E2, R2, r2, e, e3, hr⟩ => bPs_imp (hr c F2 H2 σ R2 L) fun ps H3 ⟨F3, ρ3, kks, us, ds, E3, R3, r3, hl, e4, hP⟩ => ?_
  subst e1 e3
  refine ⟨F3, ρ3, kk :: kks, y :: us, e :: ds, E1.trans (E2.trans E3), R3, .cons (RD.ext E3 r2) r3, by rw [List.length_cons, List.length_cons, hl], ?_, hP⟩
  rw [e4, RD.key r1 e2]
  rfl
theorem Lk.intoGrd {c : Cfg} {F H : Hp} {p : Addr} {o : HO} {σ : L2.St} {ρ' : Store} (R : Rel X.K X.mg c F H σ ρ') (ho : NoT o) (hp : H p = some o) (f : Fr1 c F H σ ρ' p) (L : Lk X c Y) (hs : ∀ x C F' H' σ2 ρ2, Y x ρ2 → X.mg x = some (.ref C) → Rel X.K X.mg c F' H' σ2 ρ2 → c.W (.ref C) none σ2 H' := L.2) : Lk X (c.grd F H p o) Y :=
  ⟨L.1, fun x C F' H' σ2 ρ2 hy hm R2 => L.2 x C F' H' σ2 ρ2 hy hm (R.ofGrd ho hp f R2).1⟩
theorem we_disp {ks : List (Option Expr)} {vs : List Expr} {pos : Pos} (hall : ks.all (·.isSome) = true) (hl : ks.length = vs.length) (h0 : ks ≠ []) (h15 : ks.length ≤ 15) (hcl : clean ρ = true) (h : WD X ks vs ρ Y fun kk ds ρ1 => kk.Nodup ∧ kk.length ≤ 15 ∧ P (.val (.dct kk ds)) ρ1) : WE X (.Dict ks vs pos) ρ Y P := fun c F H σ R L => by
  refine bst (pe_disp (pps_best hall hl) hall hl h0 h15) ?_
  intro p hp
  have f := fr1_new (o := .dK []) R hp
  have R1 : Rel X.K X.mg c F (upd H p (.dK [])) σ ρ := R.growH hp
  have hp1 : (upd H p (.dK [])) p = some (.dK []) := upd_same
  refine bPs_imp (h _ F _ σ (R1.intoGrd hcl (noT_dK _) hp1 f) (L.intoGrd R1 (noT_dK _) hp1 f)) fun ps H2 ⟨F2, ρ2, kk, us, ds, _, R2, r2, hl2, ep, hn, hz, hP⟩ => ?_
  obtain ⟨R3, q3, f3, E3⟩ := R1.ofGrd (noT_dK _) hp1 f R2
  refine ⟨q3, kk.zip us, ep, by rw [List.length_zip]; omega, ?_⟩
  have em : mergeK [] (kk.zip us) = kk.zip us := by
    have := mergeK_new (kk.zip us) [] (by rw [List.nil_append, List.map_fst_zip (by omega)]; exact hn)
    rw [this, List.nil_append]
  rw [em]
  have R4 := R3.writeFr (o := .dK (kk.zip us)) (noT_dK _) q3 (plain_dK _) f3
  have f4 : Fr1 c F2 (upd H2 p (.dK (kk.zip us))) σ ρ2 p := f3
  have R5 := R4.freezeFr (plain_dK _) upd_same f4
  exact vp R5 (.dct upd_same rfl hl2 (r2.ext (.new f3.1))) hP
theorem we_dict0 {pos : Pos} (h : P (.val (.dct [] [])) ρ) : WE X (.Dict [] [] pos) ρ Y P := fun c F H σ R L => by
  refine bst pe_dnewK ?_
  intro p hp
  exact vp (R.grow hp (noT_dK _)) (.dct (kvs := []) upd_same rfl rfl .nil) h
/-- d[k] -/
theorem we_dget {j : Nat} {o i : Expr} {pos : Pos} (hr : Room j X.A) (h : WE X o ρ Y fun x ρ1 => WE X i ρ1 Y fun y ρ2 => ∃ ks ds d k e, x = .val (.dct ks ds) ∧ y = .val d ∧ d.key = some k ∧ lookD ks ds k = some e ∧ P (.val e) ρ2) (hs : NoSl i := by exact fun _ _ => rfl) : WE X (.Subscript o i pos) ρ Y P := fun c F H σ R L => by
  refine bst (pe_dget (by have := hr.units; omega) pe_best pe_best hs) ?_
  refine (h.run R L).imp fun v H1 ⟨F1, ρ1, w, _, R1, r1, hb⟩ => (hb.run R1 L).imp fun u H2 ⟨F2, ρ2, w2, E2, R2, r2, ks, ds, d, k, e, e1, e2, e3, e4, hP⟩ => ?_
  subst e1 e2
  have r1' : RD X.K X.mg F2 (.dct ks ds) v := RD.ext E2 r1
  cases r1' with
  | dct h1 h2 h3 h4 =>
    obtain ⟨z, e5, e6⟩ := h4.look e4
    subst h2
    refine ⟨_, z, rfl, ?_, vp R2 e6 hP⟩
    rw [RD.key r2 e3, ← e5]
    exact DGet.k (R2.aft.sub _ _ h1)
/-! ### a dict of the module -/
/-- the module's name x is a dict with text keys -/
def KdAt (X : Cx) (x : Str) : Prop := ∃ d es n, X.mg x = some (.ref d) ∧ KDict X.K X.w d es n
def kdSays (X : Cx) (x z : Str) (r : Option D) : Prop := ∃ d, X.mg x = some (.ref d) ∧ match r with
  | none => PySem.W.nsIn X.K d z = some none
  | some e => ∃ u, PySem.W.nsIn X.K d z = some (some u) ∧ ∀ F : Hp, ∃ v, RelV v u ∧ RD X.K X.mg F e v
theorem wt_inK {a b : Expr} {x : Str} {pos : Pos} {P : Pb} (D : KdAt X x) (hm : behindInMarks .In b = false) (h : WE X a ρ Y fun u ρ1 => WE X b ρ1 Y fun y ρ2 => ∃ z r, u = .val (.str z) ∧ y = .val (.fn x) ∧ kdSays X x z r ∧ P r.isSome ρ2) : WT X (.Compare a [.In] [b] pos) ρ Y P := fun c F H σ R L => by
  obtain ⟨d, es, n, m1, kd⟩ := D
  refine bstT (pt_cmpR (op_in_kd kd) pe_best pe_best hm) ?_
  refine (h.run R L).imp fun v H1 ⟨F1, ρ1, w, _, R1, r1, hb⟩ => (hb.run R1 L).imp fun u H2 ⟨F2, ρ2, w2, _, R2, r2, z, r, e1, e2, ⟨d', m2, hk⟩, hP⟩ => ?_
  subst e1 e2
  rw [m1] at m2
  cases m2
  have r2' : RD X.K X.mg F2 (.fn x) u := r2
  cases r2' with
  | fn m3 =>
    rw [m1] at m3
    cases m3
    cases r with
    | none => exact ⟨z, none, RD.str_inv r1, rfl, hk, false, rfl, F2, ρ2, R2, hP⟩
    | some e =>
      obtain ⟨u0, hk, _⟩ := hk
      exact ⟨z, some u0, RD.str_inv r1, rfl, hk, true, rfl, F2, ρ2, R2, hP⟩
theorem we_itemK {a b : Expr} {x : Str} {pos : Pos} (D : KdAt X x) (h : WE X a ρ Y fun y ρ1 => WE X b ρ1 Y fun u ρ2 => ∃ z e, u = .val (.str z) ∧ y = .val (.fn x) ∧ kdSays X x z (some e) ∧ P (.val e) ρ2) (hs : PlainIx b := by exact fun _ _ => rfl) : WE X (.Subscript a b pos) ρ Y P := fun c F H σ R L => by
  obtain ⟨d, es, n, m1, kd⟩ := D
  refine bst (pe_ix ix_kdict pe_best pe_best hs) ?_
  refine (h.run R L).imp fun v H1 ⟨F1, ρ1, w, _, R1, r1, hb⟩ => (hb.run R1 L).imp fun u H2 ⟨F2, ρ2, w2, _, R2, r2, z, e, e1, e2, ⟨d', m2, hk⟩, hP⟩ => ?_
  subst e1 e2
  rw [m1] at m2
  cases m2
  have r1' : RD X.K X.mg F1 (.fn x) v := r1
  cases r1' with
  | fn m3 =>
    rw [m1] at m3
    cases m3
    obtain ⟨u0, hk, hv⟩ := hk
    obtain ⟨v0, rv, rd⟩ := hv F2
    exact ⟨d, z, v0, rfl, RD.str_inv r2, ⟨es, n, u0, kd.at_, kd.lit, hk, rv⟩, vp R2 rd hP⟩
end
end PL

namespace PL
open PySem PySem.Spec PyProof.Rows L2 LamX
variable [Hand]
/-- the slots without the lists of one's own -/
def dataOnly (ρ : Store) : Store := ρ.map fun w => match w with
  | some (.own _) => none
  | some (.zip _ _) => none
  | some (.hown _) => none
  | w => w
section
variable {K : PySem.W.Frag} {mg : Str → Option Value} {c : Cfg} {F H H1 : Hp} {σ : L2.St} {ρ : Store}
theorem Rel.extN (R : Rel K mg c F H σ ρ) (e : ExtN H H1) (t : Tabs Hand.T H1) : Rel K mg c F H1 σ ρ := by
  refine R.mono (hb := true) ⟨fun a o h => e a o (R.aft.sub a o h) (R.aft.tb.nF a o h), R.aft.f0, fun a o h => e a o (R.aft.pr a o h) (R.aft.tb.nP a o h), R.aft.pr0, R.aft.new, fun a o h => ?_, R.aft.nb, fun p hp => ?_, ⟨R.aft.tb.nF, R.aft.tb.nP, t⟩⟩ ⟨.refl F, fun p o h1 hn h2 _ _ => ⟨e p o h1 hn, h2⟩, fun _ p o hp h1 => e p o h1 ?_⟩ (.inl rfl)
  · obtain ⟨o', q, n⟩ := R.aft.nn a o h
    exact ⟨o', e a o' q n, n⟩
  · obtain ⟨h1, h2, o, h3, h4⟩ := R.aft.hand p hp
    exact ⟨h1, h2, o, e p o h3 (Hand.nt F o h4), h4⟩
  · obtain ⟨_, _, o', h3, h4⟩ := R.aft.hand p hp
    rw [h1] at h3
    cases h3
    exact Hand.nt F o h4
theorem dataOnly_get {i : Nat} {w : W} (h : (dataOnly ρ)[i]? = some (some w)) : ρ[i]? = some (some w) ∧ (∀ ds, w ≠ .own ds) ∧ (∀ ds es, w ≠ .zip ds es) ∧ ∀ ds, w ≠ .hown ds := by
  unfold dataOnly at h
  rw [List.getElem?_map] at h
  cases e : ρ[i]? with
  | none =>
    rw [e] at h
    cases h
  | some o =>
    rw [e] at h
    cases o with
    | none => cases h
    | some u =>
      cases u with
      | own ds => cases h
      | zip ds es => cases h
      | hown ds => cases h
      | val d =>
        cases h
        exact ⟨rfl, (fun _ q => nomatch q), (fun _ _ q => nomatch q), fun _ q => nomatch q⟩
      | loc j =>
        cases h
        exact ⟨rfl, (fun _ q => nomatch q), (fun _ _ q => nomatch q), fun _ q => nomatch q⟩
      | hnd =>
        cases h
        exact ⟨rfl, (fun _ q => nomatch q), (fun _ _ q => nomatch q), fun _ q => nomatch q⟩
/-- as a callee sees it -/
theorem Rel.callee {W' : WX} {n0 : Nat} {fs : List Addr} (R : Rel K mg c F H σ ρ) : Rel K mg (cfg0 c.hd F H W' n0 fs) F H σ (dataOnly ρ) := by
  refine ⟨⟨R.aft.sub, .refl F, fun a o e => (hide_some.mp e).2.1, fun a o e hn => hide_some.mpr ⟨hn, noTb_some.mp e⟩, fun a o e => .inl e, fun a o e => ⟨o, noTb_some.mp e⟩, fun _ => rfl, fun p hp => ?_, ⟨R.aft.tb.nF, fun a o e => (hide_some.mp e).2.2, R.aft.tb.tabs⟩⟩, fun i w hi => ?_, fun i j ds es v _ hi _ _ _ => ?_⟩
  · obtain ⟨h1, _, o, h2, h3⟩ := R.aft.hand p hp
    refine ⟨h1, ?_, o, h2, h3⟩
    cases e : hide H c.hd p with
    | none => exact e
    | some o' => exact absurd hp (hide_some.mp e).1
  · obtain ⟨h1, h2⟩ := dataOnly_get hi
    obtain ⟨a1, v, a2, a3⟩ := R.slot i w h1
    refine ⟨a1, v, a2, ?_⟩
    cases w with
    | own ds => exact absurd rfl (h2.1 ds)
    | zip ds es => exact absurd rfl (h2.2.1 ds es)
    | hown ds => exact absurd rfl (h2.2.2 ds)
    | _ => exact a3
  · exact absurd rfl ((dataOnly_get hi).2.1 ds)
theorem Aft'.grow {F' H' H'' : Hp} {W' : WX} (A : Aft' (cfg0 c.hd F H W') F' H') (e : Ext H' H'') : Aft' (cfg0 c.hd F H W') F' H'' :=
  ⟨fun a o h => e a o (A.sub a o h), A.f0, fun a o h hn => e a o (A.h0 a o h hn), A.new, fun a o h => by
    obtain ⟨o', q, n⟩ := A.nn a o h
    exact ⟨o', e a o' q, n⟩, fun p hp => by
    obtain ⟨h1, o, h2, h3⟩ := A.hand p hp
    exact ⟨h1, o, e p o h2, h3⟩, A.nF, A.tabs.ext e⟩
end
/-- a def that calls what it got, and tells by a word: w0 for no error, wd of the error's class -/
def TTw (mg : Str → Option Value) (wd : Str → Option Str) (w0 : Str) : (XK → Hp → VK → Prop) → Hp → VK → Prop := fun tl H Q =>
  ∃ E' : XK, tl E' H (fun _ H' => Q (.str w0) H') ∧
    ∀ cls d H', E' cls d H' → d = none ∧ ∃ y C r, cls = .ref C ∧ mg y = some (.ref C) ∧ wd y = some r ∧ ∀ H'', Ext H' H'' → Q (.str r) H''
section
variable {X : Cx} {ρ : Store} {Y : Str → Store → Prop} {P : Po}
theorem we_lam {wd : Str → Option Str} {w0 : Str} {x a : Str} {g c P0 : Addr} {k : Nat} {pg : Arguments} {bg : List Stmt} {sg : Scope} {dV kV doc pm cdv ct oc : Value} {an od : Option Addr} {osl : Array (Option Value)} {Ng : List Str}
    {params : Arguments} {body : Expr} {scope : Scope} {p lpos pos : Pos} (hm : X.mg x = some (.ref g)) (hk : PySem.W.keepIn X.K (.ref g) = true)
    (lk : X.K.lookup g = some ⟨oc, od, .func (PySem.W.fnOf x x pg bg sg dV kV doc pm an cdv ct), osl⟩) (hcg : PySem.W.codeIn X.K cdv x = true) (hb : L2.Binds X.K (PySem.W.fnOf x x pg bg sg dV kV doc pm an cdv ct) [a] []) (Sg : FnScope Ng [a] sg) (hNg : Ng[0]? = some a) (hva : Vis sg a)
    (hG : GivesTo X Ng x sg g cdv bg a (X.env.qual ++ "<lambda>") (TTw X.mg wd w0))
    (TB : TabB X.base X.mg c P0) (hcode : X.env.code = .ref c) (hmT : (P0, X.env.qual ++ "<lambda>") ∈ Hand.T) (hu : ∀ p ∈ Hand.T, p.1 = P0 → p.2 = X.env.qual ++ "<lambda>") (hr : Room (k + 2) X.A)
    (hcl : clean ρ = true) (hg : Gl X x) (L : LamS X.env.scope scope) (hdef : defaultsOf params X.env = ([], []))
    (hbind : ∀ (q : Str) (cl : List (Str × Addr)) (pm cv ctv : Value), bindArgs (PySem.W.kla_fn "<lambda>" q params body scope cl pm cv ctv) ⟨[], []⟩ = pure [])
    (h : ∀ (A : Around) (outer : List Env) (s : Shared) (H : Hp) (E : XK) (f c' : Addr), Room k (A.deeper (lamEnv X scope s.heap.objs.size f c')) → WE (lamCx X A outer s H E scope f c') body (dataOnly ρ) (fun y _ => ∃ r, wd y = some r ∧ P (.val (.str r)) ρ) (fun _ _ => P (.val (.str w0)) ρ))
    (hdb : (x == ("__debug__" : Str)) = false := by decide) (hd : (a == ("__debug__" : Str)) = false := by decide) (hcd : (a == ("__classdict__" : Str)) = false := by decide) :
    WE X (.Call (.Name x p) [.Lambda params body scope lpos] [] pos) ρ Y P := fun cf F H σ R Lk0 => by
  refine bst (pe_lamcall (T := Hand.T) (TT := TTw X.mg wd w0) (k := k)
    (t := fun E σ H Q => ∀ (A : Around) (outer : List Env) (s : Shared) (H0 : Hp) (f c' : Addr), Room k (A.deeper (lamEnv X scope s.heap.objs.size f c')) → bE (lamCx X A outer s H0 E scope f c') body σ H Q)
    hg hm hk lk hcg hb Sg hNg hva hG TB hcode hmT hu hr L hdef hbind (fun A outer s H E f c' hr2 => ⟨fun pins s' σ' H' Q I h => h A outer s H f c' hr2 pins s' I⟩) hdb hd hcd) ?_
  refine ⟨R.aft.tb.tabs, fun H1 eN T1 => ?_⟩
  have R1 := R.extN eN T1
  refine ⟨fun cls d H' => d = none ∧ ∃ y C r F', cls = .ref C ∧ X.mg y = some (.ref C) ∧ wd y = some r ∧ Aft' (cfg0 cf.hd F H1 fun _ _ _ _ => False) F' H' ∧ P (.val (.str r)) ρ, fun A outer s H0 f c' hr2 => ?_, fun cls d H' ⟨hd, y, C, r, F', e1, e2, e3, A', hP⟩ => ⟨hd, y, C, r, e1, e2, e3, fun H'' e => ?_⟩⟩
  · have Lk1 : Lk (lamCx X A outer s H0 (fun cls d H' => d = none ∧ ∃ y C r F', cls = .ref C ∧ X.mg y = some (.ref C) ∧ wd y = some r ∧ Aft' (cfg0 cf.hd F H1 fun _ _ _ _ => False) F' H' ∧ P (.val (.str r)) ρ) scope f c') (cfg0 cf.hd F H1 (fun cls d _ H' => d = none ∧ ∃ y C r F', cls = .ref C ∧ X.mg y = some (.ref C) ∧ wd y = some r ∧ Aft' (cfg0 cf.hd F H1 fun _ _ _ _ => False) F' H' ∧ P (.val (.str r)) ρ) s.heap.objs.size (frs outer)) (fun y _ => ∃ r, wd y = some r ∧ P (.val (.str r)) ρ) :=
      ⟨⟨takes_of rfl rfl rfl rfl, passes_of rfl, fun _ => ⟨rfl, rfl⟩⟩, fun y C F' H' σ' ρ' ⟨r, e3, hP⟩ hm' R' => ⟨rfl, y, C, r, F', rfl, hm', e3, R'.aft.to', hP⟩⟩
    exact bE.imp (h A outer s H0 _ f c' hr2 _ F H1 σ R1.callee Lk1) fun v H' ⟨F', ρ', w, R', r', hP⟩ => vp (R1.after (W := fun _ _ _ _ => False) R'.aft.to' hcl) (.str w0) hP
  · exact vp (R1.after (W := fun _ _ _ _ => False) (A'.grow e) hcl) (.str r) hP
end
end PL

namespace PL
open PySem PySem.Spec PyProof.Rows L2
variable [Hand]
/-! ### things that are tracked by their object -/
section
variable {X : Cx} {pins : List (Addr × Obj)} {σ : L2.St} {H : Hp} {s : Shared} {a : Addr} {φ : Heap → Prop}
theorem inv_track (I : Inv X pins σ H s) (f : FpOk X pins H a) (h0 : X.s_0.heap.objs.size ≤ a) (hφ : φ s.heap) (ho : ∃ o, s.heap.get? a = some o) (st : ∀ h1 h2 : Heap, φ h1 → (∀ o, h1.get? a = some o → h2.get? a = some o) → φ h2) : Inv X pins σ (upd H a (.ext φ)) s := by
  obtain ⟨f1, f2, f3, f4, f5, f6⟩ := f
  have ne : ∀ b u, H b = some u → b ≠ a := fun b u e => ne_of_none e f1
  have lt0 : ∀ b o, X.s_0.heap.get? b = some o → b ≠ a := fun b o e z => by
    subst z
    exact absurd (Nat.lt_of_lt_of_le (Heap.lt_size e) h0) (Nat.lt_irrefl _)
  refine ⟨I.ok, I.os, I.bare, ⟨I.base.keep, I.base.slot, fun b o e n x => ?_, I.base.there, fun b xs e => ?_, fun b o u e => ?_, fun b ps e => ?_⟩, I.loc, I.cell, ?_, fun y c e => ?_, fun p hp => ?_, fun b u e => ?_, I.len⟩
  · rw [upd_ne (lt0 b o e)]
    exact I.base.free b o e n x
  · have := I.base.tups b xs e
    rw [upd_ne (ne b _ this)]
    exact this
  · have := I.base.frzs b o u e
    rw [upd_ne (ne b _ this)]
    exact this
  · obtain ⟨more, this⟩ := I.base.tbls b ps e
    exact ⟨more, by rw [upd_ne (ne b _ this)]; exact this⟩
  · rw [upd_ne (Ne.symm f2)]
    exact I.free
  · rw [upd_ne (f5 y c e)]
    exact I.freeC y c e
  · obtain ⟨q1, q2, q3, q4, q5⟩ := I.pin p hp
    exact ⟨q1, by rw [upd_ne (f6 p hp)]; exact q2, q3, q4, q5⟩
  · by_cases hb : b = a
    · subst hb
      rw [upd_same] at e
      cases e
      exact ⟨hφ, ho, st⟩
    · rw [upd_ne hb] at e
      exact (I.hok b u e).stay (fun d v hd q => q) (fun d q => by rw [upd_ne (ne d _ q)]; exact q) fun d xs q => by rw [upd_ne (ne d _ q)]; exact q
theorem inv_forget (I : Inv X pins σ H s) (ha : H a = some (.ext φ)) : Inv X pins σ (delH H a) s := by
  have at_ : ∀ b, b ≠ a → delH H a b = H b := fun b h => by
    unfold delH
    rw [if_neg h]
  have ne : ∀ b u, H b = some u → (∀ φ, u ≠ .ext φ) → b ≠ a := fun b u e n z => by
    subst z
    rw [ha] at e
    exact n φ (Option.some.inj e).symm
  have non : ∀ b, H b = none → delH H a b = none := fun b e => by
    by_cases hb : b = a
    · subst hb
      unfold delH
      rw [if_pos rfl]
    · rw [at_ b hb]
      exact e
  refine ⟨I.ok, I.os, I.bare, ⟨I.base.keep, I.base.slot, fun b o e n x => non b (I.base.free b o e n x), I.base.there, fun b xs e => ?_, fun b o u e => ?_, fun b ps e => ?_⟩, I.loc, I.cell, non _ I.free, fun y c e => non _ (I.freeC y c e), fun p hp => ?_, fun b u e => ?_, I.len⟩
  · have := I.base.tups b xs e
    rw [at_ b (ne b _ this fun _ q => nomatch q)]
    exact this
  · have := I.base.frzs b o u e
    rw [at_ b (ne b _ this fun _ q => nomatch q)]
    exact this
  · obtain ⟨more, this⟩ := I.base.tbls b ps e
    exact ⟨more, by rw [at_ b (ne b _ this fun _ q => nomatch q)]; exact this⟩
  · obtain ⟨q1, q2, q3, q4, q5⟩ := I.pin p hp
    exact ⟨q1, non _ q2, q3, q4, q5⟩
  · by_cases hb : b = a
    · subst hb
      unfold delH at e
      rw [if_pos rfl] at e
      cases e
    · rw [at_ b hb] at e
      exact (I.hok b u e).stay (fun d v hd q => q) (fun d q => by rw [at_ d (ne d _ q fun _ q => nomatch q)]; exact q) fun d xs q => by rw [at_ d (ne d _ q fun _ q => nomatch q)]; exact q
end
/-- the object's look, with what is known of the place -/
def XF (X : Cx) (p : Addr) (φ : Heap → Prop) : Heap → Prop := fun h => φ h ∧ X.s_0.heap.objs.size ≤ p ∧ p ∉ X.fs
def u5 (X : Cx) (H : Hp) (z TI TO i1 i2 a b : Addr) : Hp :=
  upd (upd (upd (upd (upd H z (.ext (XF X z fun h => IsZip h z TI TO .none))) TI (.ext (XF X TI fun h => IsPair h TI (.ref i1) (.ref i2)))) TO (.ext (XF X TO fun h => ∃ x y, IsPair h TO x y))) i1 (.ext (XF X i1 fun h => h.IsListIter i1 a 0))) i2 (.ext (XF X i2 fun h => h.IsListIter i2 b 0))
def d5 (H : Hp) (z TI TO i1 i2 : Addr) : Hp := delH (delH (delH (delH (delH H z) TI) TO) i1) i2
structure Z5 (X : Cx) (H : Hp) (z TI TO i1 i2 a b : Addr) : Prop where
  ap : ZipApart z TI TO i1 i2 a b
  z : H z = some (.ext (XF X z fun h => IsZip h z TI TO .none))
  TI : H TI = some (.ext (XF X TI fun h => IsPair h TI (.ref i1) (.ref i2)))
  TO : H TO = some (.ext (XF X TO fun h => ∃ x y, IsPair h TO x y))
  i1 : H i1 = some (.ext (XF X i1 fun h => h.IsListIter i1 a 0))
  i2 : H i2 = some (.ext (XF X i2 fun h => h.IsListIter i2 b 0))
theorem d5_at {H : Hp} {z TI TO i1 i2 p : Addr} (h : p ≠ z ∧ p ≠ TI ∧ p ≠ TO ∧ p ≠ i1 ∧ p ≠ i2) : d5 H z TI TO i1 i2 p = H p := by
  obtain ⟨h1, h2, h3, h4, h5⟩ := h
  unfold d5 delH
  rw [if_neg h5, if_neg h4, if_neg h3, if_neg h2, if_neg h1]
theorem d5_none {H : Hp} {z TI TO i1 i2 p : Addr} (h : p = z ∨ p = TI ∨ p = TO ∨ p = i1 ∨ p = i2) : d5 H z TI TO i1 i2 p = none := by
  unfold d5 delH
  rcases h with h | h | h | h | h <;> simp [h]
section
variable {X : Cx} {pos p : Pos} {e e2 : Expr} {ta : TA}
theorem pe_zip (hg : Gl X "zip") (hm : X.mg "zip" = none) (ha : PA X [e, e2] ta) (hs : starEach [e, e2] X.env = (false, eval e X.env) :: starEach [e2] X.env := by rfl) (hpl : (backTo pos (starEach [e2] X.env)).any (·.1) = false := by rfl) :
    PE X (.Call (.Name "zip" p) [e, e2] [] pos) (fun σ H Q => ta σ H fun vs H1 => ∃ a b xs ys, vs = [.ref a, .ref b] ∧ SqL X.K H1 a xs ∧ SqL X.K H1 b ys ∧ ∀ z TI TO i1 i2, Z5 X (u5 X H1 z TI TO i1 i2 a b) z TI TO i1 i2 a b → H1 z = none → H1 TI = none → H1 TO = none → H1 i1 = none → H1 i2 = none → Q (.ref z) (u5 X H1 z TI TO i1 i2 a b)) := by
  refine ⟨fun pins s σ H Q I h => ?_⟩
  refine Call_ (ld_blt I hg hm PyProof.Rows.boot_zip (PyProof.Rows.callWith_type1 (thn (ha.run pos pins s σ H _ I h) fun us s1 ⟨vs, H1, I1, r1, q1⟩ => ?_) hs hpl))
  obtain ⟨a, b, xs, ys, ex, hqx, hqy, q⟩ := q1
  subst ex
  cases r1 with
  | cons r rr =>
    cases rr with
    | cons r' rr =>
      cases rr
      cases r
      cases r'
      obtain ⟨its, rv, p1, _⟩ := I1.list hqx
      obtain ⟨its2, rv2, p2, _⟩ := I1.list hqy
      refine call_zip_2 p1.isList p2.isList fun h' hz hTI hTO h1 h2 hsz hk => ?_
      have I2 : Inv X pins σ H1 { s1 with heap := h' } := I1.kept (t' := s1.toks) hk
      have ap := PySem.W.ktu_apart s1.heap.objs.size a b p1.lt p2.lt
      have fr : ∀ b, s1.heap.objs.size ≤ b → FpOk X pins H1 b ∧ X.s_0.heap.objs.size ≤ b ∧ b ∉ X.fs := fun b hb => ⟨I1.fpOk hb (I1.hok.fresh hb), Nat.le_trans I1.sz hb, I1.nofs hb⟩
      have up : ∀ {H : Hp} {b c : Addr} {o : HO}, FpOk X pins H c → c ≠ b → FpOk X pins (upd H b o) c := fun {H b c o} f hne => ⟨by rw [upd_ne hne]; exact f.1, f.2⟩
      obtain ⟨fz, nz, mz⟩ := fr (s1.heap.objs.size + 4) (by omega)
      obtain ⟨fTI, nTI, mTI⟩ := fr (s1.heap.objs.size + 2) (by omega)
      obtain ⟨fTO, nTO, mTO⟩ := fr (s1.heap.objs.size + 3) (by omega)
      obtain ⟨f1, n1, m1⟩ := fr s1.heap.objs.size (by omega)
      obtain ⟨f2, n2, m2⟩ := fr (s1.heap.objs.size + 1) (by omega)
      have J1 := inv_track (φ := XF X (s1.heap.objs.size + 4) fun h => IsZip h (s1.heap.objs.size + 4) (s1.heap.objs.size + 2) (s1.heap.objs.size + 3) .none) I2 fz nz ⟨hz, nz, mz⟩ ⟨_, hz⟩ fun g1 g2 ⟨q1, q2⟩ k => ⟨k _ q1, q2⟩
      have J2 := inv_track (φ := XF X (s1.heap.objs.size + 2) fun h => IsPair h (s1.heap.objs.size + 2) (.ref s1.heap.objs.size) (.ref (s1.heap.objs.size + 1))) J1 (up fTI ap.TIz) nTI ⟨hTI, nTI, mTI⟩ ⟨_, hTI⟩ fun g1 g2 ⟨q1, q2⟩ k => ⟨k _ q1, q2⟩
      have J3 := inv_track (φ := XF X (s1.heap.objs.size + 3) fun h => ∃ x y, IsPair h (s1.heap.objs.size + 3) x y) J2 (up (up fTO ap.TOz) (Ne.symm ap.TITO)) nTO ⟨⟨_, _, hTO⟩, nTO, mTO⟩ ⟨_, hTO⟩ fun g1 g2 ⟨⟨x, y, q1⟩, q2⟩ k => ⟨⟨x, y, k _ q1⟩, q2⟩
      have J4 := inv_track (φ := XF X s1.heap.objs.size fun h => h.IsListIter s1.heap.objs.size a 0) J3 (up (up (up f1 ap.i1z) (Ne.symm ap.TIi1)) (Ne.symm ap.TOi1)) n1 ⟨h1, n1, m1⟩ (by obtain ⟨o, ho, _⟩ := h1; exact ⟨o, ho⟩) fun g1 g2 ⟨⟨o, q1, q3⟩, q2⟩ k => ⟨⟨o, k _ q1, q3⟩, q2⟩
      have J5 := inv_track (φ := XF X (s1.heap.objs.size + 1) fun h => h.IsListIter (s1.heap.objs.size + 1) b 0) J4 (up (up (up (up f2 ap.i2z) (Ne.symm ap.TIi2)) (Ne.symm ap.TOi2)) (Ne.symm ap.i12)) n2 ⟨h2, n2, m2⟩ (by obtain ⟨o, ho, _⟩ := h2; exact ⟨o, ho⟩) fun g1 g2 ⟨⟨o, q1, q3⟩, q2⟩ k => ⟨⟨o, k _ q1, q3⟩, q2⟩
      refine ⟨.ref (s1.heap.objs.size + 4), _, J5, rfl, q _ _ _ _ _ ⟨ap, ?_, ?_, ?_, ?_, upd_same⟩ fz.1 fTI.1 fTO.1 f1.1 f2.1⟩
      · unfold u5
        rw [upd_ne (Ne.symm ap.i2z), upd_ne (Ne.symm ap.i1z), upd_ne (Ne.symm ap.TOz), upd_ne (Ne.symm ap.TIz), upd_same]
      · unfold u5
        rw [upd_ne ap.TIi2, upd_ne ap.TIi1, upd_ne ap.TITO, upd_same]
      · unfold u5
        rw [upd_ne ap.TOi2, upd_ne ap.TOi1, upd_same]
      · unfold u5
        rw [upd_ne ap.i12, upd_same]
theorem pi_zipN {i kk : Nat} {x : Str} {elts : List Expr} {tpos : Pos} (hN : X.N[i]? = some x) (hv : Vis X.env.scope x) (hd : (x == ("__debug__" : Str)) = false := by decide) (hcd : (x == ("__classdict__" : Str)) = false := by decide) :
    PI X (.Tuple elts kk tpos) (.Name x pos) (fun σ H R => ∃ z TI TO i1 i2 a b, σ[i]? = some (some (.ref z)) ∧ Z5 X H z TI TO i1 i2 a b ∧ R (Itz X.K a b) (d5 H z TI TO i1 i2)) := by
  refine ⟨fun pins s σ H R I h => ?_⟩
  obtain ⟨z, TI, TO, i1, i2, a, b, hs, Z, q⟩ := h
  refine thn ((pe_var (pos := pos) hN hv hd hcd).run pins s σ H (fun v H1 => v = .ref z ∧ H1 = H) I ⟨.ref z, hs, rfl, rfl⟩) fun u s1 ⟨v, H1, I1, r1, q1⟩ => ?_
  obtain ⟨rfl, rfl⟩ := q1
  cases r1
  obtain ⟨⟨pz, nz, mz⟩, _⟩ := I1.hok _ _ Z.z
  obtain ⟨⟨pTI, nTI, mTI⟩, _⟩ := I1.hok _ _ Z.TI
  obtain ⟨⟨pTO, nTO, mTO⟩, _⟩ := I1.hok _ _ Z.TO
  obtain ⟨⟨p1, n1, m1⟩, _⟩ := I1.hok _ _ Z.i1
  obtain ⟨⟨p2, n2, m2⟩, _⟩ := I1.hok _ _ Z.i2
  have D := Z.ap
  refine wpAny_pyIter_zip pz ?_
  have dn : ∀ {H : Hp} {b c : Addr} {o : HO}, c ≠ b → H c = some o → delH H b c = some o := fun {H b c o} hne e => by
    unfold delH
    rw [if_neg hne]
    exact e
  have J1 := inv_forget I1 Z.z
  have J2 := inv_forget J1 (dn D.TIz Z.TI)
  have J3 := inv_forget J2 (dn (Ne.symm D.TITO) (dn D.TOz Z.TO))
  have J4 := inv_forget J3 (dn (Ne.symm D.TOi1) (dn (Ne.symm D.TIi1) (dn D.i1z Z.i1)))
  have J5 := inv_forget J4 (dn (Ne.symm D.i12) (dn (Ne.symm D.TOi2) (dn (Ne.symm D.TIi2) (dn D.i2z Z.i2))))
  refine ⟨z, [z, TI, TO, i1, i2], _, _, _, rfl, J5, turn_zip D, ⟨pz, pTI, pTO, p1, p2⟩, fun c hc => ?_, q⟩
  have hc' : c = z ∨ c = TI ∨ c = TO ∨ c = i1 ∨ c = i2 := by simpa using hc
  have key : ∀ {φ : Heap → Prop}, H1 c = some (.ext φ) → X.s_0.heap.objs.size ≤ c → c ∉ X.fs → FpOk X pins (delH (delH (delH (delH (delH H1 z) TI) TO) i1) i2) c := fun {φ} e n m => by
    refine ⟨d5_none hc', fun q => ?_, m, .inr n, fun y cc e' q => ?_, fun p hp q => ?_⟩
    · rw [q, I1.free] at e
      cases e
    · have := I1.freeC y cc e'
      rw [q, e] at this
      cases this
    · have := (I1.pin p hp).2.1
      rw [q, e] at this
      cases this
  rcases hc' with rfl | rfl | rfl | rfl | rfl
  · exact key Z.z nz mz
  · exact key Z.TI nTI mTI
  · exact key Z.TO nTO mTO
  · exact key Z.i1 n1 m1
  · exact key Z.i2 n2 m2
end
end PL

namespace PL
open PySem PySem.Spec PyProof.Rows L2
variable [Hand]
section
variable {K : PySem.W.Frag} {mg : Str → Option Value} {c : Cfg} {F H : Hp} {σ : L2.St} {ρ : Store}
/-- a slot gets what isn't a list of one's own -/
theorem Rel.setGen {i : Nat} {w : W} {v : V} (R : Rel K mg c F H σ ρ) (hi : i < σ.length) (hl : ∀ j, w ≠ .loc j) (ho : ∀ ds, w ≠ .own ds) (r : ∀ σ, RW K mg c F H σ w v) : Rel K mg c F H (σ.set i (some v)) (ρ.set i (some w)) := by
  have no : ∀ {j : Nat} {ds : List D}, (ρ.set i (some w))[j]? = some (some (.own ds)) → j ≠ i ∧ ρ[j]? = some (some (.own ds)) := fun {j ds} h => by
    have hne : j ≠ i := fun q => by
      subst q
      rw [List.getElem?_set] at h
      split at h
      · split at h
        · exact ho ds (Option.some.inj (Option.some.inj h))
        · cases h
      · rename_i q
        exact absurd rfl q
    rw [List.getElem?_set_ne (Ne.symm hne)] at h
    exact ⟨hne, h⟩
  refine ⟨R.aft, fun j u hu => ?_, fun j k ds es u hjk h1 h2 h3 h4 => ?_⟩
  · by_cases hj : j = i
    · subst hj
      rw [List.getElem?_set] at hu
      split at hu
      · split at hu
        · cases hu
          exact ⟨hl, v, by rw [List.getElem?_set_self hi], r _⟩
        · cases hu
      · rename_i q
        exact absurd rfl q
    · rw [List.getElem?_set_ne (Ne.symm hj)] at hu
      obtain ⟨h1, z, h2, h3⟩ := R.slot j u hu
      refine ⟨h1, z, by rw [List.getElem?_set_ne (Ne.symm hj)]; exact h2, ?_⟩
      cases u with
      | loc k => exact absurd rfl (h1 k)
      | _ => exact h3
  · obtain ⟨n1, k1⟩ := no h1
    obtain ⟨n2, k2⟩ := no h2
    rw [List.getElem?_set_ne (Ne.symm n1)] at h3
    rw [List.getElem?_set_ne (Ne.symm n2)] at h4
    exact R.apart j k ds es u hjk k1 k2 h3 h4
theorem Aft.writeH (A : Aft c F H) {p : Addr} {xs ys : List V} (hd : c.hd = some p) (hp : H p = some (.lst xs)) (hi : Hand.HI F (.lst ys)) : Aft c F (upd H p (.lst ys)) := by
  obtain ⟨f1, f2, _⟩ := A.hand p hd
  refine ⟨fun a u e => ?_, A.f0, fun a u e => ?_, A.pr0, A.new, fun a u e => ?_, A.nb, fun q hq => ?_, A.tb.write hp (plain_lst _)⟩
  · rw [upd_ne (ne_of_none e f1)]
    exact A.sub a u e
  · rw [upd_ne (ne_of_none e f2)]
    exact A.pr a u e
  · by_cases h : a = p
    · subst h
      exact ⟨_, upd_same, noT_lst _⟩
    · rw [upd_ne h]
      exact A.nn a u e
  · have e : q = p := Option.some.inj (hq.symm.trans hd)
    subst e
    exact ⟨f1, f2, _, upd_same, hi⟩
theorem XO.updH {p q : Addr} {o : HO} {φ : Heap → Prop} (x : XO c F H q φ) (hd : c.hd = some p) : XO c F (upd H p o) q φ := by
  obtain ⟨h1, h2, h3, h4, h5⟩ := x
  have hne : q ≠ p := fun e => h4 (by rw [e]; exact hd)
  exact ⟨by rw [upd_ne hne]; exact h1, h2, h3, h4, h5⟩
theorem Rel.writeH {i : Nat} {p : Addr} {ds : List D} {xs ys : List V} (R : Rel K mg c F H σ ρ) (hd : c.hd = some p) (hp : H p = some (.lst xs)) (hv : σ[i]? = some (some (.ref p))) (hi : Hand.HI F (.lst ys)) (r : RDs K mg F ds ys) (hcl : clean (ρ.set i none) = true) (hl : i < ρ.length) :
    Rel K mg c F (upd H p (.lst ys)) σ (ρ.set i (some (.hown ds))) := by
  have no : ∀ {j : Nat} {es : List D}, (ρ.set i (some (.hown ds)))[j]? = some (some (.own es)) → ρ[j]? = some (some (.own es)) := fun {j es} h => by
    by_cases hj : j = i
    · subst hj
      rw [List.getElem?_set_self hl] at h
      cases h
    · rw [List.getElem?_set_ne (Ne.symm hj)] at h
      exact h
  refine ⟨R.aft.writeH hd hp hi, fun j w hw => ?_, fun j k ds' es' u hjk k1 k2 k3 k4 => R.apart j k ds' es' u hjk (no k1) (no k2) k3 k4⟩
  by_cases hj : j = i
  · subst hj
    rw [List.getElem?_set_self hl] at hw
    cases hw
    exact ⟨(fun _ q => nomatch q), _, hv, p, ys, hd, rfl, upd_same, r⟩
  · rw [List.getElem?_set_ne (Ne.symm hj)] at hw
    obtain ⟨a1, u, a2, a3⟩ := R.slot j w hw
    refine ⟨a1, u, a2, ?_⟩
    have hcj := clean_at (i := j) (w := w) hcl (by rw [List.getElem?_set_ne (Ne.symm hj)]; exact hw)
    cases w with
    | own ds' =>
      obtain ⟨p', xs', e', b1, b2, b3, b4, b5⟩ := a3
      have hne : p' ≠ p := fun e => b4 (by rw [e]; exact hd)
      exact ⟨p', xs', e', by rw [upd_ne hne]; exact b1, b2, b3, b4, b5⟩
    | zip ds es => exact absurd rfl (hcj.1 ds es)
    | hown ds' => exact absurd rfl (hcj.2 ds')
    | _ => exact a3
theorem RDs.set {d : D} {v : V} (h : RD K mg F d v) : ∀ {ds : List D} {vs : List V} (i : Nat), RDs K mg F ds vs → RDs K mg F (ds.set i d) (vs.set i v)
  | _, _, _, .nil => .nil
  | _, _, 0, .cons _ k => .cons h k
  | _, _, i + 1, .cons q k => .cons q (RDs.set h i k)
end
section
variable {X : Cx} {ρ : Store} {Y : Str → Store → Prop} {P : Po} {T : Pst}
/-- x = zip(a, b) -/
theorem ws_zip (i : Nat) {x : Str} {e e2 : Expr} {p pos' pos2 pos : Pos} (hg : Gl X "zip") (hm : X.mg "zip" = none) (hN : X.N.Nodup) (hi : X.N[i]? = some x) (hx : Loc X.env.scope x) (h : WA X [e, e2] ρ Y fun ws ρ1 => ∃ ds es, ws = [.val (.lst ds), .val (.lst es)] ∧ T.nx (ρ1.set i (some (.zip ds es))))
    (hs1 : starEach [e, e2] X.env = (false, eval e X.env) :: starEach [e2] X.env := by rfl) (hpl : (backTo pos2 (starEach [e2] X.env)).any (·.1) = false := by rfl)
    (hs : swapsWith (.Call (.Name "zip" p) [e, e2] [] pos2) (some (.Name x pos')) pos.line X.env = pure false := by rfl) (hf : X.fn x = true ∨ X.env.scope.names.lookup x = some .local := by first | exact .inl rfl | exact .inr rfl | assumption) :
    WS X (.Assign [.Name x pos'] (.Call (.Name "zip" p) [e, e2] [] pos2) pos) ρ Y T := fun c F H σ nb R L => bS.inv fun hl => by
  refine bstS (ps_set hN hi hx (pe_zip hg hm pa_best hs1 hpl) hs hf) ?_
  refine (h c F H σ R L).imp fun vs H1 ⟨F1, ρ1, ws, E1, R1, r1, ds, es, e1, hP⟩ => ?_
  subst e1
  obtain ⟨u1, u2, rfl, q1, q2⟩ := r1.two
  obtain ⟨a, xs, rfl, a1, a2⟩ := RD.lst_inv q1
  obtain ⟨b, ys, rfl, b1, b2⟩ := RD.lst_inv q2
  refine ⟨a, b, xs, ys, rfl, .inl (.inl (R1.aft.sub _ _ a1)), .inl (.inl (R1.aft.sub _ _ b1)), fun z TI TO i1 i2 Z nz nTI nTO n1 n2 => ?_⟩
  have D := Z.ap
  have up : ∀ {H : Hp} {b c : Addr} {o : HO}, H c = none → c ≠ b → upd H b o c = none := fun {H b c o} f hne => by rw [upd_ne hne]; exact f
  have f0 : ∀ q, H1 q = none → F1 q = none ∧ c.Pr q = none ∧ c.hd ≠ some q ∧ c.N q = none ∧ c.zs = true := fun q hq => by
    obtain ⟨k1, k2, k3, k4⟩ := R1.aft.fresh0 hq
    exact ⟨k3, k4, k2, k1, nb.2⟩
  have S1 := R1.growH (o := .ext (XF X z fun h => IsZip h z TI TO .none)) nz
  have S2 := S1.growH (o := .ext (XF X TI fun h => IsPair h TI (.ref i1) (.ref i2))) (up nTI D.TIz)
  have S3 := S2.growH (o := .ext (XF X TO fun h => ∃ x y, IsPair h TO x y)) (up (up nTO D.TOz) (Ne.symm D.TITO))
  have S4 := S3.growH (o := .ext (XF X i1 fun h => h.IsListIter i1 a 0)) (up (up (up n1 D.i1z) (Ne.symm D.TIi1)) (Ne.symm D.TOi1))
  have S5 := S4.growH (o := .ext (XF X i2 fun h => h.IsListIter i2 b 0)) (up (up (up (up n2 D.i2z) (Ne.symm D.TIi2)) (Ne.symm D.TOi2)) (Ne.symm D.i12))
  obtain ⟨en, ef⟩ := L.1.2.2 nb.2
  have xo : ∀ (q : Addr) (φ : Heap → Prop), (u5 X H1 z TI TO i1 i2 a b) q = some (.ext (XF X q φ)) → H1 q = none → XO c F1 (u5 X H1 z TI TO i1 i2 a b) q φ := fun q φ hq hn => by
    refine ⟨?_, f0 q hn⟩
    rw [hq, en, ef]
    rfl
  refine ⟨F1, _, S5.setGen (w := .zip ds es) (by rw [hl]; exact lt_of_ix hi) (fun _ q => nomatch q) (fun _ q => nomatch q) fun _ => ⟨z, TI, TO, i1, i2, a, b, xs, ys, rfl, D, ⟨xo _ _ Z.z nz, xo _ _ Z.TI nTI, xo _ _ Z.TO nTO, xo _ _ Z.i1 n1, xo _ _ Z.i2 n2⟩, .inl (.inl a1), a2, .inl (.inl b1), b2⟩, hP⟩
theorem heapOf (a : Addr) (q : Str) : ∃ h : Heap, h.get? a = some { cls := .none, data := .fields #[.none, .str q 0] } := by
  refine ⟨⟨Array.replicate (a + 1) { cls := .none, data := .fields #[.none, .str q 0] }, {}⟩, ?_⟩
  have e : (Array.replicate (a + 1) ({ cls := .none, data := .fields #[.none, .str q 0] } : Obj))[a]? = some { cls := .none, data := .fields #[.none, .str q 0] } := by
    rw [Array.getElem?_replicate, if_pos (Nat.lt_succ_self a)]
  unfold Heap.get?
  show (match (Array.replicate (a + 1) ({ cls := .none, data := .fields #[.none, .str q 0] } : Obj))[a]? with
    | some ⟨_, _, .freed, _⟩ => none
    | o => o) = _
  rw [e]
/-- for .. in x, x a zip object: it is gone behind it -/
theorem wi_zipN (i : Nat) {x : Str} {elts : List Expr} {kk : Nat} {tpos pos : Pos} {P : List D → Store → Prop} {ds es : List D} (hN : X.N[i]? = some x) (hv : Vis X.env.scope x) (hρ : ρ[i]? = some (some (.zip ds es))) (hcl : clean (ρ.set i none) = true) (h : P (List.zipWith (fun x y => D.tup [x, y]) ds es) (ρ.set i none))
    (hd : (x == ("__debug__" : Str)) = false := by decide) (hcd : (x == ("__classdict__" : Str)) = false := by decide) : WI X (.Tuple elts kk tpos) (.Name x pos) ρ Y P := fun c F H σ R L => by
  refine bstI (pi_zipN hN hv hd hcd) ?_
  obtain ⟨_, v, hs, z, TI, TO, i1, i2, a, b, xs, ys, e1, D, ⟨x1, x2, x3, x4, x5⟩, a1, a2, b1, b2⟩ := R.slot i _ hρ
  subst e1
  obtain ⟨en, ef⟩ := L.1.2.2 x1.2.2.2.2.2
  have k : ∀ {q : Addr} {φ : Heap → Prop}, XO c F H q φ → H q = some (.ext (XF X q φ)) := fun {q φ} x => by
    rw [x.1, en, ef]
    rfl
  refine ⟨z, TI, TO, i1, i2, a, b, hs, ⟨D, k x1, k x2, k x3, k x4, k x5⟩, F, ρ.set i none, _, .refl F, ?_, isIt_zip a1 a2 b1 b2, h⟩
  have five : ∀ q, H q = none ∨ (∃ o, H q = some o ∧ ∀ φ, o ≠ .ext φ) ∨ F q ≠ none ∨ c.Pr q ≠ none ∨ c.hd = some q ∨ c.N q ≠ none → q ≠ z ∧ q ≠ TI ∧ q ≠ TO ∧ q ≠ i1 ∧ q ≠ i2 := fun q hq => by
    have no : ∀ {r : Addr} {φ : Heap → Prop}, XO c F H r φ → q ≠ r := fun {r φ} x e => by
      subst e
      obtain ⟨y1, y2, y3, y4, y5, y6⟩ := x
      rcases hq with g | ⟨o, g, n⟩ | g | g | g | g
      · rw [g] at y1
        cases y1
      · rw [g] at y1
        exact n _ (Option.some.inj y1)
      · exact g y2
      · exact g y3
      · exact y4 g
      · exact g y5
    exact ⟨no x1, no x2, no x3, no x4, no x5⟩
  have A : Aft c F (d5 H z TI TO i1 i2) := by
    refine ⟨fun q o e => ?_, R.aft.f0, fun q o e => ?_, R.aft.pr0, R.aft.new, fun q o e => ?_, R.aft.nb, fun q hq => ?_, ⟨R.aft.tb.nF, R.aft.tb.nP, fun q hq => ?_⟩⟩
    · rw [d5_at (five q (.inr (.inr (.inl (by rw [e]; exact fun z => nomatch z)))))]
      exact R.aft.sub q o e
    · rw [d5_at (five q (.inr (.inr (.inr (.inl (by rw [e]; exact fun z => nomatch z))))))]
      exact R.aft.pr q o e
    · rw [d5_at (five q (.inr (.inr (.inr (.inr (.inr (by rw [e]; exact fun z => nomatch z)))))))]
      exact R.aft.nn q o e
    · rw [d5_at (five q (.inr (.inr (.inr (.inr (.inl hq))))))]
      exact R.aft.hand q hq
    · obtain ⟨ps, h1, h2, h3⟩ := R.aft.tb.tabs q hq
      refine ⟨ps, by rw [d5_at (five q.1 (.inr (.inl ⟨_, h1, fun _ z => nomatch z⟩)))]; exact h1, h2, fun pos cv hc => ?_⟩
      obtain ⟨cc, e1, e2⟩ := h3 pos cv hc
      refine ⟨cc, e1, ?_⟩
      have nc : ∀ {r : Addr} {φ : Heap → Prop}, XO c F H r φ → (∀ h : Heap, h.get? r = some { cls := .none, data := .fields #[.none, .str q.2 0] } → ¬ φ h) → cc ≠ r := fun {r φ} x nn e => by
        subst e
        rw [x.1] at e2
        have e3 := HO.ext.inj (Option.some.inj e2)
        obtain ⟨h, hh⟩ := heapOf cc q.2
        have e4 : (φ h ∧ c.n0 ≤ cc ∧ cc ∉ c.fs) = _ := congrFun e3 h
        have e5 : φ h ∧ c.n0 ≤ cc ∧ cc ∉ c.fs := by
          rw [e4]
          exact ⟨_, _, 0, hh, rfl, rfl⟩
        exact nn h hh e5.1
      have g1 : ∀ h : Heap, h.get? z = some { cls := .none, data := .fields #[.none, .str q.2 0] } → ¬ IsZip h z TI TO .none := fun h hh p => by
        rw [show h.get? z = _ from p] at hh
        cases hh
      have g2 : ∀ h : Heap, h.get? TI = some { cls := .none, data := .fields #[.none, .str q.2 0] } → ¬ IsPair h TI (.ref i1) (.ref i2) := fun h hh p => by
        rw [show h.get? TI = _ from p] at hh
        cases hh
      have g3 : ∀ h : Heap, h.get? TO = some { cls := .none, data := .fields #[.none, .str q.2 0] } → ¬ (∃ x y, IsPair h TO x y) := fun h hh p => by
        obtain ⟨_, _, p⟩ := p
        rw [show h.get? TO = _ from p] at hh
        cases hh
      have g4 : ∀ (r l : Addr) (h : Heap), h.get? r = some { cls := .none, data := .fields #[.none, .str q.2 0] } → ¬ h.IsListIter r l 0 := fun r l h hh p => by
        obtain ⟨o, p, pc, _⟩ := p
        rw [p] at hh
        cases hh
        cases pc
      have ce : (d5 H z TI TO i1 i2) cc = H cc := d5_at ⟨nc x1 g1, nc x2 g2, nc x3 g3, nc x4 (g4 i1 a), nc x5 (g4 i2 b)⟩
      rw [ce]
      exact e2
  have key : ∀ (j : Nat) (w : W), (ρ.set i none)[j]? = some (some w) → j ≠ i ∧ ρ[j]? = some (some w) := fun j w hj => by
    have hne : j ≠ i := fun e => by
      subst e
      rw [List.getElem?_set] at hj
      split at hj
      · split at hj <;> cases hj
      · rename_i q
        exact absurd rfl q
    rw [List.getElem?_set_ne (Ne.symm hne)] at hj
    exact ⟨hne, hj⟩
  refine ⟨A, fun j w hw => ?_, fun j k' ds' es' u hjk k1 k2 k3 k4 => R.apart j k' ds' es' u hjk (key j _ k1).2 (key k' _ k2).2 k3 k4⟩
  obtain ⟨a0, u, a2, a3⟩ := R.slot j w (key j w hw).2
  refine ⟨a0, u, a2, ?_⟩
  cases w with
  | own ds' =>
    obtain ⟨p', xs', e', g1, g2, g3, g4, g5⟩ := a3
    exact ⟨p', xs', e', by rw [d5_at (five p' (.inr (.inl ⟨_, g1, fun _ z => nomatch z⟩)))]; exact g1, g2, g3, g4, g5⟩
  | zip ds es => exact absurd rfl ((clean_at hcl hw).1 ds es)
  | hown ds => exact absurd rfl ((clean_at hcl hw).2 ds)
  | _ => exact a3
/-- the hand is opened -/
theorem wb_open (i : Nat) {body : List Stmt} {G : List D → Prop} (hρ : ρ[i]? = some (some .hnd)) (ho : ∀ F o, Hand.HI F o → ∃ ds xs, o = .lst xs ∧ RDs X.K X.mg F ds xs ∧ G ds) (h : ∀ ds, G ds → WB X body (ρ.set i (some (.hown ds))) Y T) : WB X body ρ Y T := fun c F H σ nb R L => by
  obtain ⟨_, v, hs, p, hd, rfl⟩ := R.slot i _ hρ
  obtain ⟨f1, f2, o, f3, f4⟩ := R.aft.hand p hd
  obtain ⟨ds, xs, rfl, r, g⟩ := ho F o f4
  have hi : i < σ.length := (List.getElem?_eq_some_iff.mp hs).1
  have e : σ.set i (some (.ref p)) = σ := by
    apply List.ext_getElem?
    intro j
    by_cases hj : j = i
    · subst hj
      rw [List.getElem?_set_self hi, hs]
    · rw [List.getElem?_set_ne (Ne.symm hj)]
  have R2 := R.setGen (i := i) (w := .hown ds) (v := .ref p) hi (fun _ q => nomatch q) (fun _ q => nomatch q) fun _ => ⟨p, xs, hd, rfl, f3, r⟩
  rw [e] at R2
  exact h ds g c F H σ nb R2 L
/-- hand[k] = e -/
theorem ws_hset {o ix e : Expr} {pos' pos : Pos} (h : WE X e ρ Y fun v ρ1 => ∃ d, v = .val d ∧ WE X o ρ1 Y fun x ρ2 => WE X ix ρ2 Y fun y ρ3 => ∃ i ds k j, x = .loc i ∧ ρ3[i]? = some (some (.hown ds)) ∧ clean (ρ3.set i none) = true ∧ y = .val (.int k) ∧ ixN ds.length k = some j ∧ (∀ F xs, RDs X.K X.mg F (ds.set j d) xs → Hand.HI F (.lst xs)) ∧ T.nx (ρ3.set i (some (.hown (ds.set j d)))))
    (ha : ∀ v, assign (.Subscript o ix pos') X.env v = (do
      let ov ← holding [v] (eval o X.env)
      let iv ← holding [v, ov] (eval ix X.env)
      standAt pos'
      holding [v, ov, iv] (setItem ov iv v)
      release [v, ov, iv] []) := by intro _; rfl)
    (hs : swapsWithSole [.Subscript o ix pos'] e pos.line X.env = pure false := by rfl) (hw : swappedStores [.Subscript o ix pos'] e X.env = pure none := by rfl) (h1 : (assignEach [.Subscript o ix pos'] X.env).map (·.2) = [assign (.Subscript o ix pos') X.env] := by rfl) :
    WS X (.Assign [.Subscript o ix pos'] e pos) ρ Y T := fun c F H σ nb R L => by
  refine bstS (ps_asg pe_best (pg_sub pe_best pe_best set_list ha) hs hw h1) ?_
  refine (h.run R L).imp fun v H1 ⟨F1, ρ1, w, E1, R1, r1, d, e1, ho⟩ => (ho.run R1 L).imp fun x H2 ⟨F2, ρ2, w2, E2, R2, r2, hi⟩ => (hi.run R2 L).imp fun y H3 ⟨F3, ρ3, w3, E3, R3, r3, i, ds, k, j, e2, q1, q2, e3, q3, q4, q5⟩ => ?_
  subst e1 e2 e3
  obtain ⟨_, z, hz, p, xs, hd, rfl, hp, rr⟩ := R3.slot i _ q1
  have r2' : σ[i]? = some (some x) := r2
  rw [hz] at r2'
  cases r2'
  have r4 := rr.set (RD.ext (E2.trans E3) r1) j
  refine ⟨p, xs, k, j, rfl, RD.int_inv r3, hp, by rw [rr.len]; exact q3, F3, _, R3.writeH hd hp hz (q4 _ _ r4) r4 q2 (List.getElem?_eq_some_iff.mp q1).1, q5⟩
end
end PL

namespace PL
open PySem PySem.Spec PyProof.Rows L2
variable [Hand]
/-! ### cases -/
theorem iteI {k : Bool} {A B : Prop} (a : k = true → A) (b : k = false → B) : if k = true then A else B := by
  cases k with
  | true => exact a rfl
  | false => exact b rfl
theorem iteT {k : Bool} {A B : Prop} (h : k = true) (a : A) : if k = true then A else B := by
  rw [if_pos h]
  exact a
theorem iteF {k : Bool} {A B : Prop} (h : k = false) (b : B) : if k = true then A else B := by
  rw [if_neg (by rw [h]; decide)]
  exact b
/-! ### data through and through -/
mutual
def D.ok : D → Bool
  | .tup xs => D.oks xs
  | .lst xs => D.oks xs
  | .ro xs => D.oks xs
  | .dct _ ds => D.oks ds
  | .fn _ => false
  | _ => true
def D.oks : List D → Bool
  | [] => true
  | d :: ds => D.ok d && D.oks ds
end
theorem D.ok_plain {d : D} (h : d.ok = true) : d.plain = true := by
  cases d <;> first | rfl | (unfold D.ok at h; cases h)
theorem D.oks_at {ds : List D} (h : D.oks ds = true) : ∀ d ∈ ds, d.ok = true := by
  induction ds with
  | nil => intro d hd; cases hd
  | cons x xs ih =>
    unfold D.oks at h
    rw [Bool.and_eq_true] at h
    intro d hd
    rcases List.mem_cons.mp hd with rfl | hd
    · exact h.1
    · exact ih h.2 d hd
theorem D.oks_of {ds : List D} (h : ∀ d ∈ ds, d.ok = true) : D.oks ds = true := by
  induction ds with
  | nil => rfl
  | cons x xs ih =>
    unfold D.oks
    rw [Bool.and_eq_true]
    exact ⟨h x List.mem_cons_self, ih fun d hd => h d (List.mem_cons_of_mem _ hd)⟩
/-! ### sizes of ints -/
def Bd (n : Nat) (i : Int) : Prop := i.natAbs < 2 ^ n
theorem Bd.mono {m n : Nat} {i : Int} (h : Bd m i) (e : m ≤ n) : Bd n i := Nat.lt_of_lt_of_le h (Nat.pow_le_pow_right (by decide) e)
theorem Bd.mul {m n : Nat} {i j : Int} (h : Bd m i) (k : Bd n j) : Bd (m + n) (i * j) := by
  unfold Bd at *
  rw [Int.natAbs_mul, Nat.pow_add]
  exact Nat.mul_lt_mul'' h k
theorem Bd.add {n : Nat} {i j : Int} (h : Bd n i) (k : Bd n j) : Bd (n + 1) (i + j) := by
  unfold Bd at *
  have := Int.natAbs_add_le i j
  rw [Nat.pow_succ]
  omega
theorem Bd.neg {n : Nat} {i : Int} (h : Bd n i) : Bd n (-i) := by
  unfold Bd at *
  rw [Int.natAbs_neg]
  exact h
theorem Bd.sub {n : Nat} {i j : Int} (h : Bd n i) (k : Bd n j) : Bd (n + 1) (i - j) := by
  rw [Int.sub_eq_add_neg]
  exact h.add k.neg
theorem Bd.log {n : Nat} {i : Int} (h : Bd n i) (hn : 0 < n) : i.natAbs.log2 < n := by
  by_cases e : i.natAbs = 0
  · rw [e]
    exact hn
  · exact (Nat.log2_lt e).mpr h
theorem Bd.cmul {m n : Nat} {i j : Int} (h : Bd m i) (k : Bd n j) (e : m + n ≤ 1000000) (hm : 0 < m) (hn : 0 < n) : CMulW i j := by
  have h1 := h.log hm
  have h2 := k.log hn
  unfold CMulW
  omega
theorem Bd.cdiv {n : Nat} {j : Int} (i : Int) (h : Bd n j) (h0 : j ≠ 0) (hn : 0 < n) (e : n ≤ 9000) : CDivG i j := ⟨h0, Nat.lt_of_lt_of_le (h.log hn) e⟩
/-! ### calls -/
section
variable {P : Program} {w : World} {K : PySem.W.Frag} {mg : Str → Option Value} {base : Heap} {k : Nat} {x : Str} {n : Nat} {S : Sem1}
theorem Cal.mono {j : Nat} (C : Cal P w K mg base k x n S) (h : k ≤ j) : Cal P w K mg base j x n S := by
  obtain ⟨f, fd, ps, F, r⟩ := C.ex
  exact ⟨f, fd, ps, F.mono h, r⟩
theorem cal_of {st : Stmt} {f : Addr} {fd : FuncData} {ps : List Str} (F : FunD K x x (defArgs st) (defBody st) (defScope st) [] [] f fd) (hm : mg x = some (.ref f)) (hb : Binds K fd ps []) (ok : FnOk P w K mg base (L2.CX P w) k f fd ps (spS K mg n S)) : Cal P w K mg base k x n S :=
  ⟨f, fd, ps, ok, hm, F.kp, hb⟩
end
section
variable {X : Cx} {ρ : Store} {Y : Str → Store → Prop} {P : Po} {T : Pst}
theorem we_gstr {x z : Str} {pos : Pos} (hg : Gl X x) (hm : ∃ t, X.mg x = some (.str z t)) (h : P (.val (.str z)) ρ) (hd : (x == ("__debug__" : Str)) = false := by decide) : WE X (.Name x pos) ρ Y P := by
  obtain ⟨t, hm⟩ := hm
  exact we_glob hg hm (fun F => ⟨.str z, ⟨t, rfl⟩, .str z⟩) h hd
theorem we_gint {x : Str} {i : Int} {pos : Pos} (hg : Gl X x) (hm : ∃ t, X.mg x = some (.int i t)) (h : P (.val (.int i)) ρ) (hd : (x == ("__debug__" : Str)) = false := by decide) : WE X (.Name x pos) ρ Y P := by
  obtain ⟨t, hm⟩ := hm
  exact we_glob hg hm (fun F => ⟨.int i, ⟨t, rfl⟩, .int i⟩) h hd
theorem we_gfn {x : Str} {a : Addr} {pos : Pos} (hg : Gl X x) (hm : X.mg x = some (.ref a)) (h : P (.val (.fn x)) ρ) (hd : (x == ("__debug__" : Str)) = false := by decide) : WE X (.Name x pos) ρ Y P :=
  we_glob hg hm (fun F => ⟨.ref a, rfl, .fn hm⟩) h hd
/-- a tuple of the module -/
theorem we_gtup {x : Str} {a : Addr} {ds : List D} {vs : List V} {pos : Pos} (hg : Gl X x) (hm : X.mg x = some (.ref a)) (hs : ∀ F : Hp, SqT X.K F a vs) (hr : ∀ F : Hp, RDs X.K X.mg F ds vs) (h : P (.val (.tup ds)) ρ) (hd : (x == ("__debug__" : Str)) = false := by decide) : WE X (.Name x pos) ρ Y P :=
  we_glob hg hm (fun F => ⟨.ref a, rfl, .tup (hs F) (hr F)⟩) h hd
end
end PL
namespace PL
open PySem PySem.Spec PyProof.Rows L2
variable [Hand]
section
variable {X : Cx} {ρ : Store} {Y : Str → Store → Prop} {P : Po} {T : Pst}
theorem we_inK {a b : Expr} {x : Str} {pos : Pos} (D : KdAt X x) (hm : behindInMarks .In b = false) (h : WE X a ρ Y fun u ρ1 => WE X b ρ1 Y fun y ρ2 => ∃ z r, u = .val (.str z) ∧ y = .val (.fn x) ∧ kdSays X x z r ∧ P (.val (.bl r.isSome)) ρ2) : WE X (.Compare a [.In] [b] pos) ρ Y P := fun c F H σ R L => by
  obtain ⟨d, es, n, m1, kd⟩ := D
  refine bst (pe_cmpR (op_in_kd kd) pe_best pe_best hm) ?_
  refine (h.run R L).imp fun v H1 ⟨F1, ρ1, w, _, R1, r1, hb⟩ => (hb.run R1 L).imp fun u H2 ⟨F2, ρ2, w2, _, R2, r2, z, r, e1, e2, ⟨d', m2, hk⟩, hP⟩ => ?_
  subst e1 e2
  rw [m1] at m2
  cases m2
  have r2' : RD X.K X.mg F2 (.fn x) u := r2
  cases r2' with
  | fn m3 =>
    rw [m1] at m3
    cases m3
    cases r with
    | none => exact ⟨z, none, RD.str_inv r1, rfl, hk, vp R2 (.bl _) hP⟩
    | some e =>
      obtain ⟨u0, hk, _⟩ := hk
      exact ⟨z, some u0, RD.str_inv r1, rfl, hk, vp R2 (.bl _) hP⟩
/-- a statement, what is known behind it, the rest -/
theorem wb_join (J : Store → Prop) {st : Stmt} {rest : List Stmt} (h : WS X st ρ Y { T with nx := J }) (k : ∀ ρ1, J ρ1 → WB X rest ρ1 Y T) : WB X (st :: rest) ρ Y T := fun c F H σ nb R L => by
  refine bstB (pss_cons ps_best pss_best) ?_
  refine bS.imp (h c F H σ nb R L) (fun σ1 H1 ⟨F1, ρ1, R1, q⟩ => k ρ1 q c F1 H1 σ1 nb R1 L) (fun _ _ q => q) (fun _ _ q => q) fun _ _ q => q
end
end PL

namespace PL
open PySem PySem.Spec PyProof.Rows L2
variable [Hand]
/-! ### == of data, deep -/
mutual
def D.py : D → Option PyData
  | .non => some .none
  | .bl b => some (.bool b)
  | .int i => some (.int i)
  | .str x => some (.str x)
  | .tup xs => match D.pys xs with
    | some ps => some (.tuple ps)
    | none => none
  | .lst xs => match D.pys xs with
    | some ps => some (.list ps)
    | none => none
  | .ro xs => match D.pys xs with
    | some ps => some (.list ps)
    | none => none
  | _ => none
def D.pys : List D → Option (List PyData)
  | [] => some []
  | d :: ds => match D.py d, D.pys ds with
    | some p, some ps => some (p :: ps)
    | _, _ => none
end
section
variable {K : PySem.W.Frag} {mg : Str → Option Value} {F : Hp}
mutual
theorem RD.dp : ∀ {d : D} {v : V} {p : PyData}, RD K mg F d v → D.py d = some p → Dp K F v p
  | _, _, _, .non, e => by
    unfold D.py at e
    cases e
    exact .non
  | _, _, _, .bl b, e => by
    unfold D.py at e
    cases e
    exact .bl b
  | _, _, _, .int i, e => by
    unfold D.py at e
    cases e
    exact .int i
  | _, _, _, .str x, e => by
    unfold D.py at e
    cases e
    exact .str x
  | _, _, _, .tup h k, e => by
    unfold D.py at e
    split at e
    · rename_i ps q
      cases e
      exact .tup h (RDs.dp k q)
    · cases e
  | _, _, _, .lst h k, e => by
    unfold D.py at e
    split at e
    · rename_i ps q
      cases e
      exact .lst (.inl (.inl h)) (RDs.dp k q)
    · cases e
  | _, _, _, .ro h k, e => by
    unfold D.py at e
    split at e
    · rename_i ps q
      cases e
      exact .lst h (RDs.dp k q)
    · cases e
  | _, _, _, .dct _ _ _ _, e => by
    unfold D.py at e
    cases e
  | _, _, _, .fn _, e => by
    unfold D.py at e
    cases e
theorem RDs.dp : ∀ {ds : List D} {vs : List V} {ps : List PyData}, RDs K mg F ds vs → D.pys ds = some ps → DpAll K F vs ps
  | _, _, _, .nil, e => by
    unfold D.pys at e
    cases e
    exact .nil
  | _, _, _, .cons h k, e => by
    unfold D.pys at e
    split at e
    · rename_i p ps q1 q2
      cases e
      exact .cons (RD.dp h q1) (RDs.dp k q2)
    · cases e
end
mutual
theorem dp_ext {F' : Hp} (e : Ext F F') : ∀ {v : V} {p : PyData}, Dp K F v p → Dp K F' v p
  | _, _, .non => .non
  | _, _, .bl b => .bl b
  | _, _, .int i => .int i
  | _, _, .str x => .str x
  | _, _, .lst h k => .lst (sqL_ext e h) (dps_ext e k)
  | _, _, .tup h k => .tup (sqT_ext e h) (dps_ext e k)
theorem dps_ext {F' : Hp} (e : Ext F F') : ∀ {vs : List V} {ps : List PyData}, DpAll K F vs ps → DpAll K F' vs ps
  | _, _, .nil => .nil
  | _, _, .cons h k => .cons (dp_ext e h) (dps_ext e k)
end
end
section
variable {X : Cx} {ρ : Store} {Y : Str → Store → Prop} {P : Po} {T : Pst}
theorem we_eqD {j : Nat} {a b : Expr} {pos : Pos} (hr : Room j X.A) (h : WE X a ρ Y fun x ρ1 => WE X b ρ1 Y fun y ρ2 => ∃ d e p q, x = .val d ∧ y = .val e ∧ d.py = some p ∧ e.py = some q ∧ SeqAt.shaped p = true ∧ SeqAt.shaped q = true ∧ P (.val (.bl (PyData.eqv p q))) ρ2) : WE X (.Compare a [.Eq] [b] pos) ρ Y P := fun c F H σ R L => by
  refine bst (pe_cmpR (op_eqD hr.units) pe_best pe_best (nomark _)) ?_
  refine (h.run R L).imp fun v H1 ⟨F1, ρ1, w, _, R1, r1, hb⟩ => (hb.run R1 L).imp fun u H2 ⟨F2, ρ2, w2, E2, R2, r2, d, e, p, q, e1, e2, p1, p2, s1, s2, hP⟩ => ?_
  subst e1 e2
  exact ⟨p, q, dp_ext (E2.trans R2.aft.sub) (RD.dp r1 p1), dp_ext R2.aft.sub (RD.dp r2 p2), s1, s2, vp R2 (.bl _) hP⟩
theorem wt_eqD {j : Nat} {a b : Expr} {pos : Pos} {P : Pb} (hr : Room j X.A) (h : WE X a ρ Y fun x ρ1 => WE X b ρ1 Y fun y ρ2 => ∃ d e p q, x = .val d ∧ y = .val e ∧ d.py = some p ∧ e.py = some q ∧ SeqAt.shaped p = true ∧ SeqAt.shaped q = true ∧ P (PyData.eqv p q) ρ2) : WT X (.Compare a [.Eq] [b] pos) ρ Y P := fun c F H σ R L => by
  refine bstT (pt_cmpR (op_eqD hr.units) pe_best pe_best (nomark _)) ?_
  refine (h.run R L).imp fun v H1 ⟨F1, ρ1, w, _, R1, r1, hb⟩ => (hb.run R1 L).imp fun u H2 ⟨F2, ρ2, w2, E2, R2, r2, d, e, p, q, e1, e2, p1, p2, s1, s2, hP⟩ => ?_
  subst e1 e2
  exact ⟨p, q, dp_ext (E2.trans R2.aft.sub) (RD.dp r1 p1), dp_ext R2.aft.sub (RD.dp r2 p2), s1, s2, _, rfl, F2, ρ2, R2, hP⟩
theorem wt_neD {j : Nat} {a b : Expr} {pos : Pos} {P : Pb} (hr : Room j X.A) (h : WE X a ρ Y fun x ρ1 => WE X b ρ1 Y fun y ρ2 => ∃ d e p q, x = .val d ∧ y = .val e ∧ d.py = some p ∧ e.py = some q ∧ SeqAt.shaped p = true ∧ SeqAt.shaped q = true ∧ P (!PyData.eqv p q) ρ2) : WT X (.Compare a [.NotEq] [b] pos) ρ Y P := fun c F H σ R L => by
  refine bstT (pt_cmpR (op_neD hr.units) pe_best pe_best (nomark _)) ?_
  refine (h.run R L).imp fun v H1 ⟨F1, ρ1, w, _, R1, r1, hb⟩ => (hb.run R1 L).imp fun u H2 ⟨F2, ρ2, w2, E2, R2, r2, d, e, p, q, e1, e2, p1, p2, s1, s2, hP⟩ => ?_
  subst e1 e2
  exact ⟨p, q, dp_ext (E2.trans R2.aft.sub) (RD.dp r1 p1), dp_ext R2.aft.sub (RD.dp r2 p2), s1, s2, _, rfl, F2, ρ2, R2, hP⟩
end
end PL

namespace PL
open PySem PySem.Spec PyProof.Rows L2
variable [Hand]
section
variable {K : PySem.W.Frag} {mg : Str → Option Value} {c : Cfg} {F H : Hp} {σ : L2.St} {ρ : Store}
/-- a list of one's own is frozen -/
theorem Rel.freezeOwn {i : Nat} {ds : List D} (nb : c.blk = false) (R : Rel K mg c F H σ ρ) (hi : ρ[i]? = some (some (.own ds))) : ∃ F', Ext F F' ∧ Rel K mg c F' H σ (ρ.set i (some (.val (.lst ds)))) := by
  obtain ⟨_, v, hv, p, xs, rfl, h1, h2, h3, h4, h5⟩ := R.slot i _ hi
  have hlt : i < ρ.length := (List.getElem?_eq_some_iff.mp hi).1
  have no : ∀ {j : Nat} {es : List D}, (ρ.set i (some (.val (.lst ds))))[j]? = some (some (.own es)) → j ≠ i ∧ ρ[j]? = some (some (.own es)) := fun {j es} h => by
    have hj : j ≠ i := fun q => by
      subst q
      rw [List.getElem?_set_self hlt] at h
      cases h
    rw [List.getElem?_set_ne (Ne.symm hj)] at h
    exact ⟨hj, h⟩
  refine ⟨upd F p (.lst xs), .new h2, R.aft.freeze nb (noT_lst _) h1 h2 h3 h4, fun j w hw => ?_, fun j k ds' es' u hjk k1 k2 k3 k4 => R.apart j k ds' es' u hjk (no k1).2 (no k2).2 k3 k4⟩
  by_cases hj : j = i
  · subst hj
    rw [List.getElem?_set_self hlt] at hw
    cases hw
    exact ⟨(fun _ q => nomatch q), _, hv, .lst upd_same (h5.ext (.new h2))⟩
  · have hw' := hw
    rw [List.getElem?_set_ne (Ne.symm hj)] at hw
    obtain ⟨a1, u, a2, a3⟩ := R.slot j w hw
    refine ⟨a1, u, a2, ?_⟩
    cases w with
    | val d => exact RD.ext (.new h2) a3
    | own ds' =>
      obtain ⟨p', xs', e', b1, b2, b3, b4, b5⟩ := a3
      subst e'
      have hne : p' ≠ p := fun e => by
        subst e
        exact R.apart j i ds' ds _ hj hw hi a2 hv
      exact ⟨p', xs', rfl, b1, by rw [upd_ne hne]; exact b2, b3, b4, b5.ext (.new h2)⟩
    | loc k => exact a3
    | hnd => exact a3
    | zip ds' es' =>
      obtain ⟨z, TI, TO, i1, i2, a, b, ys, zs, e1, e2, ⟨x1, x2, x3, x4, x5⟩, r1, r2, r3, r4⟩ := a3
      have k : ∀ {q : Addr} {φ : Heap → Prop}, XO c F H q φ → XO c (upd F p (.lst xs)) H q φ := fun {q φ} ⟨y1, y2, y3, y4, y5⟩ => by
        have hne : q ≠ p := fun e => by
          rw [e, h1] at y1
          exact nomatch y1
        exact ⟨y1, by rw [upd_ne hne]; exact y2, y3, y4, y5⟩
      exact ⟨z, TI, TO, i1, i2, a, b, ys, zs, e1, e2, ⟨k x1, k x2, k x3, k x4, k x5⟩, sqL_ext (.new h2) r1, r2.ext (.new h2), sqL_ext (.new h2) r3, r4.ext (.new h2)⟩
    | hown ds' =>
      obtain ⟨p', xs', g1, e', b1, b5⟩ := a3
      exact ⟨p', xs', g1, e', b1, b5.ext (.new h2)⟩
end
section
variable {X : Cx} {ρ : Store} {Y : Str → Store → Prop} {T : Pst}
/-- from here on a list of one's own is data -/
theorem wb_freeze (i : Nat) {ds : List D} {body : List Stmt} (hi : ρ[i]? = some (some (.own ds))) (h : WB X body (ρ.set i (some (.val (.lst ds)))) Y T) : WB X body ρ Y T := fun c F H σ nb R L => by
  obtain ⟨F', _, R'⟩ := R.freezeOwn nb.1 hi
  exact h c F' H σ nb R' L
end
end PL

namespace PL
open PySem PySem.Spec PyProof.Rows L2
variable [Hand]
/-- a call of a local name that holds a def of the module -/
theorem pe_callLS {X : Cx} {CX : CXT} {k i : Nat} {f : Addr} {fd : FuncData} {ps : List Str} {sp : Sp} {E : L2.St → XK} {x : Str} {p pos : Pos} {e : Expr} {es : List Expr} {t : TA} (F : FnOk X.prog X.w X.K X.mg X.base CX k f fd ps sp) (hr : Room k X.A) (hN : X.N[i]? = some x) (hv : Vis X.env.scope x) (hk : PySem.W.keepIn X.K (.ref f) = true) (hb : Binds X.K fd ps []) (hx : ∀ σ, PassesAt CX X σ (E σ)) (ha : PA X (e :: es) t)
    (hdb : (x == ("__debug__" : Str)) = false := by decide) (hcd : (x == ("__classdict__" : Str)) = false := by decide)
    (he : starEach (e :: es) X.env = (false, eval e X.env) :: starEach es X.env := by rfl) (hpl : (backTo pos (starEach es X.env)).any (·.1) = false := by rfl) : PE X (.Call (.Name x p) (e :: es) [] pos) (fun σ H Q => σ[i]? = some (some (.ref f)) ∧ t σ H fun vs H1 => sp vs H1 Q (E σ)) := by
  refine ⟨fun pins s σ H Q I h => ?_⟩
  obtain ⟨hs, ht⟩ := h
  refine wpAny_Call_Name_kw (thn ((pe_var (pos := p) hN hv hdb hcd).run pins s σ H (fun v H1 => v = .ref f ∧ H1 = H) I ⟨.ref f, hs, rfl, rfl⟩) fun u s1 ⟨v, H1, I1, r1, q1⟩ => ?_)
  obtain ⟨rfl, rfl⟩ := q1
  cases r1
  refine PySem.W.callWith_K (h₀ := X.base) I.ok.mod.kin hk (thn (ha.run pos pins s1 σ _ _ I1 ht) fun us s2 ⟨vs, H2, I2, r, q⟩ => ⟨I2.kIn, ?_⟩) he hpl
  exact run_fnS F hr hb (hx σ) I2 r q
section
variable {X : Cx} {ρ : Store} {Y : Str → Store → Prop} {P : Po}
theorem we_callF (i : Nat) {k j n : Nat} {x y : Str} {S : Sem1} {e : Expr} {es : List Expr} {p pos : Pos} (C : Cal X.prog X.w X.K X.mg X.base k x n S) (hr : Room j X.A) (hk : k ≤ j) (hN : X.N[i]? = some y) (hv : Vis X.env.scope y) (hρ : ρ[i]? = some (some (.val (.fn x))))
    (h : WA X (e :: es) ρ Y fun ws ρ1 => ws.length = n ∧ (ws.all W.dat && clean ρ1) = true ∧ S ws (fun d => P (.val d) ρ1) (fun x => Y x ρ1)) (hdb : (y == ("__debug__" : Str)) = false := by decide) (hcd : (y == ("__classdict__" : Str)) = false := by decide)
    (he : starEach (e :: es) X.env = (false, eval e X.env) :: starEach es X.env := by rfl) (hpl : (backTo pos (starEach es X.env)).any (·.1) = false := by rfl) : WE X (.Call (.Name y p) (e :: es) [] pos) ρ Y P := fun c F H σ R L => by
  obtain ⟨f, fd, ps, hF, hm, hkp, hb⟩ := C.ex
  obtain ⟨_, v, hs, hv2⟩ := R.slot i _ hρ
  have ev : v = .ref f := by
    have hv2 : RD X.K X.mg F (.fn x) v := hv2
    cases hv2 with
    | fn h =>
      rw [hm] at h
      cases h
      rfl
  subst ev
  refine bst (pe_callLS (i := i) hF (hr.mono hk) hN hv hkp hb (fun σ => passAt L.1.1 σ) pa_best hdb hcd he hpl) ?_
  refine ⟨hs, ?_⟩
  refine (h c F H σ R L).imp fun vs H1 ⟨F1, ρ1, ws, _, R1, r1, hn, hw, hS⟩ => ?_
  rw [Bool.and_eq_true] at hw
  have hcl := hw.2
  have hw' := datas_of hw.1
  refine ⟨c.hd, F1, ws, _, _, by rw [r1.len]; exact hn, R1.aft.sub, R1.aft.tb.nF, R1.aft.tb.tabs, fun p hp => ?_, r1.toCall (.refl _) rfl hw', hw', hS, fun d v F' H' hP A r => ?_, fun x C F' H' hY hm A => ?_⟩
  · obtain ⟨a1, _, o, a3, a4⟩ := R1.aft.hand p hp
    exact ⟨a1, o, a3, a4⟩
  · exact vp (R1.after A hcl) r hP
  · exact L.2 x C F' H' σ ρ1 hY hm (R1.after A hcl)
end
end PL

namespace PL
open PySem PySem.Spec PyProof.Rows L2
variable [Hand]
theorem Rel.weak {K : PySem.W.Frag} {mg : Str → Option Value} {c : Cfg} {F H : Hp} {σ : L2.St} {ρ ρ' : Store} (R : Rel K mg c F H σ ρ) (h : ∀ (i : Nat) (w : W), ρ'[i]? = some (some w) → ρ[i]? = some (some w)) : Rel K mg c F H σ ρ' :=
  ⟨R.aft, fun i w hi => R.slot i w (h i w hi), fun i j ds es v hij h1 h2 => R.apart i j ds es v hij (h i _ h1) (h j _ h2)⟩
/-- slots forgotten -/
theorem wb_weak {X : Cx} {ρ ρ' : Store} {Y : Str → Store → Prop} {T : Pst} {body : List Stmt} (h : ∀ (i : Nat) (w : W), ρ'[i]? = some (some w) → ρ[i]? = some (some w)) (k : WB X body ρ' Y T) : WB X body ρ Y T := fun c F H σ nb R L => k c F H σ nb (R.weak h) L
end PL

namespace K02
open PySem PySem.Spec PyProof.Rows L2 PL
variable [Hand]
def top (i : Nat) : Stmt := PySem.Challenge.pw_forepaid_k02_whole_fractions_and_what_is.main.body.getD i (.Pass ⟨0, 0, 0, 0⟩)
abbrev s_is_integer : Stmt := top 9
abbrev s_divisor : Stmt := top 10
abbrev s_is_fraction : Stmt := top 11
abbrev s_is_amount : Stmt := top 12
abbrev s_made : Stmt := top 13
abbrev s_check_fraction : Stmt := top 14
abbrev s_fraction : Stmt := top 15
abbrev s_raw_plus : Stmt := top 16
abbrev s_raw_less : Stmt := top 17
abbrev s_raw_times : Stmt := top 18
abbrev s_raw_by : Stmt := top 19
abbrev s_raw_at_most : Stmt := top 20
abbrev s_plus : Stmt := top 21
abbrev s_less : Stmt := top 22
abbrev s_times : Stmt := top 23
abbrev s_by : Stmt := top 24
abbrev s_at_most : Stmt := top 25
abbrev s_floor_of : Stmt := top 26
abbrev s_has_kind_form : Stmt := top 41
abbrev s_is_kind : Stmt := top 42
abbrev s_check_kind : Stmt := top 43
abbrev s_is_told : Stmt := top 44
abbrev s_pieces_of : Stmt := top 45
abbrev s_raw_is_value : Stmt := top 46
abbrev s_raw_is_rich : Stmt := top 48
abbrev s_check_rich : Stmt := top 49
abbrev s_riches_within : Stmt := top 50
abbrev s_raw_worth : Stmt := top 51
abbrev s_worth : Stmt := top 52
abbrev s_raw_amounts : Stmt := top 53
abbrev s_raw_many : Stmt := top 54
abbrev s_raw_rich : Stmt := top 55
abbrev s_raw_covers : Stmt := top 56
abbrev s_check_both : Stmt := top 57
abbrev s_covers : Stmt := top 58
abbrev s_rich_plus : Stmt := top 59
abbrev s_rich_scaled : Stmt := top 60
abbrev s__law_hand : Stmt := top 62
abbrev s__law_draw : Stmt := top 63
abbrev s__law_some : Stmt := top 64
abbrev s__law_none : Stmt := top 65
abbrev s__law_odd : Stmt := top 66
abbrev s__law_bent : Stmt := top 67
abbrev s__law_is : Stmt := top 68
abbrev s__law_low : Stmt := top 69
abbrev s__law_is_part : Stmt := top 70
abbrev s__law_sum : Stmt := top 71
abbrev s__law_word : Stmt := top 72
abbrev s__law_whole : Stmt := top 73
abbrev s__law_part : Stmt := top 74
abbrev s__law_two_right : Stmt := top 75
abbrev s__law_riches_right : Stmt := top 76
abbrev s_law : Stmt := top 77
abbrev FnP (K : PySem.W.Frag) (x : Str) (st : Stmt) (f : Addr) (fd : FuncData) : Prop := FunD K x x (defArgs st) (defBody st) (defScope st) [] [] f fd
/-- the module's names -/
structure Env (K : PySem.W.Frag) (mg : Str → Option Value) : Prop where
  isinstance : mg "isinstance" = none
  int : mg "int" = none
  bool : mg "bool" = none
  abs : mg "abs" = none
  len : mg "len" = none
  tuple : mg "tuple" = none
  list : mg "list" = none
  str : mg "str" = none
  dict : mg "dict" = none
  range : mg "range" = none
  zip : mg "zip" = none
  all : mg "all" = none
  sum : mg "sum" = none
  X_NoFraction : Exc1 K mg "NoFraction"
  X_Zero : Exc1 K mg "Zero"
  X_NoKind : Exc1 K mg "NoKind"
  X_NoValue : Exc1 K mg "NoValue"
  X_NoRich : Exc1 K mg "NoRich"
  INT : ∃ t, mg "INT" = some (.str "int" t)
  FLAG : ∃ t, mg "FLAG" = some (.str "flag" t)
  PAIR : ∃ t, mg "PAIR" = some (.str "pair" t)
  EITHER : ∃ t, mg "EITHER" = some (.str "either" t)
  LIST : ∃ t, mg "LIST" = some (.str "list" t)
  TREE : ∃ t, mg "TREE" = some (.str "tree" t)
  LEFT : ∃ t, mg "LEFT" = some (.str "left" t)
  RIGHT : ∃ t, mg "RIGHT" = some (.str "right" t)
  LEAF : ∃ t, mg "LEAF" = some (.str "leaf" t)
  FORK : ∃ t, mg "FORK" = some (.str "fork" t)
  MOST_PARTS : ∃ t, mg "MOST_PARTS" = some (.int 8 t)
  MOST_INTEGER : ∃ t, mg "MOST_INTEGER" = some (.int 1000000000000000000 t)
  NOUGHT : ∃ a, mg "NOUGHT" = some (.ref a) ∧ ∀ F : Hp, SqT K F a [.int 0, .int 1]
/-! ### meanings -/
def isI : D → Bool
  | .int _ => true
  | _ => false
def gcdI (x y : Int) : Int := (Int.gcd x y : Nat)
def fr (a b : Int) : D := .tup [.int a, .int b]
def isFr : D → Bool
  | .tup [.int a, .int b] => decide (b > 0) && decide (gcdI a b = 1)
  | _ => false
def isAm : D → Bool
  | .tup [.int a, .int b] => (decide (b > 0) && decide (gcdI a b = 1)) && decide (a ≥ 0)
  | _ => false
def low (a b : Int) : D := if b < 0 then fr (a.fdiv (-gcdI a b)) (b.fdiv (-gcdI a b)) else fr (a.fdiv (gcdI a b)) (b.fdiv (gcdI a b))
def S_is_integer : Sem1 := fun ws P Y => ∃ d, ws = [.val d] ∧ d.ok = true ∧ P (.bl (isI d))
def S_divisor : Sem1 := fun ws P Y => ∃ x y : Int, ws = [.val (.int x), .val (.int y)] ∧ 0 ≤ x ∧ 0 ≤ y ∧ P (.int (gcdI x y))
def S_is_fraction : Sem1 := fun ws P Y => ∃ d, ws = [.val d] ∧ d.ok = true ∧ P (.bl (isFr d))
def S_is_amount : Sem1 := fun ws P Y => ∃ d, ws = [.val d] ∧ d.ok = true ∧ P (.bl (isAm d))
def S_made : Sem1 := fun ws P Y => ∃ a b : Int, ws = [.val (.int a), .val (.int b)] ∧ b ≠ 0 ∧ Bd 8000 b ∧ P (low a b)
def S_check_fraction : Sem1 := fun ws P Y => ∃ d, ws = [.val d] ∧ d.ok = true ∧ if isFr d = true then P .non else Y "NoFraction"
def S_fraction : Sem1 := fun ws P Y => ∃ d e, ws = [.val d, .val e] ∧ d.ok = true ∧ e.ok = true ∧ ((∃ a b, d = .int a ∧ e = .int b ∧ b ≠ 0 ∧ Bd 8000 b ∧ P (low a b)) ∨ ((isI d = false ∨ isI e = false ∨ e = .int 0) ∧ Y "NoFraction"))
/-- what an operation asks of two fractions, and what it gives -/
def S_raw (op : Int → Int → Int → Int → D) (ok : Int → Int → Int → Int → Prop) : Sem1 := fun ws P Y => ∃ a b c d : Int, ws = [.val (fr a b), .val (fr c d)] ∧ Bd 2000 a ∧ Bd 2000 b ∧ Bd 2000 c ∧ Bd 2000 d ∧ ok a b c d ∧ P (op a b c d)
def opPlus (a b c d : Int) : D := low (a * d + c * b) (b * d)
def opLess (a b c d : Int) : D := low (a * d - c * b) (b * d)
def opTimes (a b c d : Int) : D := low (a * c) (b * d)
def opBy (a b c d : Int) : D := low (a * d) (b * c)
def opAtMost (a b c d : Int) : D := .bl (decide (a * d ≤ c * b))
def okBot (_ b _ d : Int) : Prop := b ≠ 0 ∧ d ≠ 0
def okBy (_ b c _ : Int) : Prop := b ≠ 0 ∧ c ≠ 0
def okAny (_ _ _ _ : Int) : Prop := True
def S_raw_plus : Sem1 := S_raw opPlus okBot
def S_raw_less : Sem1 := S_raw opLess okBot
def S_raw_times : Sem1 := S_raw opTimes okBot
def S_raw_by : Sem1 := S_raw opBy okBy
def S_raw_at_most : Sem1 := S_raw opAtMost okAny
/-- .. of two things: fractions, or else NoFraction -/
def S_op (op : Int → Int → Int → Int → D) : Sem1 := fun ws P Y => ∃ x y : D, ws = [.val x, .val y] ∧ x.ok = true ∧ y.ok = true ∧
  ((∃ a b c d : Int, x = fr a b ∧ y = fr c d ∧ isFr x = true ∧ isFr y = true ∧ Bd 2000 a ∧ Bd 2000 b ∧ Bd 2000 c ∧ Bd 2000 d ∧ P (op a b c d)) ∨ ((isFr x = false ∨ isFr y = false) ∧ Y "NoFraction"))
def S_plus : Sem1 := S_op opPlus
def S_less : Sem1 := S_op opLess
def S_times : Sem1 := S_op opTimes
def S_at_most : Sem1 := S_op opAtMost
def S_by : Sem1 := fun ws P Y => ∃ x y : D, ws = [.val x, .val y] ∧ x.ok = true ∧ y.ok = true ∧
  ((∃ a b c d : Int, x = fr a b ∧ y = fr c d ∧ isFr x = true ∧ isFr y = true ∧ Bd 2000 a ∧ Bd 2000 b ∧ Bd 2000 c ∧ Bd 2000 d ∧ if c = 0 then Y "Zero" else P (opBy a b c d)) ∨ ((isFr x = false ∨ isFr y = false) ∧ Y "NoFraction"))
def S_floor_of : Sem1 := fun ws P Y => ∃ x : D, ws = [.val x] ∧ x.ok = true ∧ ((∃ a b : Int, x = fr a b ∧ isFr x = true ∧ Bd 2000 b ∧ P (.int (a.fdiv b))) ∨ (isFr x = false ∧ Y "NoFraction"))
section
variable {P : Program} {w : World} {K : PySem.W.Frag} {mg : Str → Option Value} {base : Heap} {f : Addr} {fd : FuncData} {k : Nat}
theorem sc_is_integer : FnScope ["thing"] ["thing"] (defScope s_is_integer) := ⟨rfl, rfl, rfl, by decide +kernel, rfl, by decide +kernel, by decide +kernel⟩
theorem ok_is_integer (Z : Env K mg)  (F : FnP K "is_integer" s_is_integer f fd) : FnOk P w K mg base (L2.CX P w) (k + 1) f fd ["thing"] (spS K mg 1 S_is_integer) := fn_ok F sc_is_integer fun cdv A outer s H E ws Q Y hr hS hl => by
  obtain ⟨d, rfl, hp, hQ⟩ := hS
  have hp := D.ok_plain hp
  refine wb_one (ws_ret ?_)
  refine we_and ?_
  refine we_isInt rfl Z.isinstance rfl Z.int ?_
  refine we_slot 0 rfl (.inl rfl) rfl rfl ?_
  refine ⟨_, rfl, hp, _, rfl, ?_⟩
  by_cases h : d.isInt = true
  · rw [if_pos h]
    refine we_and1 (we_not (we_isBl rfl Z.isinstance rfl Z.bool ?_))
    refine we_slot 0 rfl (.inl rfl) rfl rfl ?_
    refine ⟨_, rfl, hp, _, rfl, _, rfl, ?_⟩
    have e : (!d.isBl) = isI d := by cases d <;> first | rfl | cases h
    rw [e]
    exact hQ
  · rw [if_neg h]
    refine ⟨_, rfl, ?_⟩
    have e : isI d = false := by cases d <;> first | rfl | exact absurd rfl h
    rw [e] at hQ
    exact hQ
theorem gcd_step (a b : Int) (ha : 0 ≤ a) (hb : 0 < b) : gcdI b (a.fmod b) = gcdI a b := by
  unfold gcdI
  rw [Int.fmod_eq_emod_of_nonneg _ (by omega)]
  obtain ⟨m, rfl⟩ := Int.eq_ofNat_of_zero_le ha
  obtain ⟨n, rfl⟩ := Int.eq_ofNat_of_zero_le (Int.le_of_lt hb)
  rw [← Int.natCast_emod]
  unfold Int.gcd
  simp only [Int.natAbs_natCast]
  rw [Nat.gcd_comm n, ← Nat.gcd_rec, Nat.gcd_comm]
theorem sc_divisor : FnScope ["x", "y"] ["x", "y"] (defScope s_divisor) := ⟨rfl, rfl, rfl, by decide +kernel, rfl, by decide +kernel, by decide +kernel⟩
theorem ok_divisor (Z : Env K mg)  (F : FnP K "divisor" s_divisor f fd) : FnOk P w K mg base (L2.CX P w) (k + 1) f fd ["x", "y"] (spS K mg 2 S_divisor) := fn_ok F sc_divisor fun cdv A outer s H E ws Q Y hr hS hl => by
  obtain ⟨x, y, rfl, hx, hy, hQ⟩ := hS
  refine wb_cons (ws_while (fun m ρ => ∃ a b : Int, ρ = [some (.val (.int a)), some (.val (.int b))] ∧ 0 ≤ a ∧ 0 ≤ b ∧ m = b.toNat ∧ gcdI a b = gcdI x y) y.toNat ⟨x, y, rfl, hx, hy, rfl, rfl⟩ ?_)
  rintro m ρ1 ⟨a, b, rfl, ha, hb, rfl, hg⟩
  refine wt_neS ?_
  refine we_slot 1 rfl (.inl rfl) rfl rfl ?_
  refine we_int ?_
  refine ⟨_, _, _, _, rfl, rfl, rfl, rfl, rfl, ?_⟩
  by_cases h : b = 0
  · subst h
    rw [if_neg (by decide)]
    refine wb_one (ws_ret (we_slot 0 rfl (.inl rfl) rfl rfl ?_))
    refine ⟨_, rfl, ?_⟩
    have e : gcdI a 0 = a := by
      unfold gcdI
      rw [Int.gcd_zero_right]
      omega
    rw [← hg, e] at hQ
    exact hQ
  · rw [if_pos (by simp [h])]
    refine wb_one (ws_par 0 1 rfl sc_divisor.nd rfl rfl (by decide) rfl rfl ?_)
    refine we_slot 1 rfl (.inl rfl) rfl rfl ?_
    refine ⟨_, rfl, ?_⟩
    refine we_mod (we_intI rfl Z.int (we_slot 0 rfl (.inl rfl) rfl rfl ⟨_, rfl, ?_⟩))
    refine we_slot 1 rfl (.inl rfl) rfl rfl ?_
    refine ⟨_, _, rfl, rfl, h, _, rfl, ?_⟩
    have hp : 0 ≤ a.fmod b := Int.fmod_nonneg_of_pos _ (by omega)
    have hlt : a.fmod b < b := Int.fmod_lt_of_pos _ (by omega)
    exact ⟨(a.fmod b).toNat, by omega, b, a.fmod b, rfl, hb, hp, rfl, by rw [← hg, gcd_step a b ha (by omega)]⟩
theorem tup_or (d : D) : (∃ xs, d = .tup xs) ∨ (d.isTup = false ∧ isFr d = false ∧ isAm d = false) := by
  cases d <;> first | exact .inl ⟨_, rfl⟩ | exact .inr ⟨rfl, rfl, rfl⟩
theorem isI_or (d : D) : (∃ i, d = .int i) ∨ isI d = false := by
  cases d <;> first | exact .inl ⟨_, rfl⟩ | exact .inr rfl
theorem isFr_two {xs : List D} (h : xs.length ≠ 2) : isFr (.tup xs) = false := by
  match xs with
  | [] => rfl
  | [_] => cases ‹D› <;> rfl
  | [_, _] => exact absurd rfl h
  | _ :: _ :: _ :: _ =>
    unfold isFr
    split
    · rename_i q
      cases q
    · rfl
theorem isFr_l {x y : D} (h : isI x = false) : isFr (.tup [x, y]) = false := by
  cases x <;> first | rfl | cases h
theorem isFr_r {x y : D} (h : isI y = false) : isFr (.tup [x, y]) = false := by
  cases y <;> first | (cases x <;> rfl) | cases h
theorem isFr_fr {a b : Int} : isFr (fr a b) = (decide (b > 0) && decide (gcdI a b = 1)) := rfl
theorem gcdI_abs (a b : Int) : gcdI (a.natAbs : Int) b = gcdI a b := by
  unfold gcdI Int.gcd
  simp
theorem sc_is_fraction : FnScope ["thing"] ["thing"] (defScope s_is_fraction) := ⟨rfl, rfl, rfl, by decide +kernel, rfl, by decide +kernel, by decide +kernel⟩
theorem ok_is_fraction (Z : Env K mg) (C_divisor : Cal P w K mg base k "divisor" 2 S_divisor) (C_is_integer : Cal P w K mg base k "is_integer" 1 S_is_integer) (F : FnP K "is_fraction" s_is_fraction f fd) : FnOk P w K mg base (L2.CX P w) (k + 1) f fd ["thing"] (spS K mg 1 S_is_fraction) := fn_ok F sc_is_fraction fun cdv A outer s H E ws Q Y hr hS hl => by
  obtain ⟨d, rfl, hp, hQ⟩ := hS
  refine wb_cons (ws_if (wt_of (ww_or (wt_not (wt_val ?_)))))
  refine we_isTup rfl Z.isinstance rfl Z.tuple ?_
  refine we_slot 0 rfl (.inl rfl) rfl rfl ?_
  refine ⟨_, rfl, D.ok_plain hp, _, rfl, ?_⟩
  rcases tup_or d with ⟨xs, rfl⟩ | ⟨ht, hf, _⟩
  · refine iteF rfl ?_
    refine ww_or ?_
    refine wt_neS ?_
    refine we_len rfl Z.len ?_
    refine we_slot 0 rfl (.inl rfl) rfl rfl ?_
    refine ⟨_, rfl, ?_⟩
    refine we_int ?_
    refine ⟨_, _, _, _, rfl, rfl, rfl, rfl, rfl, ?_⟩
    by_cases h2 : xs.length = 2
    · refine iteF (by rw [h2]; rfl) ?_
      match xs, h2 with
      | [x, y], _ =>
      have hx : x.ok = true ∧ y.ok = true := by
        unfold D.ok D.oks D.oks D.oks at hp
        simpa using hp
      refine ww_or ?_
      refine wt_not ?_
      refine wt_val ?_
      refine we_call C_is_integer hr (Nat.le_refl _) rfl ?_
      refine wa_cons ?_
      refine we_ix ?_
      refine we_slot 0 rfl (.inl rfl) rfl rfl ?_
      refine we_int ?_
      refine ⟨_, _, _, rfl, rfl, rfl, ?_⟩
      refine ⟨rfl, ?_⟩
      refine wa_nil ?_
      refine ⟨rfl, rfl, ?_⟩
      -- contract of is_integer
      refine ⟨_, rfl, ?_⟩
      refine ⟨hx.1, _, rfl, ?_⟩
      rcases isI_or x with ⟨a, rfl⟩ | hf
      · refine iteF rfl ?_
        refine ww_or1 ?_
        refine wt_not ?_
        refine wt_val ?_
        refine we_call C_is_integer hr (Nat.le_refl _) rfl ?_
        refine wa_cons ?_
        refine we_ix ?_
        refine we_slot 0 rfl (.inl rfl) rfl rfl ?_
        refine we_int ?_
        refine ⟨_, _, _, rfl, rfl, rfl, ?_⟩
        refine ⟨rfl, ?_⟩
        refine wa_nil ?_
        refine ⟨rfl, rfl, ?_⟩
        -- contract of is_integer
        refine ⟨_, rfl, ?_⟩
        refine ⟨hx.2, _, rfl, ?_⟩
        rcases isI_or y with ⟨b, rfl⟩ | hf
        · refine iteF rfl ?_
          refine wb_nil ?_
          refine wb_one (ws_ret ?_)
          refine we_and ?_
          refine we_cmpI op_gt (nomark _) ?_
          refine we_ix ?_
          refine we_slot 0 rfl (.inl rfl) rfl rfl ?_
          refine we_int ?_
          refine ⟨_, _, _, rfl, rfl, rfl, ?_⟩
          refine we_int ?_
          refine ⟨_, _, rfl, rfl, ?_⟩
          refine ⟨_, rfl, ?_⟩
          by_cases hb : b > 0
          · refine iteT (by simpa using hb) ?_
            refine we_and1 ?_
            refine we_eqS ?_
            refine we_call C_divisor hr (Nat.le_refl _) rfl ?_
            refine wa_cons ?_
            refine we_abs rfl Z.abs ?_
            refine we_ix ?_
            refine we_slot 0 rfl (.inl rfl) rfl rfl ?_
            refine we_int ?_
            refine ⟨_, _, _, rfl, rfl, rfl, ?_⟩
            refine ⟨_, rfl, ?_⟩
            refine ⟨rfl, ?_⟩
            refine wa_cons ?_
            refine we_ix ?_
            refine we_slot 0 rfl (.inl rfl) rfl rfl ?_
            refine we_int ?_
            refine ⟨_, _, _, rfl, rfl, rfl, ?_⟩
            refine ⟨rfl, ?_⟩
            refine wa_nil ?_
            refine ⟨rfl, rfl, ?_⟩
            -- contract of divisor
            refine ⟨_, _, rfl, by omega, by omega, ?_⟩
            refine we_int ?_
            refine ⟨_, _, _, _, rfl, rfl, rfl, rfl, rfl, _, rfl, ?_⟩
            have e : isFr (.tup [.int a, .int b]) = decide (V.int (gcdI (a.natAbs : Int) b) = V.int 1) := by
              show (decide (b > 0) && decide (gcdI a b = 1)) = _
              rw [gcdI_abs]
              simp [hb]
            rw [← e]
            exact hQ
          · refine iteF (by simpa using hb) ?_
            refine ⟨_, rfl, ?_⟩
            have e : isFr (.tup [.int a, .int b]) = false := by
              show (decide (b > 0) && decide (gcdI a b = 1)) = _
              simp [hb]
            rw [e] at hQ
            exact hQ
        · refine iteT (by rw [hf]; rfl) ?_
          refine wb_one (ws_ret (we_bl ⟨_, rfl, ?_⟩))
          rw [isFr_r hf] at hQ
          exact hQ
      · refine iteT (by rw [hf]; rfl) ?_
        refine iteT rfl ?_
        refine wb_one (ws_ret (we_bl ⟨_, rfl, ?_⟩))
        rw [isFr_l hf] at hQ
        exact hQ
    · refine iteT (by simp; omega) ?_
      refine iteT rfl ?_
      refine wb_one (ws_ret (we_bl ⟨_, rfl, ?_⟩))
      rw [isFr_two h2] at hQ
      exact hQ
  · refine iteT (by rw [ht]; rfl) ?_
    refine iteT rfl ?_
    refine wb_one (ws_ret (we_bl ⟨_, rfl, ?_⟩))
    rw [hf] at hQ
    exact hQ
theorem isFr_shape {d : D} (h : isFr d = true) : ∃ a b, d = fr a b ∧ 0 < b ∧ gcdI a b = 1 := by
  unfold isFr at h
  split at h
  · rw [Bool.and_eq_true] at h
    exact ⟨_, _, rfl, by simpa using h.1, by simpa using h.2⟩
  · cases h
theorem isAm_of {d : D} (h : isFr d = false) : isAm d = false := by
  unfold isAm
  split
  · rename_i a b
    have h : (decide (b > 0) && decide (gcdI a b = 1)) = false := h
    rw [h]
    rfl
  · rfl
theorem sc_is_amount : FnScope ["thing"] ["thing"] (defScope s_is_amount) := ⟨rfl, rfl, rfl, by decide +kernel, rfl, by decide +kernel, by decide +kernel⟩
theorem ok_is_amount (Z : Env K mg) (C_is_fraction : Cal P w K mg base k "is_fraction" 1 S_is_fraction) (F : FnP K "is_amount" s_is_amount f fd) : FnOk P w K mg base (L2.CX P w) (k + 1) f fd ["thing"] (spS K mg 1 S_is_amount) := fn_ok F sc_is_amount fun cdv A outer s H E ws Q Y hr hS hl => by
  obtain ⟨d, rfl, hp, hQ⟩ := hS
  refine wb_one (ws_ret ?_)
  refine we_and ?_
  refine we_call C_is_fraction hr (Nat.le_refl _) rfl ?_
  refine wa_cons ?_
  refine we_slot 0 rfl (.inl rfl) rfl rfl ?_
  refine ⟨rfl, ?_⟩
  refine wa_nil ?_
  refine ⟨rfl, rfl, ?_⟩
  -- contract of is_fraction
  refine ⟨d, rfl, hp, _, rfl, ?_⟩
  cases hf : isFr d with
  | true =>
    obtain ⟨a, b, rfl, hb, hg⟩ := isFr_shape hf
    refine iteT rfl ?_
    refine we_and1 ?_
    refine we_cmpI op_ge (nomark _) ?_
    refine we_ix ?_
    refine we_slot 0 rfl (.inl rfl) rfl rfl ?_
    refine we_int ?_
    refine ⟨_, _, _, rfl, rfl, rfl, ?_⟩
    refine we_int ?_
    refine ⟨_, _, rfl, rfl, ?_⟩
    refine ⟨_, rfl, ?_⟩
    have e : isAm (fr a b) = decide (a ≥ 0) := by
      show ((decide (b > 0) && decide (gcdI a b = 1)) && decide (a ≥ 0)) = _
      simp [hb, hg]
    rw [e] at hQ
    exact hQ
  | false =>
    refine iteF rfl ⟨_, rfl, ?_⟩
    rw [isAm_of hf] at hQ
    exact hQ
theorem sc_made : FnScope ["top", "bottom", "by"] ["top", "bottom"] (defScope s_made) := ⟨rfl, rfl, rfl, by decide +kernel, rfl, by decide +kernel, by decide +kernel⟩
theorem ok_made (Z : Env K mg) (C_divisor : Cal P w K mg base k "divisor" 2 S_divisor) (F : FnP K "made" s_made f fd) : FnOk P w K mg base (L2.CX P w) (k + 1) f fd ["top", "bottom"] (spS K mg 2 S_made) := fn_ok F sc_made fun cdv A outer s H E ws Q Y hr hS hl => by
  obtain ⟨a, b, rfl, hb, hB, hQ⟩ := hS
  refine wb_cons (ws_asg 2 sc_made.nd rfl (.inl rfl) ?_)
  refine we_call C_divisor hr (Nat.le_refl _) rfl ?_
  refine wa_cons ?_
  refine we_abs rfl Z.abs ?_
  refine we_slot 0 rfl (.inl rfl) rfl rfl ?_
  refine ⟨_, rfl, ?_⟩
  refine ⟨rfl, ?_⟩
  refine wa_cons ?_
  refine we_abs rfl Z.abs ?_
  refine we_slot 1 rfl (.inl rfl) rfl rfl ?_
  refine ⟨_, rfl, ?_⟩
  refine ⟨rfl, ?_⟩
  refine wa_nil ?_
  refine ⟨rfl, rfl, ?_⟩
  -- contract of divisor
  refine ⟨_, _, rfl, by omega, by omega, ?_⟩
  refine ⟨_, rfl, ?_⟩
  have eg : gcdI (a.natAbs : Int) (b.natAbs : Int) = gcdI a b := by
    unfold gcdI Int.gcd
    simp
  rw [eg]
  have g0 : gcdI a b ≠ 0 := by
    unfold gcdI
    intro q
    have := Int.gcd_eq_zero_iff.mp (Int.ofNat.inj q)
    exact hb this.2
  have gB : Bd 8000 (gcdI a b) := by
    unfold Bd gcdI at *
    have : Int.gcd a b ≤ b.natAbs := Nat.gcd_le_right _ (Int.natAbs_pos.mpr hb)
    simp only [Int.natAbs_natCast]
    omega
  refine wb_cons (ws_if ?_)
  refine wt_cmpI op_lt (nomark _) ?_
  refine we_slot 1 rfl (.inl rfl) rfl rfl ?_
  refine we_int ?_
  refine ⟨_, _, rfl, rfl, ?_⟩
  refine iteI (fun h => ?_) (fun h => ?_)
  · have h : b < 0 := by simpa using h
    refine wb_one (ws_asg 2 sc_made.nd rfl (.inl rfl) ?_)
    refine we_neg ?_
    refine we_slot 2 rfl (.inl rfl) rfl rfl ?_
    refine ⟨_, rfl, _, rfl, ?_⟩
    refine wb_one (ws_ret ?_)
    refine we_tup ?_
    refine wa_cons ?_
    refine we_fdiv ?_
    refine we_slot 0 rfl (.inl rfl) rfl rfl ?_
    refine we_slot 2 rfl (.inl rfl) rfl rfl ?_
    refine ⟨_, _, rfl, rfl, gB.neg.cdiv _ (by omega) (by decide) (by decide), ?_⟩
    refine ⟨rfl, ?_⟩
    refine wa_cons ?_
    refine we_fdiv ?_
    refine we_slot 1 rfl (.inl rfl) rfl rfl ?_
    refine we_slot 2 rfl (.inl rfl) rfl rfl ?_
    refine ⟨_, _, rfl, rfl, gB.neg.cdiv _ (by omega) (by decide) (by decide), ?_⟩
    refine ⟨rfl, ?_⟩
    refine wa_nil ?_
    refine ⟨_, rfl, by simp, ?_⟩
    refine ⟨_, rfl, ?_⟩
    unfold low at hQ
    rw [if_pos h] at hQ
    exact hQ
  · have h : ¬ b < 0 := by simpa using h
    refine wb_nil ?_
    refine wb_one (ws_ret ?_)
    refine we_tup ?_
    refine wa_cons ?_
    refine we_fdiv ?_
    refine we_slot 0 rfl (.inl rfl) rfl rfl ?_
    refine we_slot 2 rfl (.inl rfl) rfl rfl ?_
    refine ⟨_, _, rfl, rfl, gB.cdiv _ g0 (by decide) (by decide), ?_⟩
    refine ⟨rfl, ?_⟩
    refine wa_cons ?_
    refine we_fdiv ?_
    refine we_slot 1 rfl (.inl rfl) rfl rfl ?_
    refine we_slot 2 rfl (.inl rfl) rfl rfl ?_
    refine ⟨_, _, rfl, rfl, gB.cdiv _ g0 (by decide) (by decide), ?_⟩
    refine ⟨rfl, ?_⟩
    refine wa_nil ?_
    refine ⟨_, rfl, by simp, ?_⟩
    refine ⟨_, rfl, ?_⟩
    unfold low at hQ
    rw [if_neg h] at hQ
    exact hQ
theorem sc_check_fraction : FnScope ["thing"] ["thing"] (defScope s_check_fraction) := ⟨rfl, rfl, rfl, by decide +kernel, rfl, by decide +kernel, by decide +kernel⟩
theorem ok_check_fraction (Z : Env K mg) (C_is_fraction : Cal P w K mg base k "is_fraction" 1 S_is_fraction) (F : FnP K "check_fraction" s_check_fraction f fd) : FnOk P w K mg base (L2.CX P w) (k + 1) f fd ["thing"] (spS K mg 1 S_check_fraction) := fn_ok F sc_check_fraction fun cdv A outer s H E ws Q Y hr hS hl => by
  obtain ⟨d, rfl, hp, hQ⟩ := hS
  refine wb_one (ws_if ?_)
  refine wt_not ?_
  refine wt_val ?_
  refine we_call C_is_fraction hr (Nat.le_refl _) rfl ?_
  refine wa_cons ?_
  refine we_slot 0 rfl (.inl rfl) rfl rfl ?_
  refine ⟨rfl, ?_⟩
  refine wa_nil ?_
  refine ⟨rfl, rfl, ?_⟩
  -- contract of is_fraction
  refine ⟨_, rfl, ?_⟩
  refine ⟨hp, _, rfl, ?_⟩
  cases hf : isFr d with
  | true =>
    rw [hf] at hQ
    exact iteF rfl (wb_nil hQ)
  | false =>
    rw [hf] at hQ
    exact iteT rfl (wb_one (ws_raise rfl Z.X_NoFraction rfl hQ))
theorem sc_fraction : FnScope ["top", "bottom"] ["top", "bottom"] (defScope s_fraction) := ⟨rfl, rfl, rfl, by decide +kernel, rfl, by decide +kernel, by decide +kernel⟩
theorem ok_fraction (Z : Env K mg) (C_is_integer : Cal P w K mg base k "is_integer" 1 S_is_integer) (C_made : Cal P w K mg base k "made" 2 S_made) (F : FnP K "fraction" s_fraction f fd) : FnOk P w K mg base (L2.CX P w) (k + 1) f fd ["top", "bottom"] (spS K mg 2 S_fraction) := fn_ok F sc_fraction fun cdv A outer s H E ws Q Y hr hS hl => by
  obtain ⟨d, e, rfl, hd, he, hQ⟩ := hS
  refine wb_cons (ws_if (wt_of (ww_or ?_)))
  refine wt_not ?_
  refine wt_val ?_
  refine we_call C_is_integer hr (Nat.le_refl _) rfl ?_
  refine wa_cons ?_
  refine we_slot 0 rfl (.inl rfl) rfl rfl ?_
  refine ⟨rfl, ?_⟩
  refine wa_nil ?_
  refine ⟨rfl, rfl, ?_⟩
  -- contract of is_integer
  refine ⟨_, rfl, ?_⟩
  refine ⟨hd, _, rfl, ?_⟩
  rcases isI_or d with ⟨a, rfl⟩ | hf
  · refine iteF rfl (ww_or ?_)
    refine wt_not ?_
    refine wt_val ?_
    refine we_call C_is_integer hr (Nat.le_refl _) rfl ?_
    refine wa_cons ?_
    refine we_slot 1 rfl (.inl rfl) rfl rfl ?_
    refine ⟨rfl, ?_⟩
    refine wa_nil ?_
    refine ⟨rfl, rfl, ?_⟩
    -- contract of is_integer
    refine ⟨_, rfl, ?_⟩
    refine ⟨he, _, rfl, ?_⟩
    rcases isI_or e with ⟨b, rfl⟩ | hf
    · refine iteF rfl (ww_or1 ?_)
      refine wt_eqS ?_
      refine we_slot 1 rfl (.inl rfl) rfl rfl ?_
      refine we_int ?_
      refine ⟨_, _, _, _, rfl, rfl, rfl, rfl, rfl, ?_⟩
      by_cases hb : b = 0
      · subst hb
        refine iteT rfl (wb_one (ws_raise rfl Z.X_NoFraction rfl ?_))
        rcases hQ with ⟨_, _, _, q, h, _⟩ | ⟨_, h⟩
        · cases q
          exact absurd rfl h
        · exact h
      · refine iteF (by simpa using hb) (wb_nil (wb_one (ws_ret ?_)))
        refine we_call C_made hr (Nat.le_refl _) rfl ?_
        refine wa_cons ?_
        refine we_slot 0 rfl (.inl rfl) rfl rfl ?_
        refine ⟨rfl, ?_⟩
        refine wa_cons ?_
        refine we_slot 1 rfl (.inl rfl) rfl rfl ?_
        refine ⟨rfl, ?_⟩
        refine wa_nil ?_
        refine ⟨rfl, rfl, ?_⟩
        -- contract of made
        rcases hQ with ⟨a', b', q1, q2, h1, h2, h3⟩ | ⟨h, _⟩
        · cases q1
          cases q2
          exact ⟨_, _, rfl, h1, h2, _, rfl, h3⟩
        · rcases h with h | h | h
          · cases h
          · cases h
          · cases h
            exact absurd rfl hb
    · refine iteT (by rw [hf]; rfl) (iteT rfl (wb_one (ws_raise rfl Z.X_NoFraction rfl ?_)))
      rcases hQ with ⟨a', b', q1, q2, _⟩ | ⟨_, h⟩
      · subst q2
        cases hf
      · exact h
  · refine iteT (by rw [hf]; rfl) (iteT rfl (wb_one (ws_raise rfl Z.X_NoFraction rfl ?_)))
    rcases hQ with ⟨a', b', q1, q2, _⟩ | ⟨_, h⟩
    · subst q1
      cases hf
    · exact h
theorem sc_raw_plus : FnScope ["x", "y"] ["x", "y"] (defScope s_raw_plus) := ⟨rfl, rfl, rfl, by decide +kernel, rfl, by decide +kernel, by decide +kernel⟩
theorem ok_raw_plus (Z : Env K mg) (C_made : Cal P w K mg base k "made" 2 S_made) (F : FnP K "raw_plus" s_raw_plus f fd) : FnOk P w K mg base (L2.CX P w) (k + 1) f fd ["x", "y"] (spS K mg 2 S_raw_plus) := fn_ok F sc_raw_plus fun cdv A outer s H E ws Q Y hr hS hl => by
  obtain ⟨a, b, c, d, rfl, ha, hb, hc, hd, hok, hQ⟩ := hS
  refine wb_one (ws_ret ?_)
  refine we_call C_made hr (Nat.le_refl _) rfl ?_
  refine wa_cons ?_
  refine we_add ?_
  refine we_mul ?_
  refine we_ix ?_
  refine we_slot 0 rfl (.inl rfl) rfl rfl ?_
  refine we_int ?_
  refine ⟨_, _, _, rfl, rfl, rfl, ?_⟩
  refine we_ix ?_
  refine we_slot 1 rfl (.inl rfl) rfl rfl ?_
  refine we_int ?_
  refine ⟨_, _, _, rfl, rfl, rfl, ?_⟩
  refine ⟨_, _, rfl, rfl, Bd.cmul (m := 2000) (n := 2000) (by assumption) (by assumption) (by decide) (by decide) (by decide), ?_⟩
  refine we_mul ?_
  refine we_ix ?_
  refine we_slot 1 rfl (.inl rfl) rfl rfl ?_
  refine we_int ?_
  refine ⟨_, _, _, rfl, rfl, rfl, ?_⟩
  refine we_ix ?_
  refine we_slot 0 rfl (.inl rfl) rfl rfl ?_
  refine we_int ?_
  refine ⟨_, _, _, rfl, rfl, rfl, ?_⟩
  refine ⟨_, _, rfl, rfl, Bd.cmul (m := 2000) (n := 2000) (by assumption) (by assumption) (by decide) (by decide) (by decide), ?_⟩
  refine ⟨_, _, rfl, rfl, ?_⟩
  refine ⟨rfl, ?_⟩
  refine wa_cons ?_
  refine we_mul ?_
  refine we_ix ?_
  refine we_slot 0 rfl (.inl rfl) rfl rfl ?_
  refine we_int ?_
  refine ⟨_, _, _, rfl, rfl, rfl, ?_⟩
  refine we_ix ?_
  refine we_slot 1 rfl (.inl rfl) rfl rfl ?_
  refine we_int ?_
  refine ⟨_, _, _, rfl, rfl, rfl, ?_⟩
  refine ⟨_, _, rfl, rfl, Bd.cmul (m := 2000) (n := 2000) (by assumption) (by assumption) (by decide) (by decide) (by decide), ?_⟩
  refine ⟨rfl, ?_⟩
  refine wa_nil ?_
  refine ⟨rfl, rfl, ?_⟩
  -- contract of made
  exact ⟨_, _, rfl, Int.mul_ne_zero hok.1 hok.2, (hb.mul hd).mono (by decide), _, rfl, hQ⟩
theorem sc_raw_less : FnScope ["x", "y"] ["x", "y"] (defScope s_raw_less) := ⟨rfl, rfl, rfl, by decide +kernel, rfl, by decide +kernel, by decide +kernel⟩
theorem ok_raw_less (Z : Env K mg) (C_made : Cal P w K mg base k "made" 2 S_made) (F : FnP K "raw_less" s_raw_less f fd) : FnOk P w K mg base (L2.CX P w) (k + 1) f fd ["x", "y"] (spS K mg 2 S_raw_less) := fn_ok F sc_raw_less fun cdv A outer s H E ws Q Y hr hS hl => by
  obtain ⟨a, b, c, d, rfl, ha, hb, hc, hd, hok, hQ⟩ := hS
  refine wb_one (ws_ret ?_)
  refine we_call C_made hr (Nat.le_refl _) rfl ?_
  refine wa_cons ?_
  refine we_sub ?_
  refine we_mul ?_
  refine we_ix ?_
  refine we_slot 0 rfl (.inl rfl) rfl rfl ?_
  refine we_int ?_
  refine ⟨_, _, _, rfl, rfl, rfl, ?_⟩
  refine we_ix ?_
  refine we_slot 1 rfl (.inl rfl) rfl rfl ?_
  refine we_int ?_
  refine ⟨_, _, _, rfl, rfl, rfl, ?_⟩
  refine ⟨_, _, rfl, rfl, Bd.cmul (m := 2000) (n := 2000) (by assumption) (by assumption) (by decide) (by decide) (by decide), ?_⟩
  refine we_mul ?_
  refine we_ix ?_
  refine we_slot 1 rfl (.inl rfl) rfl rfl ?_
  refine we_int ?_
  refine ⟨_, _, _, rfl, rfl, rfl, ?_⟩
  refine we_ix ?_
  refine we_slot 0 rfl (.inl rfl) rfl rfl ?_
  refine we_int ?_
  refine ⟨_, _, _, rfl, rfl, rfl, ?_⟩
  refine ⟨_, _, rfl, rfl, Bd.cmul (m := 2000) (n := 2000) (by assumption) (by assumption) (by decide) (by decide) (by decide), ?_⟩
  refine ⟨_, _, rfl, rfl, ?_⟩
  refine ⟨rfl, ?_⟩
  refine wa_cons ?_
  refine we_mul ?_
  refine we_ix ?_
  refine we_slot 0 rfl (.inl rfl) rfl rfl ?_
  refine we_int ?_
  refine ⟨_, _, _, rfl, rfl, rfl, ?_⟩
  refine we_ix ?_
  refine we_slot 1 rfl (.inl rfl) rfl rfl ?_
  refine we_int ?_
  refine ⟨_, _, _, rfl, rfl, rfl, ?_⟩
  refine ⟨_, _, rfl, rfl, Bd.cmul (m := 2000) (n := 2000) (by assumption) (by assumption) (by decide) (by decide) (by decide), ?_⟩
  refine ⟨rfl, ?_⟩
  refine wa_nil ?_
  refine ⟨rfl, rfl, ?_⟩
  -- contract of made
  exact ⟨_, _, rfl, Int.mul_ne_zero hok.1 hok.2, (hb.mul hd).mono (by decide), _, rfl, hQ⟩
theorem sc_raw_times : FnScope ["x", "y"] ["x", "y"] (defScope s_raw_times) := ⟨rfl, rfl, rfl, by decide +kernel, rfl, by decide +kernel, by decide +kernel⟩
theorem ok_raw_times (Z : Env K mg) (C_made : Cal P w K mg base k "made" 2 S_made) (F : FnP K "raw_times" s_raw_times f fd) : FnOk P w K mg base (L2.CX P w) (k + 1) f fd ["x", "y"] (spS K mg 2 S_raw_times) := fn_ok F sc_raw_times fun cdv A outer s H E ws Q Y hr hS hl => by
  obtain ⟨a, b, c, d, rfl, ha, hb, hc, hd, hok, hQ⟩ := hS
  refine wb_one (ws_ret ?_)
  refine we_call C_made hr (Nat.le_refl _) rfl ?_
  refine wa_cons ?_
  refine we_mul ?_
  refine we_ix ?_
  refine we_slot 0 rfl (.inl rfl) rfl rfl ?_
  refine we_int ?_
  refine ⟨_, _, _, rfl, rfl, rfl, ?_⟩
  refine we_ix ?_
  refine we_slot 1 rfl (.inl rfl) rfl rfl ?_
  refine we_int ?_
  refine ⟨_, _, _, rfl, rfl, rfl, ?_⟩
  refine ⟨_, _, rfl, rfl, Bd.cmul (m := 2000) (n := 2000) (by assumption) (by assumption) (by decide) (by decide) (by decide), ?_⟩
  refine ⟨rfl, ?_⟩
  refine wa_cons ?_
  refine we_mul ?_
  refine we_ix ?_
  refine we_slot 0 rfl (.inl rfl) rfl rfl ?_
  refine we_int ?_
  refine ⟨_, _, _, rfl, rfl, rfl, ?_⟩
  refine we_ix ?_
  refine we_slot 1 rfl (.inl rfl) rfl rfl ?_
  refine we_int ?_
  refine ⟨_, _, _, rfl, rfl, rfl, ?_⟩
  refine ⟨_, _, rfl, rfl, Bd.cmul (m := 2000) (n := 2000) (by assumption) (by assumption) (by decide) (by decide) (by decide), ?_⟩
  refine ⟨rfl, ?_⟩
  refine wa_nil ?_
  refine ⟨rfl, rfl, ?_⟩
  -- contract of made
  exact ⟨_, _, rfl, Int.mul_ne_zero hok.1 hok.2, (hb.mul hd).mono (by decide), _, rfl, hQ⟩
theorem sc_raw_by : FnScope ["x", "y"] ["x", "y"] (defScope s_raw_by) := ⟨rfl, rfl, rfl, by decide +kernel, rfl, by decide +kernel, by decide +kernel⟩
theorem ok_raw_by (Z : Env K mg) (C_made : Cal P w K mg base k "made" 2 S_made) (F : FnP K "raw_by" s_raw_by f fd) : FnOk P w K mg base (L2.CX P w) (k + 1) f fd ["x", "y"] (spS K mg 2 S_raw_by) := fn_ok F sc_raw_by fun cdv A outer s H E ws Q Y hr hS hl => by
  obtain ⟨a, b, c, d, rfl, ha, hb, hc, hd, hok, hQ⟩ := hS
  refine wb_one (ws_ret ?_)
  refine we_call C_made hr (Nat.le_refl _) rfl ?_
  refine wa_cons ?_
  refine we_mul ?_
  refine we_ix ?_
  refine we_slot 0 rfl (.inl rfl) rfl rfl ?_
  refine we_int ?_
  refine ⟨_, _, _, rfl, rfl, rfl, ?_⟩
  refine we_ix ?_
  refine we_slot 1 rfl (.inl rfl) rfl rfl ?_
  refine we_int ?_
  refine ⟨_, _, _, rfl, rfl, rfl, ?_⟩
  refine ⟨_, _, rfl, rfl, Bd.cmul (m := 2000) (n := 2000) (by assumption) (by assumption) (by decide) (by decide) (by decide), ?_⟩
  refine ⟨rfl, ?_⟩
  refine wa_cons ?_
  refine we_mul ?_
  refine we_ix ?_
  refine we_slot 0 rfl (.inl rfl) rfl rfl ?_
  refine we_int ?_
  refine ⟨_, _, _, rfl, rfl, rfl, ?_⟩
  refine we_ix ?_
  refine we_slot 1 rfl (.inl rfl) rfl rfl ?_
  refine we_int ?_
  refine ⟨_, _, _, rfl, rfl, rfl, ?_⟩
  refine ⟨_, _, rfl, rfl, Bd.cmul (m := 2000) (n := 2000) (by assumption) (by assumption) (by decide) (by decide) (by decide), ?_⟩
  refine ⟨rfl, ?_⟩
  refine wa_nil ?_
  refine ⟨rfl, rfl, ?_⟩
  -- contract of made
  exact ⟨_, _, rfl, Int.mul_ne_zero hok.1 hok.2, (hb.mul hc).mono (by decide), _, rfl, hQ⟩
theorem sc_raw_at_most : FnScope ["x", "y"] ["x", "y"] (defScope s_raw_at_most) := ⟨rfl, rfl, rfl, by decide +kernel, rfl, by decide +kernel, by decide +kernel⟩
theorem ok_raw_at_most (Z : Env K mg)  (F : FnP K "raw_at_most" s_raw_at_most f fd) : FnOk P w K mg base (L2.CX P w) (k + 1) f fd ["x", "y"] (spS K mg 2 S_raw_at_most) := fn_ok F sc_raw_at_most fun cdv A outer s H E ws Q Y hr hS hl => by
  obtain ⟨a, b, c, d, rfl, ha, hb, hc, hd, hok, hQ⟩ := hS
  refine wb_one (ws_ret ?_)
  refine we_cmpI op_le (nomark _) ?_
  refine we_mul ?_
  refine we_ix ?_
  refine we_slot 0 rfl (.inl rfl) rfl rfl ?_
  refine we_int ?_
  refine ⟨_, _, _, rfl, rfl, rfl, ?_⟩
  refine we_ix ?_
  refine we_slot 1 rfl (.inl rfl) rfl rfl ?_
  refine we_int ?_
  refine ⟨_, _, _, rfl, rfl, rfl, ?_⟩
  refine ⟨_, _, rfl, rfl, Bd.cmul (m := 2000) (n := 2000) (by assumption) (by assumption) (by decide) (by decide) (by decide), ?_⟩
  refine we_mul ?_
  refine we_ix ?_
  refine we_slot 1 rfl (.inl rfl) rfl rfl ?_
  refine we_int ?_
  refine ⟨_, _, _, rfl, rfl, rfl, ?_⟩
  refine we_ix ?_
  refine we_slot 0 rfl (.inl rfl) rfl rfl ?_
  refine we_int ?_
  refine ⟨_, _, _, rfl, rfl, rfl, ?_⟩
  refine ⟨_, _, rfl, rfl, Bd.cmul (m := 2000) (n := 2000) (by assumption) (by assumption) (by decide) (by decide) (by decide), ?_⟩
  refine ⟨_, _, rfl, rfl, ?_⟩
  exact ⟨_, rfl, hQ⟩
theorem fr_inj {a b c d : Int} (h : fr a b = fr c d) : a = c ∧ b = d := by
  unfold fr at h
  injection h with h
  injection h with h1 h2
  injection h2 with h2 _
  injection h1 with h1
  injection h2 with h2
  exact ⟨h1, h2⟩
theorem isFr_pos {a b : Int} (h : isFr (fr a b) = true) : 0 < b := by
  rw [isFr_fr, Bool.and_eq_true] at h
  simpa using h.1
theorem sc_plus : FnScope ["x", "y"] ["x", "y"] (defScope s_plus) := ⟨rfl, rfl, rfl, by decide +kernel, rfl, by decide +kernel, by decide +kernel⟩
theorem ok_plus (Z : Env K mg) (C_check_fraction : Cal P w K mg base k "check_fraction" 1 S_check_fraction) (C_raw_plus : Cal P w K mg base k "raw_plus" 2 S_raw_plus) (F : FnP K "plus" s_plus f fd) : FnOk P w K mg base (L2.CX P w) (k + 1) f fd ["x", "y"] (spS K mg 2 S_plus) := fn_ok F sc_plus fun cdv A outer s H E ws Q Y hr hS hl => by
  obtain ⟨x, y, rfl, hx, hy, hQ⟩ := hS
  refine wb_cons (ws_expr ?_)
  refine we_call C_check_fraction hr (Nat.le_refl _) rfl ?_
  refine wa_cons ?_
  refine we_slot 0 rfl (.inl rfl) rfl rfl ?_
  refine ⟨rfl, ?_⟩
  refine wa_nil ?_
  refine ⟨rfl, rfl, ?_⟩
  -- contract of check_fraction
  refine ⟨_, rfl, hx, ?_⟩
  cases hfx : isFr x with
  | false =>
    refine iteF rfl ?_
    rcases hQ with ⟨a, b, c, d, h1, h2, h3, _⟩ | ⟨_, h⟩
    · rw [hfx] at h3
      cases h3
    · exact h
  | true =>
  refine iteT rfl ?_
  refine wb_cons (ws_expr ?_)
  refine we_call C_check_fraction hr (Nat.le_refl _) rfl ?_
  refine wa_cons ?_
  refine we_slot 1 rfl (.inl rfl) rfl rfl ?_
  refine ⟨rfl, ?_⟩
  refine wa_nil ?_
  refine ⟨rfl, rfl, ?_⟩
  -- contract of check_fraction
  refine ⟨_, rfl, hy, ?_⟩
  cases hfy : isFr y with
  | false =>
    refine iteF rfl ?_
    rcases hQ with ⟨a, b, c, d, h1, h2, h3, h4, _⟩ | ⟨_, h⟩
    · rw [hfy] at h4
      cases h4
    · exact h
  | true =>
  refine iteT rfl ?_
  rcases hQ with ⟨a, b, c, d, rfl, rfl, _, _, ha, hb, hc, hd, hQ⟩ | ⟨h | h, _⟩
  rotate_left
  · rw [hfx] at h
    cases h
  · rw [hfy] at h
    cases h
  have pb := isFr_pos hfx
  have pd := isFr_pos hfy
  refine wb_one (ws_ret ?_)
  refine we_call C_raw_plus hr (Nat.le_refl _) rfl ?_
  refine wa_cons ?_
  refine we_slot 0 rfl (.inl rfl) rfl rfl ?_
  refine ⟨rfl, ?_⟩
  refine wa_cons ?_
  refine we_slot 1 rfl (.inl rfl) rfl rfl ?_
  refine ⟨rfl, ?_⟩
  refine wa_nil ?_
  refine ⟨rfl, rfl, ?_⟩
  -- contract of raw_plus
  exact ⟨a, b, c, d, rfl, ha, hb, hc, hd, ⟨by omega, by omega⟩, _, rfl, hQ⟩
theorem sc_less : FnScope ["x", "y"] ["x", "y"] (defScope s_less) := ⟨rfl, rfl, rfl, by decide +kernel, rfl, by decide +kernel, by decide +kernel⟩
theorem ok_less (Z : Env K mg) (C_check_fraction : Cal P w K mg base k "check_fraction" 1 S_check_fraction) (C_raw_less : Cal P w K mg base k "raw_less" 2 S_raw_less) (F : FnP K "less" s_less f fd) : FnOk P w K mg base (L2.CX P w) (k + 1) f fd ["x", "y"] (spS K mg 2 S_less) := fn_ok F sc_less fun cdv A outer s H E ws Q Y hr hS hl => by
  obtain ⟨x, y, rfl, hx, hy, hQ⟩ := hS
  refine wb_cons (ws_expr ?_)
  refine we_call C_check_fraction hr (Nat.le_refl _) rfl ?_
  refine wa_cons ?_
  refine we_slot 0 rfl (.inl rfl) rfl rfl ?_
  refine ⟨rfl, ?_⟩
  refine wa_nil ?_
  refine ⟨rfl, rfl, ?_⟩
  -- contract of check_fraction
  refine ⟨_, rfl, hx, ?_⟩
  cases hfx : isFr x with
  | false =>
    refine iteF rfl ?_
    rcases hQ with ⟨a, b, c, d, h1, h2, h3, _⟩ | ⟨_, h⟩
    · rw [hfx] at h3
      cases h3
    · exact h
  | true =>
  refine iteT rfl ?_
  refine wb_cons (ws_expr ?_)
  refine we_call C_check_fraction hr (Nat.le_refl _) rfl ?_
  refine wa_cons ?_
  refine we_slot 1 rfl (.inl rfl) rfl rfl ?_
  refine ⟨rfl, ?_⟩
  refine wa_nil ?_
  refine ⟨rfl, rfl, ?_⟩
  -- contract of check_fraction
  refine ⟨_, rfl, hy, ?_⟩
  cases hfy : isFr y with
  | false =>
    refine iteF rfl ?_
    rcases hQ with ⟨a, b, c, d, h1, h2, h3, h4, _⟩ | ⟨_, h⟩
    · rw [hfy] at h4
      cases h4
    · exact h
  | true =>
  refine iteT rfl ?_
  rcases hQ with ⟨a, b, c, d, rfl, rfl, _, _, ha, hb, hc, hd, hQ⟩ | ⟨h | h, _⟩
  rotate_left
  · rw [hfx] at h
    cases h
  · rw [hfy] at h
    cases h
  have pb := isFr_pos hfx
  have pd := isFr_pos hfy
  refine wb_one (ws_ret ?_)
  refine we_call C_raw_less hr (Nat.le_refl _) rfl ?_
  refine wa_cons ?_
  refine we_slot 0 rfl (.inl rfl) rfl rfl ?_
  refine ⟨rfl, ?_⟩
  refine wa_cons ?_
  refine we_slot 1 rfl (.inl rfl) rfl rfl ?_
  refine ⟨rfl, ?_⟩
  refine wa_nil ?_
  refine ⟨rfl, rfl, ?_⟩
  -- contract of raw_less
  exact ⟨a, b, c, d, rfl, ha, hb, hc, hd, ⟨by omega, by omega⟩, _, rfl, hQ⟩
theorem sc_times : FnScope ["x", "y"] ["x", "y"] (defScope s_times) := ⟨rfl, rfl, rfl, by decide +kernel, rfl, by decide +kernel, by decide +kernel⟩
theorem ok_times (Z : Env K mg) (C_check_fraction : Cal P w K mg base k "check_fraction" 1 S_check_fraction) (C_raw_times : Cal P w K mg base k "raw_times" 2 S_raw_times) (F : FnP K "times" s_times f fd) : FnOk P w K mg base (L2.CX P w) (k + 1) f fd ["x", "y"] (spS K mg 2 S_times) := fn_ok F sc_times fun cdv A outer s H E ws Q Y hr hS hl => by
  obtain ⟨x, y, rfl, hx, hy, hQ⟩ := hS
  refine wb_cons (ws_expr ?_)
  refine we_call C_check_fraction hr (Nat.le_refl _) rfl ?_
  refine wa_cons ?_
  refine we_slot 0 rfl (.inl rfl) rfl rfl ?_
  refine ⟨rfl, ?_⟩
  refine wa_nil ?_
  refine ⟨rfl, rfl, ?_⟩
  -- contract of check_fraction
  refine ⟨_, rfl, hx, ?_⟩
  cases hfx : isFr x with
  | false =>
    refine iteF rfl ?_
    rcases hQ with ⟨a, b, c, d, h1, h2, h3, _⟩ | ⟨_, h⟩
    · rw [hfx] at h3
      cases h3
    · exact h
  | true =>
  refine iteT rfl ?_
  refine wb_cons (ws_expr ?_)
  refine we_call C_check_fraction hr (Nat.le_refl _) rfl ?_
  refine wa_cons ?_
  refine we_slot 1 rfl (.inl rfl) rfl rfl ?_
  refine ⟨rfl, ?_⟩
  refine wa_nil ?_
  refine ⟨rfl, rfl, ?_⟩
  -- contract of check_fraction
  refine ⟨_, rfl, hy, ?_⟩
  cases hfy : isFr y with
  | false =>
    refine iteF rfl ?_
    rcases hQ with ⟨a, b, c, d, h1, h2, h3, h4, _⟩ | ⟨_, h⟩
    · rw [hfy] at h4
      cases h4
    · exact h
  | true =>
  refine iteT rfl ?_
  rcases hQ with ⟨a, b, c, d, rfl, rfl, _, _, ha, hb, hc, hd, hQ⟩ | ⟨h | h, _⟩
  rotate_left
  · rw [hfx] at h
    cases h
  · rw [hfy] at h
    cases h
  have pb := isFr_pos hfx
  have pd := isFr_pos hfy
  refine wb_one (ws_ret ?_)
  refine we_call C_raw_times hr (Nat.le_refl _) rfl ?_
  refine wa_cons ?_
  refine we_slot 0 rfl (.inl rfl) rfl rfl ?_
  refine ⟨rfl, ?_⟩
  refine wa_cons ?_
  refine we_slot 1 rfl (.inl rfl) rfl rfl ?_
  refine ⟨rfl, ?_⟩
  refine wa_nil ?_
  refine ⟨rfl, rfl, ?_⟩
  -- contract of raw_times
  exact ⟨a, b, c, d, rfl, ha, hb, hc, hd, ⟨by omega, by omega⟩, _, rfl, hQ⟩
theorem sc_at_most : FnScope ["x", "y"] ["x", "y"] (defScope s_at_most) := ⟨rfl, rfl, rfl, by decide +kernel, rfl, by decide +kernel, by decide +kernel⟩
theorem ok_at_most (Z : Env K mg) (C_check_fraction : Cal P w K mg base k "check_fraction" 1 S_check_fraction) (C_raw_at_most : Cal P w K mg base k "raw_at_most" 2 S_raw_at_most) (F : FnP K "at_most" s_at_most f fd) : FnOk P w K mg base (L2.CX P w) (k + 1) f fd ["x", "y"] (spS K mg 2 S_at_most) := fn_ok F sc_at_most fun cdv A outer s H E ws Q Y hr hS hl => by
  obtain ⟨x, y, rfl, hx, hy, hQ⟩ := hS
  refine wb_cons (ws_expr ?_)
  refine we_call C_check_fraction hr (Nat.le_refl _) rfl ?_
  refine wa_cons ?_
  refine we_slot 0 rfl (.inl rfl) rfl rfl ?_
  refine ⟨rfl, ?_⟩
  refine wa_nil ?_
  refine ⟨rfl, rfl, ?_⟩
  -- contract of check_fraction
  refine ⟨_, rfl, hx, ?_⟩
  cases hfx : isFr x with
  | false =>
    refine iteF rfl ?_
    rcases hQ with ⟨a, b, c, d, h1, h2, h3, _⟩ | ⟨_, h⟩
    · rw [hfx] at h3
      cases h3
    · exact h
  | true =>
  refine iteT rfl ?_
  refine wb_cons (ws_expr ?_)
  refine we_call C_check_fraction hr (Nat.le_refl _) rfl ?_
  refine wa_cons ?_
  refine we_slot 1 rfl (.inl rfl) rfl rfl ?_
  refine ⟨rfl, ?_⟩
  refine wa_nil ?_
  refine ⟨rfl, rfl, ?_⟩
  -- contract of check_fraction
  refine ⟨_, rfl, hy, ?_⟩
  cases hfy : isFr y with
  | false =>
    refine iteF rfl ?_
    rcases hQ with ⟨a, b, c, d, h1, h2, h3, h4, _⟩ | ⟨_, h⟩
    · rw [hfy] at h4
      cases h4
    · exact h
  | true =>
  refine iteT rfl ?_
  rcases hQ with ⟨a, b, c, d, rfl, rfl, _, _, ha, hb, hc, hd, hQ⟩ | ⟨h | h, _⟩
  rotate_left
  · rw [hfx] at h
    cases h
  · rw [hfy] at h
    cases h
  have pb := isFr_pos hfx
  have pd := isFr_pos hfy
  refine wb_one (ws_ret ?_)
  refine we_call C_raw_at_most hr (Nat.le_refl _) rfl ?_
  refine wa_cons ?_
  refine we_slot 0 rfl (.inl rfl) rfl rfl ?_
  refine ⟨rfl, ?_⟩
  refine wa_cons ?_
  refine we_slot 1 rfl (.inl rfl) rfl rfl ?_
  refine ⟨rfl, ?_⟩
  refine wa_nil ?_
  refine ⟨rfl, rfl, ?_⟩
  -- contract of raw_at_most
  exact ⟨a, b, c, d, rfl, ha, hb, hc, hd, trivial, _, rfl, hQ⟩
theorem sc_by : FnScope ["x", "y"] ["x", "y"] (defScope s_by) := ⟨rfl, rfl, rfl, by decide +kernel, rfl, by decide +kernel, by decide +kernel⟩
theorem ok_by (Z : Env K mg) (C_check_fraction : Cal P w K mg base k "check_fraction" 1 S_check_fraction) (C_raw_by : Cal P w K mg base k "raw_by" 2 S_raw_by) (F : FnP K "by" s_by f fd) : FnOk P w K mg base (L2.CX P w) (k + 1) f fd ["x", "y"] (spS K mg 2 S_by) := fn_ok F sc_by fun cdv A outer s H E ws Q Y hr hS hl => by
  obtain ⟨x, y, rfl, hx, hy, hQ⟩ := hS
  refine wb_cons (ws_expr ?_)
  refine we_call C_check_fraction hr (Nat.le_refl _) rfl ?_
  refine wa_cons ?_
  refine we_slot 0 rfl (.inl rfl) rfl rfl ?_
  refine ⟨rfl, ?_⟩
  refine wa_nil ?_
  refine ⟨rfl, rfl, ?_⟩
  -- contract of check_fraction
  refine ⟨_, rfl, hx, ?_⟩
  cases hfx : isFr x with
  | false =>
    refine iteF rfl ?_
    rcases hQ with ⟨a, b, c, d, h1, h2, h3, _⟩ | ⟨_, h⟩
    · rw [hfx] at h3
      cases h3
    · exact h
  | true =>
  refine iteT rfl ?_
  refine wb_cons (ws_expr ?_)
  refine we_call C_check_fraction hr (Nat.le_refl _) rfl ?_
  refine wa_cons ?_
  refine we_slot 1 rfl (.inl rfl) rfl rfl ?_
  refine ⟨rfl, ?_⟩
  refine wa_nil ?_
  refine ⟨rfl, rfl, ?_⟩
  -- contract of check_fraction
  refine ⟨_, rfl, hy, ?_⟩
  cases hfy : isFr y with
  | false =>
    refine iteF rfl ?_
    rcases hQ with ⟨a, b, c, d, h1, h2, h3, h4, _⟩ | ⟨_, h⟩
    · rw [hfy] at h4
      cases h4
    · exact h
  | true =>
  refine iteT rfl ?_
  rcases hQ with ⟨a, b, c, d, rfl, rfl, _, _, ha, hb, hc, hd, hQ⟩ | ⟨h | h, _⟩
  rotate_left
  · rw [hfx] at h
    cases h
  · rw [hfy] at h
    cases h
  have pb := isFr_pos hfx
  have pd := isFr_pos hfy
  refine wb_cons (ws_if ?_)
  refine wt_eqS ?_
  refine we_ix ?_
  refine we_slot 1 rfl (.inl rfl) rfl rfl ?_
  refine we_int ?_
  refine ⟨_, _, _, rfl, rfl, rfl, ?_⟩
  refine we_int ?_
  refine ⟨_, _, _, _, rfl, rfl, rfl, rfl, rfl, ?_⟩
  by_cases h0 : c = 0
  · subst h0
    rw [if_pos rfl] at hQ
    exact iteT rfl (wb_one (ws_raise rfl Z.X_Zero rfl hQ))
  · rw [if_neg h0] at hQ
    refine iteF (by simpa using h0) (wb_nil (wb_one (ws_ret ?_)))
    refine we_call C_raw_by hr (Nat.le_refl _) rfl ?_
    refine wa_cons ?_
    refine we_slot 0 rfl (.inl rfl) rfl rfl ?_
    refine ⟨rfl, ?_⟩
    refine wa_cons ?_
    refine we_slot 1 rfl (.inl rfl) rfl rfl ?_
    refine ⟨rfl, ?_⟩
    refine wa_nil ?_
    refine ⟨rfl, rfl, ?_⟩
    -- contract of raw_by
    exact ⟨a, b, c, d, rfl, ha, hb, hc, hd, ⟨by omega, h0⟩, _, rfl, hQ⟩
theorem sc_floor_of : FnScope ["x"] ["x"] (defScope s_floor_of) := ⟨rfl, rfl, rfl, by decide +kernel, rfl, by decide +kernel, by decide +kernel⟩
theorem ok_floor_of (Z : Env K mg) (C_check_fraction : Cal P w K mg base k "check_fraction" 1 S_check_fraction) (F : FnP K "floor_of" s_floor_of f fd) : FnOk P w K mg base (L2.CX P w) (k + 1) f fd ["x"] (spS K mg 1 S_floor_of) := fn_ok F sc_floor_of fun cdv A outer s H E ws Q Y hr hS hl => by
  obtain ⟨x, rfl, hx, hQ⟩ := hS
  refine wb_cons (ws_expr ?_)
  refine we_call C_check_fraction hr (Nat.le_refl _) rfl ?_
  refine wa_cons ?_
  refine we_slot 0 rfl (.inl rfl) rfl rfl ?_
  refine ⟨rfl, ?_⟩
  refine wa_nil ?_
  refine ⟨rfl, rfl, ?_⟩
  -- contract of check_fraction
  refine ⟨_, rfl, hx, ?_⟩
  cases hfx : isFr x with
  | false =>
    refine iteF rfl ?_
    rcases hQ with ⟨a, b, h1, h2, _⟩ | ⟨_, h⟩
    · rw [hfx] at h2
      cases h2
    · exact h
  | true =>
  refine iteT rfl ?_
  rcases hQ with ⟨a, b, rfl, _, hB, hQ⟩ | ⟨h, _⟩
  rotate_left
  · rw [hfx] at h
    cases h
  have pb := isFr_pos hfx
  refine wb_one (ws_ret ?_)
  refine we_fdiv ?_
  refine we_ix ?_
  refine we_slot 0 rfl (.inl rfl) rfl rfl ?_
  refine we_int ?_
  refine ⟨_, _, _, rfl, rfl, rfl, ?_⟩
  refine we_ix ?_
  refine we_slot 0 rfl (.inl rfl) rfl rfl ?_
  refine we_int ?_
  refine ⟨_, _, _, rfl, rfl, rfl, ?_⟩
  refine ⟨_, _, rfl, rfl, ?_, ?_⟩
  · exact hB.cdiv _ (by omega) (by decide) (by decide)
  · exact ⟨_, rfl, hQ⟩
end
end K02

namespace K02
open PySem PySem.Spec PyProof.Rows L2 PL
variable [Hand]
/-- the dict SIZES, as asked here -/
structure Siz (w : World) (K : PySem.W.Frag) (mg : Str → Option Value) : Prop where
  kd : ∃ d es n u, mg "SIZES" = some (.ref d) ∧ KDict K w d es n ∧ PySem.W.nsIn K d "list" = some (some u) ∧ RelV (.int 1) u
def KL : D := .tup [.str "list", .str "int"]
def vl (is : List Int) : D := .tup [.str "list", .tup (is.map D.int)]
def S_has_kind_form : Sem1 := fun ws P Y => ws = [.val KL] ∧ P (.bl true)
def S_is_kind : Sem1 := fun ws P Y => ws = [.val KL] ∧ P (.bl true)
def S_check_kind : Sem1 := fun ws P Y => ws = [.val KL] ∧ P .non
def S_is_told : Sem1 := fun ws P Y => ∃ d, ws = [.val (.tup [.str "list", d]), .val (.str "list"), .val (.int 1)] ∧ P (.bl true)
def small (i : Int) : Prop := (i.natAbs : Int) < 1000000000000000000
def S_pieces_of : Sem1 := fun ws P Y => (∃ is : List Int, ws = [.val KL, .val (vl is)] ∧ is.length ≤ 1000 ∧ P (.lst (is.map fun i => .tup [.str "int", .int i]))) ∨ (∃ i, ws = [.val (.str "int"), .val (.int i)] ∧ small i ∧ P (.lst []))
def S_raw_is_value : Sem1 := fun ws P Y => ∃ is : List Int, ws = [.val KL, .val (vl is)] ∧ is.length ≤ 1000 ∧ (∀ i ∈ is, small i) ∧ P (.bl true)
theorem at_last {α : Type} (xs : List α) (x : α) : atI (xs ++ [x]) (-1) = some x := by
  have h : -((xs ++ [x]).length : Int) ≤ -1 := by
    rw [List.length_append]
    simp
    omega
  have e : ((-1 : Int) + ((xs ++ [x]).length : Int)).toNat = xs.length := by
    rw [List.length_append]
    simp
    omega
  unfold atI ixN
  rw [if_neg (by decide), if_pos h, e]
  show (xs ++ [x])[xs.length]? = some x
  rw [List.getElem?_append_right (Nat.le_refl _), Nat.sub_self]
  rfl
theorem blk_by {N : List Str} {sc scope : Scope} {own : List (Str × Nat)} (h : (decide (scope.kind = .function) && (scope.names.all fun y => decide (scope.names.lookup y.1 = some y.2)) && (own.all fun p => decide (N[p.2]? = some p.1)) &&
    (scope.names.all fun y => !decide (y.2 = .free) || decide (sc.names.lookup y.1 = some .cell) || decide (sc.names.lookup y.1 = some .free)) && (scope.names.all fun y => !(decide (y.2 = .local) || decide (y.2 = .cell)) || decide (y.1 ∈ own.map (·.1)) || !decide (y.1 ∈ N))) = true) : BlkOk N sc scope own := by
  simp only [Bool.and_eq_true, List.all_eq_true, decide_eq_true_eq, Bool.or_eq_true, Bool.not_eq_true', decide_eq_false_iff_not, Bool.or_eq_false_iff] at h
  obtain ⟨⟨⟨⟨h1, h2⟩, h3⟩, h4⟩, h5⟩ := h
  refine ⟨h1, h2, h3, fun y hy e => ?_, fun y hy e => ?_⟩
  · rcases h4 y hy with (h | h) | h
    · exact absurd e h
    · exact .inl h
    · exact .inr h
  · rcases h5 y hy with (h | h) | h
    · rcases e with e | e
      · exact absurd e h.1
      · exact absurd e h.2
    · exact .inl h
    · exact .inr h
theorem lcw_cons {un : D → Option (List D)} {ρb : List D → Store} {elt : List D → (D → Prop) → Prop} {it : D} {r acc ds : List D} {K : List D → Prop} (h1 : un it = some ds) (h2 : elt ds fun d => LcW un (condN ρb) elt r (acc ++ [d]) K) : LcW un (condN ρb) elt (it :: r) acc K := by
  refine ⟨ds, h1, ?_⟩
  show if true = true then (elt ds fun d => LcW un (condN ρb) elt r (acc ++ [d]) K) else LcW un (condN ρb) elt r acc K
  rw [if_pos rfl]
  exact h2
theorem lcw_map {un : D → Option (List D)} {ρb : List D → Store} {elt : List D → (D → Prop) → Prop} {g : D → D} : ∀ {items acc : List D} {K : List D → Prop}, (∀ it ∈ items, ∀ K : D → Prop, K (g it) → ∃ ds, un it = some ds ∧ elt ds K) → K (acc ++ items.map g) → LcW un (condN ρb) elt items acc K
  | [], acc, K, _, hk => by
    rw [List.map_nil, List.append_nil] at hk
    exact hk
  | it :: r, acc, K, h, hk => by
    have hk2 : K ((acc ++ [g it]) ++ r.map g) := by
      rw [List.append_assoc]
      exact hk
    obtain ⟨ds, h1, h2⟩ := h it List.mem_cons_self (fun d => LcW un (condN ρb) elt r (acc ++ [d]) K) (lcw_map (un := un) (ρb := ρb) (elt := elt) (items := r) (acc := acc ++ [g it]) (K := K) (fun x hx => h x (List.mem_cons_of_mem _ hx)) hk2)
    refine ⟨ds, h1, ?_⟩
    show if true = true then (elt ds fun d => LcW un (condN ρb) elt r (acc ++ [d]) K) else LcW un (condN ρb) elt r acc K
    rw [if_pos rfl]
    exact h2
section
variable {P : Program} {w : World} {K : PySem.W.Frag} {mg : Str → Option Value} {base : Heap} {f : Addr} {fd : FuncData} {k : Nat}
theorem sc_has_kind_form : FnScope ["thing"] ["thing"] (defScope s_has_kind_form) := ⟨rfl, rfl, rfl, by decide +kernel, rfl, by decide +kernel, by decide +kernel⟩
theorem ok_has_kind_form (Z : Env K mg)  (F : FnP K "has_kind_form" s_has_kind_form f fd) (SZ : Siz w K mg) : FnOk P w K mg base (L2.CX P w) (k + 1) f fd ["thing"] (spS K mg 1 S_has_kind_form) := fn_ok F sc_has_kind_form fun cdv A outer s H E ws Q Y hr hS hl => by
  obtain ⟨rfl, hQ⟩ := hS
  obtain ⟨sd, ses, sn, su, sm, skd, sns, sr⟩ := SZ.kd
  refine wb_cons (ws_if ?_)
  refine wt_of ?_
  refine ww_or ?_
  refine wt_not ?_
  refine wt_val ?_
  refine we_isTup rfl Z.isinstance rfl Z.tuple ?_
  refine we_slot 0 rfl (.inl rfl) rfl rfl ?_
  refine ⟨_, rfl, rfl, ?_⟩
  refine ⟨_, rfl, ?_⟩
  refine iteF rfl ?_
  refine ww_or ?_
  refine wt_eqS ?_
  refine we_len rfl Z.len ?_
  refine we_slot 0 rfl (.inl rfl) rfl rfl ?_
  refine ⟨_, rfl, ?_⟩
  refine we_int ?_
  refine ⟨_, _, _, _, rfl, rfl, rfl, rfl, rfl, ?_⟩
  refine iteF rfl ?_
  refine ww_or1 ?_
  refine wt_not ?_
  refine wt_val ?_
  refine we_isStr rfl Z.isinstance rfl Z.str ?_
  refine we_ix ?_
  refine we_slot 0 rfl (.inl rfl) rfl rfl ?_
  refine we_int ?_
  refine ⟨_, _, _, rfl, rfl, rfl, ?_⟩
  refine ⟨_, rfl, rfl, ?_⟩
  refine ⟨_, rfl, ?_⟩
  refine iteF rfl ?_
  refine wb_nil ?_
  refine wb_one (ws_ret ?_)
  refine we_and ?_
  refine we_inK ⟨sd, ses, sn, sm, skd⟩ rfl ?_
  refine we_ix ?_
  refine we_slot 0 rfl (.inl rfl) rfl rfl ?_
  refine we_int ?_
  refine ⟨_, _, _, rfl, rfl, rfl, ?_⟩
  refine we_gfn rfl sm ?_
  refine ⟨_, some (.int 1), rfl, rfl, ⟨sd, sm, su, sns, fun F => ⟨.int 1, sr, .int 1⟩⟩, ?_⟩
  refine ⟨_, rfl, ?_⟩
  refine iteT rfl ?_
  refine we_and1 ?_
  refine we_eqS ?_
  refine we_len rfl Z.len ?_
  refine we_slot 0 rfl (.inl rfl) rfl rfl ?_
  refine ⟨_, rfl, ?_⟩
  refine we_add ?_
  refine we_int ?_
  refine we_itemK ⟨sd, ses, sn, sm, skd⟩ ?_
  refine we_gfn rfl sm ?_
  refine we_ix ?_
  refine we_slot 0 rfl (.inl rfl) rfl rfl ?_
  refine we_int ?_
  refine ⟨_, _, _, rfl, rfl, rfl, ?_⟩
  refine ⟨_, .int 1, rfl, rfl, ⟨sd, sm, su, sns, fun F => ⟨.int 1, sr, .int 1⟩⟩, ?_⟩
  refine ⟨_, _, rfl, rfl, ?_⟩
  refine ⟨_, _, _, _, rfl, rfl, rfl, rfl, rfl, ?_⟩
  refine ⟨_, rfl, ?_⟩
  exact hQ
theorem sc_is_kind : FnScope ["thing", "many", "waiting", "here"] ["thing"] (defScope s_is_kind) := ⟨rfl, rfl, rfl, by decide +kernel, rfl, by decide +kernel, by decide +kernel⟩
theorem ok_is_kind (Z : Env K mg) (C_has_kind_form : Cal P w K mg base k "has_kind_form" 1 S_has_kind_form) (F : FnP K "is_kind" s_is_kind f fd) : FnOk P w K mg base (L2.CX P w) (k + 1) f fd ["thing"] (spS K mg 1 S_is_kind) := fn_ok F sc_is_kind fun cdv A outer s H E ws Q Y hr hS hl => by
  obtain ⟨rfl, hQ⟩ := hS
  refine wb_cons (ws_parO 1 2 rfl sc_is_kind.nd rfl rfl (by decide) rfl rfl ?_ (by intro _ q; cases q))
  refine we_int ?_
  refine ⟨_, rfl, ?_⟩
  refine wo_list ?_
  refine wa_cons ?_
  refine we_slot 0 rfl (.inl rfl) rfl rfl ?_
  refine ⟨rfl, ?_⟩
  refine wa_nil ?_
  refine ⟨_, rfl, by simp, ?_⟩
  refine wb_cons (ws_while (fun m ρ => (m = 2 ∧ ρ = [some (.val KL), some (.val (.int 0)), some (.own [KL]), none]) ∨ (m = 1 ∧ ρ = [some (.val KL), some (.val (.int 1)), some (.own [.str "int"]), some (.val KL)]) ∨ (m = 0 ∧ ρ = [some (.val KL), some (.val (.int 2)), some (.own []), some (.val (.str "int"))])) 2 (.inl ⟨rfl, rfl⟩) ?_)
  rintro m ρ1 (⟨rfl, rfl⟩ | ⟨rfl, rfl⟩ | ⟨rfl, rfl⟩)
  · -- the list
    refine wt_cmpI op_gt (nomark _) ?_
    refine we_len rfl Z.len ?_
    refine we_slot 2 rfl (.inl rfl) rfl rfl ?_
    refine ⟨_, rfl, ?_⟩
    refine we_int ?_
    refine ⟨_, _, rfl, rfl, ?_⟩
    refine iteT rfl ?_
    refine wb_cons (ws_asg 3 sc_is_kind.nd rfl (.inl rfl) ?_)
    refine we_pop ?_
    refine we_slot 2 rfl (.inl rfl) rfl rfl ?_
    refine ⟨2, [], KL, rfl, rfl, ?_⟩
    refine ⟨_, rfl, ?_⟩
    refine wb_cons (ws_aug 1 sc_is_kind.nd rfl (.inl rfl) rfl ?_)
    refine we_int ?_
    refine ⟨_, rfl, ?_⟩
    refine wb_cons (ws_if ?_)
    refine wt_cmpI op_gt (nomark _) ?_
    refine we_slot 1 rfl (.inl rfl) rfl rfl ?_
    refine we_gint rfl Z.MOST_PARTS ?_
    refine ⟨_, _, rfl, rfl, ?_⟩
    refine iteF rfl ?_
    refine wb_nil ?_
    refine wb_one (ws_if ?_)
    refine wt_val ?_
    refine we_isStr rfl Z.isinstance rfl Z.str ?_
    refine we_slot 3 rfl (.inl rfl) rfl rfl ?_
    refine ⟨_, rfl, rfl, ?_⟩
    refine ⟨_, rfl, ?_⟩
    refine iteF rfl ?_
    refine wb_one (ws_if ?_)
    refine wt_val ?_
    refine we_call C_has_kind_form hr (Nat.le_refl _) rfl ?_
    refine wa_cons ?_
    refine we_slot 3 rfl (.inl rfl) rfl rfl ?_
    refine ⟨rfl, ?_⟩
    refine wa_nil ?_
    refine ⟨rfl, rfl, ?_⟩
    refine ⟨rfl, ?_⟩
    refine ⟨_, rfl, ?_⟩
    refine iteT rfl ?_
    refine wb_one (ws_expr ?_)
    refine we_extend ?_
    refine we_slot 2 rfl (.inl rfl) rfl rfl ?_
    refine ⟨_, _, rfl, rfl, ?_⟩
    refine we_listOf rfl Z.list ?_
    refine we_slT ?_
    refine we_slot 3 rfl (.inl rfl) rfl rfl ?_
    refine we_int ?_
    refine ⟨_, rfl, ?_⟩
    refine ⟨_, rfl, ?_⟩
    refine ⟨_, rfl, ?_⟩
    refine ⟨_, _, rfl, rfl, by first | decide | simp, ?_⟩
    exact ⟨1, by decide, .inr (.inl ⟨rfl, rfl⟩)⟩
  · -- the int
    refine wt_cmpI op_gt (nomark _) ?_
    refine we_len rfl Z.len ?_
    refine we_slot 2 rfl (.inl rfl) rfl rfl ?_
    refine ⟨_, rfl, ?_⟩
    refine we_int ?_
    refine ⟨_, _, rfl, rfl, ?_⟩
    refine iteT rfl ?_
    refine wb_cons (ws_asg 3 sc_is_kind.nd rfl (.inl rfl) ?_)
    refine we_pop ?_
    refine we_slot 2 rfl (.inl rfl) rfl rfl ?_
    refine ⟨2, [], .str "int", rfl, rfl, ?_⟩
    refine ⟨_, rfl, ?_⟩
    refine wb_cons (ws_aug 1 sc_is_kind.nd rfl (.inl rfl) rfl ?_)
    refine we_int ?_
    refine ⟨_, rfl, ?_⟩
    refine wb_cons (ws_if ?_)
    refine wt_cmpI op_gt (nomark _) ?_
    refine we_slot 1 rfl (.inl rfl) rfl rfl ?_
    refine we_gint rfl Z.MOST_PARTS ?_
    refine ⟨_, _, rfl, rfl, ?_⟩
    refine iteF rfl ?_
    refine wb_nil ?_
    refine wb_one (ws_if ?_)
    refine wt_val ?_
    refine we_isStr rfl Z.isinstance rfl Z.str ?_
    refine we_slot 3 rfl (.inl rfl) rfl rfl ?_
    refine ⟨_, rfl, rfl, ?_⟩
    refine ⟨_, rfl, ?_⟩
    refine iteT rfl ?_
    refine wb_one (ws_if ?_)
    refine wt_notIn rfl ?_
    refine we_slot 3 rfl (.inl rfl) rfl rfl ?_
    refine we_tup ?_
    refine wa_cons ?_
    refine we_gstr rfl Z.INT ?_
    refine ⟨rfl, ?_⟩
    refine wa_cons ?_
    refine we_gstr rfl Z.FLAG ?_
    refine ⟨rfl, ?_⟩
    refine wa_nil ?_
    refine ⟨_, rfl, by simp, ?_⟩
    refine ⟨_, _, _, _, rfl, rfl, rfl, rfl, ?_⟩
    refine iteF rfl ?_
    refine wb_nil ?_
    exact ⟨0, by decide, .inr (.inr ⟨rfl, rfl⟩)⟩
  · -- none left
    refine wt_cmpI op_gt (nomark _) ?_
    refine we_len rfl Z.len ?_
    refine we_slot 2 rfl (.inl rfl) rfl rfl ?_
    refine ⟨_, rfl, ?_⟩
    refine we_int ?_
    refine ⟨_, _, rfl, rfl, ?_⟩
    refine iteF rfl ?_
    refine wb_one (ws_ret ?_)
    refine we_bl ?_
    refine ⟨_, rfl, ?_⟩
    exact hQ
theorem sc_check_kind : FnScope ["kind"] ["kind"] (defScope s_check_kind) := ⟨rfl, rfl, rfl, by decide +kernel, rfl, by decide +kernel, by decide +kernel⟩
theorem ok_check_kind (Z : Env K mg) (C_is_kind : Cal P w K mg base k "is_kind" 1 S_is_kind) (F : FnP K "check_kind" s_check_kind f fd) : FnOk P w K mg base (L2.CX P w) (k + 1) f fd ["kind"] (spS K mg 1 S_check_kind) := fn_ok F sc_check_kind fun cdv A outer s H E ws Q Y hr hS hl => by
  obtain ⟨rfl, hQ⟩ := hS
  refine wb_one (ws_if ?_)
  refine wt_not ?_
  refine wt_val ?_
  refine we_call C_is_kind hr (Nat.le_refl _) rfl ?_
  refine wa_cons ?_
  refine we_slot 0 rfl (.inl rfl) rfl rfl ?_
  refine ⟨rfl, ?_⟩
  refine wa_nil ?_
  refine ⟨rfl, rfl, ?_⟩
  refine ⟨rfl, ?_⟩
  refine ⟨_, rfl, ?_⟩
  refine iteF rfl ?_
  refine wb_nil ?_
  exact hQ
theorem sc_is_told : FnScope ["thing", "word", "many"] ["thing", "word", "many"] (defScope s_is_told) := ⟨rfl, rfl, rfl, by decide +kernel, rfl, by decide +kernel, by decide +kernel⟩
theorem ok_is_told (Z : Env K mg)  (F : FnP K "is_told" s_is_told f fd) : FnOk P w K mg base (L2.CX P w) (k + 1) f fd ["thing", "word", "many"] (spS K mg 3 S_is_told) := fn_ok F sc_is_told fun cdv A outer s H E ws Q Y hr hS hl => by
  obtain ⟨d, rfl, hQ⟩ := hS
  refine wb_cons (ws_if ?_)
  refine wt_of ?_
  refine ww_or ?_
  refine wt_not ?_
  refine wt_val ?_
  refine we_isTup rfl Z.isinstance rfl Z.tuple ?_
  refine we_slot 0 rfl (.inl rfl) rfl rfl ?_
  refine ⟨_, rfl, rfl, ?_⟩
  refine ⟨_, rfl, ?_⟩
  refine iteF rfl ?_
  refine ww_or1 ?_
  refine wt_neS ?_
  refine we_len rfl Z.len ?_
  refine we_slot 0 rfl (.inl rfl) rfl rfl ?_
  refine ⟨_, rfl, ?_⟩
  refine we_add ?_
  refine we_int ?_
  refine we_slot 2 rfl (.inl rfl) rfl rfl ?_
  refine ⟨_, _, rfl, rfl, ?_⟩
  refine ⟨_, _, _, _, rfl, rfl, rfl, rfl, rfl, ?_⟩
  refine iteF rfl ?_
  refine wb_nil ?_
  refine wb_one (ws_ret ?_)
  refine we_and ?_
  refine we_isStr rfl Z.isinstance rfl Z.str ?_
  refine we_ix ?_
  refine we_slot 0 rfl (.inl rfl) rfl rfl ?_
  refine we_int ?_
  refine ⟨_, _, _, rfl, rfl, rfl, ?_⟩
  refine ⟨_, rfl, rfl, ?_⟩
  refine ⟨_, rfl, ?_⟩
  refine iteT rfl ?_
  refine we_and1 ?_
  refine we_eqS ?_
  refine we_ix ?_
  refine we_slot 0 rfl (.inl rfl) rfl rfl ?_
  refine we_int ?_
  refine ⟨_, _, _, rfl, rfl, rfl, ?_⟩
  refine we_slot 1 rfl (.inl rfl) rfl rfl ?_
  refine ⟨_, _, _, _, rfl, rfl, rfl, rfl, rfl, ?_⟩
  refine ⟨_, rfl, ?_⟩
  exact hQ
theorem sc_pieces_of : FnScope ["kind", "thing", "word", "one"] ["kind", "thing"] (defScope s_pieces_of) := ⟨rfl, rfl, rfl, by decide +kernel, rfl, by decide +kernel, by decide +kernel⟩
theorem ok_pieces_of (Z : Env K mg) (C_is_integer : Cal P w K mg base k "is_integer" 1 S_is_integer) (C_is_told : Cal P w K mg base k "is_told" 3 S_is_told) (F : FnP K "pieces_of" s_pieces_of f fd) : FnOk P w K mg base (L2.CX P w) (k + 1) f fd ["kind", "thing"] (spS K mg 2 S_pieces_of) := fn_ok F sc_pieces_of fun cdv A outer s H E ws Q Y hr hS hl => by
  rcases hS with ⟨is, rfl, hz, hQ⟩ | ⟨i, rfl, hi, hQ⟩
  · -- the list
    refine wb_cons (ws_asg 2 sc_pieces_of.nd rfl (.inl rfl) ?_)
    refine we_if ?_
    refine wt_val ?_
    refine we_isStr rfl Z.isinstance rfl Z.str ?_
    refine we_slot 0 rfl (.inr (.inl rfl)) rfl rfl ?_
    refine ⟨_, rfl, rfl, ?_⟩
    refine ⟨_, rfl, ?_⟩
    refine iteF rfl ?_
    refine we_ix ?_
    refine we_slot 0 rfl (.inr (.inl rfl)) rfl rfl ?_
    refine we_int ?_
    refine ⟨_, _, _, rfl, rfl, rfl, ?_⟩
    refine ⟨_, rfl, ?_⟩
    refine wb_cons (ws_if ?_)
    refine wt_eqS ?_
    refine we_slot 2 rfl (.inl rfl) rfl rfl ?_
    refine we_gstr rfl Z.INT ?_
    refine ⟨_, _, _, _, rfl, rfl, rfl, rfl, rfl, ?_⟩
    refine iteF rfl ?_
    refine wb_nil ?_
    refine wb_cons (ws_if ?_)
    refine wt_eqS ?_
    refine we_slot 2 rfl (.inl rfl) rfl rfl ?_
    refine we_gstr rfl Z.FLAG ?_
    refine ⟨_, _, _, _, rfl, rfl, rfl, rfl, rfl, ?_⟩
    refine iteF rfl ?_
    refine wb_nil ?_
    refine wb_cons (ws_if ?_)
    refine wt_eqS ?_
    refine we_slot 2 rfl (.inl rfl) rfl rfl ?_
    refine we_gstr rfl Z.PAIR ?_
    refine ⟨_, _, _, _, rfl, rfl, rfl, rfl, rfl, ?_⟩
    refine iteF rfl ?_
    refine wb_nil ?_
    refine wb_cons (ws_if ?_)
    refine wt_eqS ?_
    refine we_slot 2 rfl (.inl rfl) rfl rfl ?_
    refine we_gstr rfl Z.EITHER ?_
    refine ⟨_, _, _, _, rfl, rfl, rfl, rfl, rfl, ?_⟩
    refine iteF rfl ?_
    refine wb_nil ?_
    refine wb_cons (ws_if ?_)
    refine wt_eqS ?_
    refine we_slot 2 rfl (.inl rfl) rfl rfl ?_
    refine we_gstr rfl Z.LIST ?_
    refine ⟨_, _, _, _, rfl, rfl, rfl, rfl, rfl, ?_⟩
    refine iteT rfl ?_
    refine wb_cons (ws_if ?_)
    refine wt_of ?_
    refine ww_or ?_
    refine wt_not ?_
    refine wt_val ?_
    refine we_call C_is_told hr (Nat.le_refl _) rfl ?_
    refine wa_cons ?_
    refine we_slot 1 rfl (.inl rfl) rfl rfl ?_
    refine ⟨rfl, ?_⟩
    refine wa_cons ?_
    refine we_gstr rfl Z.LIST ?_
    refine ⟨rfl, ?_⟩
    refine wa_cons ?_
    refine we_int ?_
    refine ⟨rfl, ?_⟩
    refine wa_nil ?_
    refine ⟨rfl, rfl, ?_⟩
    refine ⟨_, rfl, ?_⟩
    refine ⟨_, rfl, ?_⟩
    refine iteF rfl ?_
    refine ww_or1 ?_
    refine wt_not ?_
    refine wt_val ?_
    refine we_isTup rfl Z.isinstance rfl Z.tuple ?_
    refine we_ix ?_
    refine we_slot 1 rfl (.inl rfl) rfl rfl ?_
    refine we_int ?_
    refine ⟨_, _, _, rfl, rfl, rfl, ?_⟩
    refine ⟨_, rfl, rfl, ?_⟩
    refine ⟨_, rfl, ?_⟩
    refine iteF rfl ?_
    refine wb_nil ?_
    refine wb_one (ws_ret ?_)
    refine we_lc (js := [3]) (own := [("one", 3)]) rfl sc_pieces_of.nd (show BlkOk ["kind", "thing", "word", "one"] (defScope s_pieces_of) _ _ from blk_by (by decide +kernel)) (fun s H C cl fp => pg_name sc_pieces_of.nd rfl (.inl rfl)) tgt1 (by decide) (show ∀ j ∈ ([3] : List Nat), j < 4 by decide) ?_
    refine wi_tup rfl ?_ (fun _ h => pi_tup h)
    refine we_ix ?_
    refine we_slot 1 rfl (.inl rfl) rfl rfl ?_
    refine we_int ?_
    refine ⟨_, _, _, rfl, rfl, rfl, ?_⟩
    refine ⟨_, rfl, ?_⟩
    refine ⟨by simp; omega, rfl, ?_⟩
    refine lcw_map (g := fun d => .tup [.str "int", d]) (fun it _ K hk => ⟨[it], rfl, fun s H C cl fp => ?_⟩) ?_
    · refine we_tup ?_
      refine wa_cons ?_
      refine we_ix ?_
      refine we_slot 0 rfl (.inr (.inl rfl)) rfl rfl ?_
      refine we_int ?_
      refine ⟨_, _, _, rfl, rfl, rfl, ?_⟩
      refine ⟨rfl, ?_⟩
      refine wa_cons ?_
      refine we_slot 3 rfl (.inl rfl) rfl rfl ?_
      refine ⟨rfl, ?_⟩
      refine wa_nil ?_
      exact ⟨_, rfl, by simp, rfl, _, rfl, hk⟩
    · refine ⟨_, rfl, ?_⟩
      rw [List.nil_append, List.map_map]
      exact hQ
  · -- the int
    refine wb_cons (ws_asg 2 sc_pieces_of.nd rfl (.inl rfl) ?_)
    refine we_if ?_
    refine wt_val ?_
    refine we_isStr rfl Z.isinstance rfl Z.str ?_
    refine we_slot 0 rfl (.inr (.inl rfl)) rfl rfl ?_
    refine ⟨_, rfl, rfl, ?_⟩
    refine ⟨_, rfl, ?_⟩
    refine iteT rfl ?_
    refine we_slot 0 rfl (.inr (.inl rfl)) rfl rfl ?_
    refine ⟨_, rfl, ?_⟩
    refine wb_cons (ws_if ?_)
    refine wt_eqS ?_
    refine we_slot 2 rfl (.inl rfl) rfl rfl ?_
    refine we_gstr rfl Z.INT ?_
    refine ⟨_, _, _, _, rfl, rfl, rfl, rfl, rfl, ?_⟩
    refine iteT rfl ?_
    refine wb_one (ws_ret ?_)
    refine we_if ?_
    refine wt_of ?_
    refine ww_and ?_
    refine wt_val ?_
    refine we_call C_is_integer hr (Nat.le_refl _) rfl ?_
    refine wa_cons ?_
    refine we_slot 1 rfl (.inl rfl) rfl rfl ?_
    refine ⟨rfl, ?_⟩
    refine wa_nil ?_
    refine ⟨rfl, rfl, ?_⟩
    refine ⟨_, rfl, rfl, ?_⟩
    refine ⟨_, rfl, ?_⟩
    refine iteT rfl ?_
    refine ww_and1 ?_
    refine wt_cmpI op_lt (nomark _) ?_
    refine we_abs rfl Z.abs ?_
    refine we_slot 1 rfl (.inl rfl) rfl rfl ?_
    refine ⟨_, rfl, ?_⟩
    refine we_gint rfl Z.MOST_INTEGER ?_
    refine ⟨_, _, rfl, rfl, ?_⟩
    rw [if_pos (decide_eq_true (show (i.natAbs : Int) < 1000000000000000000 from hi))]
    refine we_lst ?_
    refine wa_nil ?_
    refine ⟨_, rfl, by simp, ?_⟩
    refine ⟨_, rfl, ?_⟩
    exact hQ
theorem sc_raw_is_value : FnScope ["kind", "thing", "waiting", "found"] ["kind", "thing"] (defScope s_raw_is_value) := ⟨rfl, rfl, rfl, by decide +kernel, rfl, by decide +kernel, by decide +kernel⟩
theorem ok_raw_is_value (Z : Env K mg) (C_pieces_of : Cal P w K mg base k "pieces_of" 2 S_pieces_of) (F : FnP K "raw_is_value" s_raw_is_value f fd) : FnOk P w K mg base (L2.CX P w) (k + 1) f fd ["kind", "thing"] (spS K mg 2 S_raw_is_value) := fn_ok F sc_raw_is_value fun cdv A outer s H E ws Q Y hr hS hl => by
  obtain ⟨is, rfl, hz, hs, hQ⟩ := hS
  refine wb_cons (ws_asgO 2 sc_raw_is_value.nd rfl (.inl rfl) ?_)
  refine wo_list ?_
  refine wa_cons ?_
  refine we_tup ?_
  refine wa_cons ?_
  refine we_slot 0 rfl (.inl rfl) rfl rfl ?_
  refine ⟨rfl, ?_⟩
  refine wa_cons ?_
  refine we_slot 1 rfl (.inl rfl) rfl rfl ?_
  refine ⟨rfl, ?_⟩
  refine wa_nil ?_
  refine ⟨_, rfl, by simp, rfl, ?_⟩
  refine wa_nil ?_
  refine ⟨_, rfl, by simp, ?_⟩
  refine wb_cons (ws_while (fun m ρ => (m = 2000 ∧ ρ = [some (.val KL), some (.val (vl is)), some (.own [.tup [KL, vl is]]), none]) ∨ (∃ js : List Int, m = js.length ∧ js.length ≤ 1000 ∧ (∀ i ∈ js, small i) ∧ ∃ d, ρ = [some (.val KL), some (.val (vl is)), some (.own (js.map fun i => .tup [.str "int", .int i])), some (.val d)])) 2000 (.inl ⟨rfl, rfl⟩) ?_)
  rintro m ρ1 (⟨rfl, rfl⟩ | ⟨js, rfl, hjz, hjs, d, rfl⟩)
  · -- the list
    refine wt_cmpI op_gt (nomark _) ?_
    refine we_len rfl Z.len ?_
    refine we_slot 2 rfl (.inl rfl) rfl rfl ?_
    refine ⟨_, rfl, ?_⟩
    refine we_int ?_
    refine ⟨_, _, rfl, rfl, ?_⟩
    refine iteT rfl ?_
    refine wb_cons (ws_asg 3 sc_raw_is_value.nd rfl (.inl rfl) ?_)
    refine we_call C_pieces_of hr (Nat.le_refl _) rfl ?_
    refine wa_cons ?_
    refine we_ix ?_
    refine we_ix ?_
    refine we_slot 2 rfl (.inl rfl) rfl rfl ?_
    refine we_neg ?_
    refine we_int ?_
    refine ⟨_, rfl, ?_⟩
    refine ⟨_, _, _, rfl, rfl, rfl, ?_⟩
    refine we_int ?_
    refine ⟨_, _, _, rfl, rfl, rfl, ?_⟩
    refine ⟨rfl, ?_⟩
    refine wa_cons ?_
    refine we_ix ?_
    refine we_ix ?_
    refine we_slot 2 rfl (.inl rfl) rfl rfl ?_
    refine we_neg ?_
    refine we_int ?_
    refine ⟨_, rfl, ?_⟩
    refine ⟨_, _, _, rfl, rfl, rfl, ?_⟩
    refine we_int ?_
    refine ⟨_, _, _, rfl, rfl, rfl, ?_⟩
    refine ⟨rfl, ?_⟩
    refine wa_nil ?_
    refine ⟨rfl, rfl, ?_⟩
    refine .inl ⟨is, rfl, hz, ?_⟩
    refine ⟨_, rfl, ?_⟩
    refine wb_cons (ws_if ?_)
    refine wt_isN ?_
    refine we_slot 3 rfl (.inl rfl) rfl rfl ?_
    refine ⟨_, rfl, ?_⟩
    refine iteF rfl ?_
    refine wb_nil ?_
    refine wb_cons (ws_expr ?_)
    refine we_pop ?_
    refine we_slot 2 rfl (.inl rfl) rfl rfl ?_
    refine ⟨2, [], _, rfl, rfl, ?_⟩
    refine wb_one (ws_expr ?_)
    refine we_extend ?_
    refine we_slot 2 rfl (.inl rfl) rfl rfl ?_
    refine ⟨_, _, rfl, rfl, ?_⟩
    refine we_slot 3 rfl (.inl rfl) rfl rfl ?_
    refine ⟨_, _, rfl, rfl, by simp; omega, ?_⟩
    exact ⟨is.length, by omega, .inr ⟨is, rfl, hz, hs, _, rfl⟩⟩
  · -- the ints
    refine wt_cmpI op_gt (nomark _) ?_
    refine we_len rfl Z.len ?_
    refine we_slot 2 rfl (.inl rfl) rfl rfl ?_
    refine ⟨_, rfl, ?_⟩
    refine we_int ?_
    refine ⟨_, _, rfl, rfl, ?_⟩
    rcases List.eq_nil_or_concat js with rfl | ⟨ks, i, rfl⟩
    · refine iteF rfl ?_
      refine wb_one (ws_ret ?_)
      refine we_bl ?_
      exact ⟨_, rfl, hQ⟩
    have hlast : atI ((ks.concat i).map fun i => D.tup [.str "int", .int i]) (-1) = some (.tup [.str "int", .int i]) := by
      rw [List.concat_eq_append, List.map_append]
      exact at_last _ _
    have hi : small i := hjs i (by simp)
    refine iteT (by simp) ?_
    refine wb_cons (ws_asg 3 sc_raw_is_value.nd rfl (.inl rfl) ?_)
    refine we_call C_pieces_of hr (Nat.le_refl _) rfl ?_
    refine wa_cons ?_
    refine we_ix ?_
    refine we_ix ?_
    refine we_slot 2 rfl (.inl rfl) rfl rfl ?_
    refine we_neg ?_
    refine we_int ?_
    refine ⟨_, rfl, ?_⟩
    refine ⟨_, _, _, rfl, rfl, hlast, ?_⟩
    refine we_int ?_
    refine ⟨_, _, _, rfl, rfl, rfl, ?_⟩
    refine ⟨rfl, ?_⟩
    refine wa_cons ?_
    refine we_ix ?_
    refine we_ix ?_
    refine we_slot 2 rfl (.inl rfl) rfl rfl ?_
    refine we_neg ?_
    refine we_int ?_
    refine ⟨_, rfl, ?_⟩
    refine ⟨_, _, _, rfl, rfl, hlast, ?_⟩
    refine we_int ?_
    refine ⟨_, _, _, rfl, rfl, rfl, ?_⟩
    refine ⟨rfl, ?_⟩
    refine wa_nil ?_
    refine ⟨rfl, rfl, ?_⟩
    refine .inr ⟨i, rfl, hi, ?_⟩
    refine ⟨_, rfl, ?_⟩
    refine wb_cons (ws_if ?_)
    refine wt_isN ?_
    refine we_slot 3 rfl (.inl rfl) rfl rfl ?_
    refine ⟨_, rfl, ?_⟩
    refine iteF rfl ?_
    refine wb_nil ?_
    refine wb_cons (ws_expr ?_)
    refine we_pop ?_
    refine we_slot 2 rfl (.inl rfl) rfl rfl ?_
    refine ⟨2, ks.map (fun i => D.tup [.str "int", .int i]), _, rfl, by rw [List.concat_eq_append, List.map_append]; rfl, ?_⟩
    refine wb_one (ws_expr ?_)
    refine we_extend ?_
    refine we_slot 2 rfl (.inl rfl) rfl rfl ?_
    refine ⟨_, _, rfl, rfl, ?_⟩
    refine we_slot 3 rfl (.inl rfl) rfl rfl ?_
    refine ⟨_, _, rfl, rfl, by simp at hjz ⊢; omega, ?_⟩
    refine ⟨ks.length, by simp, .inr ⟨ks, rfl, by simp at hjz; omega, fun j hj => hjs j (by simp [hj]), .lst [], ?_⟩⟩
    rw [List.append_nil]
    rfl
end
end K02

namespace K02
open PySem PySem.Spec PyProof.Rows L2 PL
variable [Hand]
def RV (a b : Int) : D := .tup [fr a b, .tup []]
def S_rir0 : Sem1 := fun ws P Y => ws = [.val (.str "int"), .val (.tup [])] ∧ P (.bl true)
def S_raw_is_rich : Sem1 := fun ws P Y => ∃ a b, ws = [.val KL, .val (RV a b)] ∧ isAm (fr a b) = true ∧ P (.bl true)
def S_check_rich : Sem1 := fun ws P Y => ∃ a b, ws = [.val KL, .val (RV a b)] ∧ isAm (fr a b) = true ∧ P .non
def trip (i : Int) : D := .tup [.str "int", .tup [], .int i]
def S_riches_within : Sem1 := fun ws P Y => (∃ a b, ∃ is : List Int, ws = [.val KL, .val (RV a b), .val (vl is)] ∧ is.length ≤ 1000 ∧ P (.tup [.lst (List.replicate is.length (fr a b)), .lst (is.map trip)])) ∨ (∃ i : Int, ws = [.val (.str "int"), .val (.tup []), .val (.int i)] ∧ P (.tup [.lst [], .lst []]))
def S_ra0 : Sem1 := fun ws P Y => ws = [.val (.str "int"), .val (.tup [])] ∧ P (.lst [])
def S_raw_amounts : Sem1 := fun ws P Y => ∃ a b, ws = [.val KL, .val (RV a b)] ∧ P (.lst [fr a b])
def S_rr0 : Sem1 := fun ws P Y => ws = [.val (.str "int"), .val (.lst [])] ∧ P (.tup [])
def S_raw_rich : Sem1 := fun ws P Y => ∃ x, ws = [.val KL, .val (.lst [x])] ∧ P (.tup [x, .tup []])
def S_raw_covers : Sem1 := fun ws P Y => ∃ a b c d, ws = [.val KL, .val (RV a b), .val (RV c d)] ∧ Bd 2000 a ∧ Bd 2000 b ∧ Bd 2000 c ∧ Bd 2000 d ∧ P (.bl (decide (c * b ≤ a * d)))
def S_check_both : Sem1 := fun ws P Y => ∃ a b c d, ws = [.val KL, .val (RV a b), .val (RV c d)] ∧ isAm (fr a b) = true ∧ isAm (fr c d) = true ∧ P .non
def S_covers : Sem1 := fun ws P Y => ∃ a b c d, ws = [.val KL, .val (RV a b), .val (RV c d)] ∧ isAm (fr a b) = true ∧ isAm (fr c d) = true ∧ Bd 2000 a ∧ Bd 2000 b ∧ Bd 2000 c ∧ Bd 2000 d ∧ P (.bl (decide (c * b ≤ a * d)))
def S_rich_plus : Sem1 := fun ws P Y => ∃ a b c d, ws = [.val KL, .val (RV a b), .val (RV c d)] ∧ isAm (fr a b) = true ∧ isAm (fr c d) = true ∧ Bd 2000 a ∧ Bd 2000 b ∧ Bd 2000 c ∧ Bd 2000 d ∧ P (.tup [opPlus a b c d, .tup []])
def S_rich_scaled : Sem1 := fun ws P Y => ∃ a b c d, ws = [.val KL, .val (RV a b), .val (fr c d)] ∧ isAm (fr a b) = true ∧ isAm (fr c d) = true ∧ Bd 2000 a ∧ Bd 2000 b ∧ Bd 2000 c ∧ Bd 2000 d ∧ P (.tup [opTimes a b c d, .tup []])
theorem isAm_pos {a b : Int} (h : isAm (fr a b) = true) : 0 < b := by
  have h : ((decide (b > 0) && decide (gcdI a b = 1)) && decide (a ≥ 0)) = true := h
  simp only [Bool.and_eq_true, decide_eq_true_eq] at h
  exact h.1.1
section
variable {P : Program} {w : World} {K : PySem.W.Frag} {mg : Str → Option Value} {base : Heap} {f : Addr} {fd : FuncData} {k : Nat}
theorem sc_raw_is_rich : FnScope ["kind", "thing"] ["kind", "thing"] (defScope s_raw_is_rich) := ⟨rfl, rfl, rfl, by decide +kernel, rfl, by decide +kernel, by decide +kernel⟩
theorem ok_rir0 (Z : Env K mg)  (F : FnP K "raw_is_rich" s_raw_is_rich f fd) : FnOk P w K mg base (L2.CX P w) (k + 1) f fd ["kind", "thing"] (spS K mg 2 S_rir0) := fn_ok F sc_raw_is_rich fun cdv A outer s H E ws Q Y hr hS hl => by
  obtain ⟨rfl, hQ⟩ := hS
  refine wb_cons (ws_if ?_)
  refine wt_not ?_
  refine wt_val ?_
  refine we_isTup rfl Z.isinstance rfl Z.tuple ?_
  refine we_slot 1 rfl (.inl rfl) rfl rfl ?_
  refine ⟨_, rfl, rfl, ?_⟩
  refine ⟨_, rfl, ?_⟩
  refine iteF rfl ?_
  refine wb_nil ?_
  refine wb_cons (ws_if ?_)
  refine wt_val ?_
  refine we_isStr rfl Z.isinstance rfl Z.str ?_
  refine we_slot 0 rfl (.inl rfl) rfl rfl ?_
  refine ⟨_, rfl, rfl, ?_⟩
  refine ⟨_, rfl, ?_⟩
  refine iteT rfl ?_
  refine wb_one (ws_ret ?_)
  refine we_eqS ?_
  refine we_len rfl Z.len ?_
  refine we_slot 1 rfl (.inl rfl) rfl rfl ?_
  refine ⟨_, rfl, ?_⟩
  refine we_int ?_
  refine ⟨_, _, _, _, rfl, rfl, rfl, rfl, rfl, ?_⟩
  refine ⟨_, rfl, ?_⟩
  exact hQ
theorem ok_raw_is_rich (Z : Env K mg) (C_is_amount : Cal P w K mg base k "is_amount" 1 S_is_amount) (C_raw_is_rich : Cal P w K mg base k "raw_is_rich" 2 S_rir0) (F : FnP K "raw_is_rich" s_raw_is_rich f fd) : FnOk P w K mg base (L2.CX P w) (k + 1) f fd ["kind", "thing"] (spS K mg 2 S_raw_is_rich) := fn_ok F sc_raw_is_rich fun cdv A outer s H E ws Q Y hr hS hl => by
  obtain ⟨a, b, rfl, hA, hQ⟩ := hS
  refine wb_cons (ws_if ?_)
  refine wt_not ?_
  refine wt_val ?_
  refine we_isTup rfl Z.isinstance rfl Z.tuple ?_
  refine we_slot 1 rfl (.inl rfl) rfl rfl ?_
  refine ⟨_, rfl, rfl, ?_⟩
  refine ⟨_, rfl, ?_⟩
  refine iteF rfl ?_
  refine wb_nil ?_
  refine wb_cons (ws_if ?_)
  refine wt_val ?_
  refine we_isStr rfl Z.isinstance rfl Z.str ?_
  refine we_slot 0 rfl (.inl rfl) rfl rfl ?_
  refine ⟨_, rfl, rfl, ?_⟩
  refine ⟨_, rfl, ?_⟩
  refine iteF rfl ?_
  refine wb_nil ?_
  refine wb_cons (ws_if ?_)
  refine wt_eqS ?_
  refine we_ix ?_
  refine we_slot 0 rfl (.inl rfl) rfl rfl ?_
  refine we_int ?_
  refine ⟨_, _, _, rfl, rfl, rfl, ?_⟩
  refine we_gstr rfl Z.PAIR ?_
  refine ⟨_, _, _, _, rfl, rfl, rfl, rfl, rfl, ?_⟩
  refine iteF rfl ?_
  refine wb_nil ?_
  refine wb_cons (ws_if ?_)
  refine wt_eqS ?_
  refine we_ix ?_
  refine we_slot 0 rfl (.inl rfl) rfl rfl ?_
  refine we_int ?_
  refine ⟨_, _, _, rfl, rfl, rfl, ?_⟩
  refine we_gstr rfl Z.EITHER ?_
  refine ⟨_, _, _, _, rfl, rfl, rfl, rfl, rfl, ?_⟩
  refine iteF rfl ?_
  refine wb_nil ?_
  refine wb_one (ws_ret ?_)
  refine we_and ?_
  refine we_eqS ?_
  refine we_len rfl Z.len ?_
  refine we_slot 1 rfl (.inl rfl) rfl rfl ?_
  refine ⟨_, rfl, ?_⟩
  refine we_int ?_
  refine ⟨_, _, _, _, rfl, rfl, rfl, rfl, rfl, ?_⟩
  refine ⟨_, rfl, ?_⟩
  refine iteT rfl ?_
  refine we_and ?_
  refine we_call C_is_amount hr (Nat.le_refl _) rfl ?_
  refine wa_cons ?_
  refine we_ix ?_
  refine we_slot 1 rfl (.inl rfl) rfl rfl ?_
  refine we_int ?_
  refine ⟨_, _, _, rfl, rfl, rfl, ?_⟩
  refine ⟨rfl, ?_⟩
  refine wa_nil ?_
  refine ⟨rfl, rfl, ?_⟩
  refine ⟨fr a b, rfl, rfl, ?_⟩
  refine ⟨_, rfl, ?_⟩
  rw [hA]; refine iteT rfl ?_
  refine we_and1 ?_
  refine we_call C_raw_is_rich hr (Nat.le_refl _) rfl ?_
  refine wa_cons ?_
  refine we_ix ?_
  refine we_slot 0 rfl (.inl rfl) rfl rfl ?_
  refine we_int ?_
  refine ⟨_, _, _, rfl, rfl, rfl, ?_⟩
  refine ⟨rfl, ?_⟩
  refine wa_cons ?_
  refine we_ix ?_
  refine we_slot 1 rfl (.inl rfl) rfl rfl ?_
  refine we_int ?_
  refine ⟨_, _, _, rfl, rfl, rfl, ?_⟩
  refine ⟨rfl, ?_⟩
  refine wa_nil ?_
  refine ⟨rfl, rfl, ?_⟩
  refine ⟨rfl, ?_⟩
  refine ⟨_, rfl, ?_⟩
  exact hQ
theorem sc_check_rich : FnScope ["kind", "thing"] ["kind", "thing"] (defScope s_check_rich) := ⟨rfl, rfl, rfl, by decide +kernel, rfl, by decide +kernel, by decide +kernel⟩
theorem ok_check_rich (Z : Env K mg) (C_raw_is_rich : Cal P w K mg base k "raw_is_rich" 2 S_raw_is_rich) (F : FnP K "check_rich" s_check_rich f fd) : FnOk P w K mg base (L2.CX P w) (k + 1) f fd ["kind", "thing"] (spS K mg 2 S_check_rich) := fn_ok F sc_check_rich fun cdv A outer s H E ws Q Y hr hS hl => by
  obtain ⟨a, b, rfl, hA, hQ⟩ := hS
  refine wb_one (ws_if ?_)
  refine wt_not ?_
  refine wt_val ?_
  refine we_call C_raw_is_rich hr (Nat.le_refl _) rfl ?_
  refine wa_cons ?_
  refine we_slot 0 rfl (.inl rfl) rfl rfl ?_
  refine ⟨rfl, ?_⟩
  refine wa_cons ?_
  refine we_slot 1 rfl (.inl rfl) rfl rfl ?_
  refine ⟨rfl, ?_⟩
  refine wa_nil ?_
  refine ⟨rfl, rfl, ?_⟩
  refine ⟨a, b, rfl, hA, ?_⟩
  refine ⟨_, rfl, ?_⟩
  refine iteF rfl ?_
  refine wb_nil ?_
  exact hQ
theorem flat_rep {α : Type} (x : α) : ∀ n : Nat, (List.replicate n [x]).flatten = List.replicate n x
  | 0 => rfl
  | n + 1 => by
    rw [List.replicate_succ, List.flatten_cons, flat_rep x n, List.replicate_succ]
    rfl
theorem sc_riches_within : FnScope ["kind", "rich", "value", "one"] ["kind", "rich", "value"] (defScope s_riches_within) := ⟨rfl, rfl, rfl, by decide +kernel, rfl, by decide +kernel, by decide +kernel⟩
theorem ok_riches_within (Z : Env K mg)  (F : FnP K "riches_within" s_riches_within f fd) : FnOk P w K mg base (L2.CX P w) (k + 1) f fd ["kind", "rich", "value"] (spS K mg 3 S_riches_within) := fn_ok F sc_riches_within fun cdv A outer s H E ws Q Y hr hS hl => by
  rcases hS with ⟨a, b, is, rfl, hz, hQ⟩ | ⟨i, rfl, hQ⟩
  · -- the list
    refine wb_cons (ws_if ?_)
    refine wt_val ?_
    refine we_isStr rfl Z.isinstance rfl Z.str ?_
    refine we_slot 0 rfl (.inr (.inl rfl)) rfl rfl ?_
    refine ⟨_, rfl, rfl, ?_⟩
    refine ⟨_, rfl, ?_⟩
    refine iteF rfl ?_
    refine wb_nil ?_
    refine wb_cons (ws_if ?_)
    refine wt_eqS ?_
    refine we_ix ?_
    refine we_slot 0 rfl (.inr (.inl rfl)) rfl rfl ?_
    refine we_int ?_
    refine ⟨_, _, _, rfl, rfl, rfl, ?_⟩
    refine we_gstr rfl Z.PAIR ?_
    refine ⟨_, _, _, _, rfl, rfl, rfl, rfl, rfl, ?_⟩
    refine iteF rfl ?_
    refine wb_nil ?_
    refine wb_cons (ws_if ?_)
    refine wt_eqS ?_
    refine we_ix ?_
    refine we_slot 0 rfl (.inr (.inl rfl)) rfl rfl ?_
    refine we_int ?_
    refine ⟨_, _, _, rfl, rfl, rfl, ?_⟩
    refine we_gstr rfl Z.EITHER ?_
    refine ⟨_, _, _, _, rfl, rfl, rfl, rfl, rfl, ?_⟩
    refine iteF rfl ?_
    refine wb_nil ?_
    refine wb_cons (ws_if ?_)
    refine wt_eqS ?_
    refine we_ix ?_
    refine we_slot 0 rfl (.inr (.inl rfl)) rfl rfl ?_
    refine we_int ?_
    refine ⟨_, _, _, rfl, rfl, rfl, ?_⟩
    refine we_gstr rfl Z.LIST ?_
    refine ⟨_, _, _, _, rfl, rfl, rfl, rfl, rfl, ?_⟩
    refine iteT rfl ?_
    refine wb_one (ws_ret ?_)
    refine we_tup ?_
    refine wa_cons ?_
    refine we_rep ?_
    refine we_lst ?_
    refine wa_cons ?_
    refine we_ix ?_
    refine we_slot 1 rfl (.inr (.inl rfl)) rfl rfl ?_
    refine we_int ?_
    refine ⟨_, _, _, rfl, rfl, rfl, ?_⟩
    refine ⟨rfl, ?_⟩
    refine wa_nil ?_
    refine ⟨_, rfl, by simp, ?_⟩
    refine we_len rfl Z.len ?_
    refine we_ix ?_
    refine we_slot 2 rfl (.inl rfl) rfl rfl ?_
    refine we_int ?_
    refine ⟨_, _, _, rfl, rfl, rfl, ?_⟩
    refine ⟨_, rfl, ?_⟩
    refine ⟨_, _, rfl, rfl, by omega, by simp; omega, by simp; omega, ?_⟩
    refine ⟨rfl, ?_⟩
    refine wa_cons ?_
    refine we_lc (js := [3]) (own := [("one", 3)]) rfl sc_riches_within.nd (show BlkOk ["kind", "rich", "value", "one"] (defScope s_riches_within) _ _ from blk_by (by decide +kernel)) (fun s H C cl fp => pg_name sc_riches_within.nd rfl (.inl rfl)) tgt1 (by decide) (show ∀ j ∈ ([3] : List Nat), j < 4 by decide) ?_
    refine wi_tup rfl ?_ (fun _ h => pi_tup h)
    refine we_ix ?_
    refine we_slot 2 rfl (.inl rfl) rfl rfl ?_
    refine we_int ?_
    refine ⟨_, _, _, rfl, rfl, rfl, ?_⟩
    refine ⟨_, rfl, ?_⟩
    refine ⟨by simp; omega, rfl, ?_⟩
    refine lcw_map (g := fun d => .tup [.str "int", .tup [], d]) (fun it _ K hk => ⟨[it], rfl, fun s H C cl fp => ?_⟩) ?_
    · refine we_tup ?_
      refine wa_cons ?_
      refine we_ix ?_
      refine we_slot 0 rfl (.inr (.inl rfl)) rfl rfl ?_
      refine we_int ?_
      refine ⟨_, _, _, rfl, rfl, rfl, ?_⟩
      refine ⟨rfl, ?_⟩
      refine wa_cons ?_
      refine we_ix ?_
      refine we_slot 1 rfl (.inr (.inl rfl)) rfl rfl ?_
      refine we_int ?_
      refine ⟨_, _, _, rfl, rfl, rfl, ?_⟩
      refine ⟨rfl, ?_⟩
      refine wa_cons ?_
      refine we_slot 3 rfl (.inl rfl) rfl rfl ?_
      refine ⟨rfl, ?_⟩
      refine wa_nil ?_
      exact ⟨_, rfl, by simp, rfl, _, rfl, hk⟩
    · refine ⟨rfl, ?_⟩
      refine wa_nil ?_
      refine ⟨_, rfl, by simp, ?_⟩
      refine ⟨_, rfl, ?_⟩
      rw [List.nil_append, List.map_map, flat_rep]
      have e : (((is.map D.int).length : Int)).toNat = is.length := by simp
      rw [e]
      exact hQ
  · -- the int
    refine wb_cons (ws_if ?_)
    refine wt_val ?_
    refine we_isStr rfl Z.isinstance rfl Z.str ?_
    refine we_slot 0 rfl (.inr (.inl rfl)) rfl rfl ?_
    refine ⟨_, rfl, rfl, ?_⟩
    refine ⟨_, rfl, ?_⟩
    refine iteT rfl ?_
    refine wb_one (ws_ret ?_)
    refine we_tup ?_
    refine wa_cons ?_
    refine we_lst ?_
    refine wa_nil ?_
    refine ⟨_, rfl, by simp, ?_⟩
    refine ⟨rfl, ?_⟩
    refine wa_cons ?_
    refine we_lst ?_
    refine wa_nil ?_
    refine ⟨_, rfl, by simp, ?_⟩
    refine ⟨rfl, ?_⟩
    refine wa_nil ?_
    refine ⟨_, rfl, by simp, ?_⟩
    refine ⟨_, rfl, ?_⟩
    exact hQ
theorem sc_raw_amounts : FnScope ["kind", "rich"] ["kind", "rich"] (defScope s_raw_amounts) := ⟨rfl, rfl, rfl, by decide +kernel, rfl, by decide +kernel, by decide +kernel⟩
theorem ok_ra0 (Z : Env K mg)  (F : FnP K "raw_amounts" s_raw_amounts f fd) : FnOk P w K mg base (L2.CX P w) (k + 1) f fd ["kind", "rich"] (spS K mg 2 S_ra0) := fn_ok F sc_raw_amounts fun cdv A outer s H E ws Q Y hr hS hl => by
  obtain ⟨rfl, hQ⟩ := hS
  refine wb_cons (ws_if ?_)
  refine wt_val ?_
  refine we_isStr rfl Z.isinstance rfl Z.str ?_
  refine we_slot 0 rfl (.inl rfl) rfl rfl ?_
  refine ⟨_, rfl, rfl, ?_⟩
  refine ⟨_, rfl, ?_⟩
  refine iteT rfl ?_
  refine wb_one (ws_ret ?_)
  refine we_lst ?_
  refine wa_nil ?_
  refine ⟨_, rfl, by simp, ?_⟩
  refine ⟨_, rfl, ?_⟩
  exact hQ
theorem ok_raw_amounts (Z : Env K mg) (C_raw_amounts : Cal P w K mg base k "raw_amounts" 2 S_ra0) (F : FnP K "raw_amounts" s_raw_amounts f fd) : FnOk P w K mg base (L2.CX P w) (k + 1) f fd ["kind", "rich"] (spS K mg 2 S_raw_amounts) := fn_ok F sc_raw_amounts fun cdv A outer s H E ws Q Y hr hS hl => by
  obtain ⟨a, b, rfl, hQ⟩ := hS
  refine wb_cons (ws_if ?_)
  refine wt_val ?_
  refine we_isStr rfl Z.isinstance rfl Z.str ?_
  refine we_slot 0 rfl (.inl rfl) rfl rfl ?_
  refine ⟨_, rfl, rfl, ?_⟩
  refine ⟨_, rfl, ?_⟩
  refine iteF rfl ?_
  refine wb_nil ?_
  refine wb_cons (ws_if ?_)
  refine wt_eqS ?_
  refine we_ix ?_
  refine we_slot 0 rfl (.inl rfl) rfl rfl ?_
  refine we_int ?_
  refine ⟨_, _, _, rfl, rfl, rfl, ?_⟩
  refine we_gstr rfl Z.PAIR ?_
  refine ⟨_, _, _, _, rfl, rfl, rfl, rfl, rfl, ?_⟩
  refine iteF rfl ?_
  refine wb_nil ?_
  refine wb_cons (ws_if ?_)
  refine wt_eqS ?_
  refine we_ix ?_
  refine we_slot 0 rfl (.inl rfl) rfl rfl ?_
  refine we_int ?_
  refine ⟨_, _, _, rfl, rfl, rfl, ?_⟩
  refine we_gstr rfl Z.EITHER ?_
  refine ⟨_, _, _, _, rfl, rfl, rfl, rfl, rfl, ?_⟩
  refine iteF rfl ?_
  refine wb_nil ?_
  refine wb_one (ws_ret ?_)
  refine we_cat ?_
  refine we_lst ?_
  refine wa_cons ?_
  refine we_ix ?_
  refine we_slot 1 rfl (.inl rfl) rfl rfl ?_
  refine we_int ?_
  refine ⟨_, _, _, rfl, rfl, rfl, ?_⟩
  refine ⟨rfl, ?_⟩
  refine wa_nil ?_
  refine ⟨_, rfl, by simp, ?_⟩
  refine we_call C_raw_amounts hr (Nat.le_refl _) rfl ?_
  refine wa_cons ?_
  refine we_ix ?_
  refine we_slot 0 rfl (.inl rfl) rfl rfl ?_
  refine we_int ?_
  refine ⟨_, _, _, rfl, rfl, rfl, ?_⟩
  refine ⟨rfl, ?_⟩
  refine wa_cons ?_
  refine we_ix ?_
  refine we_slot 1 rfl (.inl rfl) rfl rfl ?_
  refine we_int ?_
  refine ⟨_, _, _, rfl, rfl, rfl, ?_⟩
  refine ⟨rfl, ?_⟩
  refine wa_nil ?_
  refine ⟨rfl, rfl, ?_⟩
  refine ⟨rfl, ?_⟩
  refine ⟨_, _, rfl, rfl, by simp, ?_⟩
  refine ⟨_, rfl, ?_⟩
  exact hQ
theorem sc_raw_rich : FnScope ["kind", "amounts", "first", "one", "other"] ["kind", "amounts"] (defScope s_raw_rich) := ⟨rfl, rfl, rfl, by decide +kernel, rfl, by decide +kernel, by decide +kernel⟩
theorem ok_rr0 (Z : Env K mg)  (F : FnP K "raw_rich" s_raw_rich f fd) : FnOk P w K mg base (L2.CX P w) (k + 1) f fd ["kind", "amounts"] (spS K mg 2 S_rr0) := fn_ok F sc_raw_rich fun cdv A outer s H E ws Q Y hr hS hl => by
  obtain ⟨rfl, hQ⟩ := hS
  refine wb_cons (ws_if ?_)
  refine wt_val ?_
  refine we_isStr rfl Z.isinstance rfl Z.str ?_
  refine we_slot 0 rfl (.inl rfl) rfl rfl ?_
  refine ⟨_, rfl, rfl, ?_⟩
  refine ⟨_, rfl, ?_⟩
  refine iteT rfl ?_
  refine wb_one (ws_ret ?_)
  refine we_tup ?_
  refine wa_nil ?_
  refine ⟨_, rfl, by simp, ?_⟩
  refine ⟨_, rfl, ?_⟩
  exact hQ
theorem ok_raw_rich (Z : Env K mg) (C_raw_rich : Cal P w K mg base k "raw_rich" 2 S_rr0) (F : FnP K "raw_rich" s_raw_rich f fd) : FnOk P w K mg base (L2.CX P w) (k + 1) f fd ["kind", "amounts"] (spS K mg 2 S_raw_rich) := fn_ok F sc_raw_rich fun cdv A outer s H E ws Q Y hr hS hl => by
  obtain ⟨x, rfl, hQ⟩ := hS
  refine wb_cons (ws_if ?_)
  refine wt_val ?_
  refine we_isStr rfl Z.isinstance rfl Z.str ?_
  refine we_slot 0 rfl (.inl rfl) rfl rfl ?_
  refine ⟨_, rfl, rfl, ?_⟩
  refine ⟨_, rfl, ?_⟩
  refine iteF rfl ?_
  refine wb_nil ?_
  refine wb_cons (ws_if ?_)
  refine wt_eqS ?_
  refine we_ix ?_
  refine we_slot 0 rfl (.inl rfl) rfl rfl ?_
  refine we_int ?_
  refine ⟨_, _, _, rfl, rfl, rfl, ?_⟩
  refine we_gstr rfl Z.PAIR ?_
  refine ⟨_, _, _, _, rfl, rfl, rfl, rfl, rfl, ?_⟩
  refine iteF rfl ?_
  refine wb_nil ?_
  refine wb_cons (ws_if ?_)
  refine wt_eqS ?_
  refine we_ix ?_
  refine we_slot 0 rfl (.inl rfl) rfl rfl ?_
  refine we_int ?_
  refine ⟨_, _, _, rfl, rfl, rfl, ?_⟩
  refine we_gstr rfl Z.EITHER ?_
  refine ⟨_, _, _, _, rfl, rfl, rfl, rfl, rfl, ?_⟩
  refine iteF rfl ?_
  refine wb_nil ?_
  refine wb_one (ws_ret ?_)
  refine we_tup ?_
  refine wa_cons ?_
  refine we_ix ?_
  refine we_slot 1 rfl (.inl rfl) rfl rfl ?_
  refine we_int ?_
  refine ⟨_, _, _, rfl, rfl, rfl, ?_⟩
  refine ⟨rfl, ?_⟩
  refine wa_cons ?_
  refine we_call C_raw_rich hr (Nat.le_refl _) rfl ?_
  refine wa_cons ?_
  refine we_ix ?_
  refine we_slot 0 rfl (.inl rfl) rfl rfl ?_
  refine we_int ?_
  refine ⟨_, _, _, rfl, rfl, rfl, ?_⟩
  refine ⟨rfl, ?_⟩
  refine wa_cons ?_
  refine we_slL ?_
  refine we_slot 1 rfl (.inl rfl) rfl rfl ?_
  refine we_int ?_
  refine ⟨_, rfl, ?_⟩
  refine ⟨_, .inl rfl, ?_⟩
  refine ⟨rfl, ?_⟩
  refine wa_nil ?_
  refine ⟨rfl, rfl, ?_⟩
  refine ⟨rfl, ?_⟩
  refine ⟨rfl, ?_⟩
  refine wa_nil ?_
  refine ⟨_, rfl, by simp, ?_⟩
  refine ⟨_, rfl, ?_⟩
  exact hQ
theorem sc_check_both : FnScope ["kind", "one", "other"] ["kind", "one", "other"] (defScope s_check_both) := ⟨rfl, rfl, rfl, by decide +kernel, rfl, by decide +kernel, by decide +kernel⟩
theorem ok_check_both (Z : Env K mg) (C_check_kind : Cal P w K mg base k "check_kind" 1 S_check_kind) (C_check_rich : Cal P w K mg base k "check_rich" 2 S_check_rich) (F : FnP K "check_both" s_check_both f fd) : FnOk P w K mg base (L2.CX P w) (k + 1) f fd ["kind", "one", "other"] (spS K mg 3 S_check_both) := fn_ok F sc_check_both fun cdv A outer s H E ws Q Y hr hS hl => by
  obtain ⟨a, b, c, d, rfl, h1, h2, hQ⟩ := hS
  refine wb_cons (ws_expr ?_)
  refine we_call C_check_kind hr (Nat.le_refl _) rfl ?_
  refine wa_cons ?_
  refine we_slot 0 rfl (.inl rfl) rfl rfl ?_
  refine ⟨rfl, ?_⟩
  refine wa_nil ?_
  refine ⟨rfl, rfl, ?_⟩
  refine ⟨rfl, ?_⟩
  refine wb_cons (ws_expr ?_)
  refine we_call C_check_rich hr (Nat.le_refl _) rfl ?_
  refine wa_cons ?_
  refine we_slot 0 rfl (.inl rfl) rfl rfl ?_
  refine ⟨rfl, ?_⟩
  refine wa_cons ?_
  refine we_slot 1 rfl (.inl rfl) rfl rfl ?_
  refine ⟨rfl, ?_⟩
  refine wa_nil ?_
  refine ⟨rfl, rfl, ?_⟩
  refine ⟨a, b, rfl, h1, ?_⟩
  refine wb_one (ws_expr ?_)
  refine we_call C_check_rich hr (Nat.le_refl _) rfl ?_
  refine wa_cons ?_
  refine we_slot 0 rfl (.inl rfl) rfl rfl ?_
  refine ⟨rfl, ?_⟩
  refine wa_cons ?_
  refine we_slot 2 rfl (.inl rfl) rfl rfl ?_
  refine ⟨rfl, ?_⟩
  refine wa_nil ?_
  refine ⟨rfl, rfl, ?_⟩
  refine ⟨c, d, rfl, h2, ?_⟩
  exact hQ
theorem sc_raw_covers : FnScope ["kind", "one", "other", "pairs", "mine", "its"] ["kind", "one", "other"] (defScope s_raw_covers) := ⟨rfl, rfl, rfl, by decide +kernel, rfl, by decide +kernel, by decide +kernel⟩
theorem ok_raw_covers (Z : Env K mg) (C_raw_amounts : Cal P w K mg base k "raw_amounts" 2 S_raw_amounts) (C_raw_at_most : Cal P w K mg base k "raw_at_most" 2 S_raw_at_most) (F : FnP K "raw_covers" s_raw_covers f fd) : FnOk P w K mg base (L2.CX P w) (k + 1) f fd ["kind", "one", "other"] (spS K mg 3 S_raw_covers) := fn_ok F sc_raw_covers fun cdv A outer s H E ws Q Y hr hS hl => by
  obtain ⟨a, b, c, d, rfl, ha, hb, hc, hd, hQ⟩ := hS
  refine wb_cons (ws_zip 3 rfl Z.zip sc_raw_covers.nd rfl (.inl rfl) ?_)
  refine wa_cons ?_
  refine we_call C_raw_amounts hr (Nat.le_refl _) rfl ?_
  refine wa_cons ?_
  refine we_slot 0 rfl (.inl rfl) rfl rfl ?_
  refine ⟨rfl, ?_⟩
  refine wa_cons ?_
  refine we_slot 1 rfl (.inl rfl) rfl rfl ?_
  refine ⟨rfl, ?_⟩
  refine wa_nil ?_
  refine ⟨rfl, rfl, ?_⟩
  refine ⟨a, b, rfl, ?_⟩
  refine ⟨rfl, ?_⟩
  refine wa_cons ?_
  refine we_call C_raw_amounts hr (Nat.le_refl _) rfl ?_
  refine wa_cons ?_
  refine we_slot 0 rfl (.inl rfl) rfl rfl ?_
  refine ⟨rfl, ?_⟩
  refine wa_cons ?_
  refine we_slot 2 rfl (.inl rfl) rfl rfl ?_
  refine ⟨rfl, ?_⟩
  refine wa_nil ?_
  refine ⟨rfl, rfl, ?_⟩
  refine ⟨c, d, rfl, ?_⟩
  refine ⟨rfl, ?_⟩
  refine wa_nil ?_
  refine ⟨_, _, rfl, ?_⟩
  refine wb_one (ws_ret ?_)
  refine we_all rfl rfl Z.all ?_
  refine we_lc (js := [4, 5]) (own := [("mine", 4), ("its", 5)]) rfl sc_raw_covers.nd (show BlkOk ["kind", "one", "other", "pairs", "mine", "its"] (defScope s_raw_covers) _ _ from blk_by (by decide +kernel)) (fun s H C cl fp => pg_tup rfl (pgs_cons (pg_name sc_raw_covers.nd rfl (.inl rfl)) (pgs_cons (pg_name sc_raw_covers.nd rfl (.inl rfl)) pgs_nil))) tgt2 (by decide) (show ∀ j ∈ ([4, 5] : List Nat), j < 6 by decide) ?_
  refine wi_zipN 3 rfl (.inl rfl) rfl rfl ?_
  refine ⟨by simp, rfl, ?_⟩
  refine lcw_cons rfl (fun s H C cl fp => ?_)
  refine we_call C_raw_at_most hr (Nat.le_refl _) rfl ?_
  refine wa_cons ?_
  refine we_slot 5 rfl (.inl rfl) rfl rfl ?_
  refine ⟨rfl, ?_⟩
  refine wa_cons ?_
  refine we_slot 4 rfl (.inl rfl) rfl rfl ?_
  refine ⟨rfl, ?_⟩
  refine wa_nil ?_
  refine ⟨rfl, rfl, ?_⟩
  refine ⟨_, _, _, _, rfl, hc, hd, ha, hb, trivial, rfl, _, rfl, ?_⟩
  refine ⟨_, _, rfl, rfl, ?_⟩
  refine ⟨_, rfl, ?_⟩
  show Q (.bl ([decide (c * b ≤ a * d)].all id))
  simpa using hQ
theorem sc_covers : FnScope ["kind", "one", "other"] ["kind", "one", "other"] (defScope s_covers) := ⟨rfl, rfl, rfl, by decide +kernel, rfl, by decide +kernel, by decide +kernel⟩
theorem ok_covers (Z : Env K mg) (C_check_both : Cal P w K mg base k "check_both" 3 S_check_both) (C_raw_covers : Cal P w K mg base k "raw_covers" 3 S_raw_covers) (F : FnP K "covers" s_covers f fd) : FnOk P w K mg base (L2.CX P w) (k + 1) f fd ["kind", "one", "other"] (spS K mg 3 S_covers) := fn_ok F sc_covers fun cdv A outer s H E ws Q Y hr hS hl => by
  obtain ⟨a, b, c, d, rfl, h1, h2, ha, hb, hc, hd, hQ⟩ := hS
  refine wb_cons (ws_expr ?_)
  refine we_call C_check_both hr (Nat.le_refl _) rfl ?_
  refine wa_cons ?_
  refine we_slot 0 rfl (.inl rfl) rfl rfl ?_
  refine ⟨rfl, ?_⟩
  refine wa_cons ?_
  refine we_slot 1 rfl (.inl rfl) rfl rfl ?_
  refine ⟨rfl, ?_⟩
  refine wa_cons ?_
  refine we_slot 2 rfl (.inl rfl) rfl rfl ?_
  refine ⟨rfl, ?_⟩
  refine wa_nil ?_
  refine ⟨rfl, rfl, ?_⟩
  refine ⟨a, b, c, d, rfl, h1, h2, ?_⟩
  refine wb_one (ws_ret ?_)
  refine we_call C_raw_covers hr (Nat.le_refl _) rfl ?_
  refine wa_cons ?_
  refine we_slot 0 rfl (.inl rfl) rfl rfl ?_
  refine ⟨rfl, ?_⟩
  refine wa_cons ?_
  refine we_slot 1 rfl (.inl rfl) rfl rfl ?_
  refine ⟨rfl, ?_⟩
  refine wa_cons ?_
  refine we_slot 2 rfl (.inl rfl) rfl rfl ?_
  refine ⟨rfl, ?_⟩
  refine wa_nil ?_
  refine ⟨rfl, rfl, ?_⟩
  refine ⟨a, b, c, d, rfl, ha, hb, hc, hd, ?_⟩
  refine ⟨_, rfl, ?_⟩
  exact hQ
theorem sc_rich_plus : FnScope ["kind", "one", "other", "pairs", "mine", "its"] ["kind", "one", "other"] (defScope s_rich_plus) := ⟨rfl, rfl, rfl, by decide +kernel, rfl, by decide +kernel, by decide +kernel⟩
theorem ok_rich_plus (Z : Env K mg) (C_check_both : Cal P w K mg base k "check_both" 3 S_check_both) (C_raw_amounts : Cal P w K mg base k "raw_amounts" 2 S_raw_amounts) (C_raw_plus : Cal P w K mg base k "raw_plus" 2 S_raw_plus) (C_raw_rich : Cal P w K mg base k "raw_rich" 2 S_raw_rich) (F : FnP K "rich_plus" s_rich_plus f fd) : FnOk P w K mg base (L2.CX P w) (k + 1) f fd ["kind", "one", "other"] (spS K mg 3 S_rich_plus) := fn_ok F sc_rich_plus fun cdv A outer s H E ws Q Y hr hS hl => by
  obtain ⟨a, b, c, d, rfl, h1, h2, ha, hb, hc, hd, hQ⟩ := hS
  have pb := isAm_pos h1
  have pd := isAm_pos h2
  refine wb_cons (ws_expr ?_)
  refine we_call C_check_both hr (Nat.le_refl _) rfl ?_
  refine wa_cons ?_
  refine we_slot 0 rfl (.inl rfl) rfl rfl ?_
  refine ⟨rfl, ?_⟩
  refine wa_cons ?_
  refine we_slot 1 rfl (.inl rfl) rfl rfl ?_
  refine ⟨rfl, ?_⟩
  refine wa_cons ?_
  refine we_slot 2 rfl (.inl rfl) rfl rfl ?_
  refine ⟨rfl, ?_⟩
  refine wa_nil ?_
  refine ⟨rfl, rfl, ?_⟩
  refine ⟨a, b, c, d, rfl, h1, h2, ?_⟩
  refine wb_cons (ws_zip 3 rfl Z.zip sc_rich_plus.nd rfl (.inl rfl) ?_)
  refine wa_cons ?_
  refine we_call C_raw_amounts hr (Nat.le_refl _) rfl ?_
  refine wa_cons ?_
  refine we_slot 0 rfl (.inl rfl) rfl rfl ?_
  refine ⟨rfl, ?_⟩
  refine wa_cons ?_
  refine we_slot 1 rfl (.inl rfl) rfl rfl ?_
  refine ⟨rfl, ?_⟩
  refine wa_nil ?_
  refine ⟨rfl, rfl, ?_⟩
  refine ⟨a, b, rfl, ?_⟩
  refine ⟨rfl, ?_⟩
  refine wa_cons ?_
  refine we_call C_raw_amounts hr (Nat.le_refl _) rfl ?_
  refine wa_cons ?_
  refine we_slot 0 rfl (.inl rfl) rfl rfl ?_
  refine ⟨rfl, ?_⟩
  refine wa_cons ?_
  refine we_slot 2 rfl (.inl rfl) rfl rfl ?_
  refine ⟨rfl, ?_⟩
  refine wa_nil ?_
  refine ⟨rfl, rfl, ?_⟩
  refine ⟨c, d, rfl, ?_⟩
  refine ⟨rfl, ?_⟩
  refine wa_nil ?_
  refine ⟨_, _, rfl, ?_⟩
  refine wb_one (ws_ret ?_)
  refine we_call C_raw_rich hr (Nat.le_refl _) rfl ?_
  refine wa_cons ?_
  refine we_slot 0 rfl (.inl rfl) rfl rfl ?_
  refine ⟨rfl, ?_⟩
  refine wa_cons ?_
  refine we_lc (js := [4, 5]) (own := [("mine", 4), ("its", 5)]) rfl sc_rich_plus.nd (show BlkOk ["kind", "one", "other", "pairs", "mine", "its"] (defScope s_rich_plus) _ _ from blk_by (by decide +kernel)) (fun s H C cl fp => pg_tup rfl (pgs_cons (pg_name sc_rich_plus.nd rfl (.inl rfl)) (pgs_cons (pg_name sc_rich_plus.nd rfl (.inl rfl)) pgs_nil))) tgt2 (by decide) (show ∀ j ∈ ([4, 5] : List Nat), j < 6 by decide) ?_
  refine wi_zipN 3 rfl (.inl rfl) rfl rfl ?_
  refine ⟨by simp, rfl, ?_⟩
  refine lcw_cons rfl (fun s H C cl fp => ?_)
  refine we_call C_raw_plus hr (Nat.le_refl _) rfl ?_
  refine wa_cons ?_
  refine we_slot 4 rfl (.inl rfl) rfl rfl ?_
  refine ⟨rfl, ?_⟩
  refine wa_cons ?_
  refine we_slot 5 rfl (.inl rfl) rfl rfl ?_
  refine ⟨rfl, ?_⟩
  refine wa_nil ?_
  refine ⟨rfl, rfl, ?_⟩
  refine ⟨_, _, _, _, rfl, ha, hb, hc, hd, ⟨by omega, by omega⟩, rfl, _, rfl, ?_⟩
  refine ⟨rfl, ?_⟩
  refine wa_nil ?_
  exact ⟨rfl, rfl, _, rfl, _, rfl, hQ⟩
theorem sc_rich_scaled : FnScope ["kind", "rich", "x", "one"] ["kind", "rich", "x"] (defScope s_rich_scaled) := ⟨rfl, rfl, rfl, by decide +kernel, rfl, by decide +kernel, by decide +kernel⟩
theorem ok_rich_scaled (Z : Env K mg) (C_check_kind : Cal P w K mg base k "check_kind" 1 S_check_kind) (C_check_rich : Cal P w K mg base k "check_rich" 2 S_check_rich) (C_is_amount : Cal P w K mg base k "is_amount" 1 S_is_amount) (C_raw_amounts : Cal P w K mg base k "raw_amounts" 2 S_raw_amounts) (C_raw_times : Cal P w K mg base k "raw_times" 2 S_raw_times) (C_raw_rich : Cal P w K mg base k "raw_rich" 2 S_raw_rich) (F : FnP K "rich_scaled" s_rich_scaled f fd) : FnOk P w K mg base (L2.CX P w) (k + 1) f fd ["kind", "rich", "x"] (spS K mg 3 S_rich_scaled) := fn_ok F sc_rich_scaled fun cdv A outer s H E ws Q Y hr hS hl => by
  obtain ⟨a, b, c, d, rfl, h1, h2, ha, hb, hc, hd, hQ⟩ := hS
  have pb := isAm_pos h1
  have pd := isAm_pos h2
  refine wb_cons (ws_expr ?_)
  refine we_call C_check_kind hr (Nat.le_refl _) rfl ?_
  refine wa_cons ?_
  refine we_slot 0 rfl (.inl rfl) rfl rfl ?_
  refine ⟨rfl, ?_⟩
  refine wa_nil ?_
  refine ⟨rfl, rfl, ?_⟩
  refine ⟨rfl, ?_⟩
  refine wb_cons (ws_expr ?_)
  refine we_call C_check_rich hr (Nat.le_refl _) rfl ?_
  refine wa_cons ?_
  refine we_slot 0 rfl (.inl rfl) rfl rfl ?_
  refine ⟨rfl, ?_⟩
  refine wa_cons ?_
  refine we_slot 1 rfl (.inl rfl) rfl rfl ?_
  refine ⟨rfl, ?_⟩
  refine wa_nil ?_
  refine ⟨rfl, rfl, ?_⟩
  refine ⟨a, b, rfl, h1, ?_⟩
  refine wb_cons (ws_if ?_)
  refine wt_not ?_
  refine wt_val ?_
  refine we_call C_is_amount hr (Nat.le_refl _) rfl ?_
  refine wa_cons ?_
  refine we_slot 2 rfl (.inr (.inl rfl)) rfl rfl ?_
  refine ⟨rfl, ?_⟩
  refine wa_nil ?_
  refine ⟨rfl, rfl, ?_⟩
  refine ⟨fr c d, rfl, rfl, ?_⟩
  refine ⟨_, rfl, ?_⟩
  rw [h2]; refine iteF rfl ?_
  refine wb_nil ?_
  refine wb_one (ws_ret ?_)
  refine we_call C_raw_rich hr (Nat.le_refl _) rfl ?_
  refine wa_cons ?_
  refine we_slot 0 rfl (.inl rfl) rfl rfl ?_
  refine ⟨rfl, ?_⟩
  refine wa_cons ?_
  refine we_lc (js := [3]) (own := [("one", 3)]) rfl sc_rich_scaled.nd (show BlkOk ["kind", "rich", "x", "one"] (defScope s_rich_scaled) _ _ from blk_by (by decide +kernel)) (fun s H C cl fp => pg_name sc_rich_scaled.nd rfl (.inl rfl)) tgt1 (by decide) (show ∀ j ∈ ([3] : List Nat), j < 4 by decide) ?_
  refine wi_lst rfl ?_ (fun _ h => pi_list h)
  refine we_call C_raw_amounts hr (Nat.le_refl _) rfl ?_
  refine wa_cons ?_
  refine we_slot 0 rfl (.inl rfl) rfl rfl ?_
  refine ⟨rfl, ?_⟩
  refine wa_cons ?_
  refine we_slot 1 rfl (.inl rfl) rfl rfl ?_
  refine ⟨rfl, ?_⟩
  refine wa_nil ?_
  refine ⟨rfl, rfl, ?_⟩
  refine ⟨a, b, rfl, ?_⟩
  refine ⟨_, .inl rfl, ?_⟩
  refine ⟨by simp, rfl, ?_⟩
  refine lcw_cons rfl (fun s H C cl fp => ?_)
  refine we_call C_raw_times hr (Nat.le_refl _) rfl ?_
  refine wa_cons ?_
  refine we_slot 3 rfl (.inl rfl) rfl rfl ?_
  refine ⟨rfl, ?_⟩
  refine wa_cons ?_
  refine we_slot 2 rfl (.inr (.inl rfl)) rfl rfl ?_
  refine ⟨rfl, ?_⟩
  refine wa_nil ?_
  refine ⟨rfl, rfl, ?_⟩
  refine ⟨_, _, _, _, rfl, ha, hb, hc, hd, ⟨by omega, by omega⟩, rfl, _, rfl, ?_⟩
  refine ⟨rfl, ?_⟩
  refine wa_nil ?_
  exact ⟨rfl, rfl, _, rfl, _, rfl, hQ⟩
end
end K02

namespace K02
open PL
variable [Hand]
/-! ### plain laws of fractions -/
theorem low_spec {a b : Int} (hb : b ≠ 0) : ∃ s x y : Int, s ≠ 0 ∧ a = s * x ∧ b = s * y ∧ 0 < y ∧ gcdI x y = 1 ∧ low a b = fr x y ∧ x.natAbs ≤ a.natAbs ∧ y.natAbs ≤ b.natAbs := by
  have g0 : 0 < Int.gcd a b := Nat.pos_of_ne_zero fun q => hb (Int.gcd_eq_zero_iff.mp q).2
  obtain ⟨x0, hx⟩ := Int.gcd_dvd_left a b
  obtain ⟨y0, hy⟩ := Int.gcd_dvd_right a b
  have g1 : ((Int.gcd a b : Nat) : Int) ≠ 0 := by omega
  have hco : Int.gcd x0 y0 = 1 := by
    have h := Int.gcd_ediv_gcd_ediv_gcd (i := a) (j := b) g0
    have e1 : a / (Int.gcd a b : Nat) = x0 := by
      conv => lhs; lhs; rw [hx]
      exact Int.mul_ediv_cancel_left _ g1
    have e2 : b / (Int.gcd a b : Nat) = y0 := by
      conv => lhs; lhs; rw [hy]
      exact Int.mul_ediv_cancel_left _ g1
    rw [e1, e2] at h
    exact h
  have bx : x0.natAbs ≤ a.natAbs := by
    have e : a.natAbs = Int.gcd a b * x0.natAbs := by
      conv => lhs; rw [hx]
      rw [Int.natAbs_mul, Int.natAbs_natCast]
    rw [e]
    exact Nat.le_mul_of_pos_left _ g0
  have by_ : y0.natAbs ≤ b.natAbs := by
    have e : b.natAbs = Int.gcd a b * y0.natAbs := by
      conv => lhs; rw [hy]
      rw [Int.natAbs_mul, Int.natAbs_natCast]
    rw [e]
    exact Nat.le_mul_of_pos_left _ g0
  have y1 : y0 ≠ 0 := fun q => by
    rw [q, Int.mul_zero] at hy
    exact hb hy
  by_cases h : b < 0
  · refine ⟨-gcdI a b, -x0, -y0, ?_, ?_, ?_, ?_, ?_, ?_, by rw [Int.natAbs_neg]; exact bx, by rw [Int.natAbs_neg]; exact by_⟩
    · unfold gcdI
      omega
    · unfold gcdI
      rw [Int.neg_mul_neg]
      exact hx
    · unfold gcdI
      rw [Int.neg_mul_neg]
      exact hy
    · have : ¬ 0 < y0 := fun q => by
        have := Int.mul_pos (show (0 : Int) < (Int.gcd a b : Nat) by omega) q
        omega
      omega
    · unfold gcdI
      rw [Int.gcd_neg, Int.neg_gcd, hco]
      rfl
    · unfold low
      rw [if_pos h]
      have e1 : a.fdiv (-gcdI a b) = -x0 := by
        have e : a = (-gcdI a b) * (-x0) := by
          unfold gcdI
          rw [Int.neg_mul_neg]
          exact hx
        conv => lhs; lhs; rw [e]
        exact Int.mul_fdiv_cancel_left _ (by unfold gcdI; omega)
      have e2 : b.fdiv (-gcdI a b) = -y0 := by
        have e : b = (-gcdI a b) * (-y0) := by
          unfold gcdI
          rw [Int.neg_mul_neg]
          exact hy
        conv => lhs; lhs; rw [e]
        exact Int.mul_fdiv_cancel_left _ (by unfold gcdI; omega)
      rw [e1, e2]
  · refine ⟨gcdI a b, x0, y0, g1, hx, hy, ?_, ?_, ?_, bx, by_⟩
    · have : ¬ y0 < 0 := fun q => by
        have := Int.mul_neg_of_pos_of_neg (show (0 : Int) < (Int.gcd a b : Nat) by omega) q
        omega
      omega
    · unfold gcdI
      rw [hco]
      rfl
    · unfold low
      rw [if_neg h]
      have e1 : a.fdiv (gcdI a b) = x0 := by
        conv => lhs; lhs; rw [hx]
        exact Int.mul_fdiv_cancel_left _ g1
      have e2 : b.fdiv (gcdI a b) = y0 := by
        conv => lhs; lhs; rw [hy]
        exact Int.mul_fdiv_cancel_left _ g1
      rw [e1, e2]
theorem low_uniq {x y c d : Int} (hy : 0 < y) (hd : 0 < d) (h1 : gcdI x y = 1) (h2 : gcdI c d = 1) (h : x * d = c * y) : x = c ∧ y = d := by
  have k1 : Nat.Coprime x.natAbs y.natAbs := by
    unfold gcdI at h1
    exact Int.ofNat.inj h1
  have k2 : Nat.Coprime c.natAbs d.natAbs := by
    unfold gcdI at h2
    exact Int.ofNat.inj h2
  have hn : x.natAbs * d.natAbs = c.natAbs * y.natAbs := by
    rw [← Int.natAbs_mul, h, Int.natAbs_mul]
  have d1 : y.natAbs ∣ d.natAbs := Nat.Coprime.dvd_of_dvd_mul_left k1.symm ⟨c.natAbs, by rw [hn, Nat.mul_comm]⟩
  have d2 : d.natAbs ∣ y.natAbs := Nat.Coprime.dvd_of_dvd_mul_left k2.symm ⟨x.natAbs, by rw [← hn, Nat.mul_comm]⟩
  have e : y.natAbs = d.natAbs := Nat.dvd_antisymm d1 d2
  have e2 : y = d := by omega
  subst e2
  exact ⟨Int.eq_of_mul_eq_mul_right (by omega) h, rfl⟩
/-- equal as quotients: the same in lowest terms -/
theorem low_eq {a b c d : Int} (hb : b ≠ 0) (hd : d ≠ 0) (h : a * d = c * b) : low a b = low c d := by
  obtain ⟨s, x, y, s0, rfl, rfl, hy, hg, e1, _⟩ := low_spec (a := a) hb
  obtain ⟨t, z, u, t0, rfl, rfl, hu, hg2, e2, _⟩ := low_spec (a := c) hd
  have hm : x * u = z * y := by
    have e : (s * t) * (x * u) = (s * t) * (z * y) := by
      calc (s * t) * (x * u) = (s * x) * (t * u) := by ac_rfl
        _ = (t * z) * (s * y) := h
        _ = (s * t) * (z * y) := by ac_rfl
    exact Int.eq_of_mul_eq_mul_left (Int.mul_ne_zero s0 t0) e
  obtain ⟨rfl, rfl⟩ := low_uniq hy hu hg hg2 hm
  rw [e1, e2]
theorem low_of {a b : Int} (hb : 0 < b) (hg : gcdI a b = 1) : low a b = fr a b := by
  unfold low
  rw [if_neg (by omega), hg]
  rw [Int.fdiv_one, Int.fdiv_one]
theorem low_isFr {a b : Int} (hb : b ≠ 0) : ∃ x y, low a b = fr x y ∧ 0 < y ∧ gcdI x y = 1 ∧ x.natAbs ≤ a.natAbs ∧ y.natAbs ≤ b.natAbs ∧ x * b = a * y := by
  obtain ⟨s, x, y, s0, h1, h2, hy, hg, e, b1, b2⟩ := low_spec (a := a) hb
  refine ⟨x, y, e, hy, hg, b1, b2, ?_⟩
  rw [h1, h2]
  ac_rfl
end K02

namespace K02
open PySem PySem.Spec PyProof.Rows L2 PL
variable [Hand]
def S_raw_worth : Sem1 := fun ws P Y => ∃ a b, ∃ is : List Int, ws = [.val KL, .val (RV a b), .val (vl is)] ∧ 0 < b ∧ Bd 1000 a ∧ Bd 1000 b ∧ is.length ≤ 1000 ∧ P (low ((is.length : Int) * a) b)
def S_worth : Sem1 := fun ws P Y => ∃ a b, ∃ is : List Int, ws = [.val KL, .val (RV a b), .val (vl is)] ∧ isAm (fr a b) = true ∧ Bd 1000 a ∧ Bd 1000 b ∧ is.length ≤ 1000 ∧ (∀ i ∈ is, small i) ∧ P (low ((is.length : Int) * a) b)
theorem low_zero {b : Int} (hb : 0 < b) : low 0 b = fr 0 1 := by
  rw [low_eq (c := 0) (d := 1) (by omega) (by decide) (by omega)]
  exact low_of (by decide) (by decide)
theorem worth_step {a b x y i : Int} (hb : 0 < b) (hy : 0 < y) (h : x * b = (i * a) * y) : opPlus x y a b = low ((i + 1) * a) b := by
  unfold opPlus
  refine low_eq (Int.mul_ne_zero (by omega) (by omega)) (by omega) ?_
  calc (x * b + a * y) * b = (i * a * y + a * y) * b := by rw [h]
    _ = (i + 1) * a * (y * b) := by rw [Int.add_mul, Int.add_mul, Int.add_mul]; simp only [Int.one_mul]; ac_rfl
def free5 (o : Option PL.W) : Prop := o = none ∨ ∃ d, o = some (.val d)
section
variable {P : Program} {w : World} {K : PySem.W.Frag} {mg : Str → Option Value} {base : Heap} {f : Addr} {fd : FuncData} {k : Nat}
theorem sc_raw_worth : FnScope ["kind", "rich", "value", "found", "waiting", "amount", "kind_now", "rich_now", "here", "amounts", "more"] ["kind", "rich", "value"] (defScope s_raw_worth) := ⟨rfl, rfl, rfl, by decide +kernel, rfl, by decide +kernel, by decide +kernel⟩
theorem ok_raw_worth (Z : Env K mg) (C_riches_within : Cal P w K mg base k "riches_within" 3 S_riches_within) (C_raw_plus : Cal P w K mg base k "raw_plus" 2 S_raw_plus) (F : FnP K "raw_worth" s_raw_worth f fd) : FnOk P w K mg base (L2.CX P w) (k + 1) f fd ["kind", "rich", "value"] (spS K mg 3 S_raw_worth) := fn_ok F sc_raw_worth fun cdv A outer s H E ws Q Y hr hS hl => by
  obtain ⟨a, b, is, rfl, hb, ha, hB, hz, hQ⟩ := hS
  obtain ⟨na, nm, ns⟩ := Z.NOUGHT
  refine wb_cons (ws_parO 3 4 rfl sc_raw_worth.nd rfl rfl (by decide) rfl rfl ?_ (by intro _ q; cases q))
  refine we_gtup rfl nm ns (fun F => .cons (.int 0) (.cons (.int 1) .nil)) ?_
  refine ⟨_, rfl, ?_⟩
  refine wo_list ?_
  refine wa_cons ?_
  refine we_tup ?_
  refine wa_cons ?_
  refine we_slot 0 rfl (.inl rfl) rfl rfl ?_
  refine ⟨rfl, ?_⟩
  refine wa_cons ?_
  refine we_slot 1 rfl (.inl rfl) rfl rfl ?_
  refine ⟨rfl, ?_⟩
  refine wa_cons ?_
  refine we_slot 2 rfl (.inl rfl) rfl rfl ?_
  refine ⟨rfl, ?_⟩
  refine wa_nil ?_
  refine ⟨_, rfl, by simp, ?_⟩
  refine ⟨rfl, ?_⟩
  refine wa_nil ?_
  refine ⟨_, rfl, by simp, ?_⟩
  refine wb_cons (ws_while (fun m ρ => (m = 3000 ∧ ρ = [some (.val KL), some (.val (RV a b)), some (.val (vl is)), some (.val (fr 0 1)), some (.own [.tup [KL, RV a b, vl is]]), none, none, none, none, none, none]) ∨ (∃ js : List Int, m = js.length ∧ js.length ≤ 1000 ∧ ∃ o5 d6 d7 d8 d9 d10, free5 o5 ∧ ρ = [some (.val KL), some (.val (RV a b)), some (.val (vl is)), some (.val (low ((is.length : Int) * a) b)), some (.own (js.map trip)), o5, some (.val d6), some (.val d7), some (.val d8), some (.val d9), some (.val d10)])) 3000 (.inl ⟨rfl, rfl⟩) ?_)
  rintro m ρ1 (⟨rfl, rfl⟩ | ⟨js, rfl, hjz, o5, d6, d7, d8, d9, d10, h5, rfl⟩)
  · -- the list
    refine wt_cmpI op_gt (nomark _) ?_
    refine we_len rfl Z.len ?_
    refine we_slot 4 rfl (.inl rfl) rfl rfl ?_
    refine ⟨_, rfl, ?_⟩
    refine we_int ?_
    refine ⟨_, _, rfl, rfl, ?_⟩
    refine iteT rfl ?_
    refine wb_cons (ws_asgT3 6 7 8 rfl sc_raw_worth.nd rfl rfl rfl (.inl rfl) (.inl rfl) (.inl rfl) ?_)
    refine we_pop ?_
    refine we_slot 4 rfl (.inl rfl) rfl rfl ?_
    refine ⟨4, [], _, rfl, rfl, ?_⟩
    refine ⟨_, _, _, rfl, ?_⟩
    refine wb_cons (ws_asgT 9 10 rfl sc_raw_worth.nd rfl rfl (.inl rfl) (.inl rfl) ?_)
    refine we_call C_riches_within hr (Nat.le_refl _) rfl ?_
    refine wa_cons ?_
    refine we_slot 6 rfl (.inl rfl) rfl rfl ?_
    refine ⟨rfl, ?_⟩
    refine wa_cons ?_
    refine we_slot 7 rfl (.inl rfl) rfl rfl ?_
    refine ⟨rfl, ?_⟩
    refine wa_cons ?_
    refine we_slot 8 rfl (.inl rfl) rfl rfl ?_
    refine ⟨rfl, ?_⟩
    refine wa_nil ?_
    refine ⟨rfl, rfl, ?_⟩
    refine .inl ⟨a, b, is, rfl, hz, ?_⟩
    refine ⟨_, _, rfl, ?_⟩
    refine wb_cons (ws_for (js := [5]) rfl (pg_name sc_raw_worth.nd rfl (.inl rfl)) tgt1 (show ∀ j ∈ ([5] : List Nat), j < 11 by decide) ?_)
    refine wi_lst rfl ?_ (fun _ h => pi_list h)
    refine we_slot 9 rfl (.inl rfl) rfl rfl ?_
    refine ⟨_, .inl rfl, ?_⟩
    refine ⟨fun i ρ => ∃ o5, free5 o5 ∧ ρ = [some (.val KL), some (.val (RV a b)), some (.val (vl is)), some (.val (low ((i : Int) * a) b)), some (.own []), o5, some (.val KL), some (.val (RV a b)), some (.val (vl is)), some (.val (.lst (List.replicate is.length (fr a b)))), some (.val (.lst (is.map trip)))], ⟨none, .inl rfl, ?_⟩, ?_, ?_⟩
    · rw [show ((0 : Nat) : Int) * a = 0 by simp, low_zero hb]
      rfl
    · rintro i d ρ2 hd ⟨o5, h5, rfl⟩
      have hi : i < is.length := by
        have := (List.getElem?_eq_some_iff.mp hd).1
        simpa using this
      have ed : d = fr a b := by
        rw [List.getElem?_replicate, if_pos hi] at hd
        exact (Option.some.inj hd).symm
      subst ed
      refine ⟨[fr a b], rfl, ?_⟩
      refine wb_one (ws_asg 3 sc_raw_worth.nd rfl (.inl rfl) ?_)
      obtain ⟨x, y, e, hy, hg, b1, b2, hc⟩ := low_isFr (a := (i : Int) * a) (b := b) (by omega)
      rw [e]
      have hi10 : Bd 10 (i : Int) := by
        unfold Bd
        simp only [Int.natAbs_natCast]
        omega
      have bx : Bd 2000 x := Bd.mono (m := 10 + 1000) (Nat.lt_of_le_of_lt b1 (hi10.mul ha)) (by decide)
      have by_ : Bd 2000 y := Bd.mono (m := 1000) (Nat.lt_of_le_of_lt b2 hB) (by decide)
      refine we_call C_raw_plus hr (Nat.le_refl _) rfl ?_
      refine wa_cons ?_
      refine we_slot 3 rfl (.inl rfl) rfl rfl ?_
      refine ⟨rfl, ?_⟩
      refine wa_cons ?_
      refine we_slot 5 rfl (.inl rfl) rfl rfl ?_
      refine ⟨rfl, ?_⟩
      refine wa_nil ?_
      refine ⟨rfl, rfl, ?_⟩
      refine ⟨x, y, a, b, rfl, bx, by_, ha.mono (by decide), hB.mono (by decide), ⟨by omega, by omega⟩, _, rfl, ?_⟩
      refine ⟨some (.val (fr a b)), .inr ⟨_, rfl⟩, ?_⟩
      rw [worth_step hb hy hc]
      rfl
    · rintro ρ2 ⟨o5, h5, rfl⟩
      refine wb_one (ws_expr ?_)
      refine we_extend ?_
      refine we_slot 4 rfl (.inl rfl) rfl rfl ?_
      refine ⟨_, _, rfl, rfl, ?_⟩
      refine we_slot 10 rfl (.inl rfl) rfl rfl ?_
      refine ⟨_, _, rfl, rfl, by simp; omega, ?_⟩
      refine ⟨is.length, by omega, .inr ⟨is, rfl, hz, o5, KL, RV a b, vl is, .lst (List.replicate is.length (fr a b)), .lst (is.map trip), h5, ?_⟩⟩
      rw [List.length_replicate]
      rfl
  · -- the ints
    refine wt_cmpI op_gt (nomark _) ?_
    refine we_len rfl Z.len ?_
    refine we_slot 4 rfl (.inl rfl) rfl rfl ?_
    refine ⟨_, rfl, ?_⟩
    refine we_int ?_
    refine ⟨_, _, rfl, rfl, ?_⟩
    rcases List.eq_nil_or_concat js with rfl | ⟨ks, i, rfl⟩
    · refine iteF rfl ?_
      refine wb_one (ws_ret ?_)
      refine we_slot 3 rfl (.inl rfl) rfl rfl ?_
      exact ⟨_, rfl, hQ⟩
    refine iteT (by simp) ?_
    have hcl : clean [some (.val KL), some (.val (RV a b)), some (.val (vl is)), some (.val (low ((is.length : Int) * a) b)), some (.own (ks.map trip)), o5, some (.val (.str "int")), some (.val (.tup [])), some (.val (.int i)), some (.val d9), some (.val d10)] = true := by
      rcases h5 with rfl | ⟨d, rfl⟩ <;> rfl
    refine wb_cons (ws_asgT3 6 7 8 rfl sc_raw_worth.nd rfl rfl rfl (.inl rfl) (.inl rfl) (.inl rfl) ?_)
    refine we_pop ?_
    refine we_slot 4 rfl (.inl rfl) rfl rfl ?_
    refine ⟨4, ks.map trip, trip i, rfl, by rw [List.concat_eq_append, List.map_append]; rfl, ?_⟩
    refine ⟨_, _, _, rfl, ?_⟩
    refine wb_cons (ws_asgT 9 10 rfl sc_raw_worth.nd rfl rfl (.inl rfl) (.inl rfl) ?_)
    refine we_call C_riches_within hr (Nat.le_refl _) rfl ?_
    refine wa_cons ?_
    refine we_slot 6 rfl (.inl rfl) rfl rfl ?_
    refine ⟨rfl, ?_⟩
    refine wa_cons ?_
    refine we_slot 7 rfl (.inl rfl) rfl rfl ?_
    refine ⟨rfl, ?_⟩
    refine wa_cons ?_
    refine we_slot 8 rfl (.inl rfl) rfl rfl ?_
    refine ⟨rfl, ?_⟩
    refine wa_nil ?_
    refine ⟨rfl, hcl, ?_⟩
    refine .inr ⟨i, rfl, ?_⟩
    refine ⟨_, _, rfl, ?_⟩
    refine wb_cons (ws_for (js := [5]) rfl (pg_name sc_raw_worth.nd rfl (.inl rfl)) tgt1 (show ∀ j ∈ ([5] : List Nat), j < 11 by decide) ?_)
    refine wi_lst rfl ?_ (fun _ h => pi_list h)
    refine we_slot 9 rfl (.inl rfl) rfl rfl ?_
    refine ⟨_, .inl rfl, ?_⟩
    refine ⟨fun i' ρ => ρ = [some (.val KL), some (.val (RV a b)), some (.val (vl is)), some (.val (low ((is.length : Int) * a) b)), some (.own (ks.map trip)), o5, some (.val (.str "int")), some (.val (.tup [])), some (.val (.int i)), some (.val (.lst [])), some (.val (.lst []))], rfl, ?_, ?_⟩
    · rintro i' d ρ2 hd _
      cases hd
    · rintro ρ2 rfl
      refine wb_one (ws_expr ?_)
      refine we_extend ?_
      refine we_slot 4 rfl (.inl rfl) rfl rfl ?_
      refine ⟨_, _, rfl, rfl, ?_⟩
      refine we_slot 10 rfl (.inl rfl) rfl rfl ?_
      refine ⟨_, _, rfl, rfl, by simp at hjz ⊢; omega, ?_⟩
      refine ⟨ks.length, by simp, .inr ⟨ks, rfl, by simp at hjz; omega, o5, .str "int", .tup [], .int i, .lst [], .lst [], h5, ?_⟩⟩
      rw [List.append_nil]
      rfl
theorem sc_worth : FnScope ["kind", "rich", "value"] ["kind", "rich", "value"] (defScope s_worth) := ⟨rfl, rfl, rfl, by decide +kernel, rfl, by decide +kernel, by decide +kernel⟩
theorem ok_worth (Z : Env K mg) (C_check_kind : Cal P w K mg base k "check_kind" 1 S_check_kind) (C_check_rich : Cal P w K mg base k "check_rich" 2 S_check_rich) (C_raw_is_value : Cal P w K mg base k "raw_is_value" 2 S_raw_is_value) (C_raw_worth : Cal P w K mg base k "raw_worth" 3 S_raw_worth) (F : FnP K "worth" s_worth f fd) : FnOk P w K mg base (L2.CX P w) (k + 1) f fd ["kind", "rich", "value"] (spS K mg 3 S_worth) := fn_ok F sc_worth fun cdv A outer s H E ws Q Y hr hS hl => by
  obtain ⟨a, b, is, rfl, hA, ha, hB, hz, hs, hQ⟩ := hS
  have pb := isAm_pos hA
  refine wb_cons (ws_expr ?_)
  refine we_call C_check_kind hr (Nat.le_refl _) rfl ?_
  refine wa_cons ?_
  refine we_slot 0 rfl (.inl rfl) rfl rfl ?_
  refine ⟨rfl, ?_⟩
  refine wa_nil ?_
  refine ⟨rfl, rfl, ?_⟩
  refine ⟨rfl, ?_⟩
  refine wb_cons (ws_expr ?_)
  refine we_call C_check_rich hr (Nat.le_refl _) rfl ?_
  refine wa_cons ?_
  refine we_slot 0 rfl (.inl rfl) rfl rfl ?_
  refine ⟨rfl, ?_⟩
  refine wa_cons ?_
  refine we_slot 1 rfl (.inl rfl) rfl rfl ?_
  refine ⟨rfl, ?_⟩
  refine wa_nil ?_
  refine ⟨rfl, rfl, ?_⟩
  refine ⟨a, b, rfl, hA, ?_⟩
  refine wb_cons (ws_if ?_)
  refine wt_not ?_
  refine wt_val ?_
  refine we_call C_raw_is_value hr (Nat.le_refl _) rfl ?_
  refine wa_cons ?_
  refine we_slot 0 rfl (.inl rfl) rfl rfl ?_
  refine ⟨rfl, ?_⟩
  refine wa_cons ?_
  refine we_slot 2 rfl (.inl rfl) rfl rfl ?_
  refine ⟨rfl, ?_⟩
  refine wa_nil ?_
  refine ⟨rfl, rfl, ?_⟩
  refine ⟨is, rfl, hz, hs, ?_⟩
  refine ⟨_, rfl, ?_⟩
  refine iteF rfl ?_
  refine wb_nil ?_
  refine wb_one (ws_ret ?_)
  refine we_call C_raw_worth hr (Nat.le_refl _) rfl ?_
  refine wa_cons ?_
  refine we_slot 0 rfl (.inl rfl) rfl rfl ?_
  refine ⟨rfl, ?_⟩
  refine wa_cons ?_
  refine we_slot 1 rfl (.inl rfl) rfl rfl ?_
  refine ⟨rfl, ?_⟩
  refine wa_cons ?_
  refine we_slot 2 rfl (.inl rfl) rfl rfl ?_
  refine ⟨rfl, ?_⟩
  refine wa_nil ?_
  refine ⟨rfl, rfl, ?_⟩
  refine ⟨a, b, is, rfl, pb, ha, hB, hz, ?_⟩
  refine ⟨_, rfl, ?_⟩
  exact hQ
end
end K02

namespace K02
open PySem PySem.Spec PyProof.Rows L2 PL
variable [Hand]
def GoodH (ds : List D) : Prop := ∃ (cs : List Int) (i r m t : Int), ds = [.lst (cs.map D.int), .int i, .int r, .int m, .int t] ∧ (∀ c ∈ cs, 0 ≤ c) ∧ 0 ≤ i ∧ 0 ≤ r ∧ 0 ≤ m ∧ 0 ≤ t
structure HandOk (K : PySem.W.Frag) (mg : Str → Option Value) : Prop where
  op : ∀ F o, Hand.HI F o → ∃ ds xs, o = .lst xs ∧ RDs K mg F ds xs ∧ GoodH ds
  cl : ∀ F ds xs, RDs K mg F ds xs → GoodH ds → Hand.HI F (.lst xs)
def S__law_draw : Sem1 := fun ws P Y => ∃ many : Int, ws = [.hnd, .val (.int many)] ∧ 0 < many ∧ Bd 100 many ∧ ∀ n, 0 ≤ n → n < many → P (.int n)
theorem fmod_in {a m : Int} (h : 0 < m) : 0 ≤ a.fmod m ∧ a.fmod m < m := ⟨Int.fmod_nonneg_of_pos _ h, Int.fmod_lt_of_pos _ h⟩
section
variable {P : Program} {w : World} {K : PySem.W.Frag} {mg : Str → Option Value} {base : Heap} {f : Addr} {fd : FuncData} {k : Nat}
theorem sc__law_draw : FnScope ["hand", "many", "number", "cell", "figure"] ["hand", "many"] (defScope s__law_draw) := ⟨rfl, rfl, rfl, by decide +kernel, rfl, by decide +kernel, by decide +kernel⟩
theorem ok__law_draw (Z : Env K mg)  (F : FnP K "_law_draw" s__law_draw f fd) (HO : HandOk K mg) : FnOk P w K mg base (L2.CX P w) (k + 1) f fd ["hand", "many"] (spS K mg 2 S__law_draw) := fn_ok F sc__law_draw fun cdv A outer s H E ws Q Y hr hS hl => by
  obtain ⟨many, rfl, hm, hB, hQ⟩ := hS
  refine wb_open 0 rfl HO.op fun ds hg => ?_
  obtain ⟨cs, i, r, m, t, rfl, hcs, hi, hr0, hm0, ht0⟩ := hg
  refine wb_join (fun ρ => ∃ ds o3, GoodH ds ∧ free5 o3 ∧ ρ = [some (.hown ds), some (.val (.int many)), none, o3, none]) ?_ ?_
  · refine ws_if (wt_of (ww_and ?_))
    refine wt_eqS ?_
    refine we_ix ?_
    refine we_slot 0 rfl (.inl rfl) rfl rfl ?_
    refine we_int ?_
    refine ⟨_, _, _, rfl, rfl, rfl, ?_⟩
    refine we_int ?_
    refine ⟨_, _, _, _, rfl, rfl, rfl, rfl, rfl, ?_⟩
    by_cases h0 : r = 0
    · subst h0
      refine iteT rfl (ww_and1 ?_)
      refine wt_cmpI op_lt (nomark _) ?_
      refine we_ix ?_
      refine we_slot 0 rfl (.inl rfl) rfl rfl ?_
      refine we_int ?_
      refine ⟨_, _, _, rfl, rfl, rfl, ?_⟩
      refine we_len rfl Z.len ?_
      refine we_ix ?_
      refine we_slot 0 rfl (.inl rfl) rfl rfl ?_
      refine we_int ?_
      refine ⟨_, _, _, rfl, rfl, rfl, ?_⟩
      refine ⟨_, rfl, ?_⟩
      refine ⟨_, _, rfl, rfl, ?_⟩
      by_cases hl1 : i < ((cs.map D.int).length : Int)
      · refine iteT (by simpa using hl1) ?_
        have hlt : i.toNat < cs.length := by
          simp at hl1
          omega
        have hc : atI (cs.map D.int) i = some (.int cs[i.toNat]) := by
          unfold atI ixN
          rw [if_pos hi, if_pos hl1]
          show (cs.map D.int)[i.toNat]? = _
          rw [List.getElem?_map, List.getElem?_eq_getElem hlt]
          rfl
        have hc0 : 0 ≤ cs[i.toNat] := hcs _ (List.getElem_mem hlt)
        generalize cs[i.toNat] = c at hc hc0
        refine wb_cons (ws_asg 3 sc__law_draw.nd rfl (.inl rfl) ?_)
        refine we_ix ?_
        refine we_ix ?_
        refine we_slot 0 rfl (.inl rfl) rfl rfl ?_
        refine we_int ?_
        refine ⟨_, _, _, rfl, rfl, rfl, ?_⟩
        refine we_ix ?_
        refine we_slot 0 rfl (.inl rfl) rfl rfl ?_
        refine we_int ?_
        refine ⟨_, _, _, rfl, rfl, rfl, ?_⟩
        refine ⟨_, _, _, rfl, rfl, hc, ?_⟩
        refine ⟨_, rfl, ?_⟩
        refine wb_cons (ws_hset ?_)
        refine we_add ?_
        refine we_ix ?_
        refine we_slot 0 rfl (.inl rfl) rfl rfl ?_
        refine we_int ?_
        refine ⟨_, _, _, rfl, rfl, rfl, ?_⟩
        refine we_int ?_
        refine ⟨_, _, rfl, rfl, ?_⟩
        refine ⟨_, rfl, ?_⟩
        refine we_slot 0 rfl (.inl rfl) rfl rfl ?_
        refine we_int ?_
        refine ⟨_, _, _, _, rfl, rfl, rfl, rfl, rfl, fun F xs rr => HO.cl F _ xs rr ⟨cs, i + 1, 0, m, t, rfl, hcs, by omega, by omega, hm0, ht0⟩, ?_⟩
        refine wb_cons (ws_hset ?_)
        refine we_mod ?_
        refine we_intI rfl Z.int ?_
        refine we_add ?_
        refine we_add ?_
        refine we_mulS ?_
        refine we_ix ?_
        refine we_slot 0 rfl (.inl rfl) rfl rfl ?_
        refine we_int ?_
        refine ⟨_, _, _, rfl, rfl, rfl, ?_⟩
        refine we_int ?_
        refine ⟨_, _, rfl, rfl, .inr ⟨by decide, by decide⟩, ?_⟩
        refine we_slot 3 rfl (.inl rfl) rfl rfl ?_
        refine ⟨_, _, rfl, rfl, ?_⟩
        refine we_int ?_
        refine ⟨_, _, rfl, rfl, ?_⟩
        refine ⟨_, rfl, ?_⟩
        refine we_int ?_
        refine ⟨_, _, rfl, rfl, by decide, ?_⟩
        refine ⟨_, rfl, ?_⟩
        refine we_slot 0 rfl (.inl rfl) rfl rfl ?_
        refine we_int ?_
        refine ⟨_, _, _, _, rfl, rfl, rfl, rfl, rfl, fun F xs rr => HO.cl F _ xs rr ⟨cs, i + 1, 0, _, t, rfl, hcs, by omega, by omega, (fmod_in (by decide)).1, ht0⟩, ?_⟩
        refine wb_one (ws_if ?_)
        refine wt_cmpI op_ge (nomark _) ?_
        refine we_slot 3 rfl (.inl rfl) rfl rfl ?_
        refine we_pow ?_
        refine we_int ?_
        refine we_int ?_
        refine ⟨_, _, rfl, rfl, ⟨by decide, by decide, by decide⟩, ?_⟩
        refine ⟨_, _, rfl, rfl, ?_⟩
        refine iteI (fun _ => ?_) (fun _ => ?_)
        ·
          refine wb_one (ws_hset ?_)
          refine we_slot 3 rfl (.inl rfl) rfl rfl ?_
          refine ⟨_, rfl, ?_⟩
          refine we_slot 0 rfl (.inl rfl) rfl rfl ?_
          refine we_int ?_
          refine ⟨_, _, _, _, rfl, rfl, rfl, rfl, rfl, fun F xs rr => HO.cl F _ xs rr ⟨cs, i + 1, c, _, t, rfl, hcs, by omega, hc0, (fmod_in (by decide)).1, ht0⟩, ⟨_, _, ⟨cs, i + 1, c, _, t, rfl, hcs, by omega, hc0, (fmod_in (by decide)).1, ht0⟩, .inr ⟨_, rfl⟩, rfl⟩⟩
        · exact wb_nil ⟨_, _, ⟨cs, i + 1, 0, _, t, rfl, hcs, by omega, by omega, (fmod_in (by decide)).1, ht0⟩, .inr ⟨_, rfl⟩, rfl⟩
      · refine iteF (by simpa using hl1) ?_
        exact wb_nil ⟨_, _, ⟨cs, i, 0, m, t, rfl, hcs, hi, hr0, hm0, ht0⟩, .inl rfl, rfl⟩
    · refine iteF (by simpa using h0) ?_
      refine iteF rfl ?_
      exact wb_nil ⟨_, _, ⟨cs, i, r, m, t, rfl, hcs, hi, hr0, hm0, ht0⟩, .inl rfl, rfl⟩
  · rintro ρ1 ⟨ds, o3, ⟨cs, i, r, m, t, rfl, hcs, hi, hr0, hm0, ht0⟩, ho3, rfl⟩
    refine wb_cons (ws_if ?_)
    refine wt_cmpI op_gt (nomark _) ?_
    refine we_ix ?_
    refine we_slot 0 rfl (.inl rfl) rfl rfl ?_
    refine we_int ?_
    refine ⟨_, _, _, rfl, rfl, rfl, ?_⟩
    refine we_int ?_
    refine ⟨_, _, rfl, rfl, ?_⟩
    refine iteI (fun h => ?_) (fun h => ?_)
    · refine wb_cons (ws_asg 4 sc__law_draw.nd rfl (.inl rfl) ?_)
      refine we_mod ?_
      refine we_intI rfl Z.int ?_
      refine we_ix ?_
      refine we_slot 0 rfl (.inl rfl) rfl rfl ?_
      refine we_int ?_
      refine ⟨_, _, _, rfl, rfl, rfl, ?_⟩
      refine ⟨_, rfl, ?_⟩
      refine we_slot 1 rfl (.inl rfl) rfl rfl ?_
      refine ⟨_, _, rfl, rfl, by omega, ?_⟩
      refine ⟨_, rfl, ?_⟩
      refine wb_cons (ws_hset ?_)
      refine we_fdiv ?_
      refine we_ix ?_
      refine we_slot 0 rfl (.inl rfl) rfl rfl ?_
      refine we_int ?_
      refine ⟨_, _, _, rfl, rfl, rfl, ?_⟩
      refine we_slot 1 rfl (.inl rfl) rfl rfl ?_
      refine ⟨_, _, rfl, rfl, hB.cdiv _ (by omega) (by decide) (by decide), ?_⟩
      refine ⟨_, rfl, ?_⟩
      refine we_slot 0 rfl (.inl rfl) rfl rfl ?_
      refine we_int ?_
      refine ⟨_, _, _, _, rfl, rfl, by rcases ho3 with rfl | ⟨d, rfl⟩ <;> rfl, rfl, rfl, fun F xs rr => HO.cl F _ xs rr ⟨cs, i, _, m, t, rfl, hcs, hi, Int.fdiv_nonneg hr0 (by omega), hm0, ht0⟩, ?_⟩
      refine wb_one (ws_ret ?_)
      refine we_slot 4 rfl (.inl rfl) rfl rfl ?_
      refine ⟨_, rfl, ?_⟩
      exact hQ _ (fmod_in hm).1 (fmod_in hm).2
    · refine wb_nil ?_
      refine wb_cons (ws_hset ?_)
      refine we_add ?_
      refine we_ix ?_
      refine we_slot 0 rfl (.inl rfl) rfl rfl ?_
      refine we_int ?_
      refine ⟨_, _, _, rfl, rfl, rfl, ?_⟩
      refine we_int ?_
      refine ⟨_, _, rfl, rfl, ?_⟩
      refine ⟨_, rfl, ?_⟩
      refine we_slot 0 rfl (.inl rfl) rfl rfl ?_
      refine we_int ?_
      refine ⟨_, _, _, _, rfl, rfl, by rcases ho3 with rfl | ⟨d, rfl⟩ <;> rfl, rfl, rfl, fun F xs rr => HO.cl F _ xs rr ⟨cs, i, r, m, t + 1, rfl, hcs, hi, hr0, hm0, by omega⟩, ?_⟩
      refine wb_cons (ws_asg 2 sc__law_draw.nd rfl (.inl rfl) ?_)
      refine we_mod ?_
      refine we_intI rfl Z.int ?_
      refine we_mulS ?_
      refine we_intI rfl Z.int ?_
      refine we_add ?_
      refine we_ix ?_
      refine we_slot 0 rfl (.inl rfl) rfl rfl ?_
      refine we_int ?_
      refine ⟨_, _, _, rfl, rfl, rfl, ?_⟩
      refine we_mulS ?_
      refine we_int ?_
      refine we_ix ?_
      refine we_slot 0 rfl (.inl rfl) rfl rfl ?_
      refine we_int ?_
      refine ⟨_, _, _, rfl, rfl, rfl, ?_⟩
      refine ⟨_, _, rfl, rfl, .inl ⟨by decide, by decide⟩, ?_⟩
      refine ⟨_, _, rfl, rfl, ?_⟩
      refine ⟨_, rfl, ?_⟩
      refine we_int ?_
      refine ⟨_, _, rfl, rfl, .inr ⟨by decide, by decide⟩, ?_⟩
      refine ⟨_, rfl, ?_⟩
      refine we_int ?_
      refine ⟨_, _, rfl, rfl, by decide, ?_⟩
      refine ⟨_, rfl, ?_⟩
      obtain ⟨n1, hn1, b1, b2⟩ : ∃ n1 : Int, n1 = ((m + 7283 * (t + 1)) * 45991).fmod 2147483587 ∧ 0 ≤ n1 ∧ n1 < 2147483587 := ⟨_, rfl, (fmod_in (by decide)).1, (fmod_in (by decide)).2⟩
      rw [← hn1]
      refine wb_cons (ws_asg 2 sc__law_draw.nd rfl (.inl rfl) ?_)
      refine we_mod ?_
      refine we_intI rfl Z.int ?_
      refine we_mulS ?_
      refine we_slot 2 rfl (.inl rfl) rfl rfl ?_
      refine we_add ?_
      refine we_fdiv ?_
      refine we_slot 2 rfl (.inl rfl) rfl rfl ?_
      refine we_int ?_
      refine ⟨_, _, rfl, rfl, Bd.cdiv (n := 64) _ (by unfold Bd; decide) (by decide) (by decide) (by decide), ?_⟩
      refine we_int ?_
      refine ⟨_, _, rfl, rfl, ?_⟩
      refine ⟨_, _, rfl, rfl, .inl ⟨by omega, by omega⟩, ?_⟩
      refine ⟨_, rfl, ?_⟩
      refine we_int ?_
      refine ⟨_, _, rfl, rfl, by decide, ?_⟩
      refine ⟨_, rfl, ?_⟩
      obtain ⟨n2, hn2, b1, b2⟩ : ∃ n : Int, n = (n1 * (n1.fdiv 1301 + 50021)).fmod 2147483629 ∧ 0 ≤ n ∧ n < 2147483629 := ⟨_, rfl, (fmod_in (by decide)).1, (fmod_in (by decide)).2⟩
      rw [← hn2]
      refine wb_cons (ws_asg 2 sc__law_draw.nd rfl (.inl rfl) ?_)
      refine we_mod ?_
      refine we_intI rfl Z.int ?_
      refine we_mulS ?_
      refine we_slot 2 rfl (.inl rfl) rfl rfl ?_
      refine we_add ?_
      refine we_fdiv ?_
      refine we_slot 2 rfl (.inl rfl) rfl rfl ?_
      refine we_int ?_
      refine ⟨_, _, rfl, rfl, Bd.cdiv (n := 64) _ (by unfold Bd; decide) (by decide) (by decide) (by decide), ?_⟩
      refine we_int ?_
      refine ⟨_, _, rfl, rfl, ?_⟩
      refine ⟨_, _, rfl, rfl, .inl ⟨by omega, by omega⟩, ?_⟩
      refine ⟨_, rfl, ?_⟩
      refine we_int ?_
      refine ⟨_, _, rfl, rfl, by decide, ?_⟩
      refine ⟨_, rfl, ?_⟩
      obtain ⟨n3, hn3, b1, b2⟩ : ∃ n : Int, n = (n2 * (n2.fdiv 2741 + 66403)).fmod 2147483647 ∧ 0 ≤ n ∧ n < 2147483647 := ⟨_, rfl, (fmod_in (by decide)).1, (fmod_in (by decide)).2⟩
      rw [← hn3]
      refine wb_one (ws_ret ?_)
      refine we_mod ?_
      refine we_intI rfl Z.int ?_
      refine we_fdiv ?_
      refine we_slot 2 rfl (.inl rfl) rfl rfl ?_
      refine we_int ?_
      refine ⟨_, _, rfl, rfl, Bd.cdiv (n := 64) _ (by unfold Bd; decide) (by decide) (by decide) (by decide), ?_⟩
      refine ⟨_, rfl, ?_⟩
      refine we_slot 1 rfl (.inl rfl) rfl rfl ?_
      refine ⟨_, _, rfl, rfl, by omega, ?_⟩
      exact ⟨_, rfl, hQ _ (fmod_in hm).1 (fmod_in hm).2⟩
end
end K02

namespace K02
open PySem PySem.Spec PyProof.Rows L2 PL
variable [Hand]
theorem pick {ds : List D} {n : Int} (h0 : 0 ≤ n) (h1 : n < ds.length) : ∃ d, atI ds n = some d ∧ d ∈ ds := by
  have hlt : n.toNat < ds.length := by omega
  refine ⟨ds[n.toNat], ?_, List.getElem_mem hlt⟩
  unfold atI ixN
  rw [if_pos h0, if_pos h1]
  show ds[n.toNat]? = _
  rw [List.getElem?_eq_getElem hlt]
theorem bd_len {n : Nat} (h : n ≤ 1000) : Bd 100 (n : Int) := by
  unfold Bd
  simp only [Int.natAbs_natCast]
  exact Nat.lt_of_le_of_lt h (by decide)
/-- plain through and through, ints not too great -/
def okTb (d : D) : Bool := d.ok && match d with
  | .int i => decide (i.natAbs < 2 ^ 200)
  | .tup [.int a, .int b] => decide (a.natAbs < 2 ^ 200) && decide (b.natAbs < 2 ^ 200)
  | _ => true
def wr (d : D) : Prop := (∃ e, d = .tup [e]) ∨ (∃ e, d = .lst [e]) ∨ ∃ ks e, d = .dct ks [e]
theorem wr_ok {d : D} (h : wr d) (k : d.ok = true) : okTb d = true := by
  unfold okTb
  rw [k]
  rcases h with ⟨e, rfl⟩ | ⟨e, rfl⟩ | ⟨ks, e, rfl⟩
  · cases e <;> rfl
  · rfl
  · rfl
theorem okTb_ok {d : D} (h : okTb d = true) : d.ok = true := by
  unfold okTb at h
  rw [Bool.and_eq_true] at h
  exact h.1
def intB (n : Nat) : D → Bool
  | .int i => decide (i.natAbs < 2 ^ n)
  | _ => false
def posB (n : Nat) : D → Bool
  | .int i => decide (i.natAbs < 2 ^ n) && decide (0 < i)
  | _ => false
def S__law_some : Sem1 := fun ws P Y => ∃ ds, ws = [.hnd, .val (.lst ds)] ∧ 0 < ds.length ∧ ds.length ≤ 1000 ∧ ∀ d ∈ ds, P d
def S__law_none : Sem1 := fun ws P Y => ws = [.hnd] ∧ ∀ d, okTb d = true → P d
def S__law_odd : Sem1 := fun ws P Y => ws = [.hnd] ∧ ∀ d, okTb d = true → P d
def S_bent0 : Sem1 := fun ws P Y => ∃ i, ws = [.hnd, .val (.int i)] ∧ ∀ d, okTb d = true → P d
def S__law_bent : Sem1 := fun ws P Y => ∃ a b, ws = [.hnd, .val (fr a b)] ∧ Bd 110 a ∧ Bd 110 b ∧ ∀ d, okTb d = true → P d
def S__law_whole : Sem1 := fun ws P Y => ws = [.hnd] ∧ ∀ i, Bd 110 i → P (.int i)
def S__law_low : Sem1 := fun ws P Y => ∃ a b : Int, ws = [.val (.int a), .val (.int b)] ∧ b ≠ 0 ∧ Bd 8000 b ∧ P (low a b)
def S__law_part : Sem1 := fun ws P Y => ws = [.hnd] ∧ ∀ x y, 0 < y → gcdI x y = 1 → Bd 110 x → Bd 110 y → P (fr x y)
section
variable {P : Program} {w : World} {K : PySem.W.Frag} {mg : Str → Option Value} {base : Heap} {f : Addr} {fd : FuncData} {k : Nat}
theorem sc__law_some : FnScope ["hand", "things"] ["hand", "things"] (defScope s__law_some) := ⟨rfl, rfl, rfl, by decide +kernel, rfl, by decide +kernel, by decide +kernel⟩
theorem ok__law_some (Z : Env K mg) (C__law_draw : Cal P w K mg base k "_law_draw" 2 S__law_draw) (F : FnP K "_law_some" s__law_some f fd) : FnOk P w K mg base (L2.CX P w) (k + 1) f fd ["hand", "things"] (spS K mg 2 S__law_some) := fn_ok F sc__law_some fun cdv A outer s H E ws Q Y hr hS hl => by
  obtain ⟨ds, rfl, h0, h1, hQ⟩ := hS
  refine wb_one (ws_ret ?_)
  refine we_ix ?_
  refine we_slot 1 rfl (.inl rfl) rfl rfl ?_
  refine we_call C__law_draw hr (Nat.le_refl _) rfl ?_
  refine wa_cons ?_
  refine we_slot 0 rfl (.inl rfl) rfl rfl ?_
  refine ⟨rfl, ?_⟩
  refine wa_cons ?_
  refine we_len rfl Z.len ?_
  refine we_slot 1 rfl (.inl rfl) rfl rfl ?_
  refine ⟨_, rfl, ?_⟩
  refine ⟨rfl, ?_⟩
  refine wa_nil ?_
  refine ⟨rfl, rfl, ?_⟩
  refine ⟨_, rfl, by simp; omega, bd_len h1, fun n n0 n1 => ?_⟩
  obtain ⟨d, e1, e2⟩ := pick n0 n1
  exact ⟨_, _, _, rfl, rfl, e1, _, rfl, hQ d e2⟩
theorem sc__law_none : FnScope ["hand", "found", "turn"] ["hand"] (defScope s__law_none) := ⟨rfl, rfl, rfl, by decide +kernel, rfl, by decide +kernel, by decide +kernel⟩
theorem ok__law_none (Z : Env K mg) (C__law_draw : Cal P w K mg base k "_law_draw" 2 S__law_draw) (F : FnP K "_law_none" s__law_none f fd) : FnOk P w K mg base (L2.CX P w) (k + 1) f fd ["hand"] (spS K mg 1 S__law_none) := fn_ok F sc__law_none fun cdv A outer s H E ws Q Y hr hS hl => by
  obtain ⟨rfl, hQ⟩ := hS
  refine wb_cons (ws_asg 1 sc__law_none.nd rfl (.inl rfl) ?_)
  refine we_ix ?_
  refine we_lst ?_
  refine wa_cons ?_
  refine we_non ?_
  refine ⟨rfl, ?_⟩
  refine wa_cons ?_
  refine we_int ?_
  refine ⟨rfl, ?_⟩
  refine wa_cons ?_
  refine we_neg ?_
  refine we_int ?_
  refine ⟨_, rfl, ?_⟩
  refine ⟨rfl, ?_⟩
  refine wa_cons ?_
  refine we_dict0 ?_
  refine ⟨rfl, ?_⟩
  refine wa_cons ?_
  refine we_bl ?_
  refine ⟨rfl, ?_⟩
  refine wa_nil ?_
  refine ⟨_, rfl, by simp, ?_⟩
  refine we_call C__law_draw hr (Nat.le_refl _) rfl ?_
  refine wa_cons ?_
  refine we_slot 0 rfl (.inl rfl) rfl rfl ?_
  refine ⟨rfl, ?_⟩
  refine wa_cons ?_
  refine we_int ?_
  refine ⟨rfl, ?_⟩
  refine wa_nil ?_
  refine ⟨rfl, rfl, ?_⟩
  refine ⟨5, rfl, by decide, by unfold Bd; decide, fun n n0 n1 => ?_⟩
  obtain ⟨d0, e1, e2⟩ := pick (ds := [.non, .int 5, .int (-1), .dct [] [], .bl true]) n0 n1
  have ok0 : d0.ok = true := List.all_eq_true.mp (show [D.non, .int 5, .int (-1), .dct [] [], .bl true].all D.ok = true from rfl) d0 e2
  refine ⟨_, _, _, rfl, rfl, e1, ?_⟩
  refine ⟨_, rfl, ?_⟩
  refine wb_cons (ws_for (js := [2]) rfl (pg_name sc__law_none.nd rfl (.inl rfl)) tgt1 (show ∀ j ∈ ([2] : List Nat), j < 3 by decide) ?_)
  refine wi_range1 rfl Z.range ?_
  refine we_add ?_
  refine we_int ?_
  refine we_call C__law_draw hr (Nat.le_refl _) rfl ?_
  refine wa_cons ?_
  refine we_slot 0 rfl (.inl rfl) rfl rfl ?_
  refine ⟨rfl, ?_⟩
  refine wa_cons ?_
  refine we_int ?_
  refine ⟨rfl, ?_⟩
  refine wa_nil ?_
  refine ⟨rfl, rfl, ?_⟩
  refine ⟨24, rfl, by decide, by unfold Bd; decide, fun n n0 n1 => ?_⟩
  refine ⟨_, _, rfl, rfl, 5 + n, rfl, by omega, by omega, ?_⟩
  refine ⟨fun i ρ => ∃ d o2, d.ok = true ∧ (0 < i → wr d) ∧ free5 o2 ∧ ρ = [some .hnd, some (.val d), o2], ⟨d0, none, ok0, fun h => absurd h (by decide), .inl rfl, rfl⟩, ?_, ?_⟩
  · rintro i di ρ2 _ ⟨d, o2, hd, _, _, rfl⟩
    refine ⟨[di], rfl, ?_⟩
    refine wb_one (ws_asg 1 sc__law_none.nd rfl (.inl rfl) ?_)
    refine we_ix ?_
    refine we_lst ?_
    refine wa_cons ?_
    refine we_tup ?_
    refine wa_cons ?_
    refine we_slot 1 rfl (.inl rfl) rfl rfl ?_
    refine ⟨rfl, ?_⟩
    refine wa_nil ?_
    refine ⟨_, rfl, by simp, ?_⟩
    refine ⟨rfl, ?_⟩
    refine wa_cons ?_
    refine we_lst ?_
    refine wa_cons ?_
    refine we_slot 1 rfl (.inl rfl) rfl rfl ?_
    refine ⟨rfl, ?_⟩
    refine wa_nil ?_
    refine ⟨_, rfl, by simp, ?_⟩
    refine ⟨rfl, ?_⟩
    refine wa_cons ?_
    refine we_disp rfl rfl (by simp) (by simp) rfl ?_
    refine wd_cons ?_
    refine we_str ?_
    refine ⟨_, .inr "p", rfl, rfl, ?_⟩
    refine we_slot 1 rfl (.inl rfl) rfl rfl ?_
    refine ⟨_, rfl, ?_⟩
    refine wd_nil ?_
    refine ⟨by simp, by simp, ?_⟩
    refine ⟨rfl, ?_⟩
    refine wa_nil ?_
    refine ⟨_, rfl, by simp, ?_⟩
    refine we_call C__law_draw hr (Nat.le_refl _) rfl ?_
    refine wa_cons ?_
    refine we_slot 0 rfl (.inl rfl) rfl rfl ?_
    refine ⟨rfl, ?_⟩
    refine wa_cons ?_
    refine we_int ?_
    refine ⟨rfl, ?_⟩
    refine wa_nil ?_
    refine ⟨rfl, rfl, ?_⟩
    refine ⟨3, rfl, by decide, by unfold Bd; decide, fun n n0 n1 => ?_⟩
    obtain ⟨d2, e1, e2⟩ := pick (ds := [.tup [d], .lst [d], .dct [.inr "p"] [d]]) n0 n1
    refine ⟨_, _, _, rfl, rfl, e1, ?_⟩
    refine ⟨_, rfl, ?_⟩
    have hk : d2.ok = true ∧ wr d2 := by
      have h1 : (D.tup [d]).ok = true := by
        unfold D.ok D.oks D.oks
        rw [hd]
        rfl
      have h2 : (D.lst [d]).ok = true := by
        unfold D.ok D.oks D.oks
        rw [hd]
        rfl
      have h3 : (D.dct [.inr "p"] [d]).ok = true := by
        unfold D.ok D.oks D.oks
        rw [hd]
        rfl
      simp only [List.mem_cons, List.not_mem_nil, or_false] at e2
      rcases e2 with rfl | rfl | rfl
      · exact ⟨h1, .inl ⟨_, rfl⟩⟩
      · exact ⟨h2, .inr (.inl ⟨_, rfl⟩)⟩
      · exact ⟨h3, .inr (.inr ⟨_, _, rfl⟩)⟩
    exact ⟨d2, some (.val di), hk.1, fun _ => hk.2, .inr ⟨_, rfl⟩, rfl⟩
  · rintro ρ2 ⟨d, o2, hd, hw, ho, rfl⟩
    refine wb_one (ws_ret ?_)
    refine we_slot 1 rfl (.inl rfl) rfl rfl ?_
    exact ⟨_, rfl, hQ d (wr_ok (hw (by simp; omega)) hd)⟩
theorem sc__law_odd : FnScope ["hand", "some"] ["hand"] (defScope s__law_odd) := ⟨rfl, rfl, rfl, by decide +kernel, rfl, by decide +kernel, by decide +kernel⟩
theorem ok__law_odd (Z : Env K mg) (C__law_none : Cal P w K mg base k "_law_none" 1 S__law_none) (C__law_some : Cal P w K mg base k "_law_some" 2 S__law_some) (F : FnP K "_law_odd" s__law_odd f fd) : FnOk P w K mg base (L2.CX P w) (k + 1) f fd ["hand"] (spS K mg 1 S__law_odd) := fn_ok F sc__law_odd fun cdv A outer s H E ws Q Y hr hS hl => by
  obtain ⟨rfl, hQ⟩ := hS
  refine wb_cons (ws_asg 1 sc__law_odd.nd rfl (.inl rfl) ?_)
  refine we_lst ?_
  refine wa_cons ?_
  refine we_non ?_
  refine ⟨rfl, ?_⟩
  refine wa_cons ?_
  refine we_bl ?_
  refine ⟨rfl, ?_⟩
  refine wa_cons ?_
  refine we_bl ?_
  refine ⟨rfl, ?_⟩
  refine wa_cons ?_
  refine we_int ?_
  refine ⟨rfl, ?_⟩
  refine wa_cons ?_
  refine we_neg ?_
  refine we_int ?_
  refine ⟨_, rfl, ?_⟩
  refine ⟨rfl, ?_⟩
  refine wa_cons ?_
  refine we_pow ?_
  refine we_int ?_
  refine we_int ?_
  refine ⟨_, _, rfl, rfl, ⟨by decide, by decide, by decide⟩, ?_⟩
  refine ⟨rfl, ?_⟩
  refine wa_cons ?_
  refine we_neg ?_
  refine we_pow ?_
  refine we_int ?_
  refine we_int ?_
  refine ⟨_, _, rfl, rfl, ⟨by decide, by decide, by decide⟩, ?_⟩
  refine ⟨_, rfl, ?_⟩
  refine ⟨rfl, ?_⟩
  refine wa_cons ?_
  refine we_str ?_
  refine ⟨rfl, ?_⟩
  refine wa_cons ?_
  refine we_str ?_
  refine ⟨rfl, ?_⟩
  refine wa_cons ?_
  refine we_str ?_
  refine ⟨rfl, ?_⟩
  refine wa_cons ?_
  refine we_tup ?_
  refine wa_nil ?_
  refine ⟨_, rfl, by simp, ?_⟩
  refine ⟨rfl, ?_⟩
  refine wa_cons ?_
  refine we_lst ?_
  refine wa_nil ?_
  refine ⟨_, rfl, by simp, ?_⟩
  refine ⟨rfl, ?_⟩
  refine wa_cons ?_
  refine we_dict0 ?_
  refine ⟨rfl, ?_⟩
  refine wa_cons ?_
  refine we_tup ?_
  refine wa_cons ?_
  refine we_int ?_
  refine ⟨rfl, ?_⟩
  refine wa_nil ?_
  refine ⟨_, rfl, by simp, ?_⟩
  refine ⟨rfl, ?_⟩
  refine wa_cons ?_
  refine we_tup ?_
  refine wa_cons ?_
  refine we_str ?_
  refine ⟨rfl, ?_⟩
  refine wa_nil ?_
  refine ⟨_, rfl, by simp, ?_⟩
  refine ⟨rfl, ?_⟩
  refine wa_nil ?_
  refine ⟨_, rfl, by simp, ?_⟩
  refine ⟨_, rfl, ?_⟩
  refine wb_one (ws_ret ?_)
  refine we_call C__law_some hr (Nat.le_refl _) rfl ?_
  refine wa_cons ?_
  refine we_slot 0 rfl (.inl rfl) rfl rfl ?_
  refine ⟨rfl, ?_⟩
  refine wa_cons ?_
  refine we_cat ?_
  refine we_slot 1 rfl (.inl rfl) rfl rfl ?_
  refine we_lst ?_
  refine wa_cons ?_
  refine we_tup ?_
  refine wa_cons ?_
  refine we_str ?_
  refine ⟨rfl, ?_⟩
  refine wa_cons ?_
  refine we_tup ?_
  refine wa_nil ?_
  refine ⟨_, rfl, by simp, ?_⟩
  refine ⟨rfl, ?_⟩
  refine wa_nil ?_
  refine ⟨_, rfl, by simp, ?_⟩
  refine ⟨rfl, ?_⟩
  refine wa_cons ?_
  refine we_tup ?_
  refine wa_cons ?_
  refine we_str ?_
  refine ⟨rfl, ?_⟩
  refine wa_cons ?_
  refine we_lst ?_
  refine wa_nil ?_
  refine ⟨_, rfl, by simp, ?_⟩
  refine ⟨rfl, ?_⟩
  refine wa_nil ?_
  refine ⟨_, rfl, by simp, ?_⟩
  refine ⟨rfl, ?_⟩
  refine wa_cons ?_
  refine we_tup ?_
  refine wa_cons ?_
  refine we_int ?_
  refine ⟨rfl, ?_⟩
  refine wa_cons ?_
  refine we_int ?_
  refine ⟨rfl, ?_⟩
  refine wa_nil ?_
  refine ⟨_, rfl, by simp, ?_⟩
  refine ⟨rfl, ?_⟩
  refine wa_cons ?_
  refine we_tup ?_
  refine wa_cons ?_
  refine we_int ?_
  refine ⟨rfl, ?_⟩
  refine wa_cons ?_
  refine we_int ?_
  refine ⟨rfl, ?_⟩
  refine wa_nil ?_
  refine ⟨_, rfl, by simp, ?_⟩
  refine ⟨rfl, ?_⟩
  refine wa_cons ?_
  refine we_tup ?_
  refine wa_cons ?_
  refine we_int ?_
  refine ⟨rfl, ?_⟩
  refine wa_cons ?_
  refine we_int ?_
  refine ⟨rfl, ?_⟩
  refine wa_nil ?_
  refine ⟨_, rfl, by simp, ?_⟩
  refine ⟨rfl, ?_⟩
  refine wa_cons ?_
  refine we_call C__law_none hr (Nat.le_refl _) rfl ?_
  refine wa_cons ?_
  refine we_slot 0 rfl (.inl rfl) rfl rfl ?_
  refine ⟨rfl, ?_⟩
  refine wa_nil ?_
  refine ⟨rfl, rfl, ?_⟩
  refine ⟨rfl, fun d hd => ?_⟩
  refine ⟨rfl, ?_⟩
  refine wa_nil ?_
  refine ⟨_, rfl, by simp, ?_⟩
  refine ⟨_, _, rfl, rfl, by simp, ?_⟩
  refine ⟨rfl, ?_⟩
  refine wa_nil ?_
  refine ⟨rfl, rfl, ?_⟩
  refine ⟨_, rfl, by simp, by simp, fun e he => ?_⟩
  refine ⟨_, rfl, hQ e (List.all_eq_true.mp ?_ e he)⟩
  simp only [List.all_cons, List.all_nil, List.cons_append, List.nil_append, hd, Bool.and_true]
  rfl
theorem sc__law_whole : FnScope ["hand", "great"] ["hand"] (defScope s__law_whole) := ⟨rfl, rfl, rfl, by decide +kernel, rfl, by decide +kernel, by decide +kernel⟩
theorem ok__law_whole (Z : Env K mg) (C__law_some : Cal P w K mg base k "_law_some" 2 S__law_some) (F : FnP K "_law_whole" s__law_whole f fd) : FnOk P w K mg base (L2.CX P w) (k + 1) f fd ["hand"] (spS K mg 1 S__law_whole) := fn_ok F sc__law_whole fun cdv A outer s H E ws Q Y hr hS hl => by
  obtain ⟨rfl, hQ⟩ := hS
  refine wb_cons (ws_asg 1 sc__law_whole.nd rfl (.inl rfl) ?_)
  refine we_lst ?_
  refine wa_cons ?_
  refine we_pow ?_
  refine we_int ?_
  refine we_int ?_
  refine ⟨_, _, rfl, rfl, ⟨by decide, by decide, by decide⟩, ?_⟩
  refine ⟨rfl, ?_⟩
  refine wa_cons ?_
  refine we_add ?_
  refine we_pow ?_
  refine we_int ?_
  refine we_int ?_
  refine ⟨_, _, rfl, rfl, ⟨by decide, by decide, by decide⟩, ?_⟩
  refine we_int ?_
  refine ⟨_, _, rfl, rfl, ?_⟩
  refine ⟨rfl, ?_⟩
  refine wa_cons ?_
  refine we_neg ?_
  refine we_pow ?_
  refine we_int ?_
  refine we_int ?_
  refine ⟨_, _, rfl, rfl, ⟨by decide, by decide, by decide⟩, ?_⟩
  refine ⟨_, rfl, ?_⟩
  refine ⟨rfl, ?_⟩
  refine wa_cons ?_
  refine we_sub ?_
  refine we_mulS ?_
  refine we_int ?_
  refine we_pow ?_
  refine we_int ?_
  refine we_int ?_
  refine ⟨_, _, rfl, rfl, ⟨by decide, by decide, by decide⟩, ?_⟩
  refine ⟨_, _, rfl, rfl, .inl ⟨by decide, by decide⟩, ?_⟩
  refine we_int ?_
  refine ⟨_, _, rfl, rfl, ?_⟩
  refine ⟨rfl, ?_⟩
  refine wa_nil ?_
  refine ⟨_, rfl, by simp, ?_⟩
  refine ⟨_, rfl, ?_⟩
  refine wb_one (ws_ret ?_)
  refine we_call C__law_some hr (Nat.le_refl _) rfl ?_
  refine wa_cons ?_
  refine we_slot 0 rfl (.inl rfl) rfl rfl ?_
  refine ⟨rfl, ?_⟩
  refine wa_cons ?_
  refine we_cat ?_
  refine we_lst ?_
  refine wa_cons ?_
  refine we_int ?_
  refine ⟨rfl, ?_⟩
  refine wa_cons ?_
  refine we_int ?_
  refine ⟨rfl, ?_⟩
  refine wa_cons ?_
  refine we_neg ?_
  refine we_int ?_
  refine ⟨_, rfl, ?_⟩
  refine ⟨rfl, ?_⟩
  refine wa_cons ?_
  refine we_int ?_
  refine ⟨rfl, ?_⟩
  refine wa_cons ?_
  refine we_neg ?_
  refine we_int ?_
  refine ⟨_, rfl, ?_⟩
  refine ⟨rfl, ?_⟩
  refine wa_cons ?_
  refine we_int ?_
  refine ⟨rfl, ?_⟩
  refine wa_cons ?_
  refine we_int ?_
  refine ⟨rfl, ?_⟩
  refine wa_cons ?_
  refine we_neg ?_
  refine we_int ?_
  refine ⟨_, rfl, ?_⟩
  refine ⟨rfl, ?_⟩
  refine wa_cons ?_
  refine we_int ?_
  refine ⟨rfl, ?_⟩
  refine wa_cons ?_
  refine we_int ?_
  refine ⟨rfl, ?_⟩
  refine wa_cons ?_
  refine we_neg ?_
  refine we_int ?_
  refine ⟨_, rfl, ?_⟩
  refine ⟨rfl, ?_⟩
  refine wa_nil ?_
  refine ⟨_, rfl, by simp, ?_⟩
  refine we_slot 1 rfl (.inl rfl) rfl rfl ?_
  refine ⟨_, _, rfl, rfl, by simp, ?_⟩
  refine ⟨rfl, ?_⟩
  refine wa_nil ?_
  refine ⟨rfl, rfl, ?_⟩
  refine ⟨_, rfl, by simp, by simp, fun e he => ?_⟩
  have hb : intB 110 e = true := List.all_eq_true.mp (show List.all _ (intB 110) = true from rfl) e he
  cases e with
  | int i => exact ⟨_, rfl, hQ i (show i.natAbs < 2 ^ 110 from of_decide_eq_true hb)⟩
  | _ => cases hb
theorem sc__law_low : FnScope ["top", "bottom", "one", "other"] ["top", "bottom"] (defScope s__law_low) := ⟨rfl, rfl, rfl, by decide +kernel, rfl, by decide +kernel, by decide +kernel⟩
theorem ok__law_low (Z : Env K mg)  (F : FnP K "_law_low" s__law_low f fd) : FnOk P w K mg base (L2.CX P w) (k + 1) f fd ["top", "bottom"] (spS K mg 2 S__law_low) := fn_ok F sc__law_low fun cdv A outer s H E ws Q Y hr hS hl => by
  obtain ⟨a, b, rfl, hb, hB, hQ⟩ := hS
  refine wb_cons (ws_par 2 3 rfl sc__law_low.nd rfl rfl (by decide) rfl rfl ?_)
  refine we_abs rfl Z.abs ?_
  refine we_slot 0 rfl (.inl rfl) rfl rfl ?_
  refine ⟨_, rfl, ?_⟩
  refine ⟨_, rfl, ?_⟩
  refine we_abs rfl Z.abs ?_
  refine we_slot 1 rfl (.inl rfl) rfl rfl ?_
  refine ⟨_, rfl, ?_⟩
  refine ⟨_, rfl, ?_⟩
  have g0 : gcdI a b ≠ 0 := by
    unfold gcdI
    intro q
    have := Int.gcd_eq_zero_iff.mp (Int.ofNat.inj q)
    exact hb this.2
  have gB : Bd 8000 (gcdI a b) := by
    unfold Bd gcdI at *
    have : Int.gcd a b ≤ b.natAbs := Nat.gcd_le_right _ (Int.natAbs_pos.mpr hb)
    simp only [Int.natAbs_natCast]
    omega
  have eg : gcdI (a.natAbs : Int) (b.natAbs : Int) = gcdI a b := by
    unfold gcdI Int.gcd
    simp
  refine wb_cons (ws_while (fun m ρ => ∃ x y : Int, ρ = [some (.val (.int a)), some (.val (.int b)), some (.val (.int x)), some (.val (.int y))] ∧ 0 ≤ x ∧ 0 ≤ y ∧ m = y.toNat ∧ gcdI x y = gcdI a b) b.natAbs ⟨_, _, rfl, by omega, by omega, by omega, eg⟩ ?_)
  rintro m ρ1 ⟨x, y, rfl, hx, hy, rfl, hg⟩
  refine wt_cmpI op_gt (nomark _) ?_
  refine we_slot 3 rfl (.inl rfl) rfl rfl ?_
  refine we_int ?_
  refine ⟨_, _, rfl, rfl, ?_⟩
  by_cases h : y > 0
  · refine iteT (by simpa using h) ?_
    refine wb_one (ws_par 2 3 rfl sc__law_low.nd rfl rfl (by decide) rfl rfl ?_)
    refine we_slot 3 rfl (.inl rfl) rfl rfl ?_
    refine ⟨_, rfl, ?_⟩
    refine we_mod ?_
    refine we_intI rfl Z.int ?_
    refine we_slot 2 rfl (.inl rfl) rfl rfl ?_
    refine ⟨_, rfl, ?_⟩
    refine we_slot 3 rfl (.inl rfl) rfl rfl ?_
    refine ⟨_, _, rfl, rfl, by omega, ?_⟩
    refine ⟨_, rfl, ?_⟩
    have h2 := fmod_in (a := x) h
    exact ⟨(x.fmod y).toNat, by omega, y, x.fmod y, rfl, hy, h2.1, rfl, by rw [gcd_step x y hx h, hg]⟩
  · refine iteF (by simpa using h) ?_
    have y0 : y = 0 := by omega
    subst y0
    have ex : x = gcdI a b := by
      rw [← hg]
      unfold gcdI
      rw [Int.gcd_zero_right]
      omega
    subst ex
    refine wb_cons (ws_asg 2 sc__law_low.nd rfl (.inl rfl) ?_)
    refine we_if ?_
    refine wt_cmpI op_gt (nomark _) ?_
    refine we_slot 1 rfl (.inl rfl) rfl rfl ?_
    refine we_int ?_
    refine ⟨_, _, rfl, rfl, ?_⟩
    by_cases hp : b > 0
    · refine iteT (by simpa using hp) ?_
      refine we_slot 2 rfl (.inl rfl) rfl rfl ?_
      refine ⟨_, rfl, ?_⟩
      refine wb_one (ws_ret ?_)
      refine we_tup ?_
      refine wa_cons ?_
      refine we_fdiv ?_
      refine we_slot 0 rfl (.inl rfl) rfl rfl ?_
      refine we_slot 2 rfl (.inl rfl) rfl rfl ?_
      refine ⟨_, _, rfl, rfl, gB.cdiv _ g0 (by decide) (by decide), ?_⟩
      refine ⟨rfl, ?_⟩
      refine wa_cons ?_
      refine we_fdiv ?_
      refine we_slot 1 rfl (.inl rfl) rfl rfl ?_
      refine we_slot 2 rfl (.inl rfl) rfl rfl ?_
      refine ⟨_, _, rfl, rfl, gB.cdiv _ g0 (by decide) (by decide), ?_⟩
      refine ⟨rfl, ?_⟩
      refine wa_nil ?_
      refine ⟨_, rfl, by simp, ?_⟩
      refine ⟨_, rfl, ?_⟩
      unfold low at hQ
      rw [if_neg (by omega)] at hQ
      exact hQ
    · refine iteF (by simpa using hp) ?_
      refine we_neg ?_
      refine we_slot 2 rfl (.inl rfl) rfl rfl ?_
      refine ⟨_, rfl, ?_⟩
      refine ⟨_, rfl, ?_⟩
      refine wb_one (ws_ret ?_)
      refine we_tup ?_
      refine wa_cons ?_
      refine we_fdiv ?_
      refine we_slot 0 rfl (.inl rfl) rfl rfl ?_
      refine we_slot 2 rfl (.inl rfl) rfl rfl ?_
      refine ⟨_, _, rfl, rfl, gB.neg.cdiv _ (by omega) (by decide) (by decide), ?_⟩
      refine ⟨rfl, ?_⟩
      refine wa_cons ?_
      refine we_fdiv ?_
      refine we_slot 1 rfl (.inl rfl) rfl rfl ?_
      refine we_slot 2 rfl (.inl rfl) rfl rfl ?_
      refine ⟨_, _, rfl, rfl, gB.neg.cdiv _ (by omega) (by decide) (by decide), ?_⟩
      refine ⟨rfl, ?_⟩
      refine wa_nil ?_
      refine ⟨_, rfl, by simp, ?_⟩
      refine ⟨_, rfl, ?_⟩
      unfold low at hQ
      rw [if_pos (by omega)] at hQ
      exact hQ
theorem sc__law_part : FnScope ["hand", "bottom"] ["hand"] (defScope s__law_part) := ⟨rfl, rfl, rfl, by decide +kernel, rfl, by decide +kernel, by decide +kernel⟩
theorem ok__law_part (Z : Env K mg) (C__law_low : Cal P w K mg base k "_law_low" 2 S__law_low) (C__law_some : Cal P w K mg base k "_law_some" 2 S__law_some) (C__law_whole : Cal P w K mg base k "_law_whole" 1 S__law_whole) (F : FnP K "_law_part" s__law_part f fd) : FnOk P w K mg base (L2.CX P w) (k + 1) f fd ["hand"] (spS K mg 1 S__law_part) := fn_ok F sc__law_part fun cdv A outer s H E ws Q Y hr hS hl => by
  obtain ⟨rfl, hQ⟩ := hS
  refine wb_cons (ws_asg 1 sc__law_part.nd rfl (.inl rfl) ?_)
  refine we_call C__law_some hr (Nat.le_refl _) rfl ?_
  refine wa_cons ?_
  refine we_slot 0 rfl (.inl rfl) rfl rfl ?_
  refine ⟨rfl, ?_⟩
  refine wa_cons ?_
  refine we_lst ?_
  refine wa_cons ?_
  refine we_int ?_
  refine ⟨rfl, ?_⟩
  refine wa_cons ?_
  refine we_int ?_
  refine ⟨rfl, ?_⟩
  refine wa_cons ?_
  refine we_int ?_
  refine ⟨rfl, ?_⟩
  refine wa_cons ?_
  refine we_int ?_
  refine ⟨rfl, ?_⟩
  refine wa_cons ?_
  refine we_int ?_
  refine ⟨rfl, ?_⟩
  refine wa_cons ?_
  refine we_int ?_
  refine ⟨rfl, ?_⟩
  refine wa_cons ?_
  refine we_int ?_
  refine ⟨rfl, ?_⟩
  refine wa_cons ?_
  refine we_int ?_
  refine ⟨rfl, ?_⟩
  refine wa_cons ?_
  refine we_pow ?_
  refine we_int ?_
  refine we_int ?_
  refine ⟨_, _, rfl, rfl, ⟨by decide, by decide, by decide⟩, ?_⟩
  refine ⟨rfl, ?_⟩
  refine wa_cons ?_
  refine we_add ?_
  refine we_pow ?_
  refine we_int ?_
  refine we_int ?_
  refine ⟨_, _, rfl, rfl, ⟨by decide, by decide, by decide⟩, ?_⟩
  refine we_int ?_
  refine ⟨_, _, rfl, rfl, ?_⟩
  refine ⟨rfl, ?_⟩
  refine wa_nil ?_
  refine ⟨_, rfl, by simp, ?_⟩
  refine ⟨rfl, ?_⟩
  refine wa_nil ?_
  refine ⟨rfl, rfl, ?_⟩
  refine ⟨_, rfl, by simp, by simp, fun e he => ?_⟩
  have hb : posB 110 e = true := List.all_eq_true.mp (show List.all _ (posB 110) = true from rfl) e he
  obtain ⟨b, rfl, b1, b2⟩ : ∃ b : Int, e = .int b ∧ Bd 110 b ∧ 0 < b := by
    cases e with
    | int i =>
      have hb : (decide (i.natAbs < 2 ^ 110) && decide (0 < i)) = true := hb
      rw [Bool.and_eq_true] at hb
      exact ⟨i, rfl, show i.natAbs < 2 ^ 110 from of_decide_eq_true hb.1, of_decide_eq_true hb.2⟩
    | _ => cases hb
  refine ⟨_, rfl, ?_⟩
  refine wb_one (ws_ret ?_)
  refine we_call C__law_low hr (Nat.le_refl _) rfl ?_
  refine wa_cons ?_
  refine we_call C__law_whole hr (Nat.le_refl _) rfl ?_
  refine wa_cons ?_
  refine we_slot 0 rfl (.inl rfl) rfl rfl ?_
  refine ⟨rfl, ?_⟩
  refine wa_nil ?_
  refine ⟨rfl, rfl, ?_⟩
  refine ⟨rfl, fun i hi => ?_⟩
  refine ⟨rfl, ?_⟩
  refine wa_cons ?_
  refine we_slot 1 rfl (.inl rfl) rfl rfl ?_
  refine ⟨rfl, ?_⟩
  refine wa_nil ?_
  refine ⟨rfl, rfl, ?_⟩
  refine ⟨_, _, rfl, by omega, b1.mono (by decide), ?_⟩
  obtain ⟨x, y, e, hy, hg, l1, l2, _⟩ := low_isFr (a := i) (b := b) (by omega)
  rw [e]
  exact ⟨_, rfl, hQ x y hy hg (Nat.lt_of_le_of_lt l1 hi) (Nat.lt_of_le_of_lt l2 b1)⟩
end
end K02

namespace K02
open PySem PySem.Spec PyProof.Rows L2 PL
variable [Hand]
theorem okTb_pair {d e : D} (hd : okTb d = true) (he : okTb e = true) : okTb (.tup [d, e]) = true := by
  have h1 := okTb_ok hd
  have h2 := okTb_ok he
  have h3 : (D.tup [d, e]).ok = true := by
    unfold D.ok D.oks D.oks D.oks
    rw [h1, h2]
    rfl
  unfold okTb
  rw [h3]
  split
  · rename_i q
    cases q
  · rename_i a b q
    cases q
    unfold okTb at hd he
    rw [Bool.and_eq_true] at hd he
    have a1 : decide (a.natAbs < 2 ^ 200) = true := hd.2
    have b1 : decide (b.natAbs < 2 ^ 200) = true := he.2
    rw [a1, b1]
    rfl
  · rfl
theorem okTb_int {a : Int} (h : Bd 110 a) : okTb (.int a) = true := by
  unfold okTb
  rw [Bool.and_eq_true]
  exact ⟨rfl, decide_eq_true (Bd.mono h (by decide))⟩
def isb : Nat → D → Bool
  | _, .non => true
  | _, .bl _ => true
  | _, .int _ => true
  | _, .str _ => true
  | n + 1, .tup xs => decide (xs.length ≤ 100) && xs.all (isb n)
  | n + 1, .lst xs => decide (xs.length ≤ 100) && xs.all (isb n)
  | _, _ => false
def S_is (n : Nat) : Sem1 := fun ws P Y => ∃ d, ws = [.val d, .val d] ∧ isb n d = true ∧ P (.bl true)
def S__law_is_part : Sem1 := fun ws P Y => ∃ d, ws = [.val d] ∧ okTb d = true ∧ P (.bl (isFr d))
def S__law_sum : Sem1 := fun ws P Y => ∃ a b c d : Int, ws = [.val (.lst [fr a b, fr c d])] ∧ 0 < b ∧ 0 < d ∧ gcdI a b = 1 ∧ Bd 110 a ∧ Bd 110 b ∧ Bd 110 c ∧ Bd 110 d ∧ P (low (a * d + c * b) (b * d))
theorem zipself {xs : List D} {it : D} (h : it ∈ List.zipWith (fun x y => D.tup [x, y]) xs xs) : ∃ x, x ∈ xs ∧ it = .tup [x, x] := by
  obtain ⟨i, hi, e⟩ := List.mem_iff_getElem.mp h
  rw [List.getElem_zipWith] at e
  have hl : i < xs.length := by
    rw [List.length_zipWith] at hi
    omega
  exact ⟨xs[i], List.getElem_mem hl, e.symm⟩
section
variable {P : Program} {w : World} {K : PySem.W.Frag} {mg : Str → Option Value} {base : Heap} {f : Addr} {fd : FuncData} {k : Nat}
theorem sc__law_bent : FnScope ["hand", "thing", "at", "some"] ["hand", "thing"] (defScope s__law_bent) := ⟨rfl, rfl, rfl, by decide +kernel, rfl, by decide +kernel, by decide +kernel⟩
theorem ok_bent0 (Z : Env K mg) (C__law_odd : Cal P w K mg base k "_law_odd" 1 S__law_odd) (C__law_some : Cal P w K mg base k "_law_some" 2 S__law_some) (F : FnP K "_law_bent" s__law_bent f fd) : FnOk P w K mg base (L2.CX P w) (k + 1) f fd ["hand", "thing"] (spS K mg 2 S_bent0) := fn_ok F sc__law_bent fun cdv A outer s H E ws Q Y hr hS hl => by
  obtain ⟨i, rfl, hQ⟩ := hS
  refine wb_cons (ws_if ?_)
  refine wt_of ?_
  refine ww_or ?_
  refine wt_not ?_
  refine wt_val ?_
  refine we_isTup rfl Z.isinstance rfl Z.tuple ?_
  refine we_slot 1 rfl (.inl rfl) rfl rfl ?_
  refine ⟨_, rfl, rfl, ?_⟩
  refine ⟨_, rfl, ?_⟩
  refine iteT rfl ?_
  refine iteT rfl ?_
  refine wb_cons (ws_asg 3 sc__law_bent.nd rfl (.inl rfl) ?_)
  refine we_lst ?_
  refine wa_cons ?_
  refine we_call C__law_odd hr (Nat.le_refl _) rfl ?_
  refine wa_cons ?_
  refine we_slot 0 rfl (.inl rfl) rfl rfl ?_
  refine ⟨rfl, ?_⟩
  refine wa_nil ?_
  refine ⟨rfl, rfl, ?_⟩
  refine ⟨rfl, fun d1 h1 => ?_⟩
  refine ⟨rfl, ?_⟩
  refine wa_cons ?_
  refine we_call C__law_odd hr (Nat.le_refl _) rfl ?_
  refine wa_cons ?_
  refine we_slot 0 rfl (.inl rfl) rfl rfl ?_
  refine ⟨rfl, ?_⟩
  refine wa_nil ?_
  refine ⟨rfl, rfl, ?_⟩
  refine ⟨rfl, fun d2 h2 => ?_⟩
  refine ⟨rfl, ?_⟩
  refine wa_nil ?_
  refine ⟨_, rfl, by simp, ?_⟩
  refine ⟨_, rfl, ?_⟩
  refine wb_cons (ws_if ?_)
  refine wt_val ?_
  refine we_isTup rfl Z.isinstance rfl Z.tuple ?_
  refine we_slot 1 rfl (.inl rfl) rfl rfl ?_
  refine ⟨_, rfl, rfl, ?_⟩
  refine ⟨_, rfl, ?_⟩
  refine iteF rfl ?_
  refine wb_nil ?_
  refine wb_one (ws_ret ?_)
  refine we_call C__law_some hr (Nat.le_refl _) rfl ?_
  refine wa_cons ?_
  refine we_slot 0 rfl (.inl rfl) rfl rfl ?_
  refine ⟨rfl, ?_⟩
  refine wa_cons ?_
  refine we_slot 3 rfl (.inl rfl) rfl rfl ?_
  refine ⟨rfl, ?_⟩
  refine wa_nil ?_
  refine ⟨rfl, rfl, ?_⟩
  refine ⟨_, rfl, by simp, by simp, fun e he => ?_⟩
  refine ⟨_, rfl, ?_⟩
  refine hQ e ?_
  simp only [List.mem_cons, List.not_mem_nil, or_false] at he
  rcases he with rfl | rfl
  · exact h1
  · exact h2
theorem ok__law_bent (Z : Env K mg) (C__law_odd : Cal P w K mg base k "_law_odd" 1 S__law_odd) (C__law_some : Cal P w K mg base k "_law_some" 2 S__law_some) (C__law_draw : Cal P w K mg base k "_law_draw" 2 S__law_draw) (C__law_bent : Cal P w K mg base k "_law_bent" 2 S_bent0) (F : FnP K "_law_bent" s__law_bent f fd) : FnOk P w K mg base (L2.CX P w) (k + 1) f fd ["hand", "thing"] (spS K mg 2 S__law_bent) := fn_ok F sc__law_bent fun cdv A outer s H E ws Q Y hr hS hl => by
  obtain ⟨a, b, rfl, ha, hb, hQ⟩ := hS
  refine wb_cons (ws_if ?_)
  refine wt_of (ww_or ?_)
  refine wt_not ?_
  refine wt_val ?_
  refine we_isTup rfl Z.isinstance rfl Z.tuple ?_
  refine we_slot 1 rfl (.inl rfl) rfl rfl ?_
  refine ⟨_, rfl, rfl, ?_⟩
  refine ⟨_, rfl, ?_⟩
  refine iteF rfl ?_
  refine ww_or ?_
  refine wt_eqS ?_
  refine we_len rfl Z.len ?_
  refine we_slot 1 rfl (.inl rfl) rfl rfl ?_
  refine ⟨_, rfl, ?_⟩
  refine we_int ?_
  refine ⟨_, _, _, _, rfl, rfl, rfl, rfl, rfl, ?_⟩
  refine iteF rfl ?_
  refine ww_or1 ?_
  refine wt_eqS ?_
  refine we_call C__law_draw hr (Nat.le_refl _) rfl ?_
  refine wa_cons ?_
  refine we_slot 0 rfl (.inl rfl) rfl rfl ?_
  refine ⟨rfl, ?_⟩
  refine wa_cons ?_
  refine we_int ?_
  refine ⟨rfl, ?_⟩
  refine wa_nil ?_
  refine ⟨rfl, rfl, ?_⟩
  refine ⟨5, rfl, by decide, by unfold Bd; decide, fun n n0 n1 => ?_⟩
  refine we_int ?_
  refine ⟨_, _, _, _, rfl, rfl, rfl, rfl, rfl, ?_⟩
  refine iteI (fun _ => ?_) (fun _ => ?_)
  · refine wb_cons (ws_asg 3 sc__law_bent.nd rfl (.inl rfl) ?_)
    refine we_lst ?_
    refine wa_cons ?_
    refine we_call C__law_odd hr (Nat.le_refl _) rfl ?_
    refine wa_cons ?_
    refine we_slot 0 rfl (.inl rfl) rfl rfl ?_
    refine ⟨rfl, ?_⟩
    refine wa_nil ?_
    refine ⟨rfl, rfl, ?_⟩
    refine ⟨rfl, fun d1 h1 => ?_⟩
    refine ⟨rfl, ?_⟩
    refine wa_cons ?_
    refine we_call C__law_odd hr (Nat.le_refl _) rfl ?_
    refine wa_cons ?_
    refine we_slot 0 rfl (.inl rfl) rfl rfl ?_
    refine ⟨rfl, ?_⟩
    refine wa_nil ?_
    refine ⟨rfl, rfl, ?_⟩
    refine ⟨rfl, fun d2 h2 => ?_⟩
    refine ⟨rfl, ?_⟩
    refine wa_nil ?_
    refine ⟨_, rfl, by simp, ?_⟩
    refine ⟨_, rfl, ?_⟩
    refine wb_cons (ws_if ?_)
    refine wt_val ?_
    refine we_isTup rfl Z.isinstance rfl Z.tuple ?_
    refine we_slot 1 rfl (.inl rfl) rfl rfl ?_
    refine ⟨_, rfl, rfl, ?_⟩
    refine ⟨_, rfl, ?_⟩
    refine iteT rfl ?_
    refine wb_one (ws_asg 3 sc__law_bent.nd rfl (.inl rfl) ?_)
    refine we_cat ?_
    refine we_slot 3 rfl (.inl rfl) rfl rfl ?_
    refine we_lst ?_
    refine wa_cons ?_
    refine we_listOf rfl Z.list ?_
    refine we_slot 1 rfl (.inl rfl) rfl rfl ?_
    refine ⟨_, rfl, ?_⟩
    refine ⟨rfl, ?_⟩
    refine wa_cons ?_
    refine we_slT ?_
    refine we_slot 1 rfl (.inl rfl) rfl rfl ?_
    refine we_neg ?_
    refine we_int ?_
    refine ⟨_, rfl, ?_⟩
    refine ⟨_, rfl, ?_⟩
    refine ⟨_, rfl, ?_⟩
    refine ⟨rfl, ?_⟩
    refine wa_cons ?_
    refine we_catT ?_
    refine we_slot 1 rfl (.inl rfl) rfl rfl ?_
    refine we_tup ?_
    refine wa_cons ?_
    refine we_int ?_
    refine ⟨rfl, ?_⟩
    refine wa_nil ?_
    refine ⟨_, rfl, by simp, ?_⟩
    refine ⟨_, _, rfl, rfl, by first | (simp; done) | exact Nat.le_of_ble_eq_true rfl, ?_⟩
    refine ⟨rfl, ?_⟩
    refine wa_nil ?_
    refine ⟨_, rfl, by simp, ?_⟩
    refine ⟨_, _, rfl, rfl, by first | (simp; done) | exact Nat.le_of_ble_eq_true rfl, ?_⟩
    refine ⟨_, rfl, ?_⟩
    refine wb_one (ws_ret ?_)
    refine we_call C__law_some hr (Nat.le_refl _) rfl ?_
    refine wa_cons ?_
    refine we_slot 0 rfl (.inl rfl) rfl rfl ?_
    refine ⟨rfl, ?_⟩
    refine wa_cons ?_
    refine we_slot 3 rfl (.inl rfl) rfl rfl ?_
    refine ⟨rfl, ?_⟩
    refine wa_nil ?_
    refine ⟨rfl, rfl, ?_⟩
    refine ⟨_, rfl, by simp, by simp, fun e he => ?_⟩
    refine ⟨_, rfl, ?_⟩
    refine hQ e (List.all_eq_true.mp ?_ e he)
    simp only [List.all_cons, List.all_nil, List.cons_append, List.nil_append, h1, h2, Bool.and_true, Bool.true_and]
    rfl
  · refine wb_nil ?_
    refine wb_cons (ws_asg 2 sc__law_bent.nd rfl (.inl rfl) ?_)
    refine we_call C__law_draw hr (Nat.le_refl _) rfl ?_
    refine wa_cons ?_
    refine we_slot 0 rfl (.inl rfl) rfl rfl ?_
    refine ⟨rfl, ?_⟩
    refine wa_cons ?_
    refine we_len rfl Z.len ?_
    refine we_slot 1 rfl (.inl rfl) rfl rfl ?_
    refine ⟨_, rfl, ?_⟩
    refine ⟨rfl, ?_⟩
    refine wa_nil ?_
    refine ⟨rfl, rfl, ?_⟩
    refine ⟨2, rfl, by decide, by unfold Bd; decide, fun n n0 n1 => ?_⟩
    refine ⟨_, rfl, ?_⟩
    have hn : n = 0 ∨ n = 1 := by omega
    rcases hn with rfl | rfl
    · refine wb_one (ws_ret ?_)
      refine we_catT ?_
      refine we_catT ?_
      refine we_slT ?_
      refine we_slot 1 rfl (.inl rfl) rfl rfl ?_
      refine we_slot 2 rfl (.inl rfl) rfl rfl ?_
      refine ⟨_, rfl, ?_⟩
      refine ⟨_, rfl, ?_⟩
      refine we_tup ?_
      refine wa_cons ?_
      refine we_call C__law_bent hr (Nat.le_refl _) rfl ?_
      refine wa_cons ?_
      refine we_slot 0 rfl (.inl rfl) rfl rfl ?_
      refine ⟨rfl, ?_⟩
      refine wa_cons ?_
      refine we_ix ?_
      refine we_slot 1 rfl (.inl rfl) rfl rfl ?_
      refine we_slot 2 rfl (.inl rfl) rfl rfl ?_
      refine ⟨_, _, _, rfl, rfl, rfl, ?_⟩
      refine ⟨rfl, ?_⟩
      refine wa_nil ?_
      refine ⟨rfl, rfl, ?_⟩
      refine ⟨a, rfl, fun e he => ?_⟩
      refine ⟨rfl, ?_⟩
      refine wa_nil ?_
      refine ⟨_, rfl, by simp, ?_⟩
      refine ⟨_, _, rfl, rfl, by first | (simp; done) | exact Nat.le_of_ble_eq_true rfl, ?_⟩
      refine we_slT ?_
      refine we_slot 1 rfl (.inl rfl) rfl rfl ?_
      refine we_add ?_
      refine we_slot 2 rfl (.inl rfl) rfl rfl ?_
      refine we_int ?_
      refine ⟨_, _, rfl, rfl, ?_⟩
      refine ⟨_, rfl, ?_⟩
      refine ⟨_, rfl, ?_⟩
      refine ⟨_, _, rfl, rfl, by first | (simp; done) | exact Nat.le_of_ble_eq_true rfl, ?_⟩
      refine ⟨_, rfl, ?_⟩
      refine hQ _ ?_
      exact okTb_pair he (okTb_int hb)
    · refine wb_one (ws_ret ?_)
      refine we_catT ?_
      refine we_catT ?_
      refine we_slT ?_
      refine we_slot 1 rfl (.inl rfl) rfl rfl ?_
      refine we_slot 2 rfl (.inl rfl) rfl rfl ?_
      refine ⟨_, rfl, ?_⟩
      refine ⟨_, rfl, ?_⟩
      refine we_tup ?_
      refine wa_cons ?_
      refine we_call C__law_bent hr (Nat.le_refl _) rfl ?_
      refine wa_cons ?_
      refine we_slot 0 rfl (.inl rfl) rfl rfl ?_
      refine ⟨rfl, ?_⟩
      refine wa_cons ?_
      refine we_ix ?_
      refine we_slot 1 rfl (.inl rfl) rfl rfl ?_
      refine we_slot 2 rfl (.inl rfl) rfl rfl ?_
      refine ⟨_, _, _, rfl, rfl, rfl, ?_⟩
      refine ⟨rfl, ?_⟩
      refine wa_nil ?_
      refine ⟨rfl, rfl, ?_⟩
      refine ⟨b, rfl, fun e he => ?_⟩
      refine ⟨rfl, ?_⟩
      refine wa_nil ?_
      refine ⟨_, rfl, by simp, ?_⟩
      refine ⟨_, _, rfl, rfl, by first | (simp; done) | exact Nat.le_of_ble_eq_true rfl, ?_⟩
      refine we_slT ?_
      refine we_slot 1 rfl (.inl rfl) rfl rfl ?_
      refine we_add ?_
      refine we_slot 2 rfl (.inl rfl) rfl rfl ?_
      refine we_int ?_
      refine ⟨_, _, rfl, rfl, ?_⟩
      refine ⟨_, rfl, ?_⟩
      refine ⟨_, rfl, ?_⟩
      refine ⟨_, _, rfl, rfl, by first | (simp; done) | exact Nat.le_of_ble_eq_true rfl, ?_⟩
      refine ⟨_, rfl, ?_⟩
      refine hQ _ ?_
      exact okTb_pair (okTb_int ha) he
theorem sc__law_is : FnScope ["told", "due", "key", "one", "two"] ["told", "due"] (defScope s__law_is) := ⟨rfl, rfl, rfl, by decide +kernel, rfl, by decide +kernel, by decide +kernel⟩
theorem ok__law_is (Z : Env K mg)  (F : FnP K "_law_is" s__law_is f fd) (n : Nat) (C : n = 0 ∨ ∃ m, n = m + 1 ∧ Cal P w K mg base k "_law_is" 2 (S_is m)) : FnOk P w K mg base (L2.CX P w) (k + 1) f fd ["told", "due"] (spS K mg 2 (S_is n)) := fn_ok F sc__law_is fun cdv A outer s H E ws Q Y hr hS hl => by
  obtain ⟨d, rfl, hd, hQ⟩ := hS
  have atoms : (∃ u, d.sc = some u) → Q (.bl true) → True := fun _ _ => trivial
  cases d with
  | ro _ => cases n <;> cases hd
  | dct _ _ => cases n <;> cases hd
  | fn _ => cases n <;> cases hd
  | tup xs =>
    rcases C with rfl | ⟨m, rfl, C__law_is⟩
    · cases hd
    have hd : (decide (xs.length ≤ 100) && xs.all (isb m)) = true := hd
    rw [Bool.and_eq_true] at hd
    have hl100 : xs.length ≤ 100 := of_decide_eq_true hd.1
    refine wb_cons (ws_if ?_)
    refine wt_val ?_
    refine we_isTL rfl Z.isinstance rfl Z.tuple rfl Z.list ?_
    refine we_slot 1 rfl (.inr (.inl rfl)) rfl rfl ?_
    refine ⟨_, rfl, rfl, ?_⟩
    refine ⟨_, rfl, ?_⟩
    refine iteT rfl ?_
    refine wb_cons (ws_if ?_)
    refine wt_of ?_
    refine ww_or ?_
    refine wt_neS ?_
    refine we_isTup rfl Z.isinstance rfl Z.tuple ?_
    refine we_slot 0 rfl (.inr (.inl rfl)) rfl rfl ?_
    refine ⟨_, rfl, rfl, ?_⟩
    refine we_isTup rfl Z.isinstance rfl Z.tuple ?_
    refine we_slot 1 rfl (.inr (.inl rfl)) rfl rfl ?_
    refine ⟨_, rfl, rfl, ?_⟩
    refine ⟨_, _, _, _, rfl, rfl, rfl, rfl, rfl, ?_⟩
    refine iteF rfl ?_
    refine ww_or1 ?_
    refine wt_not ?_
    refine wt_val ?_
    refine we_isTL rfl Z.isinstance rfl Z.tuple rfl Z.list ?_
    refine we_slot 0 rfl (.inr (.inl rfl)) rfl rfl ?_
    refine ⟨_, rfl, rfl, ?_⟩
    refine ⟨_, rfl, ?_⟩
    refine iteF rfl ?_
    refine wb_nil ?_
    refine wb_one (ws_ret ?_)
    refine we_and ?_
    refine we_eqS ?_
    refine we_len rfl Z.len ?_
    refine we_slot 0 rfl (.inr (.inl rfl)) rfl rfl ?_
    refine ⟨_, rfl, ?_⟩
    refine we_len rfl Z.len ?_
    refine we_slot 1 rfl (.inr (.inl rfl)) rfl rfl ?_
    refine ⟨_, rfl, ?_⟩
    refine ⟨_, _, _, _, rfl, rfl, rfl, rfl, rfl, ?_⟩
    refine ⟨_, rfl, ?_⟩
    refine iteT (by simp) ?_
    refine we_and1 ?_
    refine we_all rfl rfl Z.all ?_
    refine we_lc (js := [3, 4]) (own := [("one", 3), ("two", 4)]) rfl sc__law_is.nd (show BlkOk ["told", "due", "key", "one", "two"] (defScope s__law_is) _ _ from blk_by (by decide +kernel)) (fun s H C cl fp => pg_tup rfl (pgs_cons (pg_name sc__law_is.nd rfl (.inl rfl)) (pgs_cons (pg_name sc__law_is.nd rfl (.inl rfl)) pgs_nil))) tgt2 (by decide) (show ∀ j ∈ ([3, 4] : List Nat), j < 5 by decide) ?_
    refine wi_zipT rfl Z.zip ?_
    refine wa_cons ?_
    refine we_slot 0 rfl (.inr (.inl rfl)) rfl rfl ?_
    refine ⟨rfl, ?_⟩
    refine wa_cons ?_
    refine we_slot 1 rfl (.inr (.inl rfl)) rfl rfl ?_
    refine ⟨rfl, ?_⟩
    refine wa_nil ?_
    refine ⟨_, _, rfl, ?_⟩
    refine ⟨by simp; omega, rfl, ?_⟩
    refine lcw_map (g := fun _ => .bl true) (fun it hit K hk => ?_) ?_
    · obtain ⟨x, hx, rfl⟩ := zipself hit
      have hx : isb m x = true := List.all_eq_true.mp hd.2 x hx
      refine ⟨[x, x], rfl, fun s H C cl fp => ?_⟩
      refine we_call C__law_is hr (Nat.le_refl _) rfl ?_
      refine wa_cons ?_
      refine we_slot 3 rfl (.inl rfl) rfl rfl ?_
      refine ⟨rfl, ?_⟩
      refine wa_cons ?_
      refine we_slot 4 rfl (.inl rfl) rfl rfl ?_
      refine ⟨rfl, ?_⟩
      refine wa_nil ?_
      refine ⟨rfl, rfl, ?_⟩
      exact ⟨x, rfl, hx, rfl, _, rfl, hk⟩
    · refine ⟨_, _, rfl, bools_map (fun _ => true) _, _, rfl, ?_⟩
      rw [List.all_map]
      have e : (List.zipWith (fun x y => D.tup [x, y]) xs xs).all (id ∘ fun _ => true) = true := List.all_eq_true.mpr fun _ _ => rfl
      rw [e]
      exact hQ
  | lst xs =>
    rcases C with rfl | ⟨m, rfl, C__law_is⟩
    · cases hd
    have hd : (decide (xs.length ≤ 100) && xs.all (isb m)) = true := hd
    rw [Bool.and_eq_true] at hd
    have hl100 : xs.length ≤ 100 := of_decide_eq_true hd.1
    refine wb_cons (ws_if ?_)
    refine wt_val ?_
    refine we_isTL rfl Z.isinstance rfl Z.tuple rfl Z.list ?_
    refine we_slot 1 rfl (.inr (.inl rfl)) rfl rfl ?_
    refine ⟨_, rfl, rfl, ?_⟩
    refine ⟨_, rfl, ?_⟩
    refine iteT rfl ?_
    refine wb_cons (ws_if ?_)
    refine wt_of ?_
    refine ww_or ?_
    refine wt_neS ?_
    refine we_isTup rfl Z.isinstance rfl Z.tuple ?_
    refine we_slot 0 rfl (.inr (.inl rfl)) rfl rfl ?_
    refine ⟨_, rfl, rfl, ?_⟩
    refine we_isTup rfl Z.isinstance rfl Z.tuple ?_
    refine we_slot 1 rfl (.inr (.inl rfl)) rfl rfl ?_
    refine ⟨_, rfl, rfl, ?_⟩
    refine ⟨_, _, _, _, rfl, rfl, rfl, rfl, rfl, ?_⟩
    refine iteF rfl ?_
    refine ww_or1 ?_
    refine wt_not ?_
    refine wt_val ?_
    refine we_isTL rfl Z.isinstance rfl Z.tuple rfl Z.list ?_
    refine we_slot 0 rfl (.inr (.inl rfl)) rfl rfl ?_
    refine ⟨_, rfl, rfl, ?_⟩
    refine ⟨_, rfl, ?_⟩
    refine iteF rfl ?_
    refine wb_nil ?_
    refine wb_one (ws_ret ?_)
    refine we_and ?_
    refine we_eqS ?_
    refine we_len rfl Z.len ?_
    refine we_slot 0 rfl (.inr (.inl rfl)) rfl rfl ?_
    refine ⟨_, rfl, ?_⟩
    refine we_len rfl Z.len ?_
    refine we_slot 1 rfl (.inr (.inl rfl)) rfl rfl ?_
    refine ⟨_, rfl, ?_⟩
    refine ⟨_, _, _, _, rfl, rfl, rfl, rfl, rfl, ?_⟩
    refine ⟨_, rfl, ?_⟩
    refine iteT (by simp) ?_
    refine we_and1 ?_
    refine we_all rfl rfl Z.all ?_
    refine we_lc (js := [3, 4]) (own := [("one", 3), ("two", 4)]) rfl sc__law_is.nd (show BlkOk ["told", "due", "key", "one", "two"] (defScope s__law_is) _ _ from blk_by (by decide +kernel)) (fun s H C cl fp => pg_tup rfl (pgs_cons (pg_name sc__law_is.nd rfl (.inl rfl)) (pgs_cons (pg_name sc__law_is.nd rfl (.inl rfl)) pgs_nil))) tgt2 (by decide) (show ∀ j ∈ ([3, 4] : List Nat), j < 5 by decide) ?_
    refine wi_zipL rfl Z.zip ?_
    refine wa_cons ?_
    refine we_slot 0 rfl (.inr (.inl rfl)) rfl rfl ?_
    refine ⟨rfl, ?_⟩
    refine wa_cons ?_
    refine we_slot 1 rfl (.inr (.inl rfl)) rfl rfl ?_
    refine ⟨rfl, ?_⟩
    refine wa_nil ?_
    refine ⟨_, _, rfl, ?_⟩
    refine ⟨by simp; omega, rfl, ?_⟩
    refine lcw_map (g := fun _ => .bl true) (fun it hit K hk => ?_) ?_
    · obtain ⟨x, hx, rfl⟩ := zipself hit
      have hx : isb m x = true := List.all_eq_true.mp hd.2 x hx
      refine ⟨[x, x], rfl, fun s H C cl fp => ?_⟩
      refine we_call C__law_is hr (Nat.le_refl _) rfl ?_
      refine wa_cons ?_
      refine we_slot 3 rfl (.inl rfl) rfl rfl ?_
      refine ⟨rfl, ?_⟩
      refine wa_cons ?_
      refine we_slot 4 rfl (.inl rfl) rfl rfl ?_
      refine ⟨rfl, ?_⟩
      refine wa_nil ?_
      refine ⟨rfl, rfl, ?_⟩
      exact ⟨x, rfl, hx, rfl, _, rfl, hk⟩
    · refine ⟨_, _, rfl, bools_map (fun _ => true) _, _, rfl, ?_⟩
      rw [List.all_map]
      have e : (List.zipWith (fun x y => D.tup [x, y]) xs xs).all (id ∘ fun _ => true) = true := List.all_eq_true.mpr fun _ _ => rfl
      rw [e]
      exact hQ
  | str x =>
    refine wb_cons (ws_if ?_)
    refine wt_val ?_
    refine we_isTL rfl Z.isinstance rfl Z.tuple rfl Z.list ?_
    refine we_slot 1 rfl (.inr (.inl rfl)) rfl rfl ?_
    refine ⟨_, rfl, rfl, ?_⟩
    refine ⟨_, rfl, ?_⟩
    refine iteF rfl ?_
    refine wb_nil ?_
    refine wb_cons (ws_if ?_)
    refine wt_val ?_
    refine we_isDct rfl Z.isinstance rfl Z.dict ?_
    refine we_slot 1 rfl (.inr (.inl rfl)) rfl rfl ?_
    refine ⟨_, rfl, rfl, ?_⟩
    refine ⟨_, rfl, ?_⟩
    refine iteF rfl ?_
    refine wb_nil ?_
    refine wb_cons (ws_if ?_)
    refine wt_of ?_
    refine ww_or ?_
    refine wt_val ?_
    refine we_isStr rfl Z.isinstance rfl Z.str ?_
    refine we_slot 1 rfl (.inr (.inl rfl)) rfl rfl ?_
    refine ⟨_, rfl, rfl, ?_⟩
    refine ⟨_, rfl, ?_⟩
    refine iteT rfl ?_
    refine iteT rfl ?_
    refine wb_one (ws_ret ?_)
    refine we_and ?_
    refine we_eqS ?_
    refine we_isStr rfl Z.isinstance rfl Z.str ?_
    refine we_slot 0 rfl (.inr (.inl rfl)) rfl rfl ?_
    refine ⟨_, rfl, rfl, ?_⟩
    refine we_isStr rfl Z.isinstance rfl Z.str ?_
    refine we_slot 1 rfl (.inr (.inl rfl)) rfl rfl ?_
    refine ⟨_, rfl, rfl, ?_⟩
    refine ⟨_, _, _, _, rfl, rfl, rfl, rfl, rfl, ?_⟩
    refine ⟨_, rfl, ?_⟩
    refine iteT (by simp) ?_
    refine we_and1 ?_
    refine we_eqS ?_
    refine we_slot 0 rfl (.inr (.inl rfl)) rfl rfl ?_
    refine we_slot 1 rfl (.inr (.inl rfl)) rfl rfl ?_
    refine ⟨_, _, _, _, rfl, rfl, rfl, rfl, rfl, ?_⟩
    refine ⟨_, rfl, ?_⟩
    first | exact hQ | (simpa using hQ)
  | non =>
    refine wb_cons (ws_if ?_)
    refine wt_val ?_
    refine we_isTL rfl Z.isinstance rfl Z.tuple rfl Z.list ?_
    refine we_slot 1 rfl (.inr (.inl rfl)) rfl rfl ?_
    refine ⟨_, rfl, rfl, ?_⟩
    refine ⟨_, rfl, ?_⟩
    refine iteF rfl ?_
    refine wb_nil ?_
    refine wb_cons (ws_if ?_)
    refine wt_val ?_
    refine we_isDct rfl Z.isinstance rfl Z.dict ?_
    refine we_slot 1 rfl (.inr (.inl rfl)) rfl rfl ?_
    refine ⟨_, rfl, rfl, ?_⟩
    refine ⟨_, rfl, ?_⟩
    refine iteF rfl ?_
    refine wb_nil ?_
    refine wb_cons (ws_if ?_)
    refine wt_of ?_
    refine ww_or ?_
    refine wt_val ?_
    refine we_isStr rfl Z.isinstance rfl Z.str ?_
    refine we_slot 1 rfl (.inr (.inl rfl)) rfl rfl ?_
    refine ⟨_, rfl, rfl, ?_⟩
    refine ⟨_, rfl, ?_⟩
    refine iteF rfl ?_
    refine ww_or1 ?_
    refine wt_isN ?_
    refine we_slot 1 rfl (.inr (.inl rfl)) rfl rfl ?_
    refine ⟨_, rfl, ?_⟩
    refine iteT rfl ?_
    refine wb_one (ws_ret ?_)
    refine we_and ?_
    refine we_eqS ?_
    refine we_isStr rfl Z.isinstance rfl Z.str ?_
    refine we_slot 0 rfl (.inr (.inl rfl)) rfl rfl ?_
    refine ⟨_, rfl, rfl, ?_⟩
    refine we_isStr rfl Z.isinstance rfl Z.str ?_
    refine we_slot 1 rfl (.inr (.inl rfl)) rfl rfl ?_
    refine ⟨_, rfl, rfl, ?_⟩
    refine ⟨_, _, _, _, rfl, rfl, rfl, rfl, rfl, ?_⟩
    refine ⟨_, rfl, ?_⟩
    refine iteT rfl ?_
    refine we_and1 ?_
    refine we_eqS ?_
    refine we_slot 0 rfl (.inr (.inl rfl)) rfl rfl ?_
    refine we_slot 1 rfl (.inr (.inl rfl)) rfl rfl ?_
    refine ⟨_, _, _, _, rfl, rfl, rfl, rfl, rfl, ?_⟩
    refine ⟨_, rfl, ?_⟩
    first | exact hQ | (simpa using hQ)
  | bl x =>
    refine wb_cons (ws_if ?_)
    refine wt_val ?_
    refine we_isTL rfl Z.isinstance rfl Z.tuple rfl Z.list ?_
    refine we_slot 1 rfl (.inr (.inl rfl)) rfl rfl ?_
    refine ⟨_, rfl, rfl, ?_⟩
    refine ⟨_, rfl, ?_⟩
    refine iteF rfl ?_
    refine wb_nil ?_
    refine wb_cons (ws_if ?_)
    refine wt_val ?_
    refine we_isDct rfl Z.isinstance rfl Z.dict ?_
    refine we_slot 1 rfl (.inr (.inl rfl)) rfl rfl ?_
    refine ⟨_, rfl, rfl, ?_⟩
    refine ⟨_, rfl, ?_⟩
    refine iteF rfl ?_
    refine wb_nil ?_
    refine wb_cons (ws_if ?_)
    refine wt_of ?_
    refine ww_or ?_
    refine wt_val ?_
    refine we_isStr rfl Z.isinstance rfl Z.str ?_
    refine we_slot 1 rfl (.inr (.inl rfl)) rfl rfl ?_
    refine ⟨_, rfl, rfl, ?_⟩
    refine ⟨_, rfl, ?_⟩
    refine iteF rfl ?_
    refine ww_or1 ?_
    refine wt_isN ?_
    refine we_slot 1 rfl (.inr (.inl rfl)) rfl rfl ?_
    refine ⟨_, rfl, ?_⟩
    refine iteF rfl ?_
    refine wb_nil ?_
    refine wb_one (ws_ret ?_)
    refine we_and ?_
    refine we_isInt rfl Z.isinstance rfl Z.int ?_
    refine we_slot 0 rfl (.inr (.inl rfl)) rfl rfl ?_
    refine ⟨_, rfl, rfl, ?_⟩
    refine ⟨_, rfl, ?_⟩
    refine iteT rfl ?_
    refine we_and ?_
    refine we_eqS ?_
    refine we_isBl rfl Z.isinstance rfl Z.bool ?_
    refine we_slot 0 rfl (.inr (.inl rfl)) rfl rfl ?_
    refine ⟨_, rfl, rfl, ?_⟩
    refine we_isBl rfl Z.isinstance rfl Z.bool ?_
    refine we_slot 1 rfl (.inr (.inl rfl)) rfl rfl ?_
    refine ⟨_, rfl, rfl, ?_⟩
    refine ⟨_, _, _, _, rfl, rfl, rfl, rfl, rfl, ?_⟩
    refine ⟨_, rfl, ?_⟩
    refine iteT rfl ?_
    refine we_and1 ?_
    refine we_eqS ?_
    refine we_slot 0 rfl (.inr (.inl rfl)) rfl rfl ?_
    refine we_slot 1 rfl (.inr (.inl rfl)) rfl rfl ?_
    refine ⟨_, _, _, _, rfl, rfl, rfl, rfl, rfl, ?_⟩
    refine ⟨_, rfl, ?_⟩
    first | exact hQ | (simpa using hQ)
  | int x =>
    refine wb_cons (ws_if ?_)
    refine wt_val ?_
    refine we_isTL rfl Z.isinstance rfl Z.tuple rfl Z.list ?_
    refine we_slot 1 rfl (.inr (.inl rfl)) rfl rfl ?_
    refine ⟨_, rfl, rfl, ?_⟩
    refine ⟨_, rfl, ?_⟩
    refine iteF rfl ?_
    refine wb_nil ?_
    refine wb_cons (ws_if ?_)
    refine wt_val ?_
    refine we_isDct rfl Z.isinstance rfl Z.dict ?_
    refine we_slot 1 rfl (.inr (.inl rfl)) rfl rfl ?_
    refine ⟨_, rfl, rfl, ?_⟩
    refine ⟨_, rfl, ?_⟩
    refine iteF rfl ?_
    refine wb_nil ?_
    refine wb_cons (ws_if ?_)
    refine wt_of ?_
    refine ww_or ?_
    refine wt_val ?_
    refine we_isStr rfl Z.isinstance rfl Z.str ?_
    refine we_slot 1 rfl (.inr (.inl rfl)) rfl rfl ?_
    refine ⟨_, rfl, rfl, ?_⟩
    refine ⟨_, rfl, ?_⟩
    refine iteF rfl ?_
    refine ww_or1 ?_
    refine wt_isN ?_
    refine we_slot 1 rfl (.inr (.inl rfl)) rfl rfl ?_
    refine ⟨_, rfl, ?_⟩
    refine iteF rfl ?_
    refine wb_nil ?_
    refine wb_one (ws_ret ?_)
    refine we_and ?_
    refine we_isInt rfl Z.isinstance rfl Z.int ?_
    refine we_slot 0 rfl (.inr (.inl rfl)) rfl rfl ?_
    refine ⟨_, rfl, rfl, ?_⟩
    refine ⟨_, rfl, ?_⟩
    refine iteT rfl ?_
    refine we_and ?_
    refine we_eqS ?_
    refine we_isBl rfl Z.isinstance rfl Z.bool ?_
    refine we_slot 0 rfl (.inr (.inl rfl)) rfl rfl ?_
    refine ⟨_, rfl, rfl, ?_⟩
    refine we_isBl rfl Z.isinstance rfl Z.bool ?_
    refine we_slot 1 rfl (.inr (.inl rfl)) rfl rfl ?_
    refine ⟨_, rfl, rfl, ?_⟩
    refine ⟨_, _, _, _, rfl, rfl, rfl, rfl, rfl, ?_⟩
    refine ⟨_, rfl, ?_⟩
    refine iteT rfl ?_
    refine we_and1 ?_
    refine we_eqS ?_
    refine we_slot 0 rfl (.inr (.inl rfl)) rfl rfl ?_
    refine we_slot 1 rfl (.inr (.inl rfl)) rfl rfl ?_
    refine ⟨_, _, _, _, rfl, rfl, rfl, rfl, rfl, ?_⟩
    refine ⟨_, rfl, ?_⟩
    first | exact hQ | (simpa using hQ)
end
end K02

namespace K02
open PySem PySem.Spec PyProof.Rows L2 PL
variable [Hand]
theorem we_isI2 {X : Cx} {ρ : Store} {Y : Str → Store → Prop} {P : Po} {i : Nat} {x : D} {p1 p2 p3 p4 p5 p6 p7 p8 p9 p10 : Pos} (h1 : X.mg "isinstance" = none) (h2 : X.mg "int" = none) (h3 : X.mg "bool" = none) (g1 : Gl X "isinstance") (g2 : Gl X "int") (g3 : Gl X "bool")
    (hN : X.N[i]? = some "one") (hv : Vis X.env.scope "one") (hw : ρ[i]? = some (some (.val x))) (hp : x.plain = true) (h : P (.val (.bl (isI x))) ρ) :
    WE X (.BoolOp .And [.Call (.Name "isinstance" p1) [.Name "one" p2, .Name "int" p3] [] p4, .UnaryOp .Not (.Call (.Name "isinstance" p5) [.Name "one" p6, .Name "bool" p7] [] p8) p9] p10) ρ Y P := by
  refine we_and ?_
  refine we_isInt g1 h1 g2 h2 ?_
  refine we_slot i hN hv hw rfl ?_
  refine ⟨_, rfl, hp, _, rfl, ?_⟩
  by_cases hi : x.isInt = true
  · rw [if_pos hi]
    refine we_and1 (we_not (we_isBl g1 h1 g3 h3 ?_))
    refine we_slot i hN hv hw rfl ?_
    refine ⟨_, rfl, hp, _, rfl, ?_⟩
    have e : (!x.isBl) = isI x := by cases x <;> first | rfl | cases hi
    rw [e]
    exact h
  · rw [if_neg hi]
    have e : isI x = false := by cases x <;> first | rfl | exact absurd rfl hi
    rw [e] at h
    exact h
theorem low_self {a b x y : Int} (hb : 0 < b) (e : low a b = fr x y) (hg : gcdI x y = 1) : ((x == a) && ((y == b) && true)) = decide (gcdI a b = 1) := by
  by_cases h : gcdI a b = 1
  · rw [low_of hb h] at e
    obtain ⟨rfl, rfl⟩ := fr_inj e
    simp [h]
  · rw [decide_eq_false h, Bool.and_true]
    refine Bool.eq_false_iff.mpr fun q => h ?_
    rw [Bool.and_eq_true] at q
    have q1 : x = a := by simpa using q.1
    have q2 : y = b := by simpa using q.2
    rw [← q1, ← q2]
    exact hg
section
variable {P : Program} {w : World} {K : PySem.W.Frag} {mg : Str → Option Value} {base : Heap} {f : Addr} {fd : FuncData} {k : Nat}
theorem sc__law_is_part : FnScope ["thing", "one"] ["thing"] (defScope s__law_is_part) := ⟨rfl, rfl, rfl, by decide +kernel, rfl, by decide +kernel, by decide +kernel⟩
theorem ok__law_is_part (Z : Env K mg) (C__law_low : Cal P w K mg base k "_law_low" 2 S__law_low) (F : FnP K "_law_is_part" s__law_is_part f fd) : FnOk P w K mg base (L2.CX P w) (k + 1) f fd ["thing"] (spS K mg 1 S__law_is_part) := fn_ok F sc__law_is_part fun cdv A outer s H E ws Q Y hr hS hl => by
  obtain ⟨d, rfl, hT, hQ⟩ := hS
  have hp := okTb_ok hT
  refine wb_cons (ws_if (wt_of (ww_or (wt_not (wt_val ?_)))))
  refine we_isTup rfl Z.isinstance rfl Z.tuple ?_
  refine we_slot 0 rfl (.inl rfl) rfl rfl ?_
  refine ⟨_, rfl, D.ok_plain hp, _, rfl, ?_⟩
  rcases tup_or d with ⟨xs, rfl⟩ | ⟨ht, hf, _⟩
  rotate_left
  · refine iteT (by rw [ht]; rfl) ?_
    refine iteT rfl ?_
    refine wb_one (ws_ret (we_bl ⟨_, rfl, ?_⟩))
    rw [hf] at hQ
    exact hQ
  refine iteF rfl ?_
  refine ww_or1 ?_
  refine wt_neS ?_
  refine we_len rfl Z.len ?_
  refine we_slot 0 rfl (.inl rfl) rfl rfl ?_
  refine ⟨_, rfl, ?_⟩
  refine we_int ?_
  refine ⟨_, _, _, _, rfl, rfl, rfl, rfl, rfl, ?_⟩
  by_cases h2 : xs.length = 2
  rotate_left
  · refine iteT (by simp; omega) ?_
    refine wb_one (ws_ret (we_bl ⟨_, rfl, ?_⟩))
    rw [isFr_two h2] at hQ
    exact hQ
  refine iteF (by rw [h2]; rfl) ?_
  refine wb_nil ?_
  match xs, h2 with
  | [x, y], _ =>
  have hx : x.ok = true ∧ y.ok = true := by
    unfold D.ok D.oks D.oks D.oks at hp
    simpa using hp
  refine wb_cons (ws_if (wt_not (wt_val ?_)))
  refine we_all rfl rfl Z.all ?_
  refine we_lc (js := [1]) (own := [("one", 1)]) rfl sc__law_is_part.nd (show BlkOk ["thing", "one"] (defScope s__law_is_part) _ _ from blk_by (by decide +kernel)) (fun s H C cl fp => pg_name sc__law_is_part.nd rfl (.inl rfl)) tgt1 (by decide) (show ∀ j ∈ ([1] : List Nat), j < 2 by decide) ?_
  refine wi_tup rfl ?_ (fun _ h => pi_tup h)
  refine we_slot 0 rfl (.inl rfl) rfl rfl ?_
  refine ⟨_, rfl, ?_⟩
  refine ⟨by simp, rfl, ?_⟩
  refine lcw_cons rfl (fun s H C cl fp => ?_)
  refine we_isI2 (i := 1) Z.isinstance Z.int Z.bool rfl rfl rfl rfl (.inl rfl) rfl (D.ok_plain hx.1) ?_
  refine ⟨rfl, _, rfl, ?_⟩
  refine lcw_cons rfl (fun s H C cl fp => ?_)
  refine we_isI2 (i := 1) Z.isinstance Z.int Z.bool rfl rfl rfl rfl (.inl rfl) rfl (D.ok_plain hx.2) ?_
  refine ⟨rfl, _, rfl, ?_⟩
  refine ⟨_, [isI x, isI y], rfl, rfl, _, rfl, ?_⟩
  rcases isI_or x with ⟨a, rfl⟩ | hf
  rotate_left
  · refine iteT (by rw [hf]; rfl) ?_
    refine wb_one (ws_ret (we_bl ⟨_, rfl, ?_⟩))
    rw [isFr_l hf] at hQ
    exact hQ
  rcases isI_or y with ⟨b, rfl⟩ | hf
  rotate_left
  · refine iteT (by rw [hf]; simp) ?_
    refine wb_one (ws_ret (we_bl ⟨_, rfl, ?_⟩))
    rw [isFr_r hf] at hQ
    exact hQ
  refine iteF rfl ?_
  refine wb_nil ?_
  refine wb_one (ws_ret ?_)
  refine we_and ?_
  refine we_cmpI op_gt (nomark _) ?_
  refine we_ix ?_
  refine we_slot 0 rfl (.inl rfl) rfl rfl ?_
  refine we_int ?_
  refine ⟨_, _, _, rfl, rfl, rfl, ?_⟩
  refine we_int ?_
  refine ⟨_, _, rfl, rfl, ?_⟩
  refine ⟨_, rfl, ?_⟩
  have ef : isFr (.tup [.int a, .int b]) = (decide (b > 0) && decide (gcdI a b = 1)) := rfl
  by_cases hb : b > 0
  rotate_left
  · refine iteF (by simpa using hb) ?_
    refine ⟨_, rfl, ?_⟩
    rw [ef, decide_eq_false hb] at hQ
    exact hQ
  refine iteT (by simpa using hb) ?_
  have bB : Bd 200 b := by
    unfold okTb at hT
    rw [Bool.and_eq_true] at hT
    have h3 : (decide (a.natAbs < 2 ^ 200) && decide (b.natAbs < 2 ^ 200)) = true := hT.2
    rw [Bool.and_eq_true] at h3
    exact (show b.natAbs < 2 ^ 200 from of_decide_eq_true h3.2)
  refine we_and1 ?_
  refine we_eqD hr ?_
  refine we_call C__law_low hr (Nat.le_refl _) rfl ?_
  refine wa_cons ?_
  refine we_ix ?_
  refine we_slot 0 rfl (.inl rfl) rfl rfl ?_
  refine we_int ?_
  refine ⟨_, _, _, rfl, rfl, rfl, ?_⟩
  refine ⟨rfl, ?_⟩
  refine wa_cons ?_
  refine we_ix ?_
  refine we_slot 0 rfl (.inl rfl) rfl rfl ?_
  refine we_int ?_
  refine ⟨_, _, _, rfl, rfl, rfl, ?_⟩
  refine ⟨rfl, ?_⟩
  refine wa_nil ?_
  refine ⟨rfl, rfl, ?_⟩
  refine ⟨_, _, rfl, by omega, bB.mono (by decide), ?_⟩
  obtain ⟨x, y, e, hy, hg, _, _, _⟩ := low_isFr (a := a) (b := b) (by omega)
  rw [e]
  refine we_slot 0 rfl (.inl rfl) rfl rfl ?_
  refine ⟨_, _, _, _, rfl, rfl, rfl, rfl, rfl, rfl, ?_⟩
  refine ⟨_, rfl, ?_⟩
  have e2 : PyData.eqv (.tuple [.int x, .int y]) (.tuple [.int a, .int b]) = ((x == a) && ((y == b) && true)) := rfl
  show Q (.bl (PyData.eqv (.tuple [.int x, .int y]) (.tuple [.int a, .int b])))
  rw [e2, low_self hb e hg]
  rw [ef, decide_eq_true hb, Bool.true_and] at hQ
  exact hQ
theorem sc__law_sum : FnScope ["some", "found", "one"] ["some"] (defScope s__law_sum) := ⟨rfl, rfl, rfl, by decide +kernel, rfl, by decide +kernel, by decide +kernel⟩
theorem ok__law_sum (Z : Env K mg) (C__law_low : Cal P w K mg base k "_law_low" 2 S__law_low) (F : FnP K "_law_sum" s__law_sum f fd) : FnOk P w K mg base (L2.CX P w) (k + 1) f fd ["some"] (spS K mg 1 S__law_sum) := fn_ok F sc__law_sum fun cdv A outer s H E ws Q Y hr hS hl => by
  obtain ⟨a, b, c, d, rfl, hb, hd, hg, Ba, Bb, Bc, Bd', hQ⟩ := hS
  refine wb_cons (ws_asg 1 sc__law_sum.nd rfl (.inl rfl) ?_)
  refine we_tup ?_
  refine wa_cons ?_
  refine we_int ?_
  refine ⟨rfl, ?_⟩
  refine wa_cons ?_
  refine we_int ?_
  refine ⟨rfl, ?_⟩
  refine wa_nil ?_
  refine ⟨_, rfl, by simp, ?_⟩
  refine ⟨_, rfl, ?_⟩
  have z0 : Bd 2000 (0 : Int) := by
    unfold Bd
    exact Nat.pow_pos (by decide)
  have z1 : Bd 2000 (1 : Int) := Bd.mono (m := 1) (by unfold Bd; decide) (by decide)
  have a2 : Bd 2000 a := Ba.mono (by decide)
  have b2 : Bd 2000 b := Bb.mono (by decide)
  have c2 : Bd 2000 c := Bc.mono (by decide)
  have d2 : Bd 2000 d := Bd'.mono (by decide)
  refine wb_cons (ws_for (js := [2]) rfl (pg_name sc__law_sum.nd rfl (.inl rfl)) tgt1 (show ∀ j ∈ ([2] : List Nat), j < 3 by decide) ?_)
  refine wi_lst rfl ?_ (fun _ h => pi_list h)
  refine we_slot 0 rfl (.inl rfl) rfl rfl ?_
  refine ⟨_, .inl rfl, ?_⟩
  refine ⟨fun i ρ => (i = 0 ∧ ρ = [some (.val (.lst [fr a b, fr c d])), some (.val (fr 0 1)), none]) ∨ (i = 1 ∧ ρ = [some (.val (.lst [fr a b, fr c d])), some (.val (fr a b)), some (.val (fr a b))]) ∨ (i = 2 ∧ ρ = [some (.val (.lst [fr a b, fr c d])), some (.val (low (a * d + c * b) (b * d))), some (.val (fr c d))]), .inl ⟨rfl, rfl⟩, ?_, ?_⟩
  · rintro i e ρ2 he (⟨rfl, rfl⟩ | ⟨rfl, rfl⟩ | ⟨rfl, rfl⟩)
    · cases he
      refine ⟨[fr a b], rfl, ?_⟩
      refine wb_one (ws_asg 1 sc__law_sum.nd rfl (.inl rfl) ?_)
      refine we_call C__law_low hr (Nat.le_refl _) rfl ?_
      refine wa_cons ?_
      refine we_add ?_
      refine we_mul ?_
      refine we_ix ?_
      refine we_slot 1 rfl (.inl rfl) rfl rfl ?_
      refine we_int ?_
      refine ⟨_, _, _, rfl, rfl, rfl, ?_⟩
      refine we_ix ?_
      refine we_slot 2 rfl (.inl rfl) rfl rfl ?_
      refine we_int ?_
      refine ⟨_, _, _, rfl, rfl, rfl, ?_⟩
      refine ⟨_, _, rfl, rfl, Bd.cmul (m := 2000) (n := 2000) (by assumption) (by assumption) (by decide) (by decide) (by decide), ?_⟩
      refine we_mul ?_
      refine we_ix ?_
      refine we_slot 2 rfl (.inl rfl) rfl rfl ?_
      refine we_int ?_
      refine ⟨_, _, _, rfl, rfl, rfl, ?_⟩
      refine we_ix ?_
      refine we_slot 1 rfl (.inl rfl) rfl rfl ?_
      refine we_int ?_
      refine ⟨_, _, _, rfl, rfl, rfl, ?_⟩
      refine ⟨_, _, rfl, rfl, Bd.cmul (m := 2000) (n := 2000) (by assumption) (by assumption) (by decide) (by decide) (by decide), ?_⟩
      refine ⟨_, _, rfl, rfl, ?_⟩
      refine ⟨rfl, ?_⟩
      refine wa_cons ?_
      refine we_mul ?_
      refine we_ix ?_
      refine we_slot 1 rfl (.inl rfl) rfl rfl ?_
      refine we_int ?_
      refine ⟨_, _, _, rfl, rfl, rfl, ?_⟩
      refine we_ix ?_
      refine we_slot 2 rfl (.inl rfl) rfl rfl ?_
      refine we_int ?_
      refine ⟨_, _, _, rfl, rfl, rfl, ?_⟩
      refine ⟨_, _, rfl, rfl, Bd.cmul (m := 2000) (n := 2000) (by assumption) (by assumption) (by decide) (by decide) (by decide), ?_⟩
      refine ⟨rfl, ?_⟩
      refine wa_nil ?_
      refine ⟨rfl, rfl, ?_⟩
      refine ⟨_, _, rfl, by omega, (z1.mul b2).mono (by decide), ?_⟩
      refine ⟨_, rfl, .inr (.inl ⟨rfl, ?_⟩)⟩
      have e : low (0 * b + a * 1) (1 * b) = fr a b := by
        rw [Int.zero_mul, Int.zero_add, Int.mul_one, Int.one_mul, low_of hb hg]
      rw [e]
      rfl
    · cases he
      refine ⟨[fr c d], rfl, ?_⟩
      refine wb_one (ws_asg 1 sc__law_sum.nd rfl (.inl rfl) ?_)
      refine we_call C__law_low hr (Nat.le_refl _) rfl ?_
      refine wa_cons ?_
      refine we_add ?_
      refine we_mul ?_
      refine we_ix ?_
      refine we_slot 1 rfl (.inl rfl) rfl rfl ?_
      refine we_int ?_
      refine ⟨_, _, _, rfl, rfl, rfl, ?_⟩
      refine we_ix ?_
      refine we_slot 2 rfl (.inl rfl) rfl rfl ?_
      refine we_int ?_
      refine ⟨_, _, _, rfl, rfl, rfl, ?_⟩
      refine ⟨_, _, rfl, rfl, Bd.cmul (m := 2000) (n := 2000) (by assumption) (by assumption) (by decide) (by decide) (by decide), ?_⟩
      refine we_mul ?_
      refine we_ix ?_
      refine we_slot 2 rfl (.inl rfl) rfl rfl ?_
      refine we_int ?_
      refine ⟨_, _, _, rfl, rfl, rfl, ?_⟩
      refine we_ix ?_
      refine we_slot 1 rfl (.inl rfl) rfl rfl ?_
      refine we_int ?_
      refine ⟨_, _, _, rfl, rfl, rfl, ?_⟩
      refine ⟨_, _, rfl, rfl, Bd.cmul (m := 2000) (n := 2000) (by assumption) (by assumption) (by decide) (by decide) (by decide), ?_⟩
      refine ⟨_, _, rfl, rfl, ?_⟩
      refine ⟨rfl, ?_⟩
      refine wa_cons ?_
      refine we_mul ?_
      refine we_ix ?_
      refine we_slot 1 rfl (.inl rfl) rfl rfl ?_
      refine we_int ?_
      refine ⟨_, _, _, rfl, rfl, rfl, ?_⟩
      refine we_ix ?_
      refine we_slot 2 rfl (.inl rfl) rfl rfl ?_
      refine we_int ?_
      refine ⟨_, _, _, rfl, rfl, rfl, ?_⟩
      refine ⟨_, _, rfl, rfl, Bd.cmul (m := 2000) (n := 2000) (by assumption) (by assumption) (by decide) (by decide) (by decide), ?_⟩
      refine ⟨rfl, ?_⟩
      refine wa_nil ?_
      refine ⟨rfl, rfl, ?_⟩
      refine ⟨_, _, rfl, Int.mul_ne_zero (by omega) (by omega), (b2.mul d2).mono (by decide), ?_⟩
      exact ⟨_, rfl, .inr (.inr ⟨rfl, rfl⟩)⟩
    · cases he
  · rintro ρ2 (⟨h, _⟩ | ⟨h, _⟩ | ⟨_, rfl⟩)
    · cases h
    · cases h
    · refine wb_one (ws_ret ?_)
      refine we_slot 1 rfl (.inl rfl) rfl rfl ?_
      exact ⟨_, rfl, hQ⟩
end
end K02

namespace K02
open PySem PySem.Spec PyProof.Rows L2 PL
variable [Hand]
theorem isb_low (n : Nat) (a b : Int) : isb (n + 1) (low a b) = true := by
  have h : ∀ x y : Int, isb (n + 1) (fr x y) = true := fun x y => by
    show (decide (([D.int x, D.int y] : List D).length ≤ 100) && [D.int x, D.int y].all (isb n)) = true
    cases n <;> rfl
  unfold low
  split
  · exact h _ _
  · exact h _ _
theorem isb_tup2 (n : Nat) {d : D} (h : isb n d = true) : isb (n + 1) (.tup [d, .tup []]) = true ∨ n = 0 := by
  cases n with
  | zero => exact .inr rfl
  | succ n =>
    left
    show (decide (([d, .tup []] : List D).length ≤ 100) && [d, .tup []].all (isb (n + 1))) = true
    rw [List.all_cons, h]
    rfl
def S__law_riches_right : Sem1 := fun ws P Y => ∃ a b c d n : Int, ws = [.val (fr a b), .val (fr c d), .val (.int n)] ∧ isAm (fr a b) = true ∧ isAm (fr c d) = true ∧ Bd 110 a ∧ Bd 110 b ∧ Bd 110 c ∧ Bd 110 d ∧ 0 ≤ n ∧ n ≤ 8 ∧ P (.bl true)
theorem isAm_gcd {a b : Int} (h : isAm (fr a b) = true) : gcdI a b = 1 := by
  have h : ((decide (b > 0) && decide (gcdI a b = 1)) && decide (a ≥ 0)) = true := h
  simp only [Bool.and_eq_true, decide_eq_true_eq] at h
  exact h.1.2
def sqs (n : Int) : List Int := (List.range n.toNat).map fun k : Nat => (0 + (k : Int)) * (0 + (k : Int)) - 7
def gsq : D → D
  | .int i => .int (i * i - 7)
  | _ => .non
theorem sqs_eq (n : Int) : ((List.range n.toNat).map fun (k : Nat) => D.int (0 + k)).map gsq = (sqs n).map D.int := by
  unfold sqs
  rw [List.map_map, List.map_map]
  rfl
theorem sqs_len {n : Int} (h : 0 ≤ n) : ((sqs n).length : Int) = n := by
  unfold sqs
  rw [List.length_map, List.length_range]
  omega
theorem sqs_small {n : Int} (h : n ≤ 8) : ∀ i ∈ sqs n, small i := by
  intro i hi
  unfold sqs at hi
  obtain ⟨k, hk, rfl⟩ := List.mem_map.mp hi
  have hk : k < n.toNat := List.mem_range.mp hk
  have hk8 : k < 8 := by omega
  have : k = 0 ∨ k = 1 ∨ k = 2 ∨ k = 3 ∨ k = 4 ∨ k = 5 ∨ k = 6 ∨ k = 7 := by omega
  unfold small
  rcases this with rfl | rfl | rfl | rfl | rfl | rfl | rfl | rfl <;> decide
section
variable {P : Program} {w : World} {K : PySem.W.Frag} {mg : Str → Option Value} {base : Heap} {f : Addr} {fd : FuncData} {k : Nat}
theorem sc__law_riches_right : FnScope ["one", "other", "many", "kind", "value", "item"] ["one", "other", "many"] (defScope s__law_riches_right) := ⟨rfl, rfl, rfl, by decide +kernel, rfl, by decide +kernel, by decide +kernel⟩
theorem ok__law_riches_right (Z : Env K mg) (C__law_is : Cal P w K mg base k "_law_is" 2 (S_is 3)) (C_worth : Cal P w K mg base k "worth" 3 S_worth) (C__law_low : Cal P w K mg base k "_law_low" 2 S__law_low) (C_rich_plus : Cal P w K mg base k "rich_plus" 3 S_rich_plus) (C__law_sum : Cal P w K mg base k "_law_sum" 1 S__law_sum) (C_rich_scaled : Cal P w K mg base k "rich_scaled" 3 S_rich_scaled) (C_covers : Cal P w K mg base k "covers" 3 S_covers) (F : FnP K "_law_riches_right" s__law_riches_right f fd) : FnOk P w K mg base (L2.CX P w) (k + 1) f fd ["one", "other", "many"] (spS K mg 3 S__law_riches_right) := fn_ok F sc__law_riches_right fun cdv A outer s H E ws Q Y hr hS hl => by
  obtain ⟨a, b, c, d, n, rfl, hA, hC, Ba, Bb, Bc, Bd', h0, h8, hQ⟩ := hS
  have pb := isAm_pos hA
  have pd := isAm_pos hC
  have ga := isAm_gcd hA
  have hn : Bd 110 n := by
    unfold Bd
    exact Nat.lt_of_le_of_lt (show n.natAbs ≤ 8 by omega) (by decide)
  have a2 : Bd 2000 a := Ba.mono (by decide)
  have b2 : Bd 2000 b := Bb.mono (by decide)
  have c2 : Bd 2000 c := Bc.mono (by decide)
  have d2 : Bd 2000 d := Bd'.mono (by decide)
  have n2 : Bd 2000 n := hn.mono (by decide)
  have hlen : (sqs n).length ≤ 1000 := by
    have := sqs_len h0
    omega
  refine wb_cons (ws_par 3 4 rfl sc__law_riches_right.nd rfl rfl (by decide) rfl rfl ?_)
  refine we_tup ?_
  refine wa_cons ?_
  refine we_str ?_
  refine ⟨rfl, ?_⟩
  refine wa_cons ?_
  refine we_str ?_
  refine ⟨rfl, ?_⟩
  refine wa_nil ?_
  refine ⟨_, rfl, by simp, ?_⟩
  refine ⟨_, rfl, ?_⟩
  refine we_tup ?_
  refine wa_cons ?_
  refine we_str ?_
  refine ⟨rfl, ?_⟩
  refine wa_cons ?_
  refine we_tupleOf rfl Z.tuple ?_
  refine we_lc (js := [5]) (own := [("item", 5)]) rfl sc__law_riches_right.nd (show BlkOk ["one", "other", "many", "kind", "value", "item"] (defScope s__law_riches_right) _ _ from blk_by (by decide +kernel)) (fun s H C cl fp => pg_name sc__law_riches_right.nd rfl (.inl rfl)) tgt1 (by decide) (show ∀ j ∈ ([5] : List Nat), j < 6 by decide) ?_
  refine wi_range1 rfl Z.range ?_
  refine we_slot 2 rfl (.inl rfl) rfl rfl ?_
  refine ⟨_, rfl, by omega, by omega, ?_⟩
  refine ⟨by simp; omega, rfl, ?_⟩
  refine lcw_map (g := gsq) (fun it hit K hk => ?_) ?_
  · obtain ⟨j, hj, rfl⟩ := List.mem_map.mp hit
    have hj : j < n.toNat := List.mem_range.mp hj
    refine ⟨[.int (0 + (j : Int))], rfl, fun s H C cl fp => ?_⟩
    refine we_sub ?_
    refine we_mulS ?_
    refine we_slot 5 rfl (.inl rfl) rfl rfl ?_
    refine we_slot 5 rfl (.inl rfl) rfl rfl ?_
    refine ⟨_, _, rfl, rfl, .inl ⟨by omega, by omega⟩, ?_⟩
    refine we_int ?_
    refine ⟨_, _, rfl, rfl, ?_⟩
    exact ⟨rfl, _, rfl, hk⟩
  rw [List.nil_append, sqs_eq]
  refine ⟨_, rfl, ?_⟩
  refine ⟨rfl, ?_⟩
  refine wa_nil ?_
  refine ⟨_, rfl, by simp, ?_⟩
  refine ⟨_, rfl, ?_⟩
  have hz : low (((sqs n).length : Int) * a) b = low (a * n) b := by rw [sqs_len h0, Int.mul_comm]
  refine wb_cons (ws_if ?_)
  refine wt_not ?_
  refine wt_val ?_
  refine we_call C__law_is hr (Nat.le_refl _) rfl ?_
  refine wa_cons ?_
  refine we_call C_worth hr (Nat.le_refl _) rfl ?_
  refine wa_cons ?_
  refine we_slot 3 rfl (.inl rfl) rfl rfl ?_
  refine ⟨rfl, ?_⟩
  refine wa_cons ?_
  refine we_tup ?_
  refine wa_cons ?_
  refine we_slot 0 rfl (.inl rfl) rfl rfl ?_
  refine ⟨rfl, ?_⟩
  refine wa_cons ?_
  refine we_tup ?_
  refine wa_nil ?_
  refine ⟨_, rfl, by simp, ?_⟩
  refine ⟨rfl, ?_⟩
  refine wa_nil ?_
  refine ⟨_, rfl, by simp, ?_⟩
  refine ⟨rfl, ?_⟩
  refine wa_cons ?_
  refine we_slot 4 rfl (.inl rfl) rfl rfl ?_
  refine ⟨rfl, ?_⟩
  refine wa_nil ?_
  refine ⟨rfl, rfl, ?_⟩
  refine ⟨a, b, sqs n, rfl, hA, Ba.mono (by decide), Bb.mono (by decide), hlen, sqs_small h8, ?_⟩
  refine ⟨rfl, ?_⟩
  refine wa_cons ?_
  refine we_call C__law_low hr (Nat.le_refl _) rfl ?_
  refine wa_cons ?_
  refine we_mul ?_
  refine we_ix ?_
  refine we_slot 0 rfl (.inl rfl) rfl rfl ?_
  refine we_int ?_
  refine ⟨_, _, _, rfl, rfl, rfl, ?_⟩
  refine we_slot 2 rfl (.inl rfl) rfl rfl ?_
  refine ⟨_, _, rfl, rfl, Bd.cmul (m := 2000) (n := 2000) (by assumption) (by assumption) (by decide) (by decide) (by decide), ?_⟩
  refine ⟨rfl, ?_⟩
  refine wa_cons ?_
  refine we_ix ?_
  refine we_slot 0 rfl (.inl rfl) rfl rfl ?_
  refine we_int ?_
  refine ⟨_, _, _, rfl, rfl, rfl, ?_⟩
  refine ⟨rfl, ?_⟩
  refine wa_nil ?_
  refine ⟨rfl, rfl, ?_⟩
  refine ⟨_, _, rfl, by omega, Bb.mono (by decide), ?_⟩
  refine ⟨rfl, ?_⟩
  refine wa_nil ?_
  refine ⟨rfl, rfl, ?_⟩
  refine ⟨_, (by rw [hz]), isb_low _ _ _, ?_⟩
  refine ⟨_, rfl, ?_⟩
  refine iteF rfl ?_
  refine wb_nil ?_
  refine wb_cons (ws_if ?_)
  refine wt_not ?_
  refine wt_val ?_
  refine we_call C__law_is hr (Nat.le_refl _) rfl ?_
  refine wa_cons ?_
  refine we_call C_rich_plus hr (Nat.le_refl _) rfl ?_
  refine wa_cons ?_
  refine we_slot 3 rfl (.inl rfl) rfl rfl ?_
  refine ⟨rfl, ?_⟩
  refine wa_cons ?_
  refine we_tup ?_
  refine wa_cons ?_
  refine we_slot 0 rfl (.inl rfl) rfl rfl ?_
  refine ⟨rfl, ?_⟩
  refine wa_cons ?_
  refine we_tup ?_
  refine wa_nil ?_
  refine ⟨_, rfl, by simp, ?_⟩
  refine ⟨rfl, ?_⟩
  refine wa_nil ?_
  refine ⟨_, rfl, by simp, ?_⟩
  refine ⟨rfl, ?_⟩
  refine wa_cons ?_
  refine we_tup ?_
  refine wa_cons ?_
  refine we_slot 1 rfl (.inl rfl) rfl rfl ?_
  refine ⟨rfl, ?_⟩
  refine wa_cons ?_
  refine we_tup ?_
  refine wa_nil ?_
  refine ⟨_, rfl, by simp, ?_⟩
  refine ⟨rfl, ?_⟩
  refine wa_nil ?_
  refine ⟨_, rfl, by simp, ?_⟩
  refine ⟨rfl, ?_⟩
  refine wa_nil ?_
  refine ⟨rfl, rfl, ?_⟩
  refine ⟨a, b, c, d, rfl, hA, hC, a2, b2, c2, d2, ?_⟩
  refine ⟨rfl, ?_⟩
  refine wa_cons ?_
  refine we_tup ?_
  refine wa_cons ?_
  refine we_call C__law_sum hr (Nat.le_refl _) rfl ?_
  refine wa_cons ?_
  refine we_lst ?_
  refine wa_cons ?_
  refine we_slot 0 rfl (.inl rfl) rfl rfl ?_
  refine ⟨rfl, ?_⟩
  refine wa_cons ?_
  refine we_slot 1 rfl (.inl rfl) rfl rfl ?_
  refine ⟨rfl, ?_⟩
  refine wa_nil ?_
  refine ⟨_, rfl, by simp, ?_⟩
  refine ⟨rfl, ?_⟩
  refine wa_nil ?_
  refine ⟨rfl, rfl, ?_⟩
  refine ⟨a, b, c, d, rfl, pb, pd, ga, Ba, Bb, Bc, Bd', ?_⟩
  refine ⟨rfl, ?_⟩
  refine wa_cons ?_
  refine we_tup ?_
  refine wa_nil ?_
  refine ⟨_, rfl, by simp, ?_⟩
  refine ⟨rfl, ?_⟩
  refine wa_nil ?_
  refine ⟨_, rfl, by simp, ?_⟩
  refine ⟨rfl, ?_⟩
  refine wa_nil ?_
  refine ⟨rfl, rfl, ?_⟩
  refine ⟨_, rfl, (isb_tup2 2 (isb_low _ _ _)).resolve_right (by decide), ?_⟩
  refine ⟨_, rfl, ?_⟩
  refine iteF rfl ?_
  refine wb_nil ?_
  refine wb_cons (ws_if ?_)
  refine wt_not ?_
  refine wt_val ?_
  refine we_call C__law_is hr (Nat.le_refl _) rfl ?_
  refine wa_cons ?_
  refine we_call C_rich_scaled hr (Nat.le_refl _) rfl ?_
  refine wa_cons ?_
  refine we_slot 3 rfl (.inl rfl) rfl rfl ?_
  refine ⟨rfl, ?_⟩
  refine wa_cons ?_
  refine we_tup ?_
  refine wa_cons ?_
  refine we_slot 0 rfl (.inl rfl) rfl rfl ?_
  refine ⟨rfl, ?_⟩
  refine wa_cons ?_
  refine we_tup ?_
  refine wa_nil ?_
  refine ⟨_, rfl, by simp, ?_⟩
  refine ⟨rfl, ?_⟩
  refine wa_nil ?_
  refine ⟨_, rfl, by simp, ?_⟩
  refine ⟨rfl, ?_⟩
  refine wa_cons ?_
  refine we_slot 1 rfl (.inl rfl) rfl rfl ?_
  refine ⟨rfl, ?_⟩
  refine wa_nil ?_
  refine ⟨rfl, rfl, ?_⟩
  refine ⟨a, b, c, d, rfl, hA, hC, a2, b2, c2, d2, ?_⟩
  refine ⟨rfl, ?_⟩
  refine wa_cons ?_
  refine we_tup ?_
  refine wa_cons ?_
  refine we_call C__law_low hr (Nat.le_refl _) rfl ?_
  refine wa_cons ?_
  refine we_mul ?_
  refine we_ix ?_
  refine we_slot 0 rfl (.inl rfl) rfl rfl ?_
  refine we_int ?_
  refine ⟨_, _, _, rfl, rfl, rfl, ?_⟩
  refine we_ix ?_
  refine we_slot 1 rfl (.inl rfl) rfl rfl ?_
  refine we_int ?_
  refine ⟨_, _, _, rfl, rfl, rfl, ?_⟩
  refine ⟨_, _, rfl, rfl, Bd.cmul (m := 2000) (n := 2000) (by assumption) (by assumption) (by decide) (by decide) (by decide), ?_⟩
  refine ⟨rfl, ?_⟩
  refine wa_cons ?_
  refine we_mul ?_
  refine we_ix ?_
  refine we_slot 0 rfl (.inl rfl) rfl rfl ?_
  refine we_int ?_
  refine ⟨_, _, _, rfl, rfl, rfl, ?_⟩
  refine we_ix ?_
  refine we_slot 1 rfl (.inl rfl) rfl rfl ?_
  refine we_int ?_
  refine ⟨_, _, _, rfl, rfl, rfl, ?_⟩
  refine ⟨_, _, rfl, rfl, Bd.cmul (m := 2000) (n := 2000) (by assumption) (by assumption) (by decide) (by decide) (by decide), ?_⟩
  refine ⟨rfl, ?_⟩
  refine wa_nil ?_
  refine ⟨rfl, rfl, ?_⟩
  refine ⟨_, _, rfl, Int.mul_ne_zero (by omega) (by omega), (b2.mul d2).mono (by decide), ?_⟩
  refine ⟨rfl, ?_⟩
  refine wa_cons ?_
  refine we_tup ?_
  refine wa_nil ?_
  refine ⟨_, rfl, by simp, ?_⟩
  refine ⟨rfl, ?_⟩
  refine wa_nil ?_
  refine ⟨_, rfl, by simp, ?_⟩
  refine ⟨rfl, ?_⟩
  refine wa_nil ?_
  refine ⟨rfl, rfl, ?_⟩
  refine ⟨_, rfl, (isb_tup2 2 (isb_low _ _ _)).resolve_right (by decide), ?_⟩
  refine ⟨_, rfl, ?_⟩
  refine iteF rfl ?_
  refine wb_nil ?_
  refine wb_one (ws_ret ?_)
  refine we_call C__law_is hr (Nat.le_refl _) rfl ?_
  refine wa_cons ?_
  refine we_call C_covers hr (Nat.le_refl _) rfl ?_
  refine wa_cons ?_
  refine we_slot 3 rfl (.inl rfl) rfl rfl ?_
  refine ⟨rfl, ?_⟩
  refine wa_cons ?_
  refine we_tup ?_
  refine wa_cons ?_
  refine we_slot 0 rfl (.inl rfl) rfl rfl ?_
  refine ⟨rfl, ?_⟩
  refine wa_cons ?_
  refine we_tup ?_
  refine wa_nil ?_
  refine ⟨_, rfl, by simp, ?_⟩
  refine ⟨rfl, ?_⟩
  refine wa_nil ?_
  refine ⟨_, rfl, by simp, ?_⟩
  refine ⟨rfl, ?_⟩
  refine wa_cons ?_
  refine we_tup ?_
  refine wa_cons ?_
  refine we_slot 1 rfl (.inl rfl) rfl rfl ?_
  refine ⟨rfl, ?_⟩
  refine wa_cons ?_
  refine we_tup ?_
  refine wa_nil ?_
  refine ⟨_, rfl, by simp, ?_⟩
  refine ⟨rfl, ?_⟩
  refine wa_nil ?_
  refine ⟨_, rfl, by simp, ?_⟩
  refine ⟨rfl, ?_⟩
  refine wa_nil ?_
  refine ⟨rfl, rfl, ?_⟩
  refine ⟨a, b, c, d, rfl, hA, hC, a2, b2, c2, d2, ?_⟩
  refine ⟨rfl, ?_⟩
  refine wa_cons ?_
  refine we_cmpI op_ge (nomark _) ?_
  refine we_mul ?_
  refine we_ix ?_
  refine we_slot 0 rfl (.inl rfl) rfl rfl ?_
  refine we_int ?_
  refine ⟨_, _, _, rfl, rfl, rfl, ?_⟩
  refine we_ix ?_
  refine we_slot 1 rfl (.inl rfl) rfl rfl ?_
  refine we_int ?_
  refine ⟨_, _, _, rfl, rfl, rfl, ?_⟩
  refine ⟨_, _, rfl, rfl, Bd.cmul (m := 2000) (n := 2000) (by assumption) (by assumption) (by decide) (by decide) (by decide), ?_⟩
  refine we_mul ?_
  refine we_ix ?_
  refine we_slot 1 rfl (.inl rfl) rfl rfl ?_
  refine we_int ?_
  refine ⟨_, _, _, rfl, rfl, rfl, ?_⟩
  refine we_ix ?_
  refine we_slot 0 rfl (.inl rfl) rfl rfl ?_
  refine we_int ?_
  refine ⟨_, _, _, rfl, rfl, rfl, ?_⟩
  refine ⟨_, _, rfl, rfl, Bd.cmul (m := 2000) (n := 2000) (by assumption) (by assumption) (by decide) (by decide) (by decide), ?_⟩
  refine ⟨_, _, rfl, rfl, ?_⟩
  refine ⟨rfl, ?_⟩
  refine wa_nil ?_
  refine ⟨rfl, rfl, ?_⟩
  refine ⟨_, rfl, rfl, ?_⟩
  exact ⟨_, rfl, hQ⟩
end
end K02

namespace K02
open PySem PySem.Spec PyProof.Rows L2 PL LamX
variable [Hand]
/-! ### list.count, flat items -/
theorem countP_eqU {x : V} : ∀ {xs : List V} {us : List Value}, Vals xs us → xs.all flatV = true → us.countP (eqU x) = xs.countP fun y => eqV y x
  | _, _, .nil, _ => rfl
  | y :: xs, u :: us, .cons r t, f => by
    rw [List.all_cons, Bool.and_eq_true] at f
    rw [List.countP_cons, List.countP_cons, eqU_of r f.1, countP_eqU t f.2]
def rCntF (K : PySem.W.Frag) : V → List V → Hp → VK → Prop := fun x xs H Q => ∃ (p : Addr) (ys : List V) (y : V), x = .ref p ∧ xs = [y] ∧ SqL K H p ys ∧ flatV y = true ∧ ys.all flatV = true ∧ Q (.int ((ys.countP fun z => eqV z y) : Nat)) H
theorem mt_cntF {X : Cx} : MtR X "list.count" (rCntF X.K) := by
  intro pins s σ H x xs v us Q I rx rxs h
  obtain ⟨p, ys, y, rfl, rfl, hs, fy, fys, q⟩ := h
  cases rx
  obtain ⟨u, rfl, ru⟩ := rxs.one
  obtain ⟨its, rv, ⟨⟨cls, dd, data, sl⟩, n, ho, hc, hdn, hd⟩, hlen⟩ := I.list hs
  simp only at hc hd
  subst hc hd
  refine call_meets PySem.F.slot_list_count ⟨_, ho, rfl⟩ PySem.F.entry_list_count (PySem.F.args_list_count_2 _ _)
    (SeqAt.list_countAt p its.toArray n dd sl u (eqU y)) ⟨ho, fun u' hu' => mem_eqAt ru fy rv fys u' (by simpa using hu'), ?_⟩
  have ec : its.toArray.toList.countP (eqU y) = ys.countP fun z => eqV z y := countP_eqU rv fys
  refine ⟨.int ((ys.countP fun z => eqV z y) : Nat), H, I.tok _, ⟨s.toks, ?_⟩, q⟩
  show Value.int ((its.toArray.toList.countP (eqU y) : Nat) : Int) s.toks = _
  rw [ec]
/-! ### _law_word -/
def wd (y : Str) : Option Str := if y = "NoFraction" then some "fraction" else if y = "Zero" then some "zero" else none
structure WordF (K : PySem.W.Frag) (mg : Str → Option Value) : Prop where
  isi : mg "isinstance" = none
  ex : ∃ CP CN CZ : Addr, mg "PaidError" = some (.ref CP) ∧ mg "NoFraction" = some (.ref CN) ∧ mg "Zero" = some (.ref CZ) ∧ PySem.W.exmOne K (.ref CN) (.ref CP) = some true ∧ PySem.W.exmOne K (.ref CZ) (.ref CP) = some true ∧ ExcC K CN ∧ ExcC K CZ ∧
    PySem.W.kitOne K (.ref CN) (.ref CN) = some true ∧ PySem.W.kitOne K (.ref CN) (.ref CZ) = some false ∧ PySem.W.kitOne K (.ref CZ) (.ref CN) = some false ∧ PySem.W.kitOne K (.ref CZ) (.ref CZ) = some true
abbrev NgW : List Str := ["call", "error", "some"]
theorem sc_word : FnScope NgW ["call"] (defScope s__law_word) := ⟨rfl, rfl, rfl, by decide +kernel, rfl, by decide +kernel, by decide +kernel⟩
theorem stB {X : Cx} {st : Stmt} {rest : List Stmt} {D : Ends} {σ : L2.St} {H : Hp} (h : bS X st { D with nx := fun σ H => bB X rest D σ H } σ H) : bB X (st :: rest) D σ H := bstB (pss_cons ps_best pss_best) h
theorem stB1 {X : Cx} {st : Stmt} {D : Ends} {σ : L2.St} {H : Hp} (h : bS X st D σ H) : bB X [st] D σ H := bstB (pss_one ps_best) h
abbrev XW (X : Cx) (g : Addr) (cdg : Value) (s : Shared) (H : Hp) : Cx := (cxOf C8.CX0 X.prog X.w X.K X.mg X.base NgW "_law_word" (defScope s__law_word) g cdg X.A X.stack s H C8.E0).nox
def suiteOf : List Stmt := match defBody s__law_word with
  | .Try _ (.ExceptHandler _ _ st _ :: _) _ _ _ :: _ => st
  | _ => []
/-- the suite: by the class's answers -/
theorem suite_ok {X : Cx} (W : WordF X.K X.mg) {g a C : Addr} {cdg : Value} {s : Shared} {H0 H : Hp} {oe : Obj} {pn : List (Addr × Obj)} {σ : L2.St} {D : Ends} {r : Str} (EC : ExcC X.K C) (hz : Zc (.ref C) none oe) (hf : ∃ vs, oe.data = .fields vs)
    (hk : ∃ b1 b2, (∃ CN CZ, X.mg "NoFraction" = some (.ref CN) ∧ X.mg "Zero" = some (.ref CZ) ∧ PySem.W.kitOne X.K (.ref C) (.ref CN) = some b1 ∧ PySem.W.kitOne X.K (.ref C) (.ref CZ) = some b2) ∧ ((b1 = true ∧ b2 = false ∧ r = "fraction") ∨ (b1 = false ∧ b2 = true ∧ r = "zero")))
    (hs : σ[1]? = some (some (.ref a))) (hl : σ.length = 3) (hQ : ∀ H', Ext H H' → D.rt (.str r) H') : bB ((XW X g cdg s H0).suite a ((a, oe) :: pn)) suiteOf D σ H := by
  obtain ⟨b1, b2, ⟨CN, CZ, mN, mZ, k1, k2⟩, hr⟩ := hk
  refine stB ?_
  refine bstS (ps_set (i := 2) sc_word.nd rfl (.inl rfl) pe_best rfl (.inr rfl)) ?_
  refine bst (pe_lst pa_best) ?_
  refine bstA (pa_cons pe_best pa_best rfl) ?_
  refine bst (pe_callB (x := "isinstance") (X := (XW X g cdg s H0).suite a ((a, oe) :: pn)) (call_isE (X := XW X g cdg s H0) (pn := pn) EC hz hf) rfl W.isi (by decide +kernel) (pa_cons pe_best (pa_cons pe_best pa_nil))) ?_
  refine bst (pe_var (i := 1) rfl (.inl rfl)) ⟨_, hs, ?_⟩
  refine bst (pe_glob (x := "NoFraction") (X := (XW X g cdg s H0).suite a ((a, oe) :: pn)) (v := .ref CN) rfl mN rfl) ?_
  refine ⟨.ref CN, .ref CN, b1, rfl, fun u r => r, k1, ?_⟩
  refine bstA (pa_cons pe_best pa_best rfl) ?_
  refine bst (pe_callB (x := "isinstance") (X := (XW X g cdg s H0).suite a ((a, oe) :: pn)) (call_isE (X := XW X g cdg s H0) (pn := pn) EC hz hf) rfl W.isi (by decide +kernel) (pa_cons pe_best (pa_cons pe_best pa_nil))) ?_
  refine bst (pe_var (i := 1) rfl (.inl rfl)) ⟨_, hs, ?_⟩
  refine bst (pe_glob (x := "Zero") (X := (XW X g cdg s H0).suite a ((a, oe) :: pn)) (v := .ref CZ) rfl mZ rfl) ?_
  refine ⟨.ref CZ, .ref CZ, b2, rfl, fun u r => r, k2, ?_⟩
  refine bstA pa_nil ?_
  refine ⟨Evl.sz_of (by simp), fun p hp => ?_⟩
  show bB _ _ D (σ.set 2 (some (.ref p))) _
  have h2 : (σ.set 2 (some (.ref p)))[2]? = some (some (.ref p)) := List.getElem?_set_self (by omega)
  have sl : SqL X.K (upd H p (.lst [.bl b1, .bl b2])) p [.bl b1, .bl b2] := .inl (.inl upd_same)
  refine stB1 ?_
  refine bstS (ps_ret pe_best) ?_
  refine bst (pe_ifExp pt_best pe_best pe_best) ?_
  refine bstT (pt_cmpR op_eq pe_best pe_best (nomark _)) ?_
  refine bst (pe_bm PySem.F.plainAttrs_list PySem.F.slot_list_count PySem.F.type_list_count mt_cntF pe_best (pa_cons pe_best pa_nil)) ?_
  refine bst (pe_var (i := 2) rfl (.inl rfl)) ⟨_, h2, ?_⟩
  refine ⟨.inl ⟨rfl, _, sl⟩, ?_⟩
  refine bst pe_bl ?_
  refine ⟨p, [.bl b1, .bl b2], .bl true, rfl, rfl, sl, rfl, rfl, ?_⟩
  have ec : (([.bl b1, .bl b2] : List V).countP fun z => eqV z (.bl true)) = 1 := by
    rcases hr with ⟨rfl, rfl, _⟩ | ⟨rfl, rfl, _⟩ <;> rfl
  rw [ec]
  refine bst pe_int ⟨rfl, true, rfl, ?_⟩
  show bE _ _ _ _ D.rt
  refine bst (pe_ix (ix_list.or ix_tup) pe_best pe_best (fun _ _ => rfl)) ?_
  refine bst (pe_lst pa_best) ?_
  refine bstA (pa_cons pe_best pa_best rfl) (bst pe_str ?_)
  refine bstA (pa_cons pe_best pa_best rfl) (bst pe_str ?_)
  refine bstA pa_nil ?_
  refine ⟨Evl.sz_of (by simp), fun q hq => ?_⟩
  have hqp : p ≠ q := ne_of_none upd_same hq
  have sl2 : SqL X.K (upd (upd H p (.lst [.bl b1, .bl b2])) q (.lst [.str "fraction", .str "zero"])) p [.bl b1, .bl b2] := .inl (.inl (by rw [upd_ne hqp, upd_same]))
  have sl3 : SqL X.K (upd (upd H p (.lst [.bl b1, .bl b2])) q (.lst [.str "fraction", .str "zero"])) q [.str "fraction", .str "zero"] := .inl (.inl upd_same)
  refine bst (pe_bm PySem.F.plainAttrs_list PySem.F.slot_list_index PySem.F.type_list_index mt_index pe_best (pa_cons pe_best pa_nil)) ?_
  refine bst (pe_var (i := 2) rfl (.inl rfl)) ⟨_, h2, ?_⟩
  refine ⟨.inl ⟨rfl, _, sl2⟩, ?_⟩
  refine bst pe_bl ?_
  have hext : Ext H (upd (upd H p (.lst [.bl b1, .bl b2])) q (.lst [.str "fraction", .str "zero"])) := Ext.trans (.new hp) (.new hq)
  rcases hr with ⟨rfl, rfl, rfl⟩ | ⟨rfl, rfl, rfl⟩
  · refine ⟨p, [.bl true, .bl false], .bl true, 0, .bl true, rfl, rfl, sl2, rfl, rfl, rfl, rfl, fun m z h => absurd h (by omega), ?_⟩
    exact .inl ⟨q, _, 0, _, rfl, rfl, sl3, rfl, hQ _ hext⟩
  · refine ⟨p, [.bl false, .bl true], .bl true, 1, .bl true, rfl, rfl, sl2, rfl, rfl, rfl, rfl, fun m z h e => ?_, ?_⟩
    · have : m = 0 := by omega
      subst this
      cases e
      rfl
    · exact .inl ⟨q, _, 1, _, rfl, rfl, sl3, rfl, hQ _ hext⟩

theorem word_gives {X : Cx} (W : WordF X.K X.mg) {g : Addr} {cdg : Value} {q : Str} : GivesTo X NgW "_law_word" (defScope s__law_word) g cdg (defBody s__law_word) "call" q (TTw X.mg wd "let") := by
  intro f c' s H Q tl act hc h
  obtain ⟨E', h1, h3⟩ := h
  obtain ⟨CP, CN, CZ, mP, mN, mZ, xN, xZ, eN, eZ, kNN, kNZ, kZN, kZZ⟩ := W.ex
  refine ⟨_, pss_cons (ps_try_as (X := XW X g cdg s H) (x := "PaidError") (n := "error") (c := .ref CP) (i := 1) (Wout := fun _ _ _ _ => False)
      (tb := fun W D σ H => ∃ Ech : XK, (∀ cls d σ' H', Ech cls d H' → W cls d σ' H') ∧ σ[0]? = some (some (.ref f)) ∧ H c' = some (CodeO c' q) ∧ tl Ech H fun _ H' => D.nx σ H')
      (ts := fun a cls d D σ H1 => ∀ oe pn, Zc cls d oe → (∃ vs, oe.data = .fields vs) → bB ((XW X g cdg s H).suite a ((a, oe) :: pn)) suiteOf D σ H1)
      rfl rfl sc_word.nd rfl rfl ⟨rfl, by decide, .inl mP⟩ LamX.takes0 (fun W pn xe tk _ => ?_) (fun a oe cls d pn hz hf => ⟨fun pins s' σ H D I h => h oe pn hz hf pins s' I⟩)) (pss_one (ps_ret pe_str)), ?_⟩
  · refine ⟨fun pins s' σ H' D I h' => ?_⟩
    obtain ⟨Ech, hW, k1, k2, k3⟩ := h'
    exact (pss_one (ps_expr (act W pn xe Ech _ _ tk hW))).run pins s' σ H' D I ⟨k1, k2, k3⟩
  · refine ⟨E', fun cls d σ' H' he => ?_, rfl, hc, h1⟩
    obtain ⟨rfl, y, C, r, rfl, my, hw, hQ⟩ := h3 cls d H' he
    have key : (∃ b1 b2, (∃ CN CZ, X.mg "NoFraction" = some (.ref CN) ∧ X.mg "Zero" = some (.ref CZ) ∧ PySem.W.kitOne X.K (.ref C) (.ref CN) = some b1 ∧ PySem.W.kitOne X.K (.ref C) (.ref CZ) = some b2) ∧ ((b1 = true ∧ b2 = false ∧ r = "fraction") ∨ (b1 = false ∧ b2 = true ∧ r = "zero"))) ∧ PySem.W.exmOne X.K (.ref C) (.ref CP) = some true ∧ ExcC X.K C := by
      unfold wd at hw
      by_cases hy : y = "NoFraction"
      · rw [if_pos hy] at hw
        cases hw
        subst hy
        rw [mN] at my
        cases my
        exact ⟨⟨true, false, ⟨CN, CZ, mN, mZ, kNN, kNZ⟩, .inl ⟨rfl, rfl, rfl⟩⟩, xN, eN⟩
      · rw [if_neg hy] at hw
        by_cases hy2 : y = "Zero"
        · rw [if_pos hy2] at hw
          cases hw
          subst hy2
          rw [mZ] at my
          cases my
          exact ⟨⟨false, true, ⟨CN, CZ, mN, mZ, kZN, kZZ⟩, .inr ⟨rfl, rfl, rfl⟩⟩, xZ, eZ⟩
        · rw [if_neg hy2] at hw
          cases hw
    obtain ⟨k1, k2, k3⟩ := key
    refine ⟨true, k2, fun _ a ha oe pn hz hf pins s1 I => ?_, fun h => by cases h⟩
    have hl : (σ'.set 1 (some (.ref a))).length = 3 := I.len
    refine suite_ok (r := r) W k3 hz hf k1 ?_ hl (fun H'' e => hQ H'' e) pins s1 I
    rw [List.length_set] at hl
    exact List.getElem?_set_self (by omega)
end K02

namespace K02
open PySem PySem.Spec PyProof.Rows L2 PL LamX
variable [Hand]
/-- what a maker of lambdas needs: its code object's table -/
structure LamF (K : PySem.W.Frag) (mg : Str → Option Value) (base : Heap) (m : Str) : Prop where
  tb : TabB base mg (He.codeOf K (m, none)) (He.tabOf K (He.codeOf K (m, none)))
  mem : (He.tabOf K (He.codeOf K (m, none)), m ++ ".<locals>." ++ "<lambda>") ∈ Hand.T
  un : ∀ p ∈ Hand.T, p.1 = He.tabOf K (He.codeOf K (m, none)) → p.2 = m ++ ".<locals>." ++ "<lambda>"
theorem we_word {X : Cx} {ρ : Store} {Y : Str → Store → Prop} {P : Po} {g c P0 : Addr} {fdw : FuncData} {k : Nat} {params : Arguments} {body : Expr} {scope : Scope} {p lpos pos : Pos} (W : WordF X.K X.mg) (Fw : FnP X.K "_law_word" s__law_word g fdw) (hm : X.mg "_law_word" = some (.ref g))
    (TB : TabB X.base X.mg c P0) (hmT : (P0, X.env.qual ++ "<lambda>") ∈ Hand.T) (hu : ∀ p ∈ Hand.T, p.1 = P0 → p.2 = X.env.qual ++ "<lambda>") (hr : Room (k + 2) X.A) (hcode : X.env.code = .ref c) (hcl : clean ρ = true) (hg : Gl X "_law_word") (L : lamSB X.env.scope scope = true) (hdef : defaultsOf params X.env = ([], []))
    (hbind : ∀ (q : Str) (cl : List (Str × Addr)) (pm cv ctv : Value), bindArgs (PySem.W.kla_fn "<lambda>" q params body scope cl pm cv ctv) ⟨[], []⟩ = pure [])
    (h : ∀ (A : Around) (outer : List PySem.Env) (s : Shared) (H : Hp) (E : XK) (f c' : Addr), Room k (A.deeper (lamEnv X scope s.heap.objs.size f c')) → WE (lamCx X A outer s H E scope f c') body (dataOnly ρ) (fun y _ => ∃ r, wd y = some r ∧ P (.val (.str r)) ρ) (fun _ _ => P (.val (.str "let")) ρ)) :
    WE X (.Call (.Name "_law_word" p) [.Lambda params body scope lpos] [] pos) ρ Y P := by
  have hb : Binds X.K fdw ["call"] [] := FunD.bindsN (ps := ["call"]) Fw fun _ _ _ _ _ _ us hl => match us, hl with | [_], _ => rfl
  obtain ⟨oc, od, dV, kV, doc, pm, an, cdv, ct, osl, rfl, lk, hcd, _, _⟩ := Fw.ex
  exact we_lam (wd := wd) (w0 := "let") hm Fw.kp lk hcd hb sc_word rfl (.inl rfl) (word_gives W) TB hcode hmT hu hr hcl hg (lamS_by L) hdef hbind h
def S__law_two_right : Sem1 := fun ws P Y => ∃ a b c d : Int, ws = [.val (fr a b), .val (fr c d)] ∧ 0 < b ∧ 0 < d ∧ gcdI a b = 1 ∧ gcdI c d = 1 ∧ Bd 110 a ∧ Bd 110 b ∧ Bd 110 c ∧ Bd 110 d ∧ P (.bl true)
theorem fr_good {a b : Int} (hb : 0 < b) (hg : gcdI a b = 1) : isFr (fr a b) = true := by
  rw [isFr_fr, decide_eq_true hb, decide_eq_true hg]
  rfl
theorem isb_fr (n : Nat) (x y : Int) : isb (n + 1) (fr x y) = true := by
  show (decide (([D.int x, D.int y] : List D).length ≤ 100) && [D.int x, D.int y].all (isb n)) = true
  cases n <;> rfl
theorem isb_four (n : Nat) {p q r : D} {b : Bool} (hp : isb (n + 1) p = true) (hq : isb (n + 1) q = true) (hr : isb (n + 1) r = true) : isb (n + 2) (.lst [p, q, r, .bl b]) = true := by
  show (decide (([p, q, r, .bl b] : List D).length ≤ 100) && [p, q, r, .bl b].all (isb (n + 1))) = true
  rw [List.all_cons, List.all_cons, List.all_cons, hp, hq, hr]
  rfl
section
variable {P : Program} {w : World} {K : PySem.W.Frag} {mg : Str → Option Value} {base : Heap} {f : Addr} {fd : FuncData} {k : Nat}
theorem sc__law_two_right : FnScope ["one", "other", "due", "found"] ["one", "other"] (defScope s__law_two_right) := ⟨rfl, rfl, rfl, by decide +kernel, rfl, by decide +kernel, by decide +kernel⟩
theorem ok__law_two_right (Z : Env K mg) (W : WordF K mg) (LF : LamF K mg base "_law_two_right") {gw : Addr} {fdw : FuncData} (Fw : FnP K "_law_word" s__law_word gw fdw) (mw : mg "_law_word" = some (.ref gw)) (C__law_is : Cal P w K mg base k "_law_is" 2 (S_is 3)) (C__law_low : Cal P w K mg base k "_law_low" 2 S__law_low) (C_plus : Cal P w K mg base k "plus" 2 S_plus) (C_less : Cal P w K mg base k "less" 2 S_less) (C_times : Cal P w K mg base k "times" 2 S_times) (C_at_most : Cal P w K mg base k "at_most" 2 S_at_most) (C_by : Cal P w K mg base k "by" 2 S_by) (F : FnP K "_law_two_right" s__law_two_right f fd) (hf : f = He.fAd K ("_law_two_right", none)) : FnOk P w K mg base (L2.CX P w) (k + 2 + 1) f fd ["one", "other"] (spS K mg 2 S__law_two_right) := fn_okL F hf sc__law_two_right fun A outer s H E ws Q Y hr hS hl => by
  obtain ⟨a, b, c, d, rfl, pb, pd, ga, gc, Ba, Bb, Bc, Bd', hQ⟩ := hS
  have a2 : Bd 2000 a := Ba.mono (by decide)
  have b2 : Bd 2000 b := Bb.mono (by decide)
  have c2 : Bd 2000 c := Bc.mono (by decide)
  have d2 : Bd 2000 d := Bd'.mono (by decide)
  have f1 := fr_good pb ga
  have f2 := fr_good pd gc
  have bd0 : b * d ≠ 0 := Int.mul_ne_zero (by omega) (by omega)
  have bd8 : Bd 8000 (b * d) := (b2.mul d2).mono (by decide)
  refine wb_cons (ws_asgO 2 sc__law_two_right.nd rfl (.inl rfl) ?_)
  refine wo_list ?_
  refine wa_cons ?_
  refine we_call C__law_low hr (Nat.le_add_right k 2) rfl ?_
  refine wa_cons ?_
  refine we_add ?_
  refine we_mul ?_
  refine we_ix ?_
  refine we_slot 0 rfl (.inr (.inl rfl)) rfl rfl ?_
  refine we_int ?_
  refine ⟨_, _, _, rfl, rfl, rfl, ?_⟩
  refine we_ix ?_
  refine we_slot 1 rfl (.inr (.inl rfl)) rfl rfl ?_
  refine we_int ?_
  refine ⟨_, _, _, rfl, rfl, rfl, ?_⟩
  refine ⟨_, _, rfl, rfl, Bd.cmul (m := 2000) (n := 2000) (by assumption) (by assumption) (by decide) (by decide) (by decide), ?_⟩
  refine we_mul ?_
  refine we_ix ?_
  refine we_slot 1 rfl (.inr (.inl rfl)) rfl rfl ?_
  refine we_int ?_
  refine ⟨_, _, _, rfl, rfl, rfl, ?_⟩
  refine we_ix ?_
  refine we_slot 0 rfl (.inr (.inl rfl)) rfl rfl ?_
  refine we_int ?_
  refine ⟨_, _, _, rfl, rfl, rfl, ?_⟩
  refine ⟨_, _, rfl, rfl, Bd.cmul (m := 2000) (n := 2000) (by assumption) (by assumption) (by decide) (by decide) (by decide), ?_⟩
  refine ⟨_, _, rfl, rfl, ?_⟩
  refine ⟨rfl, ?_⟩
  refine wa_cons ?_
  refine we_mul ?_
  refine we_ix ?_
  refine we_slot 0 rfl (.inr (.inl rfl)) rfl rfl ?_
  refine we_int ?_
  refine ⟨_, _, _, rfl, rfl, rfl, ?_⟩
  refine we_ix ?_
  refine we_slot 1 rfl (.inr (.inl rfl)) rfl rfl ?_
  refine we_int ?_
  refine ⟨_, _, _, rfl, rfl, rfl, ?_⟩
  refine ⟨_, _, rfl, rfl, Bd.cmul (m := 2000) (n := 2000) (by assumption) (by assumption) (by decide) (by decide) (by decide), ?_⟩
  refine ⟨rfl, ?_⟩
  refine wa_nil ?_
  refine ⟨rfl, rfl, ?_⟩
  refine ⟨_, _, rfl, bd0, bd8, ?_⟩
  refine ⟨rfl, ?_⟩
  refine wa_nil ?_
  refine ⟨_, rfl, by simp, ?_⟩
  refine wb_cons (ws_expr ?_)
  refine we_append ?_
  refine we_slot 2 rfl (.inl rfl) rfl rfl ?_
  refine ⟨_, _, rfl, rfl, ?_⟩
  refine we_call C__law_low hr (Nat.le_add_right k 2) rfl ?_
  refine wa_cons ?_
  refine we_sub ?_
  refine we_mul ?_
  refine we_ix ?_
  refine we_slot 0 rfl (.inr (.inl rfl)) rfl rfl ?_
  refine we_int ?_
  refine ⟨_, _, _, rfl, rfl, rfl, ?_⟩
  refine we_ix ?_
  refine we_slot 1 rfl (.inr (.inl rfl)) rfl rfl ?_
  refine we_int ?_
  refine ⟨_, _, _, rfl, rfl, rfl, ?_⟩
  refine ⟨_, _, rfl, rfl, Bd.cmul (m := 2000) (n := 2000) (by assumption) (by assumption) (by decide) (by decide) (by decide), ?_⟩
  refine we_mul ?_
  refine we_ix ?_
  refine we_slot 1 rfl (.inr (.inl rfl)) rfl rfl ?_
  refine we_int ?_
  refine ⟨_, _, _, rfl, rfl, rfl, ?_⟩
  refine we_ix ?_
  refine we_slot 0 rfl (.inr (.inl rfl)) rfl rfl ?_
  refine we_int ?_
  refine ⟨_, _, _, rfl, rfl, rfl, ?_⟩
  refine ⟨_, _, rfl, rfl, Bd.cmul (m := 2000) (n := 2000) (by assumption) (by assumption) (by decide) (by decide) (by decide), ?_⟩
  refine ⟨_, _, rfl, rfl, ?_⟩
  refine ⟨rfl, ?_⟩
  refine wa_cons ?_
  refine we_mul ?_
  refine we_ix ?_
  refine we_slot 0 rfl (.inr (.inl rfl)) rfl rfl ?_
  refine we_int ?_
  refine ⟨_, _, _, rfl, rfl, rfl, ?_⟩
  refine we_ix ?_
  refine we_slot 1 rfl (.inr (.inl rfl)) rfl rfl ?_
  refine we_int ?_
  refine ⟨_, _, _, rfl, rfl, rfl, ?_⟩
  refine ⟨_, _, rfl, rfl, Bd.cmul (m := 2000) (n := 2000) (by assumption) (by assumption) (by decide) (by decide) (by decide), ?_⟩
  refine ⟨rfl, ?_⟩
  refine wa_nil ?_
  refine ⟨rfl, rfl, ?_⟩
  refine ⟨_, _, rfl, bd0, bd8, ?_⟩
  refine ⟨_, _, rfl, rfl, by simp, ?_⟩
  refine wb_cons (ws_expr ?_)
  refine we_append ?_
  refine we_slot 2 rfl (.inl rfl) rfl rfl ?_
  refine ⟨_, _, rfl, rfl, ?_⟩
  refine we_call C__law_low hr (Nat.le_add_right k 2) rfl ?_
  refine wa_cons ?_
  refine we_mul ?_
  refine we_ix ?_
  refine we_slot 0 rfl (.inr (.inl rfl)) rfl rfl ?_
  refine we_int ?_
  refine ⟨_, _, _, rfl, rfl, rfl, ?_⟩
  refine we_ix ?_
  refine we_slot 1 rfl (.inr (.inl rfl)) rfl rfl ?_
  refine we_int ?_
  refine ⟨_, _, _, rfl, rfl, rfl, ?_⟩
  refine ⟨_, _, rfl, rfl, Bd.cmul (m := 2000) (n := 2000) (by assumption) (by assumption) (by decide) (by decide) (by decide), ?_⟩
  refine ⟨rfl, ?_⟩
  refine wa_cons ?_
  refine we_mul ?_
  refine we_ix ?_
  refine we_slot 0 rfl (.inr (.inl rfl)) rfl rfl ?_
  refine we_int ?_
  refine ⟨_, _, _, rfl, rfl, rfl, ?_⟩
  refine we_ix ?_
  refine we_slot 1 rfl (.inr (.inl rfl)) rfl rfl ?_
  refine we_int ?_
  refine ⟨_, _, _, rfl, rfl, rfl, ?_⟩
  refine ⟨_, _, rfl, rfl, Bd.cmul (m := 2000) (n := 2000) (by assumption) (by assumption) (by decide) (by decide) (by decide), ?_⟩
  refine ⟨rfl, ?_⟩
  refine wa_nil ?_
  refine ⟨rfl, rfl, ?_⟩
  refine ⟨_, _, rfl, bd0, bd8, ?_⟩
  refine ⟨_, _, rfl, rfl, by simp, ?_⟩
  refine wb_cons (ws_expr ?_)
  refine we_append ?_
  refine we_slot 2 rfl (.inl rfl) rfl rfl ?_
  refine ⟨_, _, rfl, rfl, ?_⟩
  refine we_cmpI op_le (nomark _) ?_
  refine we_mul ?_
  refine we_ix ?_
  refine we_slot 0 rfl (.inr (.inl rfl)) rfl rfl ?_
  refine we_int ?_
  refine ⟨_, _, _, rfl, rfl, rfl, ?_⟩
  refine we_ix ?_
  refine we_slot 1 rfl (.inr (.inl rfl)) rfl rfl ?_
  refine we_int ?_
  refine ⟨_, _, _, rfl, rfl, rfl, ?_⟩
  refine ⟨_, _, rfl, rfl, Bd.cmul (m := 2000) (n := 2000) (by assumption) (by assumption) (by decide) (by decide) (by decide), ?_⟩
  refine we_mul ?_
  refine we_ix ?_
  refine we_slot 1 rfl (.inr (.inl rfl)) rfl rfl ?_
  refine we_int ?_
  refine ⟨_, _, _, rfl, rfl, rfl, ?_⟩
  refine we_ix ?_
  refine we_slot 0 rfl (.inr (.inl rfl)) rfl rfl ?_
  refine we_int ?_
  refine ⟨_, _, _, rfl, rfl, rfl, ?_⟩
  refine ⟨_, _, rfl, rfl, Bd.cmul (m := 2000) (n := 2000) (by assumption) (by assumption) (by decide) (by decide) (by decide), ?_⟩
  refine ⟨_, _, rfl, rfl, ?_⟩
  refine ⟨_, _, rfl, rfl, by simp, ?_⟩
  refine wb_freeze 2 rfl ?_
  refine wb_cons (ws_if ?_)
  refine wt_not ?_
  refine wt_val ?_
  refine we_call C__law_is hr (Nat.le_add_right k 2) rfl ?_
  refine wa_cons ?_
  refine we_lst ?_
  refine wa_cons ?_
  refine we_call C_plus hr (Nat.le_add_right k 2) rfl ?_
  refine wa_cons ?_
  refine we_slot 0 rfl (.inr (.inl rfl)) rfl rfl ?_
  refine ⟨rfl, ?_⟩
  refine wa_cons ?_
  refine we_slot 1 rfl (.inr (.inl rfl)) rfl rfl ?_
  refine ⟨rfl, ?_⟩
  refine wa_nil ?_
  refine ⟨rfl, rfl, ?_⟩
  refine ⟨_, _, rfl, rfl, rfl, .inl ⟨a, b, c, d, rfl, rfl, f1, f2, a2, b2, c2, d2, ?_⟩⟩
  refine ⟨rfl, ?_⟩
  refine wa_cons ?_
  refine we_call C_less hr (Nat.le_add_right k 2) rfl ?_
  refine wa_cons ?_
  refine we_slot 0 rfl (.inr (.inl rfl)) rfl rfl ?_
  refine ⟨rfl, ?_⟩
  refine wa_cons ?_
  refine we_slot 1 rfl (.inr (.inl rfl)) rfl rfl ?_
  refine ⟨rfl, ?_⟩
  refine wa_nil ?_
  refine ⟨rfl, rfl, ?_⟩
  refine ⟨_, _, rfl, rfl, rfl, .inl ⟨a, b, c, d, rfl, rfl, f1, f2, a2, b2, c2, d2, ?_⟩⟩
  refine ⟨rfl, ?_⟩
  refine wa_cons ?_
  refine we_call C_times hr (Nat.le_add_right k 2) rfl ?_
  refine wa_cons ?_
  refine we_slot 0 rfl (.inr (.inl rfl)) rfl rfl ?_
  refine ⟨rfl, ?_⟩
  refine wa_cons ?_
  refine we_slot 1 rfl (.inr (.inl rfl)) rfl rfl ?_
  refine ⟨rfl, ?_⟩
  refine wa_nil ?_
  refine ⟨rfl, rfl, ?_⟩
  refine ⟨_, _, rfl, rfl, rfl, .inl ⟨a, b, c, d, rfl, rfl, f1, f2, a2, b2, c2, d2, ?_⟩⟩
  refine ⟨rfl, ?_⟩
  refine wa_cons ?_
  refine we_call C_at_most hr (Nat.le_add_right k 2) rfl ?_
  refine wa_cons ?_
  refine we_slot 0 rfl (.inr (.inl rfl)) rfl rfl ?_
  refine ⟨rfl, ?_⟩
  refine wa_cons ?_
  refine we_slot 1 rfl (.inr (.inl rfl)) rfl rfl ?_
  refine ⟨rfl, ?_⟩
  refine wa_nil ?_
  refine ⟨rfl, rfl, ?_⟩
  refine ⟨_, _, rfl, rfl, rfl, .inl ⟨a, b, c, d, rfl, rfl, f1, f2, a2, b2, c2, d2, ?_⟩⟩
  refine ⟨rfl, ?_⟩
  refine wa_nil ?_
  refine ⟨_, rfl, by simp, ?_⟩
  refine ⟨rfl, ?_⟩
  refine wa_cons ?_
  refine we_slot 2 rfl (.inl rfl) rfl rfl ?_
  refine ⟨rfl, ?_⟩
  refine wa_nil ?_
  refine ⟨rfl, rfl, ?_⟩
  refine ⟨_, rfl, isb_four 1 (isb_low _ _ _) (isb_low _ _ _) (isb_low _ _ _), ?_⟩
  refine ⟨_, rfl, ?_⟩
  refine iteF rfl ?_
  refine wb_nil ?_
  refine wb_cons (ws_if ?_)
  refine wt_eqS ?_
  refine we_ix ?_
  refine we_slot 1 rfl (.inr (.inl rfl)) rfl rfl ?_
  refine we_int ?_
  refine ⟨_, _, _, rfl, rfl, rfl, ?_⟩
  refine we_int ?_
  refine ⟨_, _, _, _, rfl, rfl, rfl, rfl, rfl, ?_⟩
  by_cases h0 : c = 0
  · subst h0
    refine iteT rfl ?_
    refine wb_one (ws_ret ?_)
    refine we_eqS ?_
    refine we_word W Fw mw LF.tb LF.mem LF.un hr rfl rfl rfl rfl rfl (fun _ _ _ _ _ => rfl) (fun A outer s H E f c' hr2 => ?_)
    refine we_call C_by hr2 (Nat.le_refl _) rfl ?_
    refine wa_cons ?_
    refine we_slot 0 rfl (.inr (.inr rfl)) rfl rfl ?_
    refine ⟨rfl, ?_⟩
    refine wa_cons ?_
    refine we_slot 1 rfl (.inr (.inr rfl)) rfl rfl ?_
    refine ⟨rfl, ?_⟩
    refine wa_nil ?_
    refine ⟨rfl, rfl, ?_⟩
    refine ⟨_, _, rfl, rfl, rfl, .inl ⟨a, b, 0, d, rfl, rfl, f1, f2, a2, b2, c2, d2, ?_⟩⟩
    rw [if_pos rfl]
    refine ⟨"zero", rfl, ?_⟩
    refine we_str ?_
    refine ⟨_, _, _, _, rfl, rfl, rfl, rfl, rfl, _, rfl, ?_⟩
    exact hQ
  · refine iteF (by simpa using h0) ?_
    refine wb_nil ?_
    have bc0 : b * c ≠ 0 := Int.mul_ne_zero (by omega) h0
    have bc8 : Bd 8000 (b * c) := (b2.mul c2).mono (by decide)
    refine wb_cons (ws_asg 3 sc__law_two_right.nd rfl (.inl rfl) ?_)
    refine we_call C__law_low hr (Nat.le_add_right k 2) rfl ?_
    refine wa_cons ?_
    refine we_mul ?_
    refine we_ix ?_
    refine we_slot 0 rfl (.inr (.inl rfl)) rfl rfl ?_
    refine we_int ?_
    refine ⟨_, _, _, rfl, rfl, rfl, ?_⟩
    refine we_ix ?_
    refine we_slot 1 rfl (.inr (.inl rfl)) rfl rfl ?_
    refine we_int ?_
    refine ⟨_, _, _, rfl, rfl, rfl, ?_⟩
    refine ⟨_, _, rfl, rfl, Bd.cmul (m := 2000) (n := 2000) (by assumption) (by assumption) (by decide) (by decide) (by decide), ?_⟩
    refine ⟨rfl, ?_⟩
    refine wa_cons ?_
    refine we_mul ?_
    refine we_ix ?_
    refine we_slot 0 rfl (.inr (.inl rfl)) rfl rfl ?_
    refine we_int ?_
    refine ⟨_, _, _, rfl, rfl, rfl, ?_⟩
    refine we_ix ?_
    refine we_slot 1 rfl (.inr (.inl rfl)) rfl rfl ?_
    refine we_int ?_
    refine ⟨_, _, _, rfl, rfl, rfl, ?_⟩
    refine ⟨_, _, rfl, rfl, Bd.cmul (m := 2000) (n := 2000) (by assumption) (by assumption) (by decide) (by decide) (by decide), ?_⟩
    refine ⟨rfl, ?_⟩
    refine wa_nil ?_
    refine ⟨rfl, rfl, ?_⟩
    refine ⟨_, _, rfl, bc0, bc8, ?_⟩
    refine ⟨_, rfl, ?_⟩
    refine wb_one (ws_ret ?_)
    refine we_and ?_
    refine we_call C__law_is hr (Nat.le_add_right k 2) rfl ?_
    refine wa_cons ?_
    refine we_call C_by hr (Nat.le_add_right k 2) rfl ?_
    refine wa_cons ?_
    refine we_slot 0 rfl (.inr (.inl rfl)) rfl rfl ?_
    refine ⟨rfl, ?_⟩
    refine wa_cons ?_
    refine we_slot 1 rfl (.inr (.inl rfl)) rfl rfl ?_
    refine ⟨rfl, ?_⟩
    refine wa_nil ?_
    refine ⟨rfl, rfl, ?_⟩
    refine ⟨_, _, rfl, rfl, rfl, .inl ⟨a, b, c, d, rfl, rfl, f1, f2, a2, b2, c2, d2, ?_⟩⟩
    rw [if_neg h0]
    refine ⟨rfl, ?_⟩
    refine wa_cons ?_
    refine we_slot 3 rfl (.inl rfl) rfl rfl ?_
    refine ⟨rfl, ?_⟩
    refine wa_nil ?_
    refine ⟨rfl, rfl, ?_⟩
    refine ⟨low (a * d) (b * c), rfl, isb_low _ _ _, ?_⟩
    refine ⟨_, rfl, ?_⟩
    refine iteT rfl (we_and1 ?_)
    obtain ⟨x, y, e, hy, hg, l1, l2, hx⟩ := low_isFr (a := a * d) (b := b * c) bc0
    have bx : Bd 2000 x := Bd.mono (m := 110 + 110) (Nat.lt_of_le_of_lt l1 (Ba.mul Bd')) (by decide)
    have by_ : Bd 2000 y := Bd.mono (m := 110 + 110) (Nat.lt_of_le_of_lt l2 (Bb.mul Bc)) (by decide)
    have back : opTimes x y c d = fr a b := by
      unfold opTimes
      rw [low_eq (c := a) (d := b) (Int.mul_ne_zero (by omega) (by omega)) (by omega) ?_, low_of pb ga]
      calc x * c * b = x * (b * c) := by ac_rfl
        _ = a * d * y := hx
        _ = a * (y * d) := by ac_rfl
    refine we_call C__law_is hr (Nat.le_add_right k 2) rfl ?_
    refine wa_cons ?_
    refine we_call C_times hr (Nat.le_add_right k 2) rfl ?_
    refine wa_cons ?_
    refine we_call C_by hr (Nat.le_add_right k 2) rfl ?_
    refine wa_cons ?_
    refine we_slot 0 rfl (.inr (.inl rfl)) rfl rfl ?_
    refine ⟨rfl, ?_⟩
    refine wa_cons ?_
    refine we_slot 1 rfl (.inr (.inl rfl)) rfl rfl ?_
    refine ⟨rfl, ?_⟩
    refine wa_nil ?_
    refine ⟨rfl, rfl, ?_⟩
    refine ⟨_, _, rfl, rfl, rfl, .inl ⟨a, b, c, d, rfl, rfl, f1, f2, a2, b2, c2, d2, ?_⟩⟩
    rw [if_neg h0, show opBy a b c d = fr x y from e]
    refine ⟨rfl, ?_⟩
    refine wa_cons ?_
    refine we_slot 1 rfl (.inr (.inl rfl)) rfl rfl ?_
    refine ⟨rfl, ?_⟩
    refine wa_nil ?_
    refine ⟨rfl, rfl, ?_⟩
    refine ⟨_, _, rfl, rfl, rfl, .inl ⟨x, y, c, d, rfl, rfl, fr_good hy hg, f2, bx, by_, c2, d2, ?_⟩⟩
    rw [back]
    refine ⟨rfl, ?_⟩
    refine wa_cons ?_
    refine we_slot 0 rfl (.inr (.inl rfl)) rfl rfl ?_
    refine ⟨rfl, ?_⟩
    refine wa_nil ?_
    refine ⟨rfl, rfl, ?_⟩
    refine ⟨fr a b, rfl, isb_fr _ _ _, ?_⟩
    exact ⟨_, rfl, hQ⟩
end
end K02

namespace K02
open PySem PySem.Spec PyProof.Rows L2 PL LamX
variable [Hand]
theorem am_eq {a b : Int} (hb : 0 < b) (hg : gcdI a b = 1) : isAm (fr a b) = decide (a ≥ 0) := by
  show ((decide (b > 0) && decide (gcdI a b = 1)) && decide (a ≥ 0)) = _
  simp [hb, hg]
theorem sc_law : FnScope ["script", "hand", "turn", "words", "some", "thing", "is_good", "one", "other", "top", "bottom", "call"] ["script"] (defScope s_law) := ⟨rfl, rfl, rfl, by decide +kernel, rfl, by decide +kernel, by decide +kernel⟩
abbrev NL : List Str := ["script", "hand", "turn", "words", "some", "thing", "is_good", "one", "other", "top", "bottom", "call"]
abbrev ρ1 (d : D) : Store := [some (.val d), some .hnd, none, none, none, none, none, none, none, none, none, none]
section
variable {P : Program} {w : World} {K : PySem.W.Frag} {mg : Str → Option Value} {base : Heap} {f : Addr} {fd : FuncData} {k : Nat}
theorem law_rest (Z : Env K mg) (W : WordF K mg) (LF : LamF K mg base "law") {gw : Addr} {fdw : FuncData} (Fw : FnP K "_law_word" s__law_word gw fdw) (mw : mg "_law_word" = some (.ref gw)) (C__law_part : Cal P w K mg base k "_law_part" 1 S__law_part) (C__law_is : Cal P w K mg base k "_law_is" 2 (S_is 3)) (C_is_fraction : Cal P w K mg base k "is_fraction" 1 S_is_fraction) (C_is_amount : Cal P w K mg base k "is_amount" 1 S_is_amount) (C__law_two_right : Cal P w K mg base k "_law_two_right" 2 S__law_two_right) (C_floor_of : Cal P w K mg base k "floor_of" 1 S_floor_of) (C__law_whole : Cal P w K mg base k "_law_whole" 1 S__law_whole) (C_fraction : Cal P w K mg base k "fraction" 2 S_fraction) (C__law_low : Cal P w K mg base k "_law_low" 2 S__law_low) (C__law_riches_right : Cal P w K mg base k "_law_riches_right" 3 S__law_riches_right) (C__law_draw : Cal P w K mg base k "_law_draw" 2 S__law_draw) (C__law_bent : Cal P w K mg base k "_law_bent" 2 S__law_bent) (C__law_is_part : Cal P w K mg base k "_law_is_part" 1 S__law_is_part) (C_plus : Cal P w K mg base k "plus" 2 S_plus) (C_less : Cal P w K mg base k "less" 2 S_less) (C_times : Cal P w K mg base k "times" 2 S_times) (C_by : Cal P w K mg base k "by" 2 S_by) (C_at_most : Cal P w K mg base k "at_most" 2 S_at_most) {A : Around} {outer : List PySem.Env} {s : Shared} {H : Hp} {E : XK} {sc : D} {Y : Str → Store → Prop}
    (hr : Room (k + 2) (A.deeper (envOfC "law" (defScope s_law) s.heap.objs.size f (.ref (He.codeOf K ("law", none)))))) :
    WB (cxOf (L2.CX P w) P w K mg base NL "law" (defScope s_law) f (.ref (He.codeOf K ("law", none))) A outer s H E) (defBody s_law).tail (ρ1 sc) Y { nx := fun _ => False, rt := fun d => d = .bl true } := by
  refine wb_cons (ws_for (js := [2]) rfl (pg_name sc_law.nd rfl (.inl rfl)) tgt1 (show ∀ j ∈ ([2] : List Nat), j < 12 by decide) ?_)
  refine wi_range1 rfl Z.range ?_
  refine we_int ?_
  refine ⟨_, rfl, by decide, by decide, ?_⟩
  refine ⟨fun i ρ => ρ[0]? = some (some (.val sc)) ∧ ρ[1]? = some (some .hnd), ⟨rfl, rfl⟩, ?_, ?_⟩
  · rintro i d0 ρ2 _ ⟨h0, h1⟩
    refine ⟨[d0], rfl, ?_⟩
    refine wb_weak (ρ' := [some (.val sc), some .hnd, none, none, none, none, none, none, none, none, none, none]) (fun i w hi => ?_) ?_
    · match i, hi with
      | 0, hi =>
        cases hi
        exact (List.getElem?_set_ne (by decide)).trans h0
      | 1, hi =>
        cases hi
        exact (List.getElem?_set_ne (by decide)).trans h1
      | 2, hi => cases hi
      | 3, hi => cases hi
      | 4, hi => cases hi
      | 5, hi => cases hi
      | 6, hi => cases hi
      | 7, hi => cases hi
      | 8, hi => cases hi
      | 9, hi => cases hi
      | 10, hi => cases hi
      | 11, hi => cases hi
      | n + 12, hi => cases hi
    refine wb_cons (ws_asgT 7 8 rfl sc_law.nd rfl rfl (.inl rfl) (.inr rfl) ?_)
    refine we_tup ?_
    refine wa_cons ?_
    refine we_call C__law_part hr (Nat.le_add_right k 2) rfl ?_
    refine wa_cons ?_
    refine we_slot 1 rfl (.inl rfl) rfl rfl ?_
    refine ⟨rfl, ?_⟩
    refine wa_nil ?_
    refine ⟨rfl, rfl, ?_⟩
    refine ⟨rfl, fun a b pb ga Ba Bb => ?_⟩
    refine ⟨rfl, ?_⟩
    refine wa_cons ?_
    refine we_call C__law_part hr (Nat.le_add_right k 2) rfl ?_
    refine wa_cons ?_
    refine we_slot 1 rfl (.inl rfl) rfl rfl ?_
    refine ⟨rfl, ?_⟩
    refine wa_nil ?_
    refine ⟨rfl, rfl, ?_⟩
    refine ⟨rfl, fun c d pd gc Bc Bd' => ?_⟩
    refine ⟨rfl, ?_⟩
    refine wa_nil ?_
    refine ⟨_, rfl, by simp, ?_⟩
    refine ⟨_, _, rfl, ?_⟩
    have f1 := fr_good pb ga
    have f2 := fr_good pd gc
    refine wb_cons (ws_if ?_)
    refine wt_of ?_
    refine ww_or ?_
    refine wt_not ?_
    refine wt_val ?_
    refine we_call C__law_is hr (Nat.le_add_right k 2) rfl ?_
    refine wa_cons ?_
    refine we_lst ?_
    refine wa_cons ?_
    refine we_call C_is_fraction hr (Nat.le_add_right k 2) rfl ?_
    refine wa_cons ?_
    refine we_slot 7 rfl (.inl rfl) rfl rfl ?_
    refine ⟨rfl, ?_⟩
    refine wa_nil ?_
    refine ⟨rfl, rfl, ?_⟩
    refine ⟨fr a b, rfl, rfl, ?_⟩
    rw [f1]
    refine ⟨rfl, ?_⟩
    refine wa_cons ?_
    refine we_call C_is_amount hr (Nat.le_add_right k 2) rfl ?_
    refine wa_cons ?_
    refine we_slot 7 rfl (.inl rfl) rfl rfl ?_
    refine ⟨rfl, ?_⟩
    refine wa_nil ?_
    refine ⟨rfl, rfl, ?_⟩
    refine ⟨fr a b, rfl, rfl, ?_⟩
    rw [am_eq pb ga]
    refine ⟨rfl, ?_⟩
    refine wa_nil ?_
    refine ⟨_, rfl, by simp, ?_⟩
    refine ⟨rfl, ?_⟩
    refine wa_cons ?_
    refine we_lst ?_
    refine wa_cons ?_
    refine we_bl ?_
    refine ⟨rfl, ?_⟩
    refine wa_cons ?_
    refine we_cmpI op_ge (nomark _) ?_
    refine we_ix ?_
    refine we_slot 7 rfl (.inl rfl) rfl rfl ?_
    refine we_int ?_
    refine ⟨_, _, _, rfl, rfl, rfl, ?_⟩
    refine we_int ?_
    refine ⟨_, _, rfl, rfl, ?_⟩
    refine ⟨rfl, ?_⟩
    refine wa_nil ?_
    refine ⟨_, rfl, by simp, ?_⟩
    refine ⟨rfl, ?_⟩
    refine wa_nil ?_
    refine ⟨rfl, rfl, ?_⟩
    refine ⟨_, rfl, rfl, ?_⟩
    refine ⟨_, rfl, ?_⟩
    refine iteF rfl ?_
    refine ww_or1 ?_
    refine wt_not ?_
    refine wt_val ?_
    refine we_call C__law_two_right hr (Nat.le_add_right k 2) rfl ?_
    refine wa_cons ?_
    refine we_slot 7 rfl (.inl rfl) rfl rfl ?_
    refine ⟨rfl, ?_⟩
    refine wa_cons ?_
    refine we_slot 8 rfl (.inr (.inl rfl)) rfl rfl ?_
    refine ⟨rfl, ?_⟩
    refine wa_nil ?_
    refine ⟨rfl, rfl, ?_⟩
    refine ⟨a, b, c, d, rfl, pb, pd, ga, gc, Ba, Bb, Bc, Bd', ?_⟩
    refine ⟨_, rfl, ?_⟩
    refine iteF rfl ?_
    refine wb_nil ?_
    refine wb_cons (ws_if ?_)
    refine wt_not ?_
    refine wt_val ?_
    refine we_call C__law_is hr (Nat.le_add_right k 2) rfl ?_
    refine wa_cons ?_
    refine we_call C_floor_of hr (Nat.le_add_right k 2) rfl ?_
    refine wa_cons ?_
    refine we_slot 7 rfl (.inl rfl) rfl rfl ?_
    refine ⟨rfl, ?_⟩
    refine wa_nil ?_
    refine ⟨rfl, rfl, ?_⟩
    refine ⟨fr a b, rfl, rfl, .inl ⟨a, b, rfl, f1, Bb.mono (by decide), ?_⟩⟩
    refine ⟨rfl, ?_⟩
    refine wa_cons ?_
    refine we_fdiv ?_
    refine we_ix ?_
    refine we_slot 7 rfl (.inl rfl) rfl rfl ?_
    refine we_int ?_
    refine ⟨_, _, _, rfl, rfl, rfl, ?_⟩
    refine we_ix ?_
    refine we_slot 7 rfl (.inl rfl) rfl rfl ?_
    refine we_int ?_
    refine ⟨_, _, _, rfl, rfl, rfl, ?_⟩
    refine ⟨_, _, rfl, rfl, Bb.cdiv _ (by omega) (by decide) (by decide), ?_⟩
    refine ⟨rfl, ?_⟩
    refine wa_nil ?_
    refine ⟨rfl, rfl, ?_⟩
    refine ⟨_, rfl, rfl, ?_⟩
    refine ⟨_, rfl, ?_⟩
    refine iteF rfl ?_
    refine wb_nil ?_
    refine wb_cons (ws_asgT 9 10 rfl sc_law.nd rfl rfl (.inr rfl) (.inr rfl) ?_)
    refine we_tup ?_
    refine wa_cons ?_
    refine we_call C__law_whole hr (Nat.le_add_right k 2) rfl ?_
    refine wa_cons ?_
    refine we_slot 1 rfl (.inl rfl) rfl rfl ?_
    refine ⟨rfl, ?_⟩
    refine wa_nil ?_
    refine ⟨rfl, rfl, ?_⟩
    refine ⟨rfl, fun t Bt => ?_⟩
    refine ⟨rfl, ?_⟩
    refine wa_cons ?_
    refine we_call C__law_whole hr (Nat.le_add_right k 2) rfl ?_
    refine wa_cons ?_
    refine we_slot 1 rfl (.inl rfl) rfl rfl ?_
    refine ⟨rfl, ?_⟩
    refine wa_nil ?_
    refine ⟨rfl, rfl, ?_⟩
    refine ⟨rfl, fun u Bu => ?_⟩
    refine ⟨rfl, ?_⟩
    refine wa_nil ?_
    refine ⟨_, rfl, by simp, ?_⟩
    refine ⟨_, _, rfl, ?_⟩
    refine wb_join (fun ρ => ρ = [some (.val sc), some .hnd, none, none, none, none, none, some (.val (fr a b)), some (.val (fr c d)), some (.val (.int t)), some (.val (.int u)), none]) ?_ ?_
    · refine ws_if (wt_of (ww_and ?_))
      refine wt_eqS ?_
      refine we_slot 10 rfl (.inr (.inl rfl)) rfl rfl ?_
      refine we_int ?_
      refine ⟨_, _, _, _, rfl, rfl, rfl, rfl, rfl, ?_⟩
      by_cases hu : u = 0
      · subst hu
        refine iteT rfl (ww_and1 ?_)
        refine wt_neS ?_
        refine we_word W Fw mw LF.tb LF.mem LF.un hr rfl rfl rfl rfl rfl (fun _ _ _ _ _ => rfl) (fun A outer s H E f c' hr2 => ?_)
        refine we_call C_fraction hr2 (Nat.le_refl _) rfl ?_
        refine wa_cons ?_
        refine we_slot 9 rfl (.inr (.inr rfl)) rfl rfl ?_
        refine ⟨rfl, ?_⟩
        refine wa_cons ?_
        refine we_slot 10 rfl (.inr (.inr rfl)) rfl rfl ?_
        refine ⟨rfl, ?_⟩
        refine wa_nil ?_
        refine ⟨rfl, rfl, ?_⟩
        refine ⟨_, _, rfl, rfl, rfl, .inr ⟨.inr (.inr rfl), "fraction", rfl, ?_⟩⟩
        refine we_str ?_
        refine ⟨_, _, _, _, rfl, rfl, rfl, rfl, rfl, ?_⟩
        exact iteF rfl (wb_nil rfl)
      · exact iteF (by simpa using hu) (iteF rfl (wb_nil rfl))
    rintro _ rfl
    refine wb_join (fun ρ => ρ = [some (.val sc), some .hnd, none, none, none, none, none, some (.val (fr a b)), some (.val (fr c d)), some (.val (.int t)), some (.val (.int u)), none]) ?_ ?_
    · refine ws_if (wt_of (ww_and ?_))
      refine wt_neS ?_
      refine we_slot 10 rfl (.inr (.inl rfl)) rfl rfl ?_
      refine we_int ?_
      refine ⟨_, _, _, _, rfl, rfl, rfl, rfl, rfl, ?_⟩
      by_cases hu : u = 0
      · subst hu
        exact iteF rfl (iteF rfl (wb_nil rfl))
      · refine iteT (by simpa using hu) (ww_and1 ?_)
        refine wt_not ?_
        refine wt_val ?_
        refine we_call C__law_is hr (Nat.le_add_right k 2) rfl ?_
        refine wa_cons ?_
        refine we_call C_fraction hr (Nat.le_add_right k 2) rfl ?_
        refine wa_cons ?_
        refine we_slot 9 rfl (.inr (.inl rfl)) rfl rfl ?_
        refine ⟨rfl, ?_⟩
        refine wa_cons ?_
        refine we_slot 10 rfl (.inr (.inl rfl)) rfl rfl ?_
        refine ⟨rfl, ?_⟩
        refine wa_nil ?_
        refine ⟨rfl, rfl, ?_⟩
        refine ⟨_, _, rfl, rfl, rfl, .inl ⟨t, u, rfl, rfl, hu, Bu.mono (by decide), ?_⟩⟩
        refine ⟨rfl, ?_⟩
        refine wa_cons ?_
        refine we_call C__law_low hr (Nat.le_add_right k 2) rfl ?_
        refine wa_cons ?_
        refine we_slot 9 rfl (.inr (.inl rfl)) rfl rfl ?_
        refine ⟨rfl, ?_⟩
        refine wa_cons ?_
        refine we_slot 10 rfl (.inr (.inl rfl)) rfl rfl ?_
        refine ⟨rfl, ?_⟩
        refine wa_nil ?_
        refine ⟨rfl, rfl, ?_⟩
        refine ⟨_, _, rfl, hu, Bu.mono (by decide), ?_⟩
        refine ⟨rfl, ?_⟩
        refine wa_nil ?_
        refine ⟨rfl, rfl, ?_⟩
        refine ⟨_, rfl, isb_low _ _ _, ?_⟩
        refine ⟨_, rfl, ?_⟩
        exact iteF rfl (wb_nil rfl)
    rintro _ rfl
    have ea : low (a.natAbs : Int) b = fr (a.natAbs : Int) b := low_of pb ((gcdI_abs a b).trans ga)
    have ec : low (c.natAbs : Int) d = fr (c.natAbs : Int) d := low_of pd ((gcdI_abs c d).trans gc)
    have Ba' : Bd 110 (a.natAbs : Int) := by
      unfold Bd
      rw [Int.natAbs_natCast]
      exact Ba
    have Bc' : Bd 110 (c.natAbs : Int) := by
      unfold Bd
      rw [Int.natAbs_natCast]
      exact Bc
    have aA : isAm (fr (a.natAbs : Int) b) = true := by
      rw [am_eq pb ((gcdI_abs a b).trans ga)]
      exact decide_eq_true (by omega)
    have aC : isAm (fr (c.natAbs : Int) d) = true := by
      rw [am_eq pd ((gcdI_abs c d).trans gc)]
      exact decide_eq_true (by omega)
    refine wb_cons (ws_asg 4 sc_law.nd rfl (.inl rfl) ?_)
    refine we_lst ?_
    refine wa_cons ?_
    refine we_call C__law_low hr (Nat.le_add_right k 2) rfl ?_
    refine wa_cons ?_
    refine we_abs rfl Z.abs ?_
    refine we_ix ?_
    refine we_slot 7 rfl (.inl rfl) rfl rfl ?_
    refine we_int ?_
    refine ⟨_, _, _, rfl, rfl, rfl, ?_⟩
    refine ⟨_, rfl, ?_⟩
    refine ⟨rfl, ?_⟩
    refine wa_cons ?_
    refine we_ix ?_
    refine we_slot 7 rfl (.inl rfl) rfl rfl ?_
    refine we_int ?_
    refine ⟨_, _, _, rfl, rfl, rfl, ?_⟩
    refine ⟨rfl, ?_⟩
    refine wa_nil ?_
    refine ⟨rfl, rfl, ?_⟩
    refine ⟨_, _, rfl, by omega, Bb.mono (by decide), ?_⟩
    rw [ea]
    refine ⟨rfl, ?_⟩
    refine wa_cons ?_
    refine we_call C__law_low hr (Nat.le_add_right k 2) rfl ?_
    refine wa_cons ?_
    refine we_abs rfl Z.abs ?_
    refine we_ix ?_
    refine we_slot 8 rfl (.inr (.inl rfl)) rfl rfl ?_
    refine we_int ?_
    refine ⟨_, _, _, rfl, rfl, rfl, ?_⟩
    refine ⟨_, rfl, ?_⟩
    refine ⟨rfl, ?_⟩
    refine wa_cons ?_
    refine we_ix ?_
    refine we_slot 8 rfl (.inr (.inl rfl)) rfl rfl ?_
    refine we_int ?_
    refine ⟨_, _, _, rfl, rfl, rfl, ?_⟩
    refine ⟨rfl, ?_⟩
    refine wa_nil ?_
    refine ⟨rfl, rfl, ?_⟩
    refine ⟨_, _, rfl, by omega, Bd'.mono (by decide), ?_⟩
    rw [ec]
    refine ⟨rfl, ?_⟩
    refine wa_nil ?_
    refine ⟨_, rfl, by simp, ?_⟩
    refine ⟨_, rfl, ?_⟩
    refine wb_cons (ws_if ?_)
    refine wt_not ?_
    refine wt_val ?_
    refine we_call C__law_riches_right hr (Nat.le_add_right k 2) rfl ?_
    refine wa_cons ?_
    refine we_ix ?_
    refine we_slot 4 rfl (.inl rfl) rfl rfl ?_
    refine we_int ?_
    refine ⟨_, _, _, rfl, rfl, rfl, ?_⟩
    refine ⟨rfl, ?_⟩
    refine wa_cons ?_
    refine we_ix ?_
    refine we_slot 4 rfl (.inl rfl) rfl rfl ?_
    refine we_int ?_
    refine ⟨_, _, _, rfl, rfl, rfl, ?_⟩
    refine ⟨rfl, ?_⟩
    refine wa_cons ?_
    refine we_call C__law_draw hr (Nat.le_add_right k 2) rfl ?_
    refine wa_cons ?_
    refine we_slot 1 rfl (.inl rfl) rfl rfl ?_
    refine ⟨rfl, ?_⟩
    refine wa_cons ?_
    refine we_int ?_
    refine ⟨rfl, ?_⟩
    refine wa_nil ?_
    refine ⟨rfl, rfl, ?_⟩
    refine ⟨9, rfl, by decide, by unfold Bd; decide, fun n n0 n1 => ?_⟩
    refine ⟨rfl, ?_⟩
    refine wa_nil ?_
    refine ⟨rfl, rfl, ?_⟩
    refine ⟨_, b, _, d, n, rfl, aA, aC, Ba', Bb, Bc', Bd', n0, by omega, ?_⟩
    refine ⟨_, rfl, ?_⟩
    refine iteF rfl ?_
    refine wb_nil ?_
    refine wb_cons (ws_asg 5 sc_law.nd rfl (.inr rfl) ?_)
    refine we_call C__law_bent hr (Nat.le_add_right k 2) rfl ?_
    refine wa_cons ?_
    refine we_slot 1 rfl (.inl rfl) rfl rfl ?_
    refine ⟨rfl, ?_⟩
    refine wa_cons ?_
    refine we_slot 7 rfl (.inl rfl) rfl rfl ?_
    refine ⟨rfl, ?_⟩
    refine wa_nil ?_
    refine ⟨rfl, rfl, ?_⟩
    refine ⟨a, b, rfl, Ba, Bb, fun e he => ?_⟩
    refine ⟨_, rfl, ?_⟩
    have ok := okTb_ok he
    refine wb_cons (ws_asg 6 sc_law.nd rfl (.inl rfl) ?_)
    refine we_call C__law_is_part hr (Nat.le_add_right k 2) rfl ?_
    refine wa_cons ?_
    refine we_slot 5 rfl (.inr (.inl rfl)) rfl rfl ?_
    refine ⟨rfl, ?_⟩
    refine wa_nil ?_
    refine ⟨rfl, rfl, ?_⟩
    refine ⟨e, rfl, he, ?_⟩
    refine ⟨_, rfl, ?_⟩
    refine wb_cons (ws_if ?_)
    refine wt_not (wt_val ?_)
    refine we_call C__law_is hr (Nat.le_add_right k 2) rfl ?_
    refine wa_cons ?_
    refine we_lst ?_
    refine wa_cons ?_
    refine we_call C_is_fraction hr (Nat.le_add_right k 2) rfl ?_
    refine wa_cons ?_
    refine we_slot 5 rfl (.inr (.inl rfl)) rfl rfl ?_
    refine ⟨rfl, ?_⟩
    refine wa_nil ?_
    refine ⟨rfl, rfl, ?_⟩
    refine ⟨e, rfl, ok, ?_⟩
    refine ⟨rfl, ?_⟩
    refine wa_cons ?_
    refine we_call C_is_amount hr (Nat.le_add_right k 2) rfl ?_
    refine wa_cons ?_
    refine we_slot 5 rfl (.inr (.inl rfl)) rfl rfl ?_
    refine ⟨rfl, ?_⟩
    refine wa_nil ?_
    refine ⟨rfl, rfl, ?_⟩
    refine ⟨e, rfl, ok, ?_⟩
    refine ⟨rfl, ?_⟩
    refine wa_nil ?_
    refine ⟨_, rfl, by simp, ?_⟩
    refine ⟨rfl, ?_⟩
    refine wa_cons ?_
    refine we_lst ?_
    refine wa_cons ?_
    refine we_slot 6 rfl (.inl rfl) rfl rfl ?_
    refine ⟨rfl, ?_⟩
    refine wa_cons ?_
    refine we_and ?_
    refine we_slot 6 rfl (.inl rfl) rfl rfl ?_
    refine ⟨_, rfl, ?_⟩
    cases hfe : isFr e with
    | true =>
      obtain ⟨x, y, rfl, hy, hg⟩ := isFr_shape hfe
      refine iteT rfl (we_and1 ?_)
      refine we_cmpI op_ge (nomark _) ?_
      refine we_ix ?_
      refine we_slot 5 rfl (.inr (.inl rfl)) rfl rfl ?_
      refine we_int ?_
      refine ⟨_, _, _, rfl, rfl, rfl, ?_⟩
      refine we_int ?_
      refine ⟨_, _, rfl, rfl, ?_⟩
      refine ⟨rfl, ?_⟩
      refine wa_nil ?_
      refine ⟨_, rfl, by simp, ?_⟩
      refine ⟨rfl, ?_⟩
      refine wa_nil ?_
      refine ⟨rfl, rfl, ?_⟩
      rw [am_eq hy hg]
      refine ⟨_, rfl, rfl, ?_⟩
      refine ⟨_, rfl, ?_⟩
      refine iteF rfl ?_
      refine wb_nil ?_
      refine wb_one (ws_if ?_)
      refine wt_not (wt_val ?_)
      refine we_slot 6 rfl (.inl rfl) rfl rfl ?_
      refine ⟨_, rfl, ?_⟩
      refine iteF rfl ?_
      exact wb_nil ⟨rfl, rfl⟩
    | false =>
      refine iteF rfl ?_
      refine ⟨rfl, ?_⟩
      refine wa_nil ?_
      refine ⟨_, rfl, by simp, ?_⟩
      refine ⟨rfl, ?_⟩
      refine wa_nil ?_
      refine ⟨rfl, rfl, ?_⟩
      rw [isAm_of hfe]
      refine ⟨_, rfl, rfl, ?_⟩
      refine ⟨_, rfl, ?_⟩
      refine iteF rfl ?_
      refine wb_nil ?_
      refine wb_one (ws_if ?_)
      refine wt_not (wt_val ?_)
      refine we_slot 6 rfl (.inl rfl) rfl rfl ?_
      refine ⟨_, rfl, ?_⟩
      refine iteT rfl ?_

      obtain ⟨fp, _, _, _, mplus, _⟩ := C_plus.ex
      obtain ⟨fl, _, _, _, mless, _⟩ := C_less.ex
      obtain ⟨ft, _, _, _, mtimes, _⟩ := C_times.ex
      obtain ⟨fb, _, _, _, mby, _⟩ := C_by.ex
      obtain ⟨fm, _, _, _, mat_most, _⟩ := C_at_most.ex
      refine wb_cons (ws_lc 3 (js := [11]) (own := [("call", 11)]) rfl rfl rfl sc_law.nd (show BlkOk NL (defScope s_law) _ _ from blk_by (by decide +kernel)) (fun s H C cl fp => pg_name sc_law.nd rfl (.inr rfl)) tgt1 (by decide) (show ∀ j ∈ ([11] : List Nat), j < 12 by decide) ?_ rfl)
      refine wi_tup rfl ?_ (fun _ h => pi_tup h)
      refine we_tup ?_
      refine wa_cons ?_
      refine we_gfn rfl mplus ?_
      refine ⟨rfl, ?_⟩
      refine wa_cons ?_
      refine we_gfn rfl mless ?_
      refine ⟨rfl, ?_⟩
      refine wa_cons ?_
      refine we_gfn rfl mtimes ?_
      refine ⟨rfl, ?_⟩
      refine wa_cons ?_
      refine we_gfn rfl mby ?_
      refine ⟨rfl, ?_⟩
      refine wa_cons ?_
      refine we_gfn rfl mat_most ?_
      refine ⟨rfl, ?_⟩
      refine wa_nil ?_
      refine ⟨_, rfl, by simp, ?_⟩
      refine ⟨_, rfl, ?_⟩
      refine ⟨by simp, rfl, ?_⟩
      refine lcw_cons rfl (fun s H C cl fp => ?_)
      refine we_word W Fw mw LF.tb LF.mem LF.un hr rfl rfl rfl rfl rfl (fun _ _ _ _ _ => rfl) (fun A outer s H E f c' hr2 => ?_)
      refine we_callF 11 C_plus hr2 (Nat.le_refl _) rfl (.inr (.inr rfl)) rfl ?_
      refine wa_cons ?_
      refine we_slot 5 rfl (.inr (.inr rfl)) rfl rfl ?_
      refine ⟨rfl, ?_⟩
      refine wa_cons ?_
      refine we_slot 8 rfl (.inr (.inr rfl)) rfl rfl ?_
      refine ⟨rfl, ?_⟩
      refine wa_nil ?_
      refine ⟨rfl, rfl, ?_⟩
      refine ⟨_, _, rfl, ok, rfl, .inr ⟨.inl hfe, "fraction", rfl, ?_⟩⟩
      refine ⟨rfl, _, rfl, ?_⟩
      refine lcw_cons rfl (fun s H C cl fp => ?_)
      refine we_word W Fw mw LF.tb LF.mem LF.un hr rfl rfl rfl rfl rfl (fun _ _ _ _ _ => rfl) (fun A outer s H E f c' hr2 => ?_)
      refine we_callF 11 C_less hr2 (Nat.le_refl _) rfl (.inr (.inr rfl)) rfl ?_
      refine wa_cons ?_
      refine we_slot 5 rfl (.inr (.inr rfl)) rfl rfl ?_
      refine ⟨rfl, ?_⟩
      refine wa_cons ?_
      refine we_slot 8 rfl (.inr (.inr rfl)) rfl rfl ?_
      refine ⟨rfl, ?_⟩
      refine wa_nil ?_
      refine ⟨rfl, rfl, ?_⟩
      refine ⟨_, _, rfl, ok, rfl, .inr ⟨.inl hfe, "fraction", rfl, ?_⟩⟩
      refine ⟨rfl, _, rfl, ?_⟩
      refine lcw_cons rfl (fun s H C cl fp => ?_)
      refine we_word W Fw mw LF.tb LF.mem LF.un hr rfl rfl rfl rfl rfl (fun _ _ _ _ _ => rfl) (fun A outer s H E f c' hr2 => ?_)
      refine we_callF 11 C_times hr2 (Nat.le_refl _) rfl (.inr (.inr rfl)) rfl ?_
      refine wa_cons ?_
      refine we_slot 5 rfl (.inr (.inr rfl)) rfl rfl ?_
      refine ⟨rfl, ?_⟩
      refine wa_cons ?_
      refine we_slot 8 rfl (.inr (.inr rfl)) rfl rfl ?_
      refine ⟨rfl, ?_⟩
      refine wa_nil ?_
      refine ⟨rfl, rfl, ?_⟩
      refine ⟨_, _, rfl, ok, rfl, .inr ⟨.inl hfe, "fraction", rfl, ?_⟩⟩
      refine ⟨rfl, _, rfl, ?_⟩
      refine lcw_cons rfl (fun s H C cl fp => ?_)
      refine we_word W Fw mw LF.tb LF.mem LF.un hr rfl rfl rfl rfl rfl (fun _ _ _ _ _ => rfl) (fun A outer s H E f c' hr2 => ?_)
      refine we_callF 11 C_by hr2 (Nat.le_refl _) rfl (.inr (.inr rfl)) rfl ?_
      refine wa_cons ?_
      refine we_slot 5 rfl (.inr (.inr rfl)) rfl rfl ?_
      refine ⟨rfl, ?_⟩
      refine wa_cons ?_
      refine we_slot 8 rfl (.inr (.inr rfl)) rfl rfl ?_
      refine ⟨rfl, ?_⟩
      refine wa_nil ?_
      refine ⟨rfl, rfl, ?_⟩
      refine ⟨_, _, rfl, ok, rfl, .inr ⟨.inl hfe, "fraction", rfl, ?_⟩⟩
      refine ⟨rfl, _, rfl, ?_⟩
      refine lcw_cons rfl (fun s H C cl fp => ?_)
      refine we_word W Fw mw LF.tb LF.mem LF.un hr rfl rfl rfl rfl rfl (fun _ _ _ _ _ => rfl) (fun A outer s H E f c' hr2 => ?_)
      refine we_callF 11 C_at_most hr2 (Nat.le_refl _) rfl (.inr (.inr rfl)) rfl ?_
      refine wa_cons ?_
      refine we_slot 5 rfl (.inr (.inr rfl)) rfl rfl ?_
      refine ⟨rfl, ?_⟩
      refine wa_cons ?_
      refine we_slot 8 rfl (.inr (.inr rfl)) rfl rfl ?_
      refine ⟨rfl, ?_⟩
      refine wa_nil ?_
      refine ⟨rfl, rfl, ?_⟩
      refine ⟨_, _, rfl, ok, rfl, .inr ⟨.inl hfe, "fraction", rfl, ?_⟩⟩
      refine ⟨rfl, _, rfl, ?_⟩
      refine wb_cons (ws_asg 3 sc_law.nd rfl (.inl rfl) ?_)
      refine we_cat ?_
      refine we_slot 3 rfl (.inl rfl) rfl rfl ?_
      refine we_lc (js := [11]) (own := [("call", 11)]) rfl sc_law.nd (show BlkOk NL (defScope s_law) _ _ from blk_by (by decide +kernel)) (fun s H C cl fp => pg_name sc_law.nd rfl (.inr rfl)) tgt1 (by decide) (show ∀ j ∈ ([11] : List Nat), j < 12 by decide) ?_
      refine wi_tup rfl ?_ (fun _ h => pi_tup h)
      refine we_tup ?_
      refine wa_cons ?_
      refine we_gfn rfl mplus ?_
      refine ⟨rfl, ?_⟩
      refine wa_cons ?_
      refine we_gfn rfl mless ?_
      refine ⟨rfl, ?_⟩
      refine wa_cons ?_
      refine we_gfn rfl mtimes ?_
      refine ⟨rfl, ?_⟩
      refine wa_cons ?_
      refine we_gfn rfl mby ?_
      refine ⟨rfl, ?_⟩
      refine wa_cons ?_
      refine we_gfn rfl mat_most ?_
      refine ⟨rfl, ?_⟩
      refine wa_nil ?_
      refine ⟨_, rfl, by simp, ?_⟩
      refine ⟨_, rfl, ?_⟩
      refine ⟨by simp, rfl, ?_⟩
      refine lcw_cons rfl (fun s H C cl fp => ?_)
      refine we_word W Fw mw LF.tb LF.mem LF.un hr rfl rfl rfl rfl rfl (fun _ _ _ _ _ => rfl) (fun A outer s H E f c' hr2 => ?_)
      refine we_callF 11 C_plus hr2 (Nat.le_refl _) rfl (.inr (.inr rfl)) rfl ?_
      refine wa_cons ?_
      refine we_slot 8 rfl (.inr (.inr rfl)) rfl rfl ?_
      refine ⟨rfl, ?_⟩
      refine wa_cons ?_
      refine we_slot 5 rfl (.inr (.inr rfl)) rfl rfl ?_
      refine ⟨rfl, ?_⟩
      refine wa_nil ?_
      refine ⟨rfl, rfl, ?_⟩
      refine ⟨_, _, rfl, rfl, ok, .inr ⟨.inr hfe, "fraction", rfl, ?_⟩⟩
      refine ⟨rfl, _, rfl, ?_⟩
      refine lcw_cons rfl (fun s H C cl fp => ?_)
      refine we_word W Fw mw LF.tb LF.mem LF.un hr rfl rfl rfl rfl rfl (fun _ _ _ _ _ => rfl) (fun A outer s H E f c' hr2 => ?_)
      refine we_callF 11 C_less hr2 (Nat.le_refl _) rfl (.inr (.inr rfl)) rfl ?_
      refine wa_cons ?_
      refine we_slot 8 rfl (.inr (.inr rfl)) rfl rfl ?_
      refine ⟨rfl, ?_⟩
      refine wa_cons ?_
      refine we_slot 5 rfl (.inr (.inr rfl)) rfl rfl ?_
      refine ⟨rfl, ?_⟩
      refine wa_nil ?_
      refine ⟨rfl, rfl, ?_⟩
      refine ⟨_, _, rfl, rfl, ok, .inr ⟨.inr hfe, "fraction", rfl, ?_⟩⟩
      refine ⟨rfl, _, rfl, ?_⟩
      refine lcw_cons rfl (fun s H C cl fp => ?_)
      refine we_word W Fw mw LF.tb LF.mem LF.un hr rfl rfl rfl rfl rfl (fun _ _ _ _ _ => rfl) (fun A outer s H E f c' hr2 => ?_)
      refine we_callF 11 C_times hr2 (Nat.le_refl _) rfl (.inr (.inr rfl)) rfl ?_
      refine wa_cons ?_
      refine we_slot 8 rfl (.inr (.inr rfl)) rfl rfl ?_
      refine ⟨rfl, ?_⟩
      refine wa_cons ?_
      refine we_slot 5 rfl (.inr (.inr rfl)) rfl rfl ?_
      refine ⟨rfl, ?_⟩
      refine wa_nil ?_
      refine ⟨rfl, rfl, ?_⟩
      refine ⟨_, _, rfl, rfl, ok, .inr ⟨.inr hfe, "fraction", rfl, ?_⟩⟩
      refine ⟨rfl, _, rfl, ?_⟩
      refine lcw_cons rfl (fun s H C cl fp => ?_)
      refine we_word W Fw mw LF.tb LF.mem LF.un hr rfl rfl rfl rfl rfl (fun _ _ _ _ _ => rfl) (fun A outer s H E f c' hr2 => ?_)
      refine we_callF 11 C_by hr2 (Nat.le_refl _) rfl (.inr (.inr rfl)) rfl ?_
      refine wa_cons ?_
      refine we_slot 8 rfl (.inr (.inr rfl)) rfl rfl ?_
      refine ⟨rfl, ?_⟩
      refine wa_cons ?_
      refine we_slot 5 rfl (.inr (.inr rfl)) rfl rfl ?_
      refine ⟨rfl, ?_⟩
      refine wa_nil ?_
      refine ⟨rfl, rfl, ?_⟩
      refine ⟨_, _, rfl, rfl, ok, .inr ⟨.inr hfe, "fraction", rfl, ?_⟩⟩
      refine ⟨rfl, _, rfl, ?_⟩
      refine lcw_cons rfl (fun s H C cl fp => ?_)
      refine we_word W Fw mw LF.tb LF.mem LF.un hr rfl rfl rfl rfl rfl (fun _ _ _ _ _ => rfl) (fun A outer s H E f c' hr2 => ?_)
      refine we_callF 11 C_at_most hr2 (Nat.le_refl _) rfl (.inr (.inr rfl)) rfl ?_
      refine wa_cons ?_
      refine we_slot 8 rfl (.inr (.inr rfl)) rfl rfl ?_
      refine ⟨rfl, ?_⟩
      refine wa_cons ?_
      refine we_slot 5 rfl (.inr (.inr rfl)) rfl rfl ?_
      refine ⟨rfl, ?_⟩
      refine wa_nil ?_
      refine ⟨rfl, rfl, ?_⟩
      refine ⟨_, _, rfl, rfl, ok, .inr ⟨.inr hfe, "fraction", rfl, ?_⟩⟩
      refine ⟨rfl, _, rfl, ?_⟩
      refine ⟨_, _, rfl, rfl, by first | (simp; done) | exact Nat.le_of_ble_eq_true rfl, ?_⟩
      refine ⟨_, rfl, ?_⟩

      refine wb_cons (ws_if ?_)
      refine wt_neD hr ?_
      refine we_cat ?_
      refine we_slot 3 rfl (.inl rfl) rfl rfl ?_
      refine we_lst ?_
      refine wa_cons ?_
      refine we_word W Fw mw LF.tb LF.mem LF.un hr rfl rfl rfl rfl rfl (fun _ _ _ _ _ => rfl) (fun A outer s H E f c' hr2 => ?_)
      refine we_call C_floor_of hr2 (Nat.le_refl _) rfl ?_
      refine wa_cons ?_
      refine we_slot 5 rfl (.inr (.inr rfl)) rfl rfl ?_
      refine ⟨rfl, ?_⟩
      refine wa_nil ?_
      refine ⟨rfl, rfl, ?_⟩
      refine ⟨_, rfl, ok, .inr ⟨hfe, "fraction", rfl, ?_⟩⟩
      refine ⟨rfl, ?_⟩
      refine wa_nil ?_
      refine ⟨_, rfl, by simp, ?_⟩
      refine ⟨_, _, rfl, rfl, by first | (simp; done) | exact Nat.le_of_ble_eq_true rfl, ?_⟩
      refine we_rep ?_
      refine we_lst ?_
      refine wa_cons ?_
      refine we_str ?_
      refine ⟨rfl, ?_⟩
      refine wa_nil ?_
      refine ⟨_, rfl, by simp, ?_⟩
      refine we_int ?_
      refine ⟨_, _, rfl, rfl, by decide, by decide, by decide, ?_⟩
      refine ⟨_, _, _, _, rfl, rfl, rfl, rfl, by decide +kernel, by decide +kernel, ?_⟩
      refine iteF (by decide +kernel) ?_
      refine wb_nil ?_
      refine wb_one (ws_if ?_)
      refine wt_neS ?_
      refine we_word W Fw mw LF.tb LF.mem LF.un hr rfl rfl rfl rfl rfl (fun _ _ _ _ _ => rfl) (fun A outer s H E f c' hr2 => ?_)
      refine we_call C_by hr2 (Nat.le_refl _) rfl ?_
      refine wa_cons ?_
      refine we_slot 5 rfl (.inr (.inr rfl)) rfl rfl ?_
      refine ⟨rfl, ?_⟩
      refine wa_cons ?_
      refine we_tup ?_
      refine wa_cons ?_
      refine we_int ?_
      refine ⟨rfl, ?_⟩
      refine wa_cons ?_
      refine we_int ?_
      refine ⟨rfl, ?_⟩
      refine wa_nil ?_
      refine ⟨_, rfl, by simp, ?_⟩
      refine ⟨rfl, ?_⟩
      refine wa_nil ?_
      refine ⟨rfl, rfl, ?_⟩
      refine ⟨_, _, rfl, ok, rfl, .inr ⟨.inl hfe, "fraction", rfl, ?_⟩⟩
      refine we_str ?_
      refine ⟨_, _, _, _, rfl, rfl, rfl, rfl, rfl, ?_⟩
      refine iteF rfl ?_
      exact wb_nil ⟨rfl, rfl⟩
  · rintro ρ2 ⟨h0, h1⟩
    refine wb_weak (ρ' := [some (.val sc), some .hnd, none, none, none, none, none, none, none, none, none, none]) (fun i w hi => ?_) ?_
    · match i, hi with
      | 0, hi =>
        cases hi
        exact h0
      | 1, hi =>
        cases hi
        exact h1
      | 2, hi => cases hi
      | 3, hi => cases hi
      | 4, hi => cases hi
      | 5, hi => cases hi
      | 6, hi => cases hi
      | 7, hi => cases hi
      | 8, hi => cases hi
      | 9, hi => cases hi
      | 10, hi => cases hi
      | 11, hi => cases hi
      | n + 12, hi => cases hi
    refine wb_cons (ws_lc 3 (js := [9]) (own := [("top", 9)]) rfl rfl rfl sc_law.nd (show BlkOk NL (defScope s_law) _ _ from blk_by (by decide +kernel)) (fun s H C cl fp => pg_name sc_law.nd rfl (.inr rfl)) tgt1 (by decide) (show ∀ j ∈ ([9] : List Nat), j < 12 by decide) ?_ rfl)
    refine wi_tup rfl ?_ (fun _ h => pi_tup h)
    refine we_tup ?_
    refine wa_cons ?_
    refine we_bl ?_
    refine ⟨rfl, ?_⟩
    refine wa_cons ?_
    refine we_non ?_
    refine ⟨rfl, ?_⟩
    refine wa_cons ?_
    refine we_str ?_
    refine ⟨rfl, ?_⟩
    refine wa_cons ?_
    refine we_tup ?_
    refine wa_cons ?_
    refine we_int ?_
    refine ⟨rfl, ?_⟩
    refine wa_nil ?_
    refine ⟨_, rfl, by simp, ?_⟩
    refine ⟨rfl, ?_⟩
    refine wa_cons ?_
    refine we_lst ?_
    refine wa_cons ?_
    refine we_int ?_
    refine ⟨rfl, ?_⟩
    refine wa_nil ?_
    refine ⟨_, rfl, by simp, ?_⟩
    refine ⟨rfl, ?_⟩
    refine wa_nil ?_
    refine ⟨_, rfl, by simp, ?_⟩
    refine ⟨_, rfl, ?_⟩
    refine ⟨by simp, rfl, ?_⟩
    refine lcw_cons rfl (fun s H C cl fp => ?_)
    refine we_word W Fw mw LF.tb LF.mem LF.un hr rfl rfl rfl rfl rfl (fun _ _ _ _ _ => rfl) (fun A outer s H E f c' hr2 => ?_)
    refine we_call C_fraction hr2 (Nat.le_refl _) rfl ?_
    refine wa_cons ?_
    refine we_slot 9 rfl (.inr (.inr rfl)) rfl rfl ?_
    refine ⟨rfl, ?_⟩
    refine wa_cons ?_
    refine we_int ?_
    refine ⟨rfl, ?_⟩
    refine wa_nil ?_
    refine ⟨rfl, rfl, ?_⟩
    refine ⟨_, _, rfl, rfl, rfl, .inr ⟨.inl rfl, "fraction", rfl, ?_⟩⟩
    refine ⟨rfl, _, rfl, ?_⟩
    refine lcw_cons rfl (fun s H C cl fp => ?_)
    refine we_word W Fw mw LF.tb LF.mem LF.un hr rfl rfl rfl rfl rfl (fun _ _ _ _ _ => rfl) (fun A outer s H E f c' hr2 => ?_)
    refine we_call C_fraction hr2 (Nat.le_refl _) rfl ?_
    refine wa_cons ?_
    refine we_slot 9 rfl (.inr (.inr rfl)) rfl rfl ?_
    refine ⟨rfl, ?_⟩
    refine wa_cons ?_
    refine we_int ?_
    refine ⟨rfl, ?_⟩
    refine wa_nil ?_
    refine ⟨rfl, rfl, ?_⟩
    refine ⟨_, _, rfl, rfl, rfl, .inr ⟨.inl rfl, "fraction", rfl, ?_⟩⟩
    refine ⟨rfl, _, rfl, ?_⟩
    refine lcw_cons rfl (fun s H C cl fp => ?_)
    refine we_word W Fw mw LF.tb LF.mem LF.un hr rfl rfl rfl rfl rfl (fun _ _ _ _ _ => rfl) (fun A outer s H E f c' hr2 => ?_)
    refine we_call C_fraction hr2 (Nat.le_refl _) rfl ?_
    refine wa_cons ?_
    refine we_slot 9 rfl (.inr (.inr rfl)) rfl rfl ?_
    refine ⟨rfl, ?_⟩
    refine wa_cons ?_
    refine we_int ?_
    refine ⟨rfl, ?_⟩
    refine wa_nil ?_
    refine ⟨rfl, rfl, ?_⟩
    refine ⟨_, _, rfl, rfl, rfl, .inr ⟨.inl rfl, "fraction", rfl, ?_⟩⟩
    refine ⟨rfl, _, rfl, ?_⟩
    refine lcw_cons rfl (fun s H C cl fp => ?_)
    refine we_word W Fw mw LF.tb LF.mem LF.un hr rfl rfl rfl rfl rfl (fun _ _ _ _ _ => rfl) (fun A outer s H E f c' hr2 => ?_)
    refine we_call C_fraction hr2 (Nat.le_refl _) rfl ?_
    refine wa_cons ?_
    refine we_slot 9 rfl (.inr (.inr rfl)) rfl rfl ?_
    refine ⟨rfl, ?_⟩
    refine wa_cons ?_
    refine we_int ?_
    refine ⟨rfl, ?_⟩
    refine wa_nil ?_
    refine ⟨rfl, rfl, ?_⟩
    refine ⟨_, _, rfl, rfl, rfl, .inr ⟨.inl rfl, "fraction", rfl, ?_⟩⟩
    refine ⟨rfl, _, rfl, ?_⟩
    refine lcw_cons rfl (fun s H C cl fp => ?_)
    refine we_word W Fw mw LF.tb LF.mem LF.un hr rfl rfl rfl rfl rfl (fun _ _ _ _ _ => rfl) (fun A outer s H E f c' hr2 => ?_)
    refine we_call C_fraction hr2 (Nat.le_refl _) rfl ?_
    refine wa_cons ?_
    refine we_slot 9 rfl (.inr (.inr rfl)) rfl rfl ?_
    refine ⟨rfl, ?_⟩
    refine wa_cons ?_
    refine we_int ?_
    refine ⟨rfl, ?_⟩
    refine wa_nil ?_
    refine ⟨rfl, rfl, ?_⟩
    refine ⟨_, _, rfl, rfl, rfl, .inr ⟨.inl rfl, "fraction", rfl, ?_⟩⟩
    refine ⟨rfl, _, rfl, ?_⟩
    refine wb_cons (ws_asg 3 sc_law.nd rfl (.inl rfl) ?_)
    refine we_cat ?_
    refine we_slot 3 rfl (.inl rfl) rfl rfl ?_
    refine we_lc (js := [10]) (own := [("bottom", 10)]) rfl sc_law.nd (show BlkOk NL (defScope s_law) _ _ from blk_by (by decide +kernel)) (fun s H C cl fp => pg_name sc_law.nd rfl (.inr rfl)) tgt1 (by decide) (show ∀ j ∈ ([10] : List Nat), j < 12 by decide) ?_
    refine wi_tup rfl ?_ (fun _ h => pi_tup h)
    refine we_tup ?_
    refine wa_cons ?_
    refine we_int ?_
    refine ⟨rfl, ?_⟩
    refine wa_cons ?_
    refine we_bl ?_
    refine ⟨rfl, ?_⟩
    refine wa_cons ?_
    refine we_non ?_
    refine ⟨rfl, ?_⟩
    refine wa_cons ?_
    refine we_str ?_
    refine ⟨rfl, ?_⟩
    refine wa_cons ?_
    refine we_dict0 ?_
    refine ⟨rfl, ?_⟩
    refine wa_nil ?_
    refine ⟨_, rfl, by simp, ?_⟩
    refine ⟨_, rfl, ?_⟩
    refine ⟨by simp, rfl, ?_⟩
    refine lcw_cons rfl (fun s H C cl fp => ?_)
    refine we_word W Fw mw LF.tb LF.mem LF.un hr rfl rfl rfl rfl rfl (fun _ _ _ _ _ => rfl) (fun A outer s H E f c' hr2 => ?_)
    refine we_call C_fraction hr2 (Nat.le_refl _) rfl ?_
    refine wa_cons ?_
    refine we_int ?_
    refine ⟨rfl, ?_⟩
    refine wa_cons ?_
    refine we_slot 10 rfl (.inr (.inr rfl)) rfl rfl ?_
    refine ⟨rfl, ?_⟩
    refine wa_nil ?_
    refine ⟨rfl, rfl, ?_⟩
    refine ⟨_, _, rfl, rfl, rfl, .inr ⟨.inr (.inr rfl), "fraction", rfl, ?_⟩⟩
    refine ⟨rfl, _, rfl, ?_⟩
    refine lcw_cons rfl (fun s H C cl fp => ?_)
    refine we_word W Fw mw LF.tb LF.mem LF.un hr rfl rfl rfl rfl rfl (fun _ _ _ _ _ => rfl) (fun A outer s H E f c' hr2 => ?_)
    refine we_call C_fraction hr2 (Nat.le_refl _) rfl ?_
    refine wa_cons ?_
    refine we_int ?_
    refine ⟨rfl, ?_⟩
    refine wa_cons ?_
    refine we_slot 10 rfl (.inr (.inr rfl)) rfl rfl ?_
    refine ⟨rfl, ?_⟩
    refine wa_nil ?_
    refine ⟨rfl, rfl, ?_⟩
    refine ⟨_, _, rfl, rfl, rfl, .inr ⟨.inr (.inl rfl), "fraction", rfl, ?_⟩⟩
    refine ⟨rfl, _, rfl, ?_⟩
    refine lcw_cons rfl (fun s H C cl fp => ?_)
    refine we_word W Fw mw LF.tb LF.mem LF.un hr rfl rfl rfl rfl rfl (fun _ _ _ _ _ => rfl) (fun A outer s H E f c' hr2 => ?_)
    refine we_call C_fraction hr2 (Nat.le_refl _) rfl ?_
    refine wa_cons ?_
    refine we_int ?_
    refine ⟨rfl, ?_⟩
    refine wa_cons ?_
    refine we_slot 10 rfl (.inr (.inr rfl)) rfl rfl ?_
    refine ⟨rfl, ?_⟩
    refine wa_nil ?_
    refine ⟨rfl, rfl, ?_⟩
    refine ⟨_, _, rfl, rfl, rfl, .inr ⟨.inr (.inl rfl), "fraction", rfl, ?_⟩⟩
    refine ⟨rfl, _, rfl, ?_⟩
    refine lcw_cons rfl (fun s H C cl fp => ?_)
    refine we_word W Fw mw LF.tb LF.mem LF.un hr rfl rfl rfl rfl rfl (fun _ _ _ _ _ => rfl) (fun A outer s H E f c' hr2 => ?_)
    refine we_call C_fraction hr2 (Nat.le_refl _) rfl ?_
    refine wa_cons ?_
    refine we_int ?_
    refine ⟨rfl, ?_⟩
    refine wa_cons ?_
    refine we_slot 10 rfl (.inr (.inr rfl)) rfl rfl ?_
    refine ⟨rfl, ?_⟩
    refine wa_nil ?_
    refine ⟨rfl, rfl, ?_⟩
    refine ⟨_, _, rfl, rfl, rfl, .inr ⟨.inr (.inl rfl), "fraction", rfl, ?_⟩⟩
    refine ⟨rfl, _, rfl, ?_⟩
    refine lcw_cons rfl (fun s H C cl fp => ?_)
    refine we_word W Fw mw LF.tb LF.mem LF.un hr rfl rfl rfl rfl rfl (fun _ _ _ _ _ => rfl) (fun A outer s H E f c' hr2 => ?_)
    refine we_call C_fraction hr2 (Nat.le_refl _) rfl ?_
    refine wa_cons ?_
    refine we_int ?_
    refine ⟨rfl, ?_⟩
    refine wa_cons ?_
    refine we_slot 10 rfl (.inr (.inr rfl)) rfl rfl ?_
    refine ⟨rfl, ?_⟩
    refine wa_nil ?_
    refine ⟨rfl, rfl, ?_⟩
    refine ⟨_, _, rfl, rfl, rfl, .inr ⟨.inr (.inl rfl), "fraction", rfl, ?_⟩⟩
    refine ⟨rfl, _, rfl, ?_⟩
    refine ⟨_, _, rfl, rfl, by first | (simp; done) | exact Nat.le_of_ble_eq_true rfl, ?_⟩
    refine ⟨_, rfl, ?_⟩
    refine wb_cons (ws_asg 4 sc_law.nd rfl (.inl rfl) ?_)
    refine we_lst ?_
    refine wa_cons ?_
    refine we_tup ?_
    refine wa_cons ?_
    refine we_int ?_
    refine ⟨rfl, ?_⟩
    refine wa_cons ?_
    refine we_int ?_
    refine ⟨rfl, ?_⟩
    refine wa_nil ?_
    refine ⟨_, rfl, by simp, ?_⟩
    refine ⟨rfl, ?_⟩
    refine wa_cons ?_
    refine we_tup ?_
    refine wa_cons ?_
    refine we_int ?_
    refine ⟨rfl, ?_⟩
    refine wa_cons ?_
    refine we_int ?_
    refine ⟨rfl, ?_⟩
    refine wa_nil ?_
    refine ⟨_, rfl, by simp, ?_⟩
    refine ⟨rfl, ?_⟩
    refine wa_cons ?_
    refine we_tup ?_
    refine wa_cons ?_
    refine we_int ?_
    refine ⟨rfl, ?_⟩
    refine wa_cons ?_
    refine we_neg ?_
    refine we_int ?_
    refine ⟨_, rfl, ?_⟩
    refine ⟨rfl, ?_⟩
    refine wa_nil ?_
    refine ⟨_, rfl, by simp, ?_⟩
    refine ⟨rfl, ?_⟩
    refine wa_cons ?_
    refine we_tup ?_
    refine wa_cons ?_
    refine we_int ?_
    refine ⟨rfl, ?_⟩
    refine wa_cons ?_
    refine we_int ?_
    refine ⟨rfl, ?_⟩
    refine wa_nil ?_
    refine ⟨_, rfl, by simp, ?_⟩
    refine ⟨rfl, ?_⟩
    refine wa_cons ?_
    refine we_tup ?_
    refine wa_cons ?_
    refine we_bl ?_
    refine ⟨rfl, ?_⟩
    refine wa_cons ?_
    refine we_int ?_
    refine ⟨rfl, ?_⟩
    refine wa_nil ?_
    refine ⟨_, rfl, by simp, ?_⟩
    refine ⟨rfl, ?_⟩
    refine wa_cons ?_
    refine we_tup ?_
    refine wa_cons ?_
    refine we_int ?_
    refine ⟨rfl, ?_⟩
    refine wa_cons ?_
    refine we_bl ?_
    refine ⟨rfl, ?_⟩
    refine wa_nil ?_
    refine ⟨_, rfl, by simp, ?_⟩
    refine ⟨rfl, ?_⟩
    refine wa_cons ?_
    refine we_lst ?_
    refine wa_cons ?_
    refine we_int ?_
    refine ⟨rfl, ?_⟩
    refine wa_cons ?_
    refine we_int ?_
    refine ⟨rfl, ?_⟩
    refine wa_nil ?_
    refine ⟨_, rfl, by simp, ?_⟩
    refine ⟨rfl, ?_⟩
    refine wa_cons ?_
    refine we_tup ?_
    refine wa_cons ?_
    refine we_int ?_
    refine ⟨rfl, ?_⟩
    refine wa_nil ?_
    refine ⟨_, rfl, by simp, ?_⟩
    refine ⟨rfl, ?_⟩
    refine wa_cons ?_
    refine we_tup ?_
    refine wa_cons ?_
    refine we_int ?_
    refine ⟨rfl, ?_⟩
    refine wa_cons ?_
    refine we_int ?_
    refine ⟨rfl, ?_⟩
    refine wa_cons ?_
    refine we_int ?_
    refine ⟨rfl, ?_⟩
    refine wa_nil ?_
    refine ⟨_, rfl, by simp, ?_⟩
    refine ⟨rfl, ?_⟩
    refine wa_nil ?_
    refine ⟨_, rfl, by simp, ?_⟩
    refine ⟨_, rfl, ?_⟩
    refine wb_one (ws_ret ?_)
    refine we_and ?_
    refine we_eqD hr ?_
    refine we_slot 3 rfl (.inl rfl) rfl rfl ?_
    refine we_rep ?_
    refine we_lst ?_
    refine wa_cons ?_
    refine we_str ?_
    refine ⟨rfl, ?_⟩
    refine wa_nil ?_
    refine ⟨_, rfl, by simp, ?_⟩
    refine we_int ?_
    refine ⟨_, _, rfl, rfl, by decide, by decide, by decide, ?_⟩
    refine ⟨_, _, _, _, rfl, rfl, rfl, rfl, by decide +kernel, by decide +kernel, ?_⟩
    refine ⟨_, rfl, ?_⟩
    refine iteT (by decide +kernel) (we_and1 ?_)
    refine we_eqD hr ?_
    refine we_lc (js := [5]) (own := [("thing", 5)]) rfl sc_law.nd (show BlkOk NL (defScope s_law) _ _ from blk_by (by decide +kernel)) (fun s H C cl fp => pg_name sc_law.nd rfl (.inl rfl)) tgt1 (by decide) (show ∀ j ∈ ([5] : List Nat), j < 12 by decide) ?_
    refine wi_lst rfl ?_ (fun _ h => pi_list h)
    refine we_slot 4 rfl (.inl rfl) rfl rfl ?_
    refine ⟨_, .inl rfl, ?_⟩
    refine ⟨by simp, rfl, ?_⟩
    refine lcw_cons rfl (fun s H C cl fp => ?_)
    refine we_call C_is_fraction hr (Nat.le_add_right k 2) rfl ?_
    refine wa_cons ?_
    refine we_slot 5 rfl (.inl rfl) rfl rfl ?_
    refine ⟨rfl, ?_⟩
    refine wa_nil ?_
    refine ⟨rfl, rfl, ?_⟩
    refine ⟨_, rfl, rfl, ?_⟩
    refine ⟨rfl, _, rfl, ?_⟩
    refine lcw_cons rfl (fun s H C cl fp => ?_)
    refine we_call C_is_fraction hr (Nat.le_add_right k 2) rfl ?_
    refine wa_cons ?_
    refine we_slot 5 rfl (.inl rfl) rfl rfl ?_
    refine ⟨rfl, ?_⟩
    refine wa_nil ?_
    refine ⟨rfl, rfl, ?_⟩
    refine ⟨_, rfl, rfl, ?_⟩
    refine ⟨rfl, _, rfl, ?_⟩
    refine lcw_cons rfl (fun s H C cl fp => ?_)
    refine we_call C_is_fraction hr (Nat.le_add_right k 2) rfl ?_
    refine wa_cons ?_
    refine we_slot 5 rfl (.inl rfl) rfl rfl ?_
    refine ⟨rfl, ?_⟩
    refine wa_nil ?_
    refine ⟨rfl, rfl, ?_⟩
    refine ⟨_, rfl, rfl, ?_⟩
    refine ⟨rfl, _, rfl, ?_⟩
    refine lcw_cons rfl (fun s H C cl fp => ?_)
    refine we_call C_is_fraction hr (Nat.le_add_right k 2) rfl ?_
    refine wa_cons ?_
    refine we_slot 5 rfl (.inl rfl) rfl rfl ?_
    refine ⟨rfl, ?_⟩
    refine wa_nil ?_
    refine ⟨rfl, rfl, ?_⟩
    refine ⟨_, rfl, rfl, ?_⟩
    refine ⟨rfl, _, rfl, ?_⟩
    refine lcw_cons rfl (fun s H C cl fp => ?_)
    refine we_call C_is_fraction hr (Nat.le_add_right k 2) rfl ?_
    refine wa_cons ?_
    refine we_slot 5 rfl (.inl rfl) rfl rfl ?_
    refine ⟨rfl, ?_⟩
    refine wa_nil ?_
    refine ⟨rfl, rfl, ?_⟩
    refine ⟨_, rfl, rfl, ?_⟩
    refine ⟨rfl, _, rfl, ?_⟩
    refine lcw_cons rfl (fun s H C cl fp => ?_)
    refine we_call C_is_fraction hr (Nat.le_add_right k 2) rfl ?_
    refine wa_cons ?_
    refine we_slot 5 rfl (.inl rfl) rfl rfl ?_
    refine ⟨rfl, ?_⟩
    refine wa_nil ?_
    refine ⟨rfl, rfl, ?_⟩
    refine ⟨_, rfl, rfl, ?_⟩
    refine ⟨rfl, _, rfl, ?_⟩
    refine lcw_cons rfl (fun s H C cl fp => ?_)
    refine we_call C_is_fraction hr (Nat.le_add_right k 2) rfl ?_
    refine wa_cons ?_
    refine we_slot 5 rfl (.inl rfl) rfl rfl ?_
    refine ⟨rfl, ?_⟩
    refine wa_nil ?_
    refine ⟨rfl, rfl, ?_⟩
    refine ⟨_, rfl, rfl, ?_⟩
    refine ⟨rfl, _, rfl, ?_⟩
    refine lcw_cons rfl (fun s H C cl fp => ?_)
    refine we_call C_is_fraction hr (Nat.le_add_right k 2) rfl ?_
    refine wa_cons ?_
    refine we_slot 5 rfl (.inl rfl) rfl rfl ?_
    refine ⟨rfl, ?_⟩
    refine wa_nil ?_
    refine ⟨rfl, rfl, ?_⟩
    refine ⟨_, rfl, rfl, ?_⟩
    refine ⟨rfl, _, rfl, ?_⟩
    refine lcw_cons rfl (fun s H C cl fp => ?_)
    refine we_call C_is_fraction hr (Nat.le_add_right k 2) rfl ?_
    refine wa_cons ?_
    refine we_slot 5 rfl (.inl rfl) rfl rfl ?_
    refine ⟨rfl, ?_⟩
    refine wa_nil ?_
    refine ⟨rfl, rfl, ?_⟩
    refine ⟨_, rfl, rfl, ?_⟩
    refine ⟨rfl, _, rfl, ?_⟩
    refine we_rep ?_
    refine we_lst ?_
    refine wa_cons ?_
    refine we_bl ?_
    refine ⟨rfl, ?_⟩
    refine wa_nil ?_
    refine ⟨_, rfl, by simp, ?_⟩
    refine we_int ?_
    refine ⟨_, _, rfl, rfl, by decide, by decide, by decide, ?_⟩
    refine ⟨_, _, _, _, rfl, rfl, rfl, rfl, by decide +kernel, by decide +kernel, ?_⟩
    exact ⟨_, rfl, congrArg D.bl (by decide +kernel)⟩
end
end K02

namespace K02
open PySem PySem.Spec PyProof.Rows L2 PL
variable [Hand]
def S__law_hand : Sem1 := fun ws P Y => ∃ ns : List Int, ws = [.val (.ro (ns.map D.int))] ∧ ns.length ≤ 1000 ∧ ∀ (cs : List Int) (m : Int), (∀ c ∈ cs, 0 ≤ c) → 0 ≤ m → P (.lst [.lst (cs.map D.int), .int 0, .int 0, .int m, .int 0])
def gabs : D → D
  | .int i => .int (i.natAbs : Int)
  | _ => .non
theorem cut_ints (ns : List Int) (lo hi : Option Int) : ∃ ms : List Int, PL.cutD (ns.map D.int) lo hi = ms.map D.int ∧ ms.length ≤ ns.length := by
  refine ⟨(ns.drop (HT.sIx (ns.map D.int).length 0 lo)).take (HT.sIx (ns.map D.int).length (ns.map D.int).length hi - HT.sIx (ns.map D.int).length 0 lo), ?_, ?_⟩
  · unfold PL.cutD
    rw [List.map_take, List.map_drop]
  · rw [List.length_take, List.length_drop]
    omega
section
variable {P : Program} {w : World} {K : PySem.W.Frag} {mg : Str → Option Value} {base : Heap} {f : Addr} {fd : FuncData} {k : Nat}
theorem sc__law_hand : FnScope ["script", "cells", "cell"] ["script"] (defScope s__law_hand) := ⟨rfl, rfl, rfl, by decide +kernel, rfl, by decide +kernel, by decide +kernel⟩
theorem ok__law_hand (Z : Env K mg)  (F : FnP K "_law_hand" s__law_hand f fd) : FnOk P w K mg base (L2.CX P w) (k + 1) f fd ["script"] (spS K mg 1 S__law_hand) := fn_ok F sc__law_hand fun cdv A outer s H E ws Q Y hr hS hl => by
  obtain ⟨ns, rfl, hz, hQ⟩ := hS
  obtain ⟨ms, em, hm⟩ := cut_ints ns none (some 60)
  refine wb_cons (ws_lc 1 (js := [2]) (own := [("cell", 2)]) rfl rfl rfl sc__law_hand.nd (show BlkOk ["script", "cells", "cell"] (defScope s__law_hand) _ _ from blk_by (by decide +kernel)) (fun s H C cl fp => pg_name sc__law_hand.nd rfl (.inl rfl)) tgt1 (by decide) (show ∀ j ∈ ([2] : List Nat), j < 3 by decide) ?_ rfl)
  refine wi_lst rfl ?_ (fun _ h => pi_list h)
  refine we_slL ?_
  refine we_slot 0 rfl (.inl rfl) rfl rfl ?_
  refine we_int ?_
  refine ⟨60, rfl, ?_⟩
  refine ⟨_, .inr rfl, ?_⟩
  rw [em]
  refine ⟨_, .inl rfl, ?_⟩
  refine ⟨by simp; omega, rfl, ?_⟩
  refine lcw_map (g := gabs) (fun it hit K hk => ?_) ?_
  · obtain ⟨j, hj, rfl⟩ := List.mem_map.mp hit
    refine ⟨[.int j], rfl, fun s H C cl fp => ?_⟩
    refine we_abs rfl Z.abs ?_
    refine we_intI rfl Z.int ?_
    refine we_slot 2 rfl (.inl rfl) rfl rfl ?_
    refine ⟨_, rfl, ?_⟩
    refine ⟨_, rfl, ?_⟩
    exact ⟨rfl, _, rfl, hk⟩
  have eg : (ms.map D.int).map gabs = (ms.map fun i => (i.natAbs : Int)).map D.int := by
    rw [List.map_map, List.map_map]
    rfl
  rw [List.nil_append, eg]
  refine wb_one (ws_ret ?_)
  refine we_lst ?_
  refine wa_cons ?_
  refine we_slot 1 rfl (.inl rfl) rfl rfl ?_
  refine ⟨rfl, ?_⟩
  refine wa_cons ?_
  refine we_int ?_
  refine ⟨rfl, ?_⟩
  refine wa_cons ?_
  refine we_int ?_
  refine ⟨rfl, ?_⟩
  refine wa_cons ?_
  refine we_add ?_
  refine we_int ?_
  refine we_mulS ?_
  refine we_int ?_
  refine we_len rfl Z.len ?_
  refine we_slot 1 rfl (.inl rfl) rfl rfl ?_
  refine ⟨_, rfl, ?_⟩
  refine ⟨_, _, rfl, rfl, .inl ⟨by decide, by decide⟩, ?_⟩
  refine ⟨_, _, rfl, rfl, ?_⟩
  refine ⟨rfl, ?_⟩
  refine wa_cons ?_
  refine we_int ?_
  refine ⟨rfl, ?_⟩
  refine wa_nil ?_
  refine ⟨_, rfl, by simp, ?_⟩
  refine ⟨_, rfl, hQ _ _ (fun c hc => ?_) (by omega)⟩
  obtain ⟨j, _, rfl⟩ := List.mem_map.mp hc
  omega
end
end K02

namespace K02
open PySem PySem.Spec PyProof.Rows L2 PL LamX
variable [Hand]
theorem rds_ints {K : PySem.W.Frag} {mg : Str → Option Value} {F : Hp} : ∀ ns : List Int, RDs K mg F (ns.map D.int) (ns.map V.int)
  | [] => .nil
  | n :: ns => .cons (.int n) (rds_ints ns)
theorem script_F {K : PySem.W.Frag} {H : Hp} {a : Addr} {xs : List V} (h : SqL K H a xs) : ∃ F : Hp, Ext F H ∧ (∀ x o, F x = some o → NoT o) ∧ SqL K F a xs := by
  rcases h with (h | ⟨o, h⟩) | h
  · refine ⟨fun x => if x = a then some (.lst xs) else none, fun x o e => ?_, fun x o e => ?_, .inl (.inl (if_pos rfl))⟩
    · by_cases hx : x = a
      · subst hx
        have e : (if x = x then some (HO.lst xs) else none) = some o := e
        rw [if_pos rfl] at e
        cases e
        exact h
      · have e : (if x = a then some (HO.lst xs) else none) = some o := e
        rw [if_neg hx] at e
        cases e
    · have e : (if x = a then some (HO.lst xs) else none) = some o := e
      split at e
      · cases e
        exact noT_lst _
      · cases e
  · refine ⟨fun x => if x = a then some (.frz o (.lst xs)) else none, fun x u e => ?_, fun x u e => ?_, .inl (.inr ⟨o, if_pos rfl⟩)⟩
    · by_cases hx : x = a
      · subst hx
        have e : (if x = x then some (HO.frz o (.lst xs)) else none) = some u := e
        rw [if_pos rfl] at e
        cases e
        exact h
      · have e : (if x = a then some (HO.frz o (.lst xs)) else none) = some u := e
        rw [if_neg hx] at e
        cases e
    · have e : (if x = a then some (HO.frz o (.lst xs)) else none) = some u := e
      split at e
      · cases e
        exact fun _ q => nomatch q
      · cases e
  · exact ⟨fun _ => none, (fun _ _ e => nomatch e), (fun _ _ e => nomatch e), .inr h⟩
def spLaw (K : PySem.W.Frag) : Sp := fun vs H Q _ => ∃ (a : Addr) (ns : List Int), vs = [.ref a] ∧ SqL K H a (ns.map V.int) ∧ ns.length ≤ 1000 ∧ Tabs Hand.T H ∧ ∀ H', Q (.bl true) H'
section
variable {P : Program} {w : World} {K : PySem.W.Frag} {mg : Str → Option Value} {base : Heap} {f : Addr} {fd : FuncData} {k : Nat}
theorem ok_law (HO' : HandOk K mg) (Z : Env K mg) (W : WordF K mg) (LF : LamF K mg base "law") {gw : Addr} {fdw : FuncData} (Fw : FnP K "_law_word" s__law_word gw fdw) (mw : mg "_law_word" = some (.ref gw)) (C__law_part : Cal P w K mg base k "_law_part" 1 S__law_part) (C__law_is : Cal P w K mg base k "_law_is" 2 (S_is 3)) (C_is_fraction : Cal P w K mg base k "is_fraction" 1 S_is_fraction) (C_is_amount : Cal P w K mg base k "is_amount" 1 S_is_amount) (C__law_two_right : Cal P w K mg base k "_law_two_right" 2 S__law_two_right) (C_floor_of : Cal P w K mg base k "floor_of" 1 S_floor_of) (C__law_whole : Cal P w K mg base k "_law_whole" 1 S__law_whole) (C_fraction : Cal P w K mg base k "fraction" 2 S_fraction) (C__law_low : Cal P w K mg base k "_law_low" 2 S__law_low) (C__law_riches_right : Cal P w K mg base k "_law_riches_right" 3 S__law_riches_right) (C__law_draw : Cal P w K mg base k "_law_draw" 2 S__law_draw) (C__law_bent : Cal P w K mg base k "_law_bent" 2 S__law_bent) (C__law_is_part : Cal P w K mg base k "_law_is_part" 1 S__law_is_part) (C_plus : Cal P w K mg base k "plus" 2 S_plus) (C_less : Cal P w K mg base k "less" 2 S_less) (C_times : Cal P w K mg base k "times" 2 S_times) (C_by : Cal P w K mg base k "by" 2 S_by) (C_at_most : Cal P w K mg base k "at_most" 2 S_at_most) (C__law_hand : Cal P w K mg base k "_law_hand" 1 S__law_hand) (F : FnP K "law" s_law f fd) (hf : f = He.fAd K ("law", none)) : FnOk P w K mg base (L2.CX P w) (k + 2 + 1) f fd ["script"] (spLaw K) := by
  obtain ⟨oc, od, dV, kV, doc, pm, an, cdv, ct, osl, rfl, lk, hcd, _, _⟩ := F.ex
  obtain ⟨c, rfl⟩ := He.codeIn_ref hcd
  have e : He.codeOf K ("law", none) = c := He.codeOf_eq (by rw [← hf]; exact lk) rfl
  subst e
  refine fn_of lk hcd sc_law (fun vs H Q E h => ?_) fun A outer s H vs Q E hr h => ⟨_, pss_best, ?_⟩
  · obtain ⟨a, ns, rfl, _⟩ := h
    rfl
  obtain ⟨a, ns, rfl, hS, hz, hT, hQ⟩ := h
  obtain ⟨F0, fe, fn, fs⟩ := script_F hS
  have R0 := rel0 (K := K) (mg := mg) (hd := none) (F := F0) (H := H) (W := fun _ _ _ _ => False) (N := NL) (ws := [.val (.ro (ns.map D.int))]) (vs := [.ref a]) (n0 := s.heap.objs.size) (fs := frs outer) fe fn hT (fun _ q => nomatch q) (.cons (.ro fs (rds_ints ns)) .nil) (datas_of rfl)
  have lk0 : ∀ (hd : Option Addr) (F H' : Hp), Lk (cxOf (L2.CX P w) P w K mg base NL "law" (defScope s_law) f (.ref (He.codeOf K ("law", none))) A outer s H E) (cfg0 hd F H' (fun _ _ _ _ => False) s.heap.objs.size (frs outer)) (fun _ _ => False) := fun hd F H' =>
    ⟨⟨LamX.takes0, passes_of rfl, fun _ => ⟨rfl, rfl⟩⟩, fun _ _ _ _ _ _ h => h.elim⟩
  refine bstB (pss_cons ps_best pss_best) ?_
  have h1 : WS (cxOf (L2.CX P w) P w K mg base NL "law" (defScope s_law) f (.ref (He.codeOf K ("law", none))) A outer s H E) ((defBody s_law).headD (.Pass ⟨0, 0, 0, 0⟩)) (store0 NL [.val (.ro (ns.map D.int))]) (fun _ _ => False) { nx := fun ρ => ∃ (cs : List Int) (m : Int), (∀ c ∈ cs, 0 ≤ c) ∧ 0 ≤ m ∧ ρ = [some (.val (.ro (ns.map D.int))), some (.val (.lst [.lst (cs.map D.int), .int 0, .int 0, .int m, .int 0])), none, none, none, none, none, none, none, none, none, none], rt := fun _ => False } := by
    refine ws_asg 1 sc_law.nd rfl (.inl rfl) ?_
    refine we_call C__law_hand hr (Nat.le_add_right k 2) rfl ?_
    refine wa_cons ?_
    refine we_slot 0 rfl (.inl rfl) rfl rfl ?_
    refine ⟨rfl, ?_⟩
    refine wa_nil ?_
    exact ⟨rfl, rfl, ns, rfl, hz, fun cs m hcs hm => ⟨_, rfl, cs, m, hcs, hm, rfl⟩⟩
  refine bS.imp (h1 _ F0 H _ ⟨rfl, rfl⟩ R0 (lk0 none F0 H)) (fun σ1 H1 ⟨F1, ρ, R1, cs, m, hcs, hm, eρ⟩ => ?_) (fun v H1 ⟨_, _, _, _, q⟩ => q.elim) (fun _ _ ⟨_, _, _, q⟩ => q.elim) (fun _ _ ⟨_, _, _, q⟩ => q.elim)
  subst eρ
  obtain ⟨_, v0, s0, r0⟩ := R1.slot 0 _ rfl
  obtain ⟨_, v1, s1, r1⟩ := R1.slot 1 _ rfl
  obtain ⟨p, xs, rfl, hp, rx⟩ := RD.lst_inv r1
  have hg : GoodH [.lst (cs.map D.int), .int 0, .int 0, .int m, .int 0] := ⟨cs, 0, 0, m, 0, rfl, hcs, by omega, by omega, hm, by omega⟩
  have rcons : ∃ q i r mm t, xs = [q, i, r, mm, t] ∧ RD K mg F1 (.lst (cs.map D.int)) q ∧ i = .int 0 ∧ r = .int 0 ∧ mm = .int m ∧ t = .int 0 := by
    cases rx with
    | cons y1 y2 =>
    cases y2 with
    | cons z1 z2 =>
    cases z2 with
    | cons u1 u2 =>
    cases u2 with
    | cons w1 w2 =>
    cases w2 with
    | cons t1 t2 =>
    cases t2
    exact ⟨_, _, _, _, _, rfl, y1, RD.int_inv z1, RD.int_inv u1, RD.int_inv w1, RD.int_inv t1⟩
  obtain ⟨q, _, _, _, _, rfl, rq, rfl, rfl, rfl, rfl⟩ := rcons
  obtain ⟨qa, ys, rfl, hq, ry⟩ := RD.lst_inv rq
  have intsN : ∀ (zs : List V) (l : List Int), zs = l.map V.int → ∀ (x : Addr) r, zs ≠ V.ref x :: r := fun zs l e x r e2 => by
    rw [e] at e2
    cases l with
    | nil => cases e2
    | cons _ _ => cases e2
  have eys : ys = cs.map V.int := by
    clear hq rq rx hp r1
    have gen : ∀ {l : List Int} {zs : List V}, RDs K mg F1 (l.map D.int) zs → zs = l.map V.int := by
      intro l
      induction l with
      | nil =>
        intro zs h
        cases h
        rfl
      | cons n l ih =>
        intro zs h
        cases h with
        | cons h1 h2 => rw [RD.int_inv h1, ih h2, List.map_cons]
    exact gen ry
  have hqp : qa ≠ p := fun e => by
    rw [e, hp] at hq
    have := HO.lst.inj (Option.some.inj hq)
    exact intsN ys cs eys _ _ this.symm
  have gen : ∀ {F : Hp} {l : List Int} {zs : List V}, RDs K mg F (l.map D.int) zs → zs = l.map V.int := by
    intro F l
    induction l with
    | nil =>
      intro zs h
      cases h
      rfl
    | cons n l ih =>
      intro zs h
      cases h with
      | cons h1 h2 => rw [RD.int_inv h1, ih h2, List.map_cons]
  have f2ne : ∀ x, x ≠ p → (fun x => if x = p then none else F1 x : Hp) x = F1 x := fun x hx => if_neg hx
  have f2p : (fun x => if x = p then none else F1 x : Hp) p = none := if_pos rfl
  generalize (fun x => if x = p then none else F1 x : Hp) = F2 at f2ne f2p
  have f2some : ∀ x o, F2 x = some o → F1 x = some o := fun x o hx => by
    have hne : x ≠ p := fun q => by
      rw [q, f2p] at hx
      cases hx
    rw [← f2ne x hne]
    exact hx
  have rc : RDs K mg F2 [.lst (cs.map D.int), .int 0, .int 0, .int m, .int 0] [.ref qa, .int 0, .int 0, .int m, .int 0] := by
    refine .cons (.lst (xs := ys) (by rw [f2ne qa hqp]; exact hq) ?_) (.cons (.int 0) (.cons (.int 0) (.cons (.int m) (.cons (.int 0) .nil))))
    rw [eys]
    exact rds_ints cs
  have r02 : RD K mg F2 (.ro (ns.map D.int)) v0 := by
    have r0 : RD K mg F1 (.ro (ns.map D.int)) v0 := r0
    cases r0 with
    | ro h k =>
      have ex := gen k
      subst ex
      refine .ro ?_ (rds_ints ns)
      rcases h with (h | ⟨o, h⟩) | h
      · refine .inl (.inl ?_)
        rw [f2ne _ fun q => ?_]
        · exact h
        · rw [q, hp] at h
          exact intsN _ ns rfl _ _ (HO.lst.inj (Option.some.inj h)).symm
      · refine .inl (.inr ⟨o, ?_⟩)
        rw [f2ne _ fun q => ?_]
        · exact h
        · rw [q, hp] at h
          exact nomatch h
      · exact .inr h
  have R2 : Rel K mg (cfg0 (some p) F2 H1 (fun _ _ _ _ => False) s.heap.objs.size (frs outer)) F2 H1 σ1 (ρ1 (.ro (ns.map D.int))) := by
    refine ⟨⟨fun x o h => R1.aft.sub x o (f2some x o h), .refl F2, fun x o h => (hide_some.mp h).2.1, fun x o h hn => hide_some.mpr ⟨hn, noTb_some.mp h⟩, fun x o h => .inl h, fun x o h => ⟨o, noTb_some.mp h⟩, fun _ => rfl, fun p' hp' => ?_, ⟨fun x o h => R1.aft.tb.nF x o (f2some x o h), fun x o h => (hide_some.mp h).2.2, R1.aft.tb.tabs⟩⟩, fun i w hi => ?_, fun i j ds es v _ hi _ _ _ => ?_⟩
    · cases hp'
      refine ⟨f2p, ?_, _, R1.aft.sub p _ hp, HO'.cl F2 _ _ rc hg⟩
      cases e : hide H1 (some p) p with
      | none => exact e
      | some o' => exact absurd rfl (hide_some.mp e).1
    · match i, hi with
      | 0, hi =>
        cases hi
        exact ⟨(fun _ q => nomatch q), v0, s0, r02⟩
      | 1, hi =>
        cases hi
        exact ⟨(fun _ q => nomatch q), _, s1, p, rfl, rfl⟩
      | 2, hi => cases hi
      | 3, hi => cases hi
      | 4, hi => cases hi
      | 5, hi => cases hi
      | 6, hi => cases hi
      | 7, hi => cases hi
      | 8, hi => cases hi
      | 9, hi => cases hi
      | 10, hi => cases hi
      | 11, hi => cases hi
      | n + 12, hi => cases hi
    · match i, hi with
      | 0, hi => cases hi
      | 1, hi => cases hi
      | 2, hi => cases hi
      | 3, hi => cases hi
      | 4, hi => cases hi
      | 5, hi => cases hi
      | 6, hi => cases hi
      | 7, hi => cases hi
      | 8, hi => cases hi
      | 9, hi => cases hi
      | 10, hi => cases hi
      | 11, hi => cases hi
      | n + 12, hi => cases hi
  have h2 := law_rest Z W LF Fw mw C__law_part C__law_is C_is_fraction C_is_amount C__law_two_right C_floor_of C__law_whole C_fraction C__law_low C__law_riches_right C__law_draw C__law_bent C__law_is_part C_plus C_less C_times C_by C_at_most (A := A) (outer := outer) (s := s) (H := H) (E := E) (sc := .ro (ns.map D.int)) (Y := fun _ _ => False) hr _ F2 H1 σ1 ⟨rfl, rfl⟩ R2 (lk0 (some p) F2 H1)
  refine bB.impI h2 (fun _ _ _ ⟨_, _, _, q⟩ => q.elim) (fun v H2 ⟨F', d, _, rd, hd⟩ => ?_) (fun _ _ ⟨_, _, _, q⟩ => q.elim) (fun _ _ _ ⟨_, _, _, q⟩ => q.elim)
  subst hd
  rw [RD.bl_inv rd]
  exact hQ H2
end
end K02

namespace K02
open PySem PySem.Spec PySem.W PySem.Calls PyProof.Rows L2
def dd (x : Str) (st : Stmt) : He.DefD := ⟨(x, none), x, x, defArgs st, defBody st, defScope st, [], []⟩
def fn : List He.DefD := [dd "is_integer" s_is_integer, dd "divisor" s_divisor, dd "is_fraction" s_is_fraction, dd "is_amount" s_is_amount, dd "made" s_made, dd "check_fraction" s_check_fraction, dd "fraction" s_fraction, dd "raw_plus" s_raw_plus, dd "raw_less" s_raw_less, dd "raw_times" s_raw_times, dd "raw_by" s_raw_by, dd "raw_at_most" s_raw_at_most, dd "plus" s_plus, dd "less" s_less, dd "times" s_times, dd "by" s_by, dd "at_most" s_at_most, dd "floor_of" s_floor_of, dd "has_kind_form" s_has_kind_form, dd "is_kind" s_is_kind, dd "check_kind" s_check_kind, dd "is_told" s_is_told, dd "pieces_of" s_pieces_of, dd "raw_is_value" s_raw_is_value, dd "raw_is_rich" s_raw_is_rich, dd "check_rich" s_check_rich, dd "riches_within" s_riches_within, dd "raw_worth" s_raw_worth, dd "worth" s_worth, dd "raw_amounts" s_raw_amounts, dd "raw_many" s_raw_many, dd "raw_rich" s_raw_rich, dd "raw_covers" s_raw_covers, dd "check_both" s_check_both, dd "covers" s_covers, dd "rich_plus" s_rich_plus, dd "rich_scaled" s_rich_scaled, dd "_law_hand" s__law_hand, dd "_law_draw" s__law_draw, dd "_law_some" s__law_some, dd "_law_none" s__law_none, dd "_law_odd" s__law_odd, dd "_law_bent" s__law_bent, dd "_law_is" s__law_is, dd "_law_low" s__law_low, dd "_law_is_part" s__law_is_part, dd "_law_sum" s__law_sum, dd "_law_word" s__law_word, dd "_law_whole" s__law_whole, dd "_law_part" s__law_part, dd "_law_two_right" s__law_two_right, dd "_law_riches_right" s__law_riches_right, dd "law" s_law]
def fa : List He.Fa := [.glo "is_integer",
  .glo "divisor",
  .glo "is_fraction",
  .glo "is_amount",
  .glo "made",
  .glo "check_fraction",
  .glo "fraction",
  .glo "raw_plus",
  .glo "raw_less",
  .glo "raw_times",
  .glo "raw_by",
  .glo "raw_at_most",
  .glo "plus",
  .glo "less",
  .glo "times",
  .glo "by",
  .glo "at_most",
  .glo "floor_of",
  .glo "has_kind_form",
  .glo "is_kind",
  .glo "check_kind",
  .glo "is_told",
  .glo "pieces_of",
  .glo "raw_is_value",
  .glo "raw_is_rich",
  .glo "check_rich",
  .glo "riches_within",
  .glo "raw_worth",
  .glo "worth",
  .glo "raw_amounts",
  .glo "raw_many",
  .glo "raw_rich",
  .glo "raw_covers",
  .glo "check_both",
  .glo "covers",
  .glo "rich_plus",
  .glo "rich_scaled",
  .glo "_law_hand",
  .glo "_law_draw",
  .glo "_law_some",
  .glo "_law_none",
  .glo "_law_odd",
  .glo "_law_bent",
  .glo "_law_is",
  .glo "_law_low",
  .glo "_law_is_part",
  .glo "_law_sum",
  .glo "_law_word",
  .glo "_law_whole",
  .glo "_law_part",
  .glo "_law_two_right",
  .glo "_law_riches_right",
  .glo "law",
  .glo "PaidError",
  .glo "NoFraction",
  .glo "Zero",
  .glo "NoKind",
  .glo "NoValue",
  .glo "NoRich",
  .free "abs",
  .free "all",
  .free "bool",
  .free "dict",
  .free "int",
  .free "isinstance",
  .free "len",
  .free "list",
  .free "range",
  .free "str",
  .free "sum",
  .free "tuple",
  .free "zip",
  .glo "NOUGHT",
  .str "INT" "int",
  .str "FLAG" "flag",
  .str "PAIR" "pair",
  .str "EITHER" "either",
  .str "LIST" "list",
  .str "TREE" "tree",
  .str "LEFT" "left",
  .str "RIGHT" "right",
  .str "LEAF" "leaf",
  .str "FORK" "fork",
  .int "MOST_PARTS" 8,
  .int "MOST_INTEGER" 1000000000000000000,
  .glo "SIZES",
  .exc "PaidError",
  .exc "NoFraction",
  .exc "Zero",
  .exc "NoKind",
  .exc "NoValue",
  .exc "NoRich",
  .exm "NoFraction" "PaidError" true,
  .exm "Zero" "PaidError" true]
def tf : List He.Defn := [("_law_two_right", none), ("law", none)]
def nm0 : List PySem.Str := ["PaidError", "NoFraction", "Zero", "NoKind", "NoValue", "NoRich", "NOUGHT", "is_integer", "divisor", "is_fraction", "is_amount", "made", "check_fraction", "fraction", "raw_plus", "raw_less", "raw_times", "raw_by", "raw_at_most", "plus", "less", "times", "by", "at_most", "floor_of", "INT", "FLAG", "PAIR", "EITHER", "LIST"]
def nm1 : List PySem.Str := ["TREE", "LEFT", "RIGHT", "LEAF", "FORK", "MOST_PARTS", "MOST_INTEGER", "SIZES", "has_kind_form", "is_kind", "check_kind", "is_told", "pieces_of", "raw_is_value", "raw_is_rich", "check_rich", "riches_within", "raw_worth", "worth", "raw_amounts", "raw_many", "raw_rich", "raw_covers", "check_both", "covers", "rich_plus", "rich_scaled", "_law_hand", "_law_draw", "_law_some"]
def nm2 : List PySem.Str := ["_law_none", "_law_odd", "_law_bent", "_law_is", "_law_low", "_law_is_part", "_law_sum", "_law_word", "_law_whole", "_law_part", "_law_two_right", "_law_riches_right"]
def names : List PySem.Str := nm0 ++ nm1 ++ nm2
def lawI : Nat := 77
abbrev R : PySem.W.OpenRow := PySem.W.OpenLaw.row PySem.Challenge.rw_forepaid_k02_whole_fractions_and_what_is
def ts : List He.Tab := [(fun K => He.ga K "SIZES", ["pair", "either", "list", "tree"])]
def excB (K : PySem.W.Frag) (D : Addr) : Bool := He.eqO (PySem.W.findIn K (.ref D) "__getattribute__") (some (some (.builtin "BaseException.__getattribute__"))) && (He.eqO (PySem.W.findIn K (.ref D) "__getattr__") (some none) && (decide (PySem.W.subIn K (.ref D) (.type "BaseException") = some true) && (PySem.W.hasDictIn K D && (He.eqO (PySem.W.findIn K (.ref D) "__class__") (some (some (.builtin "object.__class__"))) &&
  (He.eqO (PySem.W.specialIn K (.builtin "object.__class__") "__get__") (some (some (.builtin "getset_descriptor.__get__"))) && (decide (PySem.W.takesIn K (.builtin "object.__class__") = some true) && decide (PySem.W.mroIn K D (.type "object") = some true)))))))
def kitB (K : PySem.W.Frag) (x y : PySem.Str) (b : Bool) : Bool := decide (PySem.W.kitOne K (.ref (He.ga K x)) (.ref (He.ga K y)) = some b)
def ex (K : PySem.W.Frag) : Bool := He.tupB K "NOUGHT" [.int 0, .int 1] && (He.valsB K (He.ga K "SIZES") [("list", .int 1)] && (kitB K "NoFraction" "NoFraction" true && (kitB K "NoFraction" "Zero" false && (kitB K "Zero" "NoFraction" false && (kitB K "Zero" "Zero" true && (excB K (He.ga K "NoFraction") && (excB K (He.ga K "Zero") &&
  !decide ((He.cT K ("_law_two_right", none)).2 = (He.cT K ("law", none)).2))))))))
abbrev hk : PySem.W.Hook := He.hookX 6 fa fn ts tf ex
def ob (s : PySem.W.SharedT) : He.AlX := He.obsX 6 fa fn ts tf ex (HandSHeadRun.getT s)
theorem ob_eq (s : PySem.W.SharedT) : ob s = hk.obs s.abs := He.obsX_eq (HandSHeadRun.getT_eq s)

theorem runF (w : World) : HandSHeadRun.RunEq R (PySem.W.view R.prog [lawI]) hk ob 4000 names (w.withFollow "special-get-raises" false) := by
  intro os
  kernel_rfl
end K02

namespace K02
open PySem PySem.Spec PySem.W PySem.Calls PyProof.Rows L2
theorem runT (w : World) : HandSHeadRun.RunEq R (PySem.W.view R.prog [lawI]) hk ob 4000 names (w.withFollow "special-get-raises" true) := by
  intro os
  kernel_rfl
theorem run (w : World) : HandSHeadRun.RunEq R (PySem.W.view R.prog [lawI]) hk ob 4000 names w :=
  byRow2 "special-get-raises" (P := fun w => HandSHeadRun.RunEq R (PySem.W.view R.prog [lawI]) hk ob 4000 names w) runF runT w
end K02

namespace K02
open PySem PySem.Spec PyProof.Rows L2 PL LamX
section
variable {K : PySem.W.Frag} {h : Heap} {mg : Str → Option Value}
theorem exc1_of (X : K.In h) (G : h.Ns mainGlobals mg) (c : He.SaysD fa fn K) {x : Str} (h1 : He.Fa.exc x ∈ fa) (h2 : He.Fa.glo x ∈ fa) : Exc1 K mg x := by
  obtain ⟨a1, a2, a3, a4⟩ := He.exc_ok (c.facts h1)
  exact ⟨He.ga K x, He.glo_ok X G (c.facts h2), a1, a2, a3, a4⟩
theorem env_of (X : K.In h) (G : h.Ns mainGlobals mg) (c : He.SaysD fa fn K) (hN : He.tupB K "NOUGHT" [.int 0, .int 1] = true) : Env K mg where
  isinstance := He.free_ok X G (c.facts (by simp [fa]))
  int := He.free_ok X G (c.facts (by simp [fa]))
  bool := He.free_ok X G (c.facts (by simp [fa]))
  abs := He.free_ok X G (c.facts (by simp [fa]))
  len := He.free_ok X G (c.facts (by simp [fa]))
  tuple := He.free_ok X G (c.facts (by simp [fa]))
  list := He.free_ok X G (c.facts (by simp [fa]))
  str := He.free_ok X G (c.facts (by simp [fa]))
  dict := He.free_ok X G (c.facts (by simp [fa]))
  range := He.free_ok X G (c.facts (by simp [fa]))
  zip := He.free_ok X G (c.facts (by simp [fa]))
  all := He.free_ok X G (c.facts (by simp [fa]))
  sum := He.free_ok X G (c.facts (by simp [fa]))
  X_NoFraction := exc1_of X G c (by simp [fa]) (by simp [fa])
  X_Zero := exc1_of X G c (by simp [fa]) (by simp [fa])
  X_NoKind := exc1_of X G c (by simp [fa]) (by simp [fa])
  X_NoValue := exc1_of X G c (by simp [fa]) (by simp [fa])
  X_NoRich := exc1_of X G c (by simp [fa]) (by simp [fa])
  INT := He.str_ok X G (c.facts (by simp [fa]))
  FLAG := He.str_ok X G (c.facts (by simp [fa]))
  PAIR := He.str_ok X G (c.facts (by simp [fa]))
  EITHER := He.str_ok X G (c.facts (by simp [fa]))
  LIST := He.str_ok X G (c.facts (by simp [fa]))
  TREE := He.str_ok X G (c.facts (by simp [fa]))
  LEFT := He.str_ok X G (c.facts (by simp [fa]))
  RIGHT := He.str_ok X G (c.facts (by simp [fa]))
  LEAF := He.str_ok X G (c.facts (by simp [fa]))
  FORK := He.str_ok X G (c.facts (by simp [fa]))
  MOST_PARTS := He.int_ok X G (c.facts (by simp [fa]))
  MOST_INTEGER := He.int_ok X G (c.facts (by simp [fa]))
  NOUGHT := ⟨He.ga K "NOUGHT", He.glo_ok X G (c.facts (by simp [fa])), fun F => He.tupB_ok hN F⟩
theorem siz_of {w : World} (X : K.In h) (G : h.Ns mainGlobals mg) (c : He.SaysT fa fn ts w K) (hV : He.valsB K (He.ga K "SIZES") [("list", .int 1)] = true) : Siz w K mg := by
  obtain ⟨es, n, kd⟩ := c.tab 0 (t := (fun K => He.ga K "SIZES", ["pair", "either", "list", "tree"])) rfl
  obtain ⟨u, h1, h2⟩ := He.valsB_ok hV (q := ("list", .int 1)) (by simp)
  exact ⟨He.ga K "SIZES", es, n, u, He.glo_ok X G (c.d.facts (by simp [fa])), kd, h1, h2⟩
theorem excC_of {D : Addr} (hb : excB K D = true) : ExcC K D := by
  unfold excB at hb
  obtain ⟨h1, hb⟩ := He.ba hb
  obtain ⟨h2, hb⟩ := He.ba hb
  obtain ⟨h3, hb⟩ := He.ba hb
  obtain ⟨h4, hb⟩ := He.ba hb
  obtain ⟨h5, hb⟩ := He.ba hb
  obtain ⟨h6, hb⟩ := He.ba hb
  obtain ⟨h7, h8⟩ := He.ba hb
  exact ⟨He.eqO_ok h1, He.eqO_ok h2, of_decide_eq_true h3, h4, He.eqO_ok h5, He.eqO_ok h6, of_decide_eq_true h7, of_decide_eq_true h8⟩
theorem wordF_of (X : K.In h) (G : h.Ns mainGlobals mg) (c : He.SaysD fa fn K) (k1 : kitB K "NoFraction" "NoFraction" true = true) (k2 : kitB K "NoFraction" "Zero" false = true) (k3 : kitB K "Zero" "NoFraction" false = true) (k4 : kitB K "Zero" "Zero" true = true) (e1 : excB K (He.ga K "NoFraction") = true) (e2 : excB K (He.ga K "Zero") = true) : WordF K mg :=
  ⟨He.free_ok X G (c.facts (by simp [fa])), He.ga K "PaidError", He.ga K "NoFraction", He.ga K "Zero", He.glo_ok X G (c.facts (by simp [fa])), He.glo_ok X G (c.facts (by simp [fa])), He.glo_ok X G (c.facts (by simp [fa])), He.exm_ok (c.facts (by simp [fa])), He.exm_ok (c.facts (by simp [fa])), excC_of e1, excC_of e2, of_decide_eq_true k1, of_decide_eq_true k2, of_decide_eq_true k3, of_decide_eq_true k4⟩
end
end K02

namespace K02
open PySem PySem.Spec PyProof.Rows L2 PL LamX
theorem chain [Hand] {P : Program} {w : World} {K : PySem.W.Frag} {h : Heap} {mg : Str → Option Value} (X : K.In h) (G : h.Ns mainGlobals mg) (c : He.SaysD fa fn K) (Z : Env K mg) (SZ : Siz w K mg) (W : WordF K mg) (HO : HandOk K mg) :
    ∃ fd : FuncData, (∀ (s : Shared) (v : Value), BindsTo s fd ⟨[v], []⟩ [("script", v)]) ∧ ∀ base : Heap, LamF K mg base "_law_two_right" → LamF K mg base "law" → FnOk P w K mg base (L2.CX P w) 11 (He.ga K "law") fd ["script"] (spLaw K) := by
  obtain ⟨fd__law_bent, F__law_bent⟩ := c.def_ 42 (d := dd "_law_bent" s__law_bent) rfl
  have F__law_bent : FnP K "_law_bent" s__law_bent (He.ga K "_law_bent") fd__law_bent := F__law_bent
  have M__law_bent := He.glo_ok X G (c.facts (f := .glo "_law_bent") (by simp [fa]))
  obtain ⟨fd__law_draw, F__law_draw⟩ := c.def_ 38 (d := dd "_law_draw" s__law_draw) rfl
  have F__law_draw : FnP K "_law_draw" s__law_draw (He.ga K "_law_draw") fd__law_draw := F__law_draw
  have M__law_draw := He.glo_ok X G (c.facts (f := .glo "_law_draw") (by simp [fa]))
  obtain ⟨fd__law_hand, F__law_hand⟩ := c.def_ 37 (d := dd "_law_hand" s__law_hand) rfl
  have F__law_hand : FnP K "_law_hand" s__law_hand (He.ga K "_law_hand") fd__law_hand := F__law_hand
  have M__law_hand := He.glo_ok X G (c.facts (f := .glo "_law_hand") (by simp [fa]))
  obtain ⟨fd__law_is, F__law_is⟩ := c.def_ 43 (d := dd "_law_is" s__law_is) rfl
  have F__law_is : FnP K "_law_is" s__law_is (He.ga K "_law_is") fd__law_is := F__law_is
  have M__law_is := He.glo_ok X G (c.facts (f := .glo "_law_is") (by simp [fa]))
  obtain ⟨fd__law_is_part, F__law_is_part⟩ := c.def_ 45 (d := dd "_law_is_part" s__law_is_part) rfl
  have F__law_is_part : FnP K "_law_is_part" s__law_is_part (He.ga K "_law_is_part") fd__law_is_part := F__law_is_part
  have M__law_is_part := He.glo_ok X G (c.facts (f := .glo "_law_is_part") (by simp [fa]))
  obtain ⟨fd__law_low, F__law_low⟩ := c.def_ 44 (d := dd "_law_low" s__law_low) rfl
  have F__law_low : FnP K "_law_low" s__law_low (He.ga K "_law_low") fd__law_low := F__law_low
  have M__law_low := He.glo_ok X G (c.facts (f := .glo "_law_low") (by simp [fa]))
  obtain ⟨fd__law_none, F__law_none⟩ := c.def_ 40 (d := dd "_law_none" s__law_none) rfl
  have F__law_none : FnP K "_law_none" s__law_none (He.ga K "_law_none") fd__law_none := F__law_none
  have M__law_none := He.glo_ok X G (c.facts (f := .glo "_law_none") (by simp [fa]))
  obtain ⟨fd__law_odd, F__law_odd⟩ := c.def_ 41 (d := dd "_law_odd" s__law_odd) rfl
  have F__law_odd : FnP K "_law_odd" s__law_odd (He.ga K "_law_odd") fd__law_odd := F__law_odd
  have M__law_odd := He.glo_ok X G (c.facts (f := .glo "_law_odd") (by simp [fa]))
  obtain ⟨fd__law_part, F__law_part⟩ := c.def_ 49 (d := dd "_law_part" s__law_part) rfl
  have F__law_part : FnP K "_law_part" s__law_part (He.ga K "_law_part") fd__law_part := F__law_part
  have M__law_part := He.glo_ok X G (c.facts (f := .glo "_law_part") (by simp [fa]))
  obtain ⟨fd__law_riches_right, F__law_riches_right⟩ := c.def_ 51 (d := dd "_law_riches_right" s__law_riches_right) rfl
  have F__law_riches_right : FnP K "_law_riches_right" s__law_riches_right (He.ga K "_law_riches_right") fd__law_riches_right := F__law_riches_right
  have M__law_riches_right := He.glo_ok X G (c.facts (f := .glo "_law_riches_right") (by simp [fa]))
  obtain ⟨fd__law_some, F__law_some⟩ := c.def_ 39 (d := dd "_law_some" s__law_some) rfl
  have F__law_some : FnP K "_law_some" s__law_some (He.ga K "_law_some") fd__law_some := F__law_some
  have M__law_some := He.glo_ok X G (c.facts (f := .glo "_law_some") (by simp [fa]))
  obtain ⟨fd__law_sum, F__law_sum⟩ := c.def_ 46 (d := dd "_law_sum" s__law_sum) rfl
  have F__law_sum : FnP K "_law_sum" s__law_sum (He.ga K "_law_sum") fd__law_sum := F__law_sum
  have M__law_sum := He.glo_ok X G (c.facts (f := .glo "_law_sum") (by simp [fa]))
  obtain ⟨fd__law_two_right, F__law_two_right⟩ := c.def_ 50 (d := dd "_law_two_right" s__law_two_right) rfl
  have F__law_two_right : FnP K "_law_two_right" s__law_two_right (He.ga K "_law_two_right") fd__law_two_right := F__law_two_right
  have M__law_two_right := He.glo_ok X G (c.facts (f := .glo "_law_two_right") (by simp [fa]))
  obtain ⟨fd__law_whole, F__law_whole⟩ := c.def_ 48 (d := dd "_law_whole" s__law_whole) rfl
  have F__law_whole : FnP K "_law_whole" s__law_whole (He.ga K "_law_whole") fd__law_whole := F__law_whole
  have M__law_whole := He.glo_ok X G (c.facts (f := .glo "_law_whole") (by simp [fa]))
  obtain ⟨fd__law_word, F__law_word⟩ := c.def_ 47 (d := dd "_law_word" s__law_word) rfl
  have F__law_word : FnP K "_law_word" s__law_word (He.ga K "_law_word") fd__law_word := F__law_word
  have M__law_word := He.glo_ok X G (c.facts (f := .glo "_law_word") (by simp [fa]))
  obtain ⟨fd_at_most, F_at_most⟩ := c.def_ 16 (d := dd "at_most" s_at_most) rfl
  have F_at_most : FnP K "at_most" s_at_most (He.ga K "at_most") fd_at_most := F_at_most
  have M_at_most := He.glo_ok X G (c.facts (f := .glo "at_most") (by simp [fa]))
  obtain ⟨fd_by, F_by⟩ := c.def_ 15 (d := dd "by" s_by) rfl
  have F_by : FnP K "by" s_by (He.ga K "by") fd_by := F_by
  have M_by := He.glo_ok X G (c.facts (f := .glo "by") (by simp [fa]))
  obtain ⟨fd_check_both, F_check_both⟩ := c.def_ 33 (d := dd "check_both" s_check_both) rfl
  have F_check_both : FnP K "check_both" s_check_both (He.ga K "check_both") fd_check_both := F_check_both
  have M_check_both := He.glo_ok X G (c.facts (f := .glo "check_both") (by simp [fa]))
  obtain ⟨fd_check_fraction, F_check_fraction⟩ := c.def_ 5 (d := dd "check_fraction" s_check_fraction) rfl
  have F_check_fraction : FnP K "check_fraction" s_check_fraction (He.ga K "check_fraction") fd_check_fraction := F_check_fraction
  have M_check_fraction := He.glo_ok X G (c.facts (f := .glo "check_fraction") (by simp [fa]))
  obtain ⟨fd_check_kind, F_check_kind⟩ := c.def_ 20 (d := dd "check_kind" s_check_kind) rfl
  have F_check_kind : FnP K "check_kind" s_check_kind (He.ga K "check_kind") fd_check_kind := F_check_kind
  have M_check_kind := He.glo_ok X G (c.facts (f := .glo "check_kind") (by simp [fa]))
  obtain ⟨fd_check_rich, F_check_rich⟩ := c.def_ 25 (d := dd "check_rich" s_check_rich) rfl
  have F_check_rich : FnP K "check_rich" s_check_rich (He.ga K "check_rich") fd_check_rich := F_check_rich
  have M_check_rich := He.glo_ok X G (c.facts (f := .glo "check_rich") (by simp [fa]))
  obtain ⟨fd_covers, F_covers⟩ := c.def_ 34 (d := dd "covers" s_covers) rfl
  have F_covers : FnP K "covers" s_covers (He.ga K "covers") fd_covers := F_covers
  have M_covers := He.glo_ok X G (c.facts (f := .glo "covers") (by simp [fa]))
  obtain ⟨fd_divisor, F_divisor⟩ := c.def_ 1 (d := dd "divisor" s_divisor) rfl
  have F_divisor : FnP K "divisor" s_divisor (He.ga K "divisor") fd_divisor := F_divisor
  have M_divisor := He.glo_ok X G (c.facts (f := .glo "divisor") (by simp [fa]))
  obtain ⟨fd_floor_of, F_floor_of⟩ := c.def_ 17 (d := dd "floor_of" s_floor_of) rfl
  have F_floor_of : FnP K "floor_of" s_floor_of (He.ga K "floor_of") fd_floor_of := F_floor_of
  have M_floor_of := He.glo_ok X G (c.facts (f := .glo "floor_of") (by simp [fa]))
  obtain ⟨fd_fraction, F_fraction⟩ := c.def_ 6 (d := dd "fraction" s_fraction) rfl
  have F_fraction : FnP K "fraction" s_fraction (He.ga K "fraction") fd_fraction := F_fraction
  have M_fraction := He.glo_ok X G (c.facts (f := .glo "fraction") (by simp [fa]))
  obtain ⟨fd_has_kind_form, F_has_kind_form⟩ := c.def_ 18 (d := dd "has_kind_form" s_has_kind_form) rfl
  have F_has_kind_form : FnP K "has_kind_form" s_has_kind_form (He.ga K "has_kind_form") fd_has_kind_form := F_has_kind_form
  have M_has_kind_form := He.glo_ok X G (c.facts (f := .glo "has_kind_form") (by simp [fa]))
  obtain ⟨fd_is_amount, F_is_amount⟩ := c.def_ 3 (d := dd "is_amount" s_is_amount) rfl
  have F_is_amount : FnP K "is_amount" s_is_amount (He.ga K "is_amount") fd_is_amount := F_is_amount
  have M_is_amount := He.glo_ok X G (c.facts (f := .glo "is_amount") (by simp [fa]))
  obtain ⟨fd_is_fraction, F_is_fraction⟩ := c.def_ 2 (d := dd "is_fraction" s_is_fraction) rfl
  have F_is_fraction : FnP K "is_fraction" s_is_fraction (He.ga K "is_fraction") fd_is_fraction := F_is_fraction
  have M_is_fraction := He.glo_ok X G (c.facts (f := .glo "is_fraction") (by simp [fa]))
  obtain ⟨fd_is_integer, F_is_integer⟩ := c.def_ 0 (d := dd "is_integer" s_is_integer) rfl
  have F_is_integer : FnP K "is_integer" s_is_integer (He.ga K "is_integer") fd_is_integer := F_is_integer
  have M_is_integer := He.glo_ok X G (c.facts (f := .glo "is_integer") (by simp [fa]))
  obtain ⟨fd_is_kind, F_is_kind⟩ := c.def_ 19 (d := dd "is_kind" s_is_kind) rfl
  have F_is_kind : FnP K "is_kind" s_is_kind (He.ga K "is_kind") fd_is_kind := F_is_kind
  have M_is_kind := He.glo_ok X G (c.facts (f := .glo "is_kind") (by simp [fa]))
  obtain ⟨fd_is_told, F_is_told⟩ := c.def_ 21 (d := dd "is_told" s_is_told) rfl
  have F_is_told : FnP K "is_told" s_is_told (He.ga K "is_told") fd_is_told := F_is_told
  have M_is_told := He.glo_ok X G (c.facts (f := .glo "is_told") (by simp [fa]))
  obtain ⟨fd_law, F_law⟩ := c.def_ 52 (d := dd "law" s_law) rfl
  have F_law : FnP K "law" s_law (He.ga K "law") fd_law := F_law
  have M_law := He.glo_ok X G (c.facts (f := .glo "law") (by simp [fa]))
  obtain ⟨fd_less, F_less⟩ := c.def_ 13 (d := dd "less" s_less) rfl
  have F_less : FnP K "less" s_less (He.ga K "less") fd_less := F_less
  have M_less := He.glo_ok X G (c.facts (f := .glo "less") (by simp [fa]))
  obtain ⟨fd_made, F_made⟩ := c.def_ 4 (d := dd "made" s_made) rfl
  have F_made : FnP K "made" s_made (He.ga K "made") fd_made := F_made
  have M_made := He.glo_ok X G (c.facts (f := .glo "made") (by simp [fa]))
  obtain ⟨fd_pieces_of, F_pieces_of⟩ := c.def_ 22 (d := dd "pieces_of" s_pieces_of) rfl
  have F_pieces_of : FnP K "pieces_of" s_pieces_of (He.ga K "pieces_of") fd_pieces_of := F_pieces_of
  have M_pieces_of := He.glo_ok X G (c.facts (f := .glo "pieces_of") (by simp [fa]))
  obtain ⟨fd_plus, F_plus⟩ := c.def_ 12 (d := dd "plus" s_plus) rfl
  have F_plus : FnP K "plus" s_plus (He.ga K "plus") fd_plus := F_plus
  have M_plus := He.glo_ok X G (c.facts (f := .glo "plus") (by simp [fa]))
  obtain ⟨fd_raw_amounts, F_raw_amounts⟩ := c.def_ 29 (d := dd "raw_amounts" s_raw_amounts) rfl
  have F_raw_amounts : FnP K "raw_amounts" s_raw_amounts (He.ga K "raw_amounts") fd_raw_amounts := F_raw_amounts
  have M_raw_amounts := He.glo_ok X G (c.facts (f := .glo "raw_amounts") (by simp [fa]))
  obtain ⟨fd_raw_at_most, F_raw_at_most⟩ := c.def_ 11 (d := dd "raw_at_most" s_raw_at_most) rfl
  have F_raw_at_most : FnP K "raw_at_most" s_raw_at_most (He.ga K "raw_at_most") fd_raw_at_most := F_raw_at_most
  have M_raw_at_most := He.glo_ok X G (c.facts (f := .glo "raw_at_most") (by simp [fa]))
  obtain ⟨fd_raw_by, F_raw_by⟩ := c.def_ 10 (d := dd "raw_by" s_raw_by) rfl
  have F_raw_by : FnP K "raw_by" s_raw_by (He.ga K "raw_by") fd_raw_by := F_raw_by
  have M_raw_by := He.glo_ok X G (c.facts (f := .glo "raw_by") (by simp [fa]))
  obtain ⟨fd_raw_covers, F_raw_covers⟩ := c.def_ 32 (d := dd "raw_covers" s_raw_covers) rfl
  have F_raw_covers : FnP K "raw_covers" s_raw_covers (He.ga K "raw_covers") fd_raw_covers := F_raw_covers
  have M_raw_covers := He.glo_ok X G (c.facts (f := .glo "raw_covers") (by simp [fa]))
  obtain ⟨fd_raw_is_rich, F_raw_is_rich⟩ := c.def_ 24 (d := dd "raw_is_rich" s_raw_is_rich) rfl
  have F_raw_is_rich : FnP K "raw_is_rich" s_raw_is_rich (He.ga K "raw_is_rich") fd_raw_is_rich := F_raw_is_rich
  have M_raw_is_rich := He.glo_ok X G (c.facts (f := .glo "raw_is_rich") (by simp [fa]))
  obtain ⟨fd_raw_is_value, F_raw_is_value⟩ := c.def_ 23 (d := dd "raw_is_value" s_raw_is_value) rfl
  have F_raw_is_value : FnP K "raw_is_value" s_raw_is_value (He.ga K "raw_is_value") fd_raw_is_value := F_raw_is_value
  have M_raw_is_value := He.glo_ok X G (c.facts (f := .glo "raw_is_value") (by simp [fa]))
  obtain ⟨fd_raw_less, F_raw_less⟩ := c.def_ 8 (d := dd "raw_less" s_raw_less) rfl
  have F_raw_less : FnP K "raw_less" s_raw_less (He.ga K "raw_less") fd_raw_less := F_raw_less
  have M_raw_less := He.glo_ok X G (c.facts (f := .glo "raw_less") (by simp [fa]))
  obtain ⟨fd_raw_plus, F_raw_plus⟩ := c.def_ 7 (d := dd "raw_plus" s_raw_plus) rfl
  have F_raw_plus : FnP K "raw_plus" s_raw_plus (He.ga K "raw_plus") fd_raw_plus := F_raw_plus
  have M_raw_plus := He.glo_ok X G (c.facts (f := .glo "raw_plus") (by simp [fa]))
  obtain ⟨fd_raw_rich, F_raw_rich⟩ := c.def_ 31 (d := dd "raw_rich" s_raw_rich) rfl
  have F_raw_rich : FnP K "raw_rich" s_raw_rich (He.ga K "raw_rich") fd_raw_rich := F_raw_rich
  have M_raw_rich := He.glo_ok X G (c.facts (f := .glo "raw_rich") (by simp [fa]))
  obtain ⟨fd_raw_times, F_raw_times⟩ := c.def_ 9 (d := dd "raw_times" s_raw_times) rfl
  have F_raw_times : FnP K "raw_times" s_raw_times (He.ga K "raw_times") fd_raw_times := F_raw_times
  have M_raw_times := He.glo_ok X G (c.facts (f := .glo "raw_times") (by simp [fa]))
  obtain ⟨fd_raw_worth, F_raw_worth⟩ := c.def_ 27 (d := dd "raw_worth" s_raw_worth) rfl
  have F_raw_worth : FnP K "raw_worth" s_raw_worth (He.ga K "raw_worth") fd_raw_worth := F_raw_worth
  have M_raw_worth := He.glo_ok X G (c.facts (f := .glo "raw_worth") (by simp [fa]))
  obtain ⟨fd_rich_plus, F_rich_plus⟩ := c.def_ 35 (d := dd "rich_plus" s_rich_plus) rfl
  have F_rich_plus : FnP K "rich_plus" s_rich_plus (He.ga K "rich_plus") fd_rich_plus := F_rich_plus
  have M_rich_plus := He.glo_ok X G (c.facts (f := .glo "rich_plus") (by simp [fa]))
  obtain ⟨fd_rich_scaled, F_rich_scaled⟩ := c.def_ 36 (d := dd "rich_scaled" s_rich_scaled) rfl
  have F_rich_scaled : FnP K "rich_scaled" s_rich_scaled (He.ga K "rich_scaled") fd_rich_scaled := F_rich_scaled
  have M_rich_scaled := He.glo_ok X G (c.facts (f := .glo "rich_scaled") (by simp [fa]))
  obtain ⟨fd_riches_within, F_riches_within⟩ := c.def_ 26 (d := dd "riches_within" s_riches_within) rfl
  have F_riches_within : FnP K "riches_within" s_riches_within (He.ga K "riches_within") fd_riches_within := F_riches_within
  have M_riches_within := He.glo_ok X G (c.facts (f := .glo "riches_within") (by simp [fa]))
  obtain ⟨fd_times, F_times⟩ := c.def_ 14 (d := dd "times" s_times) rfl
  have F_times : FnP K "times" s_times (He.ga K "times") fd_times := F_times
  have M_times := He.glo_ok X G (c.facts (f := .glo "times") (by simp [fa]))
  obtain ⟨fd_worth, F_worth⟩ := c.def_ 28 (d := dd "worth" s_worth) rfl
  have F_worth : FnP K "worth" s_worth (He.ga K "worth") fd_worth := F_worth
  have M_worth := He.glo_ok X G (c.facts (f := .glo "worth") (by simp [fa]))
  have b := FunD.bindsA (ps := ["script"]) F_law fun _ _ _ _ _ _ us hl => match us, hl with | [_], _ => rfl
  refine ⟨fd_law, fun s v => b s [v] rfl, fun base LF2 LF => ?_⟩
  have C__law_low : Cal P w K mg base 1 "_law_low" 2 S__law_low := cal_of (st := s__law_low) F__law_low M__law_low (FunD.bindsN (ps := ["top", "bottom"]) F__law_low fun _ _ _ _ _ _ us hl => match us, hl with | [_, _], _ => rfl) (ok__law_low (k := 0) Z  F__law_low)
  have C__law_draw : Cal P w K mg base 1 "_law_draw" 2 S__law_draw := cal_of (st := s__law_draw) F__law_draw M__law_draw (FunD.bindsN (ps := ["hand", "many"]) F__law_draw fun _ _ _ _ _ _ us hl => match us, hl with | [_, _], _ => rfl) (ok__law_draw (k := 0) Z  F__law_draw HO)
  have C__law_some : Cal P w K mg base 2 "_law_some" 2 S__law_some := cal_of (st := s__law_some) F__law_some M__law_some (FunD.bindsN (ps := ["hand", "things"]) F__law_some fun _ _ _ _ _ _ us hl => match us, hl with | [_, _], _ => rfl) (ok__law_some (k := 1) Z (C__law_draw.mono (by decide)) F__law_some)
  have C__law_whole : Cal P w K mg base 3 "_law_whole" 1 S__law_whole := cal_of (st := s__law_whole) F__law_whole M__law_whole (FunD.bindsN (ps := ["hand"]) F__law_whole fun _ _ _ _ _ _ us hl => match us, hl with | [_], _ => rfl) (ok__law_whole (k := 2) Z (C__law_some.mono (by decide)) F__law_whole)
  have C__law_part : Cal P w K mg base 4 "_law_part" 1 S__law_part := cal_of (st := s__law_part) F__law_part M__law_part (FunD.bindsN (ps := ["hand"]) F__law_part fun _ _ _ _ _ _ us hl => match us, hl with | [_], _ => rfl) (ok__law_part (k := 3) Z (C__law_low.mono (by decide)) (C__law_some.mono (by decide)) (C__law_whole.mono (by decide)) F__law_part)
  have C_is0 : Cal P w K mg base 1 "_law_is" 2 (S_is 0) := cal_of (st := s__law_is) F__law_is M__law_is (FunD.bindsN (ps := ["told", "due"]) F__law_is fun _ _ _ _ _ _ us hl => match us, hl with | [_, _], _ => rfl) (ok__law_is (k := 0) Z F__law_is 0 (.inl rfl))
  have C_is1 : Cal P w K mg base 2 "_law_is" 2 (S_is 1) := cal_of (st := s__law_is) F__law_is M__law_is (FunD.bindsN (ps := ["told", "due"]) F__law_is fun _ _ _ _ _ _ us hl => match us, hl with | [_, _], _ => rfl) (ok__law_is (k := 1) Z F__law_is 1 (.inr ⟨0, rfl, C_is0⟩))
  have C_is2 : Cal P w K mg base 3 "_law_is" 2 (S_is 2) := cal_of (st := s__law_is) F__law_is M__law_is (FunD.bindsN (ps := ["told", "due"]) F__law_is fun _ _ _ _ _ _ us hl => match us, hl with | [_, _], _ => rfl) (ok__law_is (k := 2) Z F__law_is 2 (.inr ⟨1, rfl, C_is1⟩))
  have C_is3 : Cal P w K mg base 4 "_law_is" 2 (S_is 3) := cal_of (st := s__law_is) F__law_is M__law_is (FunD.bindsN (ps := ["told", "due"]) F__law_is fun _ _ _ _ _ _ us hl => match us, hl with | [_, _], _ => rfl) (ok__law_is (k := 3) Z F__law_is 3 (.inr ⟨2, rfl, C_is2⟩))
  have C_divisor : Cal P w K mg base 1 "divisor" 2 S_divisor := cal_of (st := s_divisor) F_divisor M_divisor (FunD.bindsN (ps := ["x", "y"]) F_divisor fun _ _ _ _ _ _ us hl => match us, hl with | [_, _], _ => rfl) (ok_divisor (k := 0) Z  F_divisor)
  have C_is_integer : Cal P w K mg base 1 "is_integer" 1 S_is_integer := cal_of (st := s_is_integer) F_is_integer M_is_integer (FunD.bindsN (ps := ["thing"]) F_is_integer fun _ _ _ _ _ _ us hl => match us, hl with | [_], _ => rfl) (ok_is_integer (k := 0) Z  F_is_integer)
  have C_is_fraction : Cal P w K mg base 2 "is_fraction" 1 S_is_fraction := cal_of (st := s_is_fraction) F_is_fraction M_is_fraction (FunD.bindsN (ps := ["thing"]) F_is_fraction fun _ _ _ _ _ _ us hl => match us, hl with | [_], _ => rfl) (ok_is_fraction (k := 1) Z (C_divisor.mono (by decide)) (C_is_integer.mono (by decide)) F_is_fraction)
  have C_is_amount : Cal P w K mg base 3 "is_amount" 1 S_is_amount := cal_of (st := s_is_amount) F_is_amount M_is_amount (FunD.bindsN (ps := ["thing"]) F_is_amount fun _ _ _ _ _ _ us hl => match us, hl with | [_], _ => rfl) (ok_is_amount (k := 2) Z (C_is_fraction.mono (by decide)) F_is_amount)
  have C_check_fraction : Cal P w K mg base 3 "check_fraction" 1 S_check_fraction := cal_of (st := s_check_fraction) F_check_fraction M_check_fraction (FunD.bindsN (ps := ["thing"]) F_check_fraction fun _ _ _ _ _ _ us hl => match us, hl with | [_], _ => rfl) (ok_check_fraction (k := 2) Z (C_is_fraction.mono (by decide)) F_check_fraction)
  have C_made : Cal P w K mg base 2 "made" 2 S_made := cal_of (st := s_made) F_made M_made (FunD.bindsN (ps := ["top", "bottom"]) F_made fun _ _ _ _ _ _ us hl => match us, hl with | [_, _], _ => rfl) (ok_made (k := 1) Z (C_divisor.mono (by decide)) F_made)
  have C_raw_plus : Cal P w K mg base 3 "raw_plus" 2 S_raw_plus := cal_of (st := s_raw_plus) F_raw_plus M_raw_plus (FunD.bindsN (ps := ["x", "y"]) F_raw_plus fun _ _ _ _ _ _ us hl => match us, hl with | [_, _], _ => rfl) (ok_raw_plus (k := 2) Z (C_made.mono (by decide)) F_raw_plus)
  have C_plus : Cal P w K mg base 4 "plus" 2 S_plus := cal_of (st := s_plus) F_plus M_plus (FunD.bindsN (ps := ["x", "y"]) F_plus fun _ _ _ _ _ _ us hl => match us, hl with | [_, _], _ => rfl) (ok_plus (k := 3) Z (C_check_fraction.mono (by decide)) (C_raw_plus.mono (by decide)) F_plus)
  have C_raw_less : Cal P w K mg base 3 "raw_less" 2 S_raw_less := cal_of (st := s_raw_less) F_raw_less M_raw_less (FunD.bindsN (ps := ["x", "y"]) F_raw_less fun _ _ _ _ _ _ us hl => match us, hl with | [_, _], _ => rfl) (ok_raw_less (k := 2) Z (C_made.mono (by decide)) F_raw_less)
  have C_less : Cal P w K mg base 4 "less" 2 S_less := cal_of (st := s_less) F_less M_less (FunD.bindsN (ps := ["x", "y"]) F_less fun _ _ _ _ _ _ us hl => match us, hl with | [_, _], _ => rfl) (ok_less (k := 3) Z (C_check_fraction.mono (by decide)) (C_raw_less.mono (by decide)) F_less)
  have C_raw_times : Cal P w K mg base 3 "raw_times" 2 S_raw_times := cal_of (st := s_raw_times) F_raw_times M_raw_times (FunD.bindsN (ps := ["x", "y"]) F_raw_times fun _ _ _ _ _ _ us hl => match us, hl with | [_, _], _ => rfl) (ok_raw_times (k := 2) Z (C_made.mono (by decide)) F_raw_times)
  have C_times : Cal P w K mg base 4 "times" 2 S_times := cal_of (st := s_times) F_times M_times (FunD.bindsN (ps := ["x", "y"]) F_times fun _ _ _ _ _ _ us hl => match us, hl with | [_, _], _ => rfl) (ok_times (k := 3) Z (C_check_fraction.mono (by decide)) (C_raw_times.mono (by decide)) F_times)
  have C_raw_at_most : Cal P w K mg base 1 "raw_at_most" 2 S_raw_at_most := cal_of (st := s_raw_at_most) F_raw_at_most M_raw_at_most (FunD.bindsN (ps := ["x", "y"]) F_raw_at_most fun _ _ _ _ _ _ us hl => match us, hl with | [_, _], _ => rfl) (ok_raw_at_most (k := 0) Z  F_raw_at_most)
  have C_at_most : Cal P w K mg base 4 "at_most" 2 S_at_most := cal_of (st := s_at_most) F_at_most M_at_most (FunD.bindsN (ps := ["x", "y"]) F_at_most fun _ _ _ _ _ _ us hl => match us, hl with | [_, _], _ => rfl) (ok_at_most (k := 3) Z (C_check_fraction.mono (by decide)) (C_raw_at_most.mono (by decide)) F_at_most)
  have C_raw_by : Cal P w K mg base 3 "raw_by" 2 S_raw_by := cal_of (st := s_raw_by) F_raw_by M_raw_by (FunD.bindsN (ps := ["x", "y"]) F_raw_by fun _ _ _ _ _ _ us hl => match us, hl with | [_, _], _ => rfl) (ok_raw_by (k := 2) Z (C_made.mono (by decide)) F_raw_by)
  have C_by : Cal P w K mg base 4 "by" 2 S_by := cal_of (st := s_by) F_by M_by (FunD.bindsN (ps := ["x", "y"]) F_by fun _ _ _ _ _ _ us hl => match us, hl with | [_, _], _ => rfl) (ok_by (k := 3) Z (C_check_fraction.mono (by decide)) (C_raw_by.mono (by decide)) F_by)
  have C__law_two_right : Cal P w K mg base 7 "_law_two_right" 2 S__law_two_right := cal_of (st := s__law_two_right) F__law_two_right M__law_two_right (FunD.bindsN (ps := ["one", "other"]) F__law_two_right fun _ _ _ _ _ _ us hl => match us, hl with | [_, _], _ => rfl) (ok__law_two_right (k := 4) Z W LF2 F__law_word M__law_word (C_is3.mono (by decide)) (C__law_low.mono (by decide)) (C_plus.mono (by decide)) (C_less.mono (by decide)) (C_times.mono (by decide)) (C_at_most.mono (by decide)) (C_by.mono (by decide)) F__law_two_right rfl)
  have C_floor_of : Cal P w K mg base 4 "floor_of" 1 S_floor_of := cal_of (st := s_floor_of) F_floor_of M_floor_of (FunD.bindsN (ps := ["x"]) F_floor_of fun _ _ _ _ _ _ us hl => match us, hl with | [_], _ => rfl) (ok_floor_of (k := 3) Z (C_check_fraction.mono (by decide)) F_floor_of)
  have C_fraction : Cal P w K mg base 3 "fraction" 2 S_fraction := cal_of (st := s_fraction) F_fraction M_fraction (FunD.bindsN (ps := ["top", "bottom"]) F_fraction fun _ _ _ _ _ _ us hl => match us, hl with | [_, _], _ => rfl) (ok_fraction (k := 2) Z (C_is_integer.mono (by decide)) (C_made.mono (by decide)) F_fraction)
  have C_has_kind_form : Cal P w K mg base 1 "has_kind_form" 1 S_has_kind_form := cal_of (st := s_has_kind_form) F_has_kind_form M_has_kind_form (FunD.bindsN (ps := ["thing"]) F_has_kind_form fun _ _ _ _ _ _ us hl => match us, hl with | [_], _ => rfl) (ok_has_kind_form (k := 0) Z  F_has_kind_form SZ)
  have C_is_kind : Cal P w K mg base 2 "is_kind" 1 S_is_kind := cal_of (st := s_is_kind) F_is_kind M_is_kind (FunD.bindsN (ps := ["thing"]) F_is_kind fun _ _ _ _ _ _ us hl => match us, hl with | [_], _ => rfl) (ok_is_kind (k := 1) Z (C_has_kind_form.mono (by decide)) F_is_kind)
  have C_check_kind : Cal P w K mg base 3 "check_kind" 1 S_check_kind := cal_of (st := s_check_kind) F_check_kind M_check_kind (FunD.bindsN (ps := ["kind"]) F_check_kind fun _ _ _ _ _ _ us hl => match us, hl with | [_], _ => rfl) (ok_check_kind (k := 2) Z (C_is_kind.mono (by decide)) F_check_kind)
  have C_rir0 : Cal P w K mg base 1 "raw_is_rich" 2 S_rir0 := cal_of (st := s_raw_is_rich) F_raw_is_rich M_raw_is_rich (FunD.bindsN (ps := ["kind", "thing"]) F_raw_is_rich fun _ _ _ _ _ _ us hl => match us, hl with | [_, _], _ => rfl) (ok_rir0 (k := 0) Z  F_raw_is_rich)
  have C_raw_is_rich : Cal P w K mg base 4 "raw_is_rich" 2 S_raw_is_rich := cal_of (st := s_raw_is_rich) F_raw_is_rich M_raw_is_rich (FunD.bindsN (ps := ["kind", "thing"]) F_raw_is_rich fun _ _ _ _ _ _ us hl => match us, hl with | [_, _], _ => rfl) (ok_raw_is_rich (k := 3) Z (C_is_amount.mono (by decide)) (C_rir0.mono (by decide)) F_raw_is_rich)
  have C_check_rich : Cal P w K mg base 5 "check_rich" 2 S_check_rich := cal_of (st := s_check_rich) F_check_rich M_check_rich (FunD.bindsN (ps := ["kind", "thing"]) F_check_rich fun _ _ _ _ _ _ us hl => match us, hl with | [_, _], _ => rfl) (ok_check_rich (k := 4) Z (C_raw_is_rich.mono (by decide)) F_check_rich)
  have C_is_told : Cal P w K mg base 1 "is_told" 3 S_is_told := cal_of (st := s_is_told) F_is_told M_is_told (FunD.bindsN (ps := ["thing", "word", "many"]) F_is_told fun _ _ _ _ _ _ us hl => match us, hl with | [_, _, _], _ => rfl) (ok_is_told (k := 0) Z  F_is_told)
  have C_pieces_of : Cal P w K mg base 2 "pieces_of" 2 S_pieces_of := cal_of (st := s_pieces_of) F_pieces_of M_pieces_of (FunD.bindsN (ps := ["kind", "thing"]) F_pieces_of fun _ _ _ _ _ _ us hl => match us, hl with | [_, _], _ => rfl) (ok_pieces_of (k := 1) Z (C_is_integer.mono (by decide)) (C_is_told.mono (by decide)) F_pieces_of)
  have C_raw_is_value : Cal P w K mg base 3 "raw_is_value" 2 S_raw_is_value := cal_of (st := s_raw_is_value) F_raw_is_value M_raw_is_value (FunD.bindsN (ps := ["kind", "thing"]) F_raw_is_value fun _ _ _ _ _ _ us hl => match us, hl with | [_, _], _ => rfl) (ok_raw_is_value (k := 2) Z (C_pieces_of.mono (by decide)) F_raw_is_value)
  have C_riches_within : Cal P w K mg base 1 "riches_within" 3 S_riches_within := cal_of (st := s_riches_within) F_riches_within M_riches_within (FunD.bindsN (ps := ["kind", "rich", "value"]) F_riches_within fun _ _ _ _ _ _ us hl => match us, hl with | [_, _, _], _ => rfl) (ok_riches_within (k := 0) Z  F_riches_within)
  have C_raw_worth : Cal P w K mg base 4 "raw_worth" 3 S_raw_worth := cal_of (st := s_raw_worth) F_raw_worth M_raw_worth (FunD.bindsN (ps := ["kind", "rich", "value"]) F_raw_worth fun _ _ _ _ _ _ us hl => match us, hl with | [_, _, _], _ => rfl) (ok_raw_worth (k := 3) Z (C_riches_within.mono (by decide)) (C_raw_plus.mono (by decide)) F_raw_worth)
  have C_worth : Cal P w K mg base 6 "worth" 3 S_worth := cal_of (st := s_worth) F_worth M_worth (FunD.bindsN (ps := ["kind", "rich", "value"]) F_worth fun _ _ _ _ _ _ us hl => match us, hl with | [_, _, _], _ => rfl) (ok_worth (k := 5) Z (C_check_kind.mono (by decide)) (C_check_rich.mono (by decide)) (C_raw_is_value.mono (by decide)) (C_raw_worth.mono (by decide)) F_worth)
  have C_check_both : Cal P w K mg base 6 "check_both" 3 S_check_both := cal_of (st := s_check_both) F_check_both M_check_both (FunD.bindsN (ps := ["kind", "one", "other"]) F_check_both fun _ _ _ _ _ _ us hl => match us, hl with | [_, _, _], _ => rfl) (ok_check_both (k := 5) Z (C_check_kind.mono (by decide)) (C_check_rich.mono (by decide)) F_check_both)
  have C_ra0 : Cal P w K mg base 1 "raw_amounts" 2 S_ra0 := cal_of (st := s_raw_amounts) F_raw_amounts M_raw_amounts (FunD.bindsN (ps := ["kind", "rich"]) F_raw_amounts fun _ _ _ _ _ _ us hl => match us, hl with | [_, _], _ => rfl) (ok_ra0 (k := 0) Z  F_raw_amounts)
  have C_raw_amounts : Cal P w K mg base 2 "raw_amounts" 2 S_raw_amounts := cal_of (st := s_raw_amounts) F_raw_amounts M_raw_amounts (FunD.bindsN (ps := ["kind", "rich"]) F_raw_amounts fun _ _ _ _ _ _ us hl => match us, hl with | [_, _], _ => rfl) (ok_raw_amounts (k := 1) Z (C_ra0.mono (by decide)) F_raw_amounts)
  have C_rr0 : Cal P w K mg base 1 "raw_rich" 2 S_rr0 := cal_of (st := s_raw_rich) F_raw_rich M_raw_rich (FunD.bindsN (ps := ["kind", "amounts"]) F_raw_rich fun _ _ _ _ _ _ us hl => match us, hl with | [_, _], _ => rfl) (ok_rr0 (k := 0) Z  F_raw_rich)
  have C_raw_rich : Cal P w K mg base 2 "raw_rich" 2 S_raw_rich := cal_of (st := s_raw_rich) F_raw_rich M_raw_rich (FunD.bindsN (ps := ["kind", "amounts"]) F_raw_rich fun _ _ _ _ _ _ us hl => match us, hl with | [_, _], _ => rfl) (ok_raw_rich (k := 1) Z (C_rr0.mono (by decide)) F_raw_rich)
  have C_rich_plus : Cal P w K mg base 7 "rich_plus" 3 S_rich_plus := cal_of (st := s_rich_plus) F_rich_plus M_rich_plus (FunD.bindsN (ps := ["kind", "one", "other"]) F_rich_plus fun _ _ _ _ _ _ us hl => match us, hl with | [_, _, _], _ => rfl) (ok_rich_plus (k := 6) Z (C_check_both.mono (by decide)) (C_raw_amounts.mono (by decide)) (C_raw_plus.mono (by decide)) (C_raw_rich.mono (by decide)) F_rich_plus)
  have C__law_sum : Cal P w K mg base 2 "_law_sum" 1 S__law_sum := cal_of (st := s__law_sum) F__law_sum M__law_sum (FunD.bindsN (ps := ["some"]) F__law_sum fun _ _ _ _ _ _ us hl => match us, hl with | [_], _ => rfl) (ok__law_sum (k := 1) Z (C__law_low.mono (by decide)) F__law_sum)
  have C_rich_scaled : Cal P w K mg base 6 "rich_scaled" 3 S_rich_scaled := cal_of (st := s_rich_scaled) F_rich_scaled M_rich_scaled (FunD.bindsN (ps := ["kind", "rich", "x"]) F_rich_scaled fun _ _ _ _ _ _ us hl => match us, hl with | [_, _, _], _ => rfl) (ok_rich_scaled (k := 5) Z (C_check_kind.mono (by decide)) (C_check_rich.mono (by decide)) (C_is_amount.mono (by decide)) (C_raw_amounts.mono (by decide)) (C_raw_times.mono (by decide)) (C_raw_rich.mono (by decide)) F_rich_scaled)
  have C_raw_covers : Cal P w K mg base 3 "raw_covers" 3 S_raw_covers := cal_of (st := s_raw_covers) F_raw_covers M_raw_covers (FunD.bindsN (ps := ["kind", "one", "other"]) F_raw_covers fun _ _ _ _ _ _ us hl => match us, hl with | [_, _, _], _ => rfl) (ok_raw_covers (k := 2) Z (C_raw_amounts.mono (by decide)) (C_raw_at_most.mono (by decide)) F_raw_covers)
  have C_covers : Cal P w K mg base 7 "covers" 3 S_covers := cal_of (st := s_covers) F_covers M_covers (FunD.bindsN (ps := ["kind", "one", "other"]) F_covers fun _ _ _ _ _ _ us hl => match us, hl with | [_, _, _], _ => rfl) (ok_covers (k := 6) Z (C_check_both.mono (by decide)) (C_raw_covers.mono (by decide)) F_covers)
  have C__law_riches_right : Cal P w K mg base 8 "_law_riches_right" 3 S__law_riches_right := cal_of (st := s__law_riches_right) F__law_riches_right M__law_riches_right (FunD.bindsN (ps := ["one", "other", "many"]) F__law_riches_right fun _ _ _ _ _ _ us hl => match us, hl with | [_, _, _], _ => rfl) (ok__law_riches_right (k := 7) Z (C_is3.mono (by decide)) (C_worth.mono (by decide)) (C__law_low.mono (by decide)) (C_rich_plus.mono (by decide)) (C__law_sum.mono (by decide)) (C_rich_scaled.mono (by decide)) (C_covers.mono (by decide)) F__law_riches_right)
  have C__law_none : Cal P w K mg base 2 "_law_none" 1 S__law_none := cal_of (st := s__law_none) F__law_none M__law_none (FunD.bindsN (ps := ["hand"]) F__law_none fun _ _ _ _ _ _ us hl => match us, hl with | [_], _ => rfl) (ok__law_none (k := 1) Z (C__law_draw.mono (by decide)) F__law_none)
  have C__law_odd : Cal P w K mg base 3 "_law_odd" 1 S__law_odd := cal_of (st := s__law_odd) F__law_odd M__law_odd (FunD.bindsN (ps := ["hand"]) F__law_odd fun _ _ _ _ _ _ us hl => match us, hl with | [_], _ => rfl) (ok__law_odd (k := 2) Z (C__law_none.mono (by decide)) (C__law_some.mono (by decide)) F__law_odd)
  have C_bent0 : Cal P w K mg base 4 "_law_bent" 2 S_bent0 := cal_of (st := s__law_bent) F__law_bent M__law_bent (FunD.bindsN (ps := ["hand", "thing"]) F__law_bent fun _ _ _ _ _ _ us hl => match us, hl with | [_, _], _ => rfl) (ok_bent0 (k := 3) Z (C__law_odd.mono (by decide)) (C__law_some.mono (by decide)) F__law_bent)
  have C__law_bent : Cal P w K mg base 5 "_law_bent" 2 S__law_bent := cal_of (st := s__law_bent) F__law_bent M__law_bent (FunD.bindsN (ps := ["hand", "thing"]) F__law_bent fun _ _ _ _ _ _ us hl => match us, hl with | [_, _], _ => rfl) (ok__law_bent (k := 4) Z (C__law_odd.mono (by decide)) (C__law_some.mono (by decide)) (C__law_draw.mono (by decide)) (C_bent0.mono (by decide)) F__law_bent)
  have C__law_is_part : Cal P w K mg base 2 "_law_is_part" 1 S__law_is_part := cal_of (st := s__law_is_part) F__law_is_part M__law_is_part (FunD.bindsN (ps := ["thing"]) F__law_is_part fun _ _ _ _ _ _ us hl => match us, hl with | [_], _ => rfl) (ok__law_is_part (k := 1) Z (C__law_low.mono (by decide)) F__law_is_part)
  have C__law_hand : Cal P w K mg base 1 "_law_hand" 1 S__law_hand := cal_of (st := s__law_hand) F__law_hand M__law_hand (FunD.bindsN (ps := ["script"]) F__law_hand fun _ _ _ _ _ _ us hl => match us, hl with | [_], _ => rfl) (ok__law_hand (k := 0) Z  F__law_hand)
  exact ok_law (k := 8) HO Z W LF F__law_word M__law_word (C__law_part.mono (by decide)) (C_is3.mono (by decide)) (C_is_fraction.mono (by decide)) (C_is_amount.mono (by decide)) (C__law_two_right.mono (by decide)) (C_floor_of.mono (by decide)) (C__law_whole.mono (by decide)) (C_fraction.mono (by decide)) (C__law_low.mono (by decide)) (C__law_riches_right.mono (by decide)) (C__law_draw.mono (by decide)) (C__law_bent.mono (by decide)) (C__law_is_part.mono (by decide)) (C_plus.mono (by decide)) (C_less.mono (by decide)) (C_times.mono (by decide)) (C_by.mono (by decide)) (C_at_most.mono (by decide)) (C__law_hand.mono (by decide)) F_law rfl
end K02

namespace K02
open PySem PySem.Spec PyProof.Rows L2 PL LamX
def handI (K : PySem.W.Frag) (mg : Str → Option Value) (T : List (Addr × Str)) : Hand where
  HI := fun F o => ∃ ds xs, o = .lst xs ∧ RDs K mg F ds xs ∧ GoodH ds
  mono := fun F F' o e ⟨ds, xs, h, r, g⟩ => ⟨ds, xs, h, r.ext e, g⟩
  nt := fun F o ⟨ds, xs, h, _, _⟩ ps q => by
    rw [h] at q
    cases q
  T := T
theorem handOk (K : PySem.W.Frag) (mg : Str → Option Value) (T : List (Addr × Str)) : @HandOk (handI K mg T) K mg :=
  @HandOk.mk (handI K mg T) K mg (fun F o h => h) (fun F ds xs r g => ⟨ds, xs, rfl, r, g⟩)
end K02

namespace K02
open PySem PySem.Spec PyProof.Rows L2 PL LamX
def TT (K : PySem.W.Frag) : List (Addr × Str) := [((He.cT K ("_law_two_right", none)).2, "_law_two_right.<locals>.<lambda>"), ((He.cT K ("law", none)).2, "law.<locals>.<lambda>")]
theorem lamF2 {K : PySem.W.Frag} {mg : Str → Option Value} {base : Heap} (tb : ∀ p ∈ tf.map (He.cT K), TabB base mg p.1 p.2) (hne : (He.cT K ("_law_two_right", none)).2 ≠ (He.cT K ("law", none)).2) : @LamF (handI K mg (TT K)) K mg base "_law_two_right" :=
  @LamF.mk (handI K mg (TT K)) K mg base "_law_two_right" (tb (He.cT K ("_law_two_right", none)) (by simp [tf])) (List.mem_cons_self) (fun p hp e => by
    have hp : p ∈ TT K := hp
    simp only [TT, List.mem_cons, List.not_mem_nil, or_false] at hp
    rcases hp with rfl | rfl
    · rfl
    · exact absurd e (Ne.symm hne))
theorem lamF {K : PySem.W.Frag} {mg : Str → Option Value} {base : Heap} (tb : ∀ p ∈ tf.map (He.cT K), TabB base mg p.1 p.2) (hne : (He.cT K ("_law_two_right", none)).2 ≠ (He.cT K ("law", none)).2) : @LamF (handI K mg (TT K)) K mg base "law" :=
  @LamF.mk (handI K mg (TT K)) K mg base "law" (tb (He.cT K ("law", none)) (by simp [tf])) (List.mem_cons_of_mem _ List.mem_cons_self) (fun p hp e => by
    have hp : p ∈ TT K := hp
    simp only [TT, List.mem_cons, List.not_mem_nil, or_false] at hp
    rcases hp with rfl | rfl
    · exact absurd e hne
    · rfl)
end K02

namespace K02
open PySem PySem.Spec PyProof.Rows L2 PL LamX
theorem lawAt (w : World) (mg : Str → Option Value) (fa0 : Addr) (h : Heap) (Yh : hk.says w h) (G : h.Ns mainGlobals mg) (hmg : mg "law" = some (.ref fa0)) : ∃ K : PySem.W.Frag, K.In h ∧ LawAtS PySem.Challenge.rw_forepaid_k02_whole_fractions_and_what_is w K (L2.CX PySem.Challenge.rw_forepaid_k02_whole_fractions_and_what_is.prog w) 11 63 "script" mg fa0 h := by
  obtain ⟨K, KX, c⟩ := Yh
  have cD := c.t.d
  obtain ⟨x1, mr⟩ := He.ba c.more
  obtain ⟨x2, mr⟩ := He.ba mr
  obtain ⟨x3, mr⟩ := He.ba mr
  obtain ⟨x4, mr⟩ := He.ba mr
  obtain ⟨x5, mr⟩ := He.ba mr
  obtain ⟨x6, mr⟩ := He.ba mr
  obtain ⟨x7, mr⟩ := He.ba mr
  obtain ⟨x8, x9⟩ := He.ba mr
  have hne : (He.cT K ("_law_two_right", none)).2 ≠ (He.cT K ("law", none)).2 := by simpa using x9
  have Z := env_of KX G cD x1
  have SZ := siz_of KX G c.t x2
  have W := wordF_of KX G cD x3 x4 x5 x6 x7 x8
  have ml := He.glo_ok KX G (cD.facts (f := .glo "law") (by simp [fa]))
  rw [hmg] at ml
  cases ml
  letI : Hand := handI K mg (TT K)
  obtain ⟨fd, hb, hF⟩ := chain (P := PySem.Challenge.rw_forepaid_k02_whole_fractions_and_what_is.prog) KX G cD Z SZ W (handOk K mg (TT K))
  refine ⟨K, KX, fd, tf.map (He.cT K), spLaw K, fun p hp => ?_, fun p hp => ?_, fun p hp => ?_, hb, fun H a ns hl _ hT hS => ⟨a, ns, rfl, hS, by omega, fun p hp => ?_, fun _ => rfl⟩, fun base hB hG tb => hF base (lamF2 tb hne) (lamF tb hne)⟩
  · obtain ⟨q, hq, rfl⟩ := List.mem_map.mp hp
    exact c.empty q hq
  · obtain ⟨q, hq, rfl⟩ := List.mem_map.mp hp
    exact c.out q hq
  · obtain ⟨q, hq, rfl⟩ := List.mem_map.mp hp
    exact PySem.W.codeHd_of_K KX (c.hd q hq)
  · have hp : p ∈ TT K := hp
    simp only [TT, List.mem_cons, List.not_mem_nil, or_false] at hp
    rcases hp with rfl | rfl
    · exact TabS.nil (hT (He.cT K ("_law_two_right", none)) (by simp [tf]))
    · exact TabS.nil (hT (He.cT K ("law", none)) (by simp [tf]))
end K02

open PySem PySem.W PySem.Calls PyProof.Rows
theorem PySem.Challenge.cw_forepaid_k02_whole_fractions_and_what_is_holds : PySem.Challenge.rw_forepaid_k02_whole_fractions_and_what_is.Holds := by
  w_on; o_law
  refine HandSHeadRun.head_any (r := OpenLaw.row PySem.Challenge.rw_forepaid_k02_whole_fractions_and_what_is) (q := view (OpenLaw.row PySem.Challenge.rw_forepaid_k02_whole_fractions_and_what_is).prog [77]) (H := K02.hk) (ob := K02.ob) (M := 4000) (loose := K02.names) (d := HandSHeadRun.topDef (OpenLaw.row PySem.Challenge.rw_forepaid_k02_whole_fractions_and_what_is).prog 77) (kwd := []) K02.ob_eq
    (by kernel_rfl) (fun s => by kernel_rfl) K02.run (by kernel_rfl) (by kernel_rfl) (by kernel_rfl) (by rfl) (by first | assumption | decide +kernel) (by decide +kernel) ⟨rfl, rfl, rfl, rfl, rfl, by decide +kernel⟩ ?hw ?hc
  case hw => w_witness2
  case hc =>
    refine LamX.walk_ofTsE (l := PySem.Challenge.rw_forepaid_k02_whole_fractions_and_what_is) (n := 63) (k := 11) (x := "script") (CX := L2.CX PySem.Challenge.rw_forepaid_k02_whole_fractions_and_what_is.prog) rfl (by decide) (by kernel_rfl) ⟨rfl, by decide, by decide⟩ ?F ?CX
    · intro w mg fa h Y G hmg0
      have hmg : mg ("law" : PySem.Str) = some (.ref fa) := by
        have e : (HandSHeadRun.topDef (OpenLaw.row PySem.Challenge.rw_forepaid_k02_whole_fractions_and_what_is).prog 77).name = ("law" : PySem.Str) := by kernel_rfl
        rw [← e]
        exact hmg0
      exact K02.lawAt w mg fa h Y G hmg
    · rintro w H s e s' ⟨_, _, _, _, _, _, _, _, _, _, _, _, z⟩
      exact z

#print axioms PySem.Challenge.cw_forepaid_k02_whole_fractions_and_what_is_holds
