import PyProof.Rows.All
import Wide.All
import OpenK.AllK
import Wide.FinOn
import HandS.ForMost
import HandS.Exc
import HandS.TryOnly
import HandS.ExcOwn
import HandS.WordsExc
import HandS.Evl
import HandS.Defaults
import HandS.Wide
import HandS.IsInst
import HandS.TupAny
import HandS.Lambda
import HandS.HeadHook4
import HandS.Zip
import HandS.TupMul
import HandS.Dict
import HandS.More
import HandS.ExcValue
import HandS.CallLocal
import HandS.EndTab
import HandS.HeadWalk
import KE.GoesMore
import PyProof.EnumMake
import HandS.Flt
import HandS.Deep
import PyProof.P3In
import PySem.Challenge.RW_forepaid_k48_whole_cards_compared
import HandS.ExcIs
import HandS.SetFor
import PyProof.ReprLen
import KE.KStateDown
import HandS.Head0
import HandS.Head1
import HandS.Head2
import HandS.HeadEnd
import HandS.HeadHook1
import HandS.HeadHook2
import HandS.HeadHook3
import HandS.NestedK
set_option Elab.async false
set_option linter.all false
set_option maxRecDepth 100000
set_option maxHeartbeats 0
/-! A program logic over data, upon the hand layer: values are data, mutable lists are owned by a slot, one shared list (the hand). -/
namespace PL
open PySem PySem.Spec PyProof.Rows L2

/-- data: what never changes -/
inductive D where
  | non | bl (b : Bool) | int (i : Int) | str (s : Str) | tup (xs : List D) | lst (xs : List D) | ro (xs : List D) | dct (ks : List Key) (ds : List D) | fn (x : Str)

mutual
inductive RD (K : PySem.W.Frag) (mg : Str → Option Value) (F : Hp) : D → V → Prop
  | non : RD K mg F .non .non
  | bl (b : Bool) : RD K mg F (.bl b) (.bl b)
  | int (i : Int) : RD K mg F (.int i) (.int i)
  | str (s : Str) : RD K mg F (.str s) (.str s)
  | tup {a : Addr} {xs : List V} {ds : List D} : SqT K F a xs → RDs K mg F ds xs → RD K mg F (.tup ds) (.ref a)
  | lst {a : Addr} {xs : List V} {ds : List D} : F a = some (.lst xs) → RDs K mg F ds xs → RD K mg F (.lst ds) (.ref a)
  | ro {a : Addr} {xs : List V} {ds : List D} : SqL K F a xs → RDs K mg F ds xs → RD K mg F (.ro ds) (.ref a)
  | dct {a : Addr} {kvs : List (Key × V)} {ks : List Key} {ds : List D} {vs : List V} : F a = some (.dK kvs) → kvs = ks.zip vs → ks.length = vs.length → RDs K mg F ds vs → RD K mg F (.dct ks ds) (.ref a)
  | fn {x : Str} {a : Addr} : mg x = some (.ref a) → RD K mg F (.fn x) (.ref a)
inductive RDs (K : PySem.W.Frag) (mg : Str → Option Value) (F : Hp) : List D → List V → Prop
  | nil : RDs K mg F [] []
  | cons {d : D} {ds : List D} {v : V} {vs : List V} : RD K mg F d v → RDs K mg F ds vs → RDs K mg F (d :: ds) (v :: vs)
end

abbrev Ext (F F' : Hp) : Prop := ∀ a o, F a = some o → F' a = some o
theorem Ext.refl (F : Hp) : Ext F F := fun _ _ h => h
theorem Ext.trans {F F1 F2 : Hp} (a : Ext F F1) (b : Ext F1 F2) : Ext F F2 := fun x o h => b x o (a x o h)
theorem Ext.new {F : Hp} {p : Addr} {o : HO} (h : F p = none) : Ext F (upd F p o) := fun a u e => by
  rw [upd_ne (ne_of_none e h)]
  exact e
theorem sqT_ext {K : PySem.W.Frag} {F F' : Hp} {a : Addr} {xs : List V} (e : Ext F F') (h : SqT K F a xs) : SqT K F' a xs := Evl.ex_t e h
theorem sqL_ext {K : PySem.W.Frag} {F F' : Hp} {a : Addr} {xs : List V} (e : Ext F F') (h : SqL K F a xs) : SqL K F' a xs := Evl.ex_l e h

section
variable {K : PySem.W.Frag} {mg : Str → Option Value} {F F' : Hp}
mutual
theorem RD.ext (e : Ext F F') : ∀ {d : D} {v : V}, RD K mg F d v → RD K mg F' d v
  | _, _, .non => .non
  | _, _, .bl b => .bl b
  | _, _, .int i => .int i
  | _, _, .str s => .str s
  | _, _, .fn h => .fn h
  | _, _, .dct h h1 h2 k => .dct (e _ _ h) h1 h2 (RDs.ext e k)
  | _, _, .tup h k => .tup (sqT_ext e h) (RDs.ext e k)
  | _, _, .lst h k => .lst (e _ _ h) (RDs.ext e k)
  | _, _, .ro h k => .ro (sqL_ext e h) (RDs.ext e k)
theorem RDs.ext (e : Ext F F') : ∀ {ds : List D} {vs : List V}, RDs K mg F ds vs → RDs K mg F' ds vs
  | _, _, .nil => .nil
  | _, _, .cons h k => .cons (RD.ext e h) (RDs.ext e k)
end
theorem RDs.len : ∀ {ds : List D} {vs : List V}, RDs K mg F ds vs → vs.length = ds.length
  | _, _, .nil => rfl
  | _, _, .cons _ k => by rw [List.length_cons, List.length_cons, RDs.len k]
theorem RDs.get : ∀ {ds : List D} {vs : List V} {i : Nat} {d : D}, RDs K mg F ds vs → ds[i]? = some d → ∃ v, vs[i]? = some v ∧ RD K mg F d v
  | _, _, _, _, .nil, e => by simp at e
  | _, _, 0, _, .cons h _, e => by
    simp at e
    subst e
    exact ⟨_, rfl, h⟩
  | _, _, i + 1, x, .cons _ k, e => by
    obtain ⟨u, e1, e2⟩ := RDs.get (i := i) (d := x) k (by simpa using e)
    exact ⟨u, by simpa using e1, e2⟩
theorem RDs.append : ∀ {ds es : List D} {vs us : List V}, RDs K mg F ds vs → RDs K mg F es us → RDs K mg F (ds ++ es) (vs ++ us)
  | _, _, _, _, .nil, k => k
  | _, _, _, _, .cons h t, k => .cons h (RDs.append t k)
theorem RDs.take : ∀ {ds : List D} {vs : List V} (n : Nat), RDs K mg F ds vs → RDs K mg F (ds.take n) (vs.take n)
  | _, _, _, .nil => by
    rw [List.take_nil, List.take_nil]
    exact .nil
  | _, _, 0, .cons _ _ => .nil
  | _, _, n + 1, .cons h k => .cons h (RDs.take n k)
theorem RDs.drop : ∀ {ds : List D} {vs : List V} (n : Nat), RDs K mg F ds vs → RDs K mg F (ds.drop n) (vs.drop n)
  | _, _, _, .nil => by
    rw [List.drop_nil, List.drop_nil]
    exact .nil
  | _, _, 0, .cons h k => .cons h k
  | _, _, n + 1, .cons _ k => RDs.drop n k
end

/-- what a slot holds, what an expression gives: data; a list that the slot owns (or that is fresh); the slot i's own list; the hand -/
inductive W where
  | val (d : D) | own (ds : List D) | loc (i : Nat) | hnd
  /-- a zip object, not yet walked -/
  | zip (ds es : List D)
  /-- the hand, open -/
  | hown (ds : List D)
abbrev Store := List (Option W)

/-- what the hand holds -/
class Hand where
  HI : Hp → HO → Prop
  mono : ∀ F F' o, Ext F F' → HI F o → HI F' o
  nt : ∀ F o, HI F o → ∀ ps, o ≠ .tbl ps
  /-- the tables of code objects -/
  T : List (Addr × Str)
variable [Hand]
/-- a run of a def: the hand's place and what it holds; the heaps at the entry; what is wished of an exception -/
structure Cfg where
  hd : Option Addr
  F0 : Hp
  H0 : Hp
  /-- what is known (what is new isn't there) -/
  N : Hp
  /-- what is not to be changed -/
  Pr : Hp
  blk : Bool
  W : WX
  n0 : Nat := 0
  fs : List Addr := []
  /-- zip objects may stand -/
  zs : Bool := true

/-- a new thing, known by its object -/
def XO (c : Cfg) (F H : Hp) (p : Addr) (φ : Heap → Prop) : Prop := H p = some (.ext fun h => φ h ∧ c.n0 ≤ p ∧ p ∉ c.fs) ∧ F p = none ∧ c.Pr p = none ∧ c.hd ≠ some p ∧ c.N p = none ∧ c.zs = true
/-- a zip object over two lists -/
def ZipR (K : PySem.W.Frag) (mg : Str → Option Value) (c : Cfg) (F H : Hp) (v : V) (ds es : List D) : Prop :=
  ∃ (z TI TO i1 i2 a b : Addr) (xs ys : List V), v = .ref z ∧ ZipApart z TI TO i1 i2 a b ∧ (XO c F H z (fun h => IsZip h z TI TO .none) ∧ XO c F H TI (fun h => IsPair h TI (.ref i1) (.ref i2)) ∧ XO c F H TO (fun h => ∃ x y, IsPair h TO x y) ∧ XO c F H i1 (fun h => h.IsListIter i1 a 0) ∧ XO c F H i2 (fun h => h.IsListIter i2 b 0)) ∧
    SqL K F a xs ∧ RDs K mg F ds xs ∧ SqL K F b ys ∧ RDs K mg F es ys

def RW (K : PySem.W.Frag) (mg : Str → Option Value) (c : Cfg) (F H : Hp) (σ : L2.St) : W → V → Prop
  | .val d, v => RD K mg F d v
  | .own ds, v => ∃ p xs, v = .ref p ∧ H p = some (.lst xs) ∧ F p = none ∧ c.Pr p = none ∧ c.hd ≠ some p ∧ RDs K mg F ds xs
  | .loc i, v => σ[i]? = some (some v)
  | .hnd, v => ∃ p, c.hd = some p ∧ v = .ref p
  | .zip ds es, v => ZipR K mg c F H v ds es
  | .hown ds, v => ∃ p xs, c.hd = some p ∧ v = .ref p ∧ H p = some (.lst xs) ∧ RDs K mg F ds xs
/-- no zip object, no open hand -/
def clean (ρ : Store) : Bool := ρ.all fun w => match w with
  | some (.zip _ _) => false
  | some (.hown _) => false
  | _ => true
theorem clean_at {ρ : Store} {i : Nat} {w : W} (h : clean ρ = true) (e : ρ[i]? = some (some w)) : (∀ ds es, w ≠ .zip ds es) ∧ ∀ ds, w ≠ .hown ds := by
  have := List.all_eq_true.mp h _ (List.mem_of_getElem? e)
  constructor
  · intro ds es q
    subst q
    cases this
  · intro ds q
    subst q
    cases this

/-- not a table -/
abbrev NoT (o : HO) : Prop := ∀ ps, o ≠ .tbl ps
/-- what is written over: no table, no code object -/
def PlainO (o : HO) : Prop := (∀ ps, o ≠ .tbl ps) ∧ ∀ φ, o ≠ .ext φ
theorem noT_lst (xs : List V) : NoT (.lst xs) := fun _ q => nomatch q
theorem noT_tup (xs : List V) : NoT (.tup xs) := fun _ q => nomatch q
theorem noT_dK (xs : List (Key × V)) : NoT (.dK xs) := fun _ q => nomatch q
theorem plain_lst (xs : List V) : PlainO (.lst xs) := ⟨fun _ q => (nomatch q), fun _ q => (nomatch q)⟩
theorem plain_dK (xs : List (Key × V)) : PlainO (.dK xs) := ⟨fun _ q => (nomatch q), fun _ q => (nomatch q)⟩
/-- the tables -/
structure Tb (c : Cfg) (F H : Hp) : Prop where
  nF : ∀ a o, F a = some o → NoT o
  nP : ∀ a o, c.Pr a = some o → NoT o
  tabs : LamX.Tabs Hand.T H
theorem Tb.grow {c : Cfg} {F H : Hp} {p : Addr} {o : HO} (t : Tb c F H) (hp : H p = none) (ho : NoT o) : Tb c (upd F p o) (upd H p o) :=
  ⟨fun a u e => by
    by_cases h : a = p
    · subst h
      rw [upd_same] at e
      cases e
      exact ho
    · rw [upd_ne h] at e
      exact t.nF a u e, t.nP, t.tabs.ext fun b u e => Ext.new hp b u e⟩
theorem Tb.growH {c : Cfg} {F H : Hp} {p : Addr} {o : HO} (t : Tb c F H) (hp : H p = none) : Tb c F (upd H p o) :=
  ⟨t.nF, t.nP, t.tabs.ext fun b u e => Ext.new hp b u e⟩
theorem Tb.freeze {c : Cfg} {F H : Hp} {p : Addr} {o : HO} (t : Tb c F H) (ho : NoT o) : Tb c (upd F p o) H :=
  ⟨fun a u e => by
    by_cases h : a = p
    · subst h
      rw [upd_same] at e
      cases e
      exact ho
    · rw [upd_ne h] at e
      exact t.nF a u e, t.nP, t.tabs⟩
theorem tabs_write {T : List (Addr × Str)} {H : Hp} {p : Addr} {o u : HO} (t : LamX.Tabs T H) (hp : H p = some u) (hu : PlainO u) : LamX.Tabs T (upd H p o) := fun q hq => by
  obtain ⟨ps, h1, h2, h3⟩ := t q hq
  have n1 : q.1 ≠ p := fun e => by
    rw [e, hp] at h1
    exact hu.1 ps (Option.some.inj h1)
  refine ⟨ps, by rw [upd_ne n1]; exact h1, h2, fun pos cv hc => ?_⟩
  obtain ⟨c, e1, e2⟩ := h3 pos cv hc
  have n2 : c ≠ p := fun e => by
    rw [e, hp] at e2
    exact hu.2 _ (Option.some.inj e2)
  exact ⟨c, e1, by rw [upd_ne n2]; exact e2⟩
theorem Tb.write {c : Cfg} {F H : Hp} {p : Addr} {o u : HO} (t : Tb c F H) (hp : H p = some u) (hu : PlainO u) : Tb c F (upd H p o) :=
  ⟨t.nF, t.nP, tabs_write t.tabs hp hu⟩
/-- behind a part of the run -/
structure Aft (c : Cfg) (F H : Hp) : Prop where
  sub : Ext F H
  f0 : Ext c.F0 F
  pr : Ext c.Pr H
  pr0 : ∀ a o, c.H0 a = some o → c.hd ≠ some a → c.Pr a = some o
  new : ∀ a o, F a = some o → c.F0 a = some o ∨ c.N a = none
  nn : ∀ a o, c.N a = some o → ∃ o', H a = some o' ∧ NoT o'
  nb : c.blk = false → c.N = c.H0
  hand : ∀ p, c.hd = some p → F p = none ∧ c.Pr p = none ∧ ∃ o, H p = some o ∧ Hand.HI F o
  tb : Tb c F H

structure Rel (K : PySem.W.Frag) (mg : Str → Option Value) (c : Cfg) (F H : Hp) (σ : L2.St) (ρ : Store) : Prop where
  aft : Aft c F H
  slot : ∀ (i : Nat) (w : W), ρ[i]? = some (some w) → (∀ j, w ≠ .loc j) ∧ ∃ v, σ[i]? = some (some v) ∧ RW K mg c F H σ w v
  apart : ∀ (i j : Nat) (ds es : List D) (v : V), i ≠ j → ρ[i]? = some (some (.own ds)) → ρ[j]? = some (some (.own es)) → σ[i]? = some (some v) → σ[j]? = some (some v) → False

/-- the wish of an exception, by its class's name -/
def Lk (X : Cx) (c : Cfg) (Y : Str → Store → Prop) : Prop := (Takes X c.W ∧ PassesOwn (model X.prog X.w) X.A X.env X.xe ∧ (c.zs = true → c.n0 = X.s_0.heap.objs.size ∧ c.fs = X.fs)) ∧ ∀ x C F H σ ρ, Y x ρ → X.mg x = some (.ref C) → Rel X.K X.mg c F H σ ρ → c.W (.ref C) none σ H

abbrev Po := W → Store → Prop
def VP (K : PySem.W.Frag) (mg : Str → Option Value) (c : Cfg) (σ : L2.St) (P : Po) : VK := fun v H => ∃ F ρ w, Rel K mg c F H σ ρ ∧ RW K mg c F H σ w v ∧ P w ρ
/-- the best reading of an expression -/
def bE (X : Cx) (e : Expr) : TE := fun σ H Q => ∀ pins s, Inv X pins σ H s → wpAny (model X.prog X.w) X.A (eval e X.env) (EP X pins σ Q) X.xe s
theorem pe_best {X : Cx} {e : Expr} : PE X e (bE X e) := ⟨fun pins s σ H Q I h => h pins s I⟩
theorem bst {X : Cx} {e : Expr} {t : TE} (h : PE X e t) {σ : L2.St} {H : Hp} {Q : VK} (q : t σ H Q) : bE X e σ H Q := fun pins s I => h.run pins s σ H Q I q

def WE (X : Cx) (e : Expr) (ρ : Store) (Y : Str → Store → Prop) (P : Po) : Prop :=
  ∀ c F H σ, Rel X.K X.mg c F H σ ρ → Lk X c Y → bE X e σ H (VP X.K X.mg c σ P)
end PL

namespace PL
open PySem PySem.Spec PyProof.Rows L2
variable [Hand]
section
variable {K : PySem.W.Frag} {mg : Str → Option Value} {c : Cfg} {F H : Hp} {σ : L2.St} {ρ : Store}

theorem Aft.fresh0 (A : Aft c F H) {p : Addr} (hp : H p = none) : c.N p = none ∧ c.hd ≠ some p ∧ F p = none ∧ c.Pr p = none := by
  refine ⟨?_, fun e => ?_, ?_, ?_⟩
  · cases e : c.N p with
    | none => rfl
    | some o =>
      obtain ⟨o', q, _⟩ := A.nn p o e
      rw [hp] at q
      cases q
  · obtain ⟨_, _, o, q, _⟩ := A.hand p e
    rw [hp] at q
    cases q
  · cases e : F p with
    | none => rfl
    | some o =>
      have := A.sub p o e
      rw [hp] at this
      cases this
  · cases e : c.Pr p with
    | none => rfl
    | some o =>
      have := A.pr p o e
      rw [hp] at this
      cases this
theorem nn_ext {H H' : Hp} (e : Ext H H') {a : Addr} (h : ∃ o, H a = some o ∧ NoT o) : ∃ o, H' a = some o ∧ NoT o := by
  obtain ⟨o, q, z⟩ := h
  exact ⟨o, e _ _ q, z⟩
theorem Aft.grow (A : Aft c F H) {p : Addr} {o : HO} (hp : H p = none) (ho : NoT o) : Aft c (upd F p o) (upd H p o) := by
  obtain ⟨h0, hd, f, _⟩ := A.fresh0 hp
  refine ⟨fun a u e => ?_, A.f0.trans (.new f), A.pr.trans (.new hp), A.pr0, fun a u e => ?_, fun a u e => nn_ext (.new hp) (A.nn a u e), A.nb, fun q hq => ?_, A.tb.grow hp ho⟩
  · by_cases h : a = p
    · subst h
      rw [upd_same] at e ⊢
      exact e
    · rw [upd_ne h] at e ⊢
      exact A.sub a u e
  · by_cases h : a = p
    · subst h
      exact .inr h0
    · rw [upd_ne h] at e
      exact A.new a u e
  · obtain ⟨a1, a5, u, a3, a4⟩ := A.hand q hq
    have hne : q ≠ p := fun e => by
      subst e
      exact hd hq
    exact ⟨by rw [upd_ne hne]; exact a1, a5, u, by rw [upd_ne hne]; exact a3, Hand.mono _ _ _ (.new f) a4⟩
/-- a new thing that isn't frozen -/
theorem Aft.growH (A : Aft c F H) {p : Addr} {o : HO} (hp : H p = none) : Aft c F (upd H p o) := by
  obtain ⟨h0, hd, f, _⟩ := A.fresh0 hp
  refine ⟨A.sub.trans (.new hp), A.f0, A.pr.trans (.new hp), A.pr0, A.new, fun a u e => nn_ext (.new hp) (A.nn a u e), A.nb, fun q hq => ?_, A.tb.growH hp⟩
  obtain ⟨a1, a5, u, a3, a4⟩ := A.hand q hq
  have hne : q ≠ p := fun e => by
    subst e
    exact hd hq
  exact ⟨a1, a5, u, by rw [upd_ne hne]; exact a3, a4⟩

/-- what stays -/
structure Stay (c : Cfg) (F H F' H' : Hp) (hb : Bool) : Prop where
  sub : Ext F F'
  keep : ∀ p o, H p = some o → NoT o → F p = none → c.Pr p = none → c.hd ≠ some p → H' p = some o ∧ F' p = none
  hand : hb = true → ∀ p o, c.hd = some p → H p = some o → H' p = some o
theorem noT_ext (φ : Heap → Prop) : NoT (.ext φ) := fun _ q => nomatch q
theorem XO.mono {F' H' : Hp} {hb : Bool} {p : Addr} {φ : Heap → Prop} (x : XO c F H p φ) (s : Stay c F H F' H' hb) : XO c F' H' p φ := by
  obtain ⟨h1, h2, h3, h4, h5⟩ := x
  obtain ⟨k1, k2⟩ := s.keep p _ h1 (noT_ext _) h2 h3 h4
  exact ⟨k1, k2, h3, h4, h5⟩
theorem RW.mono {F' H' : Hp} {hb : Bool} {w : W} {v : V} (h : RW K mg c F H σ w v) (s : Stay c F H F' H' hb) (hw : hb = true ∨ ∀ ds, w ≠ .hown ds) : RW K mg c F' H' σ w v := by
  cases w with
  | val d => exact RD.ext s.sub h
  | own ds =>
    obtain ⟨p, xs, rfl, h1, h2, h3, h4, h5⟩ := h
    obtain ⟨k1, k2⟩ := s.keep p _ h1 (noT_lst _) h2 h3 h4
    exact ⟨p, xs, rfl, k1, k2, h3, h4, RDs.ext s.sub h5⟩
  | loc i => exact h
  | hnd => exact h
  | zip ds es =>
    obtain ⟨z, TI, TO, i1, i2, a, b, xs, ys, e1, e2, ⟨x1, x2, x3, x4, x5⟩, e3, e4, e5, e6⟩ := h
    exact ⟨z, TI, TO, i1, i2, a, b, xs, ys, e1, e2, ⟨x1.mono s, x2.mono s, x3.mono s, x4.mono s, x5.mono s⟩, sqL_ext s.sub e3, RDs.ext s.sub e4, sqL_ext s.sub e5, RDs.ext s.sub e6⟩
  | hown ds =>
    obtain ⟨p, xs, h1, h2, h3, h4⟩ := h
    rcases hw with hw | hw
    · exact ⟨p, xs, h1, h2, s.hand hw p _ h1 h3, RDs.ext s.sub h4⟩
    · exact absurd rfl (hw ds)
theorem Rel.mono {F' H' : Hp} {hb : Bool} (R : Rel K mg c F H σ ρ) (A : Aft c F' H') (s : Stay c F H F' H' hb) (hw : hb = true ∨ clean ρ = true) : Rel K mg c F' H' σ ρ :=
  ⟨A, fun i w hi => by
    obtain ⟨h1, v, h2, h3⟩ := R.slot i w hi
    exact ⟨h1, v, h2, h3.mono s (hw.imp id fun q => (clean_at q hi).2)⟩, R.apart⟩
theorem Rel.grow (R : Rel K mg c F H σ ρ) {p : Addr} {o : HO} (hp : H p = none) (ho : NoT o) : Rel K mg c (upd F p o) (upd H p o) σ ρ := by
  obtain ⟨h0, hd, f, _⟩ := R.aft.fresh0 hp
  refine R.mono (hb := true) (R.aft.grow hp ho) ⟨.new f, fun q u h1 _ h2 _ _ => ?_, fun _ q u _ h1 => Ext.new hp q u h1⟩ (.inl rfl)
  have hne : q ≠ p := ne_of_none h1 hp
  exact ⟨by rw [upd_ne hne]; exact h1, by rw [upd_ne hne]; exact h2⟩
theorem Rel.growH (R : Rel K mg c F H σ ρ) {p : Addr} {o : HO} (hp : H p = none) : Rel K mg c F (upd H p o) σ ρ := by
  refine R.mono (hb := true) (R.aft.growH hp) ⟨.refl F, fun q u h1 _ h2 _ _ => ?_, fun _ q u _ h1 => Ext.new hp q u h1⟩ (.inl rfl)
  have hne : q ≠ p := ne_of_none h1 hp
  exact ⟨by rw [upd_ne hne]; exact h1, h2⟩
theorem RD.int_inv {i : Int} {v : V} (h : RD K mg F (.int i) v) : v = .int i := by cases h; rfl
theorem RD.bl_inv {b : Bool} {v : V} (h : RD K mg F (.bl b) v) : v = .bl b := by cases h; rfl
theorem RD.str_inv {x : Str} {v : V} (h : RD K mg F (.str x) v) : v = .str x := by cases h; rfl
theorem RD.non_inv {v : V} (h : RD K mg F .non v) : v = .non := by cases h; rfl
theorem RD.tup_inv {ds : List D} {v : V} (h : RD K mg F (.tup ds) v) : ∃ a xs, v = .ref a ∧ SqT K F a xs ∧ RDs K mg F ds xs := by
  cases h with
  | tup h k => exact ⟨_, _, rfl, h, k⟩
theorem RD.lst_inv {ds : List D} {v : V} (h : RD K mg F (.lst ds) v) : ∃ a xs, v = .ref a ∧ F a = some (.lst xs) ∧ RDs K mg F ds xs := by
  cases h with
  | lst h k => exact ⟨_, _, rfl, h, k⟩
theorem Rel.tupNew (R : Rel K mg c F H σ ρ) {p : Addr} {xs : List V} {ds : List D} (hp : H p = none) (h : RDs K mg F ds xs) : Rel K mg c (upd F p (.tup xs)) (upd H p (.tup xs)) σ ρ ∧ RD K mg (upd F p (.tup xs)) (.tup ds) (.ref p) :=
  ⟨R.grow hp (noT_tup _), .tup (.inl (.inl upd_same)) (h.ext (.new (R.aft.fresh0 hp).2.2.1))⟩
theorem Rel.lstNew (R : Rel K mg c F H σ ρ) {p : Addr} {xs : List V} {ds : List D} (hp : H p = none) (h : RDs K mg F ds xs) : Rel K mg c (upd F p (.lst xs)) (upd H p (.lst xs)) σ ρ ∧ RD K mg (upd F p (.lst xs)) (.lst ds) (.ref p) :=
  ⟨R.grow hp (noT_lst _), .lst upd_same (h.ext (.new (R.aft.fresh0 hp).2.2.1))⟩
end

section
variable {X : Cx} {ρ : Store} {Y : Str → Store → Prop} {P : Po}
/-- data out -/
abbrev Pv (P : D → Store → Prop) : Po := fun w ρ => ∃ d, w = .val d ∧ P d ρ
theorem WE.imp {e : Expr} {P Q : Po} (h : WE X e ρ Y P) (k : ∀ w ρ', P w ρ' → Q w ρ') : WE X e ρ Y Q := fun c F H σ R L pins s I =>
  thn (h c F H σ R L pins s I) fun u s1 ⟨v, H1, I1, r, F1, ρ1, w, R1, q1, p1⟩ => ⟨v, H1, I1, r, F1, ρ1, w, R1, q1, k w ρ1 p1⟩
theorem bE.imp {e : Expr} {σ : L2.St} {H : Hp} {Q Q' : VK} (h : bE X e σ H Q) (k : ∀ v H', Q v H' → Q' v H') : bE X e σ H Q' := fun pins s I =>
  thn (h pins s I) fun u s1 ⟨v, H1, I1, r, q⟩ => ⟨v, H1, I1, r, k v H1 q⟩

theorem we_int {i : Int} {j pos} (h : P (.val (.int i)) ρ) : WE X (.Constant (.int i) j pos) ρ Y P := fun c F H σ R L => bst (σ := σ) (H := H) pe_int ⟨F, ρ, .val (.int i), R, .int i, h⟩
theorem we_bl {b : Bool} {j pos} (h : P (.val (.bl b)) ρ) : WE X (.Constant (.bool b) j pos) ρ Y P := fun c F H σ R L => bst (σ := σ) (H := H) pe_bl ⟨F, ρ, .val (.bl b), R, .bl b, h⟩
theorem we_non {j pos} (h : P (.val .non) ρ) : WE X (.Constant .none j pos) ρ Y P := fun c F H σ R L => bst (σ := σ) (H := H) pe_non ⟨F, ρ, .val .non, R, .non, h⟩
theorem we_str {x : Str} {j pos} (h : P (.val (.str x)) ρ) : WE X (.Constant (.str x) j pos) ρ Y P := fun c F H σ R L => bst (σ := σ) (H := H) pe_str ⟨F, ρ, .val (.str x), R, .str x, h⟩

theorem we_slot (i : Nat) {x : Str} {pos : Pos} {w : W} {w' : W} (hN : X.N[i]? = some x) (hv : Vis X.env.scope x) (hw : ρ[i]? = some (some w)) (hw' : w' = (match w with | .own _ => .loc i | .hown _ => .loc i | w => w)) (h : P w' ρ) (hd : (x == ("__debug__" : Str)) = false := by decide)
    (hcd : (x == ("__classdict__" : Str)) = false := by decide) : WE X (.Name x pos) ρ Y P := fun c F H σ R L => by
  obtain ⟨h1, v, h2, h3⟩ := R.slot i w hw
  refine bst (σ := σ) (H := H) (pe_var (i := i) hN hv hd hcd) ⟨v, h2, F, ρ, w', R, ?_, h⟩
  subst hw'
  cases w with
  | own ds => exact h2
  | hown ds => exact h2
  | zip ds es => exact h3
  | val d => exact h3
  | loc j => exact absurd rfl (h1 j)
  | hnd => exact h3
/-- a name of the module -/
theorem we_glob {x : Str} {u : Value} {d : D} {pos : Pos} (hg : Gl X x) (hm : X.mg x = some u) (r : ∀ F : Hp, ∃ v, RelV v u ∧ RD X.K X.mg F d v) (h : P (.val d) ρ) (hd : (x == ("__debug__" : Str)) = false := by decide) : WE X (.Name x pos) ρ Y P := fun c F H σ R L => by
  obtain ⟨v, r1, r2⟩ := r F
  exact bst (σ := σ) (H := H) (pe_glob (v := v) hg hm r1 hd) ⟨F, ρ, .val d, R, r2, h⟩

/-! ### the run from a state, keeping what was frozen -/
def Cfg.at (c : Cfg) (F : Hp) : Cfg := { c with F0 := F }
theorem Aft.into {c : Cfg} {F H : Hp} (A : Aft c F H) : Aft (c.at F) F H := ⟨A.sub, .refl F, A.pr, A.pr0, fun a o e => .inl e, A.nn, A.nb, A.hand, ⟨A.tb.nF, A.tb.nP, A.tb.tabs⟩⟩
theorem Aft.back {c : Cfg} {F F' H' : Hp} (h0 : Ext c.F0 F) (hn : ∀ a o, F a = some o → c.F0 a = some o ∨ c.N a = none) (A : Aft (c.at F) F' H') : Aft c F' H' := ⟨A.sub, h0.trans A.f0, A.pr, A.pr0, fun a o e => by
  rcases A.new a o e with h | h
  · exact hn a o h
  · exact .inr h, A.nn, A.nb, A.hand, ⟨A.tb.nF, A.tb.nP, A.tb.tabs⟩⟩
theorem Rel.into {K : PySem.W.Frag} {mg : Str → Option Value} {c : Cfg} {F H : Hp} {σ : L2.St} {ρ : Store} (R : Rel K mg c F H σ ρ) : Rel K mg (c.at F) F H σ ρ :=
  ⟨R.aft.into, R.slot, R.apart⟩
theorem Rel.back {K : PySem.W.Frag} {mg : Str → Option Value} {c : Cfg} {F F' H' : Hp} {σ : L2.St} {ρ : Store} (h0 : Ext c.F0 F) (hn : ∀ a o, F a = some o → c.F0 a = some o ∨ c.N a = none) (R : Rel K mg (c.at F) F' H' σ ρ) : Rel K mg c F' H' σ ρ :=
  ⟨R.aft.back h0 hn, R.slot, R.apart⟩
theorem Lk.into {c : Cfg} {F : Hp} (h0 : Ext c.F0 F) (hn : ∀ a o, F a = some o → c.F0 a = some o ∨ c.N a = none) (L : Lk X c Y) : Lk X (c.at F) Y :=
  ⟨L.1, fun x C F' H' σ ρ' hy hm R => L.2 x C F' H' σ ρ' hy hm (R.back h0 hn)⟩
theorem WE.run {e : Expr} {c : Cfg} {F H : Hp} {σ : L2.St} (h : WE X e ρ Y P) (R : Rel X.K X.mg c F H σ ρ) (L : Lk X c Y) :
    bE X e σ H fun v H' => ∃ F' ρ' w, Ext F F' ∧ Rel X.K X.mg c F' H' σ ρ' ∧ RW X.K X.mg c F' H' σ w v ∧ P w ρ' :=
  bE.imp (h (c.at F) F H σ R.into (L.into R.aft.f0 R.aft.new)) fun v H' ⟨F', ρ', w, R', r, p⟩ => ⟨F', ρ', w, R'.aft.f0, R'.back R.aft.f0 R.aft.new, r, p⟩

/-! ### operators on ints -/
theorem we_binI {op : Operator} {C : Int → Int → Prop} {g : Int → Int → Int} {a b : Expr} {pos : Pos} (ho : OpR X (binaryOp op) (rI C fun i j => .int (g i j)))
    (h : WE X a ρ Y fun x ρ1 => WE X b ρ1 Y fun y ρ2 => ∃ i j, x = .val (.int i) ∧ y = .val (.int j) ∧ C i j ∧ P (.val (.int (g i j))) ρ2) : WE X (.BinOp a op b pos) ρ Y P := fun c F H σ R L => by
  refine bst (pe_op ho pe_best pe_best) ?_
  refine (h.run R L).imp fun v H1 ⟨F1, ρ1, w, _, R1, r1, hb⟩ => (hb.run R1 L).imp fun u H2 ⟨F2, ρ2, w2, _, R2, r2, i, j, e1, e2, hC, hP⟩ => ?_
  subst e1 e2
  exact ⟨i, j, RD.int_inv r1, RD.int_inv r2, hC, F2, ρ2, .val (.int (g i j)), R2, RD.int (g i j), hP⟩
theorem we_binI0 {op : Operator} {g : Int → Int → Int} {a b : Expr} {pos : Pos} (ho : OpR X (binaryOp op) (rI0 fun i j => .int (g i j)))
    (h : WE X a ρ Y fun x ρ1 => WE X b ρ1 Y fun y ρ2 => ∃ i j, x = .val (.int i) ∧ y = .val (.int j) ∧ P (.val (.int (g i j))) ρ2) : WE X (.BinOp a op b pos) ρ Y P := fun c F H σ R L => by
  refine bst (pe_op ho pe_best pe_best) ?_
  refine (h.run R L).imp fun v H1 ⟨F1, ρ1, w, _, R1, r1, hb⟩ => (hb.run R1 L).imp fun u H2 ⟨F2, ρ2, w2, _, R2, r2, i, j, e1, e2, hP⟩ => ?_
  subst e1 e2
  exact ⟨i, j, RD.int_inv r1, RD.int_inv r2, F2, ρ2, .val (.int (g i j)), R2, RD.int (g i j), hP⟩
theorem we_add {a b : Expr} {pos : Pos} (h : WE X a ρ Y fun x ρ1 => WE X b ρ1 Y fun y ρ2 => ∃ i j, x = .val (.int i) ∧ y = .val (.int j) ∧ P (.val (.int (i + j))) ρ2) : WE X (.BinOp a .Add b pos) ρ Y P := we_binI0 op_add h
theorem we_sub {a b : Expr} {pos : Pos} (h : WE X a ρ Y fun x ρ1 => WE X b ρ1 Y fun y ρ2 => ∃ i j, x = .val (.int i) ∧ y = .val (.int j) ∧ P (.val (.int (i - j))) ρ2) : WE X (.BinOp a .Sub b pos) ρ Y P := we_binI0 op_sub h
/-- * : together below a million bits, or one of both small -/
theorem we_mul {a b : Expr} {pos : Pos} (h : WE X a ρ Y fun x ρ1 => WE X b ρ1 Y fun y ρ2 => ∃ i j, x = .val (.int i) ∧ y = .val (.int j) ∧ CMulW i j ∧ P (.val (.int (i * j))) ρ2) : WE X (.BinOp a .Mult b pos) ρ Y P := we_binI op_mulW h
theorem we_mulS {a b : Expr} {pos : Pos} (h : WE X a ρ Y fun x ρ1 => WE X b ρ1 Y fun y ρ2 => ∃ i j, x = .val (.int i) ∧ y = .val (.int j) ∧ CMul i j ∧ P (.val (.int (i * j))) ρ2) : WE X (.BinOp a .Mult b pos) ρ Y P := we_binI op_mul h
/-- // by any divisor but 0 below 2 ^ 9000 -/
def CDivG (_ j : Int) : Prop := j ≠ 0 ∧ j.natAbs.log2 < 9000
theorem op_fdivG : OpR X (binaryOp .FloorDiv) (rI CDivG fun i j => .int (i.fdiv j)) := opI fun i j _ _ _ _ _ hc q => floordiv_int hc.1 q (.inl (PyProof.noPylong_of_log2 hc.2))
theorem we_fdiv {a b : Expr} {pos : Pos} (h : WE X a ρ Y fun x ρ1 => WE X b ρ1 Y fun y ρ2 => ∃ i j, x = .val (.int i) ∧ y = .val (.int j) ∧ CDivG i j ∧ P (.val (.int (i.fdiv j))) ρ2) : WE X (.BinOp a .FloorDiv b pos) ρ Y P := we_binI op_fdivG h
theorem we_mod {a b : Expr} {pos : Pos} (h : WE X a ρ Y fun x ρ1 => WE X b ρ1 Y fun y ρ2 => ∃ i j, x = .val (.int i) ∧ y = .val (.int j) ∧ j ≠ 0 ∧ P (.val (.int (i.fmod j))) ρ2) : WE X (.BinOp a .Mod b pos) ρ Y P := we_binI (C := fun _ j => j ≠ 0) op_modN h
end
end PL

namespace PL
open PySem PySem.Spec PyProof.Rows L2
variable [Hand]
section
variable {X : Cx} {ρ : Store} {Y : Str → Store → Prop} {P : Po}

/-! ### tests -/
abbrev Pb := Bool → Store → Prop
def bT (X : Cx) (e : Expr) : TT := fun σ H Q => ∀ pins s, Inv X pins σ H s → wpAny (model X.prog X.w) X.A (isTrue e X.env (eval e X.env)) (TP X pins σ Q) X.xe s
def bW (X : Cx) (e : Expr) : TT := fun σ H Q => ∀ whole pins s, Inv X pins σ H s → wpAny (model X.prog X.w) X.A (isTrue e X.env whole) (TP X pins σ Q) X.xe s
theorem pt_best {e : Expr} : PT X e (bT X e) := ⟨fun pins s σ H Q I h => h pins s I⟩
theorem pw_best {e : Expr} : PW X e (bW X e) := ⟨fun whole pins s σ H Q I h => h whole pins s I⟩
theorem bstT {e : Expr} {t : TT} {σ : L2.St} {H : Hp} {Q : Bool → Hp → Prop} (h : PT X e t) (q : t σ H Q) : bT X e σ H Q := fun pins s I => h.run pins s σ H Q I q
theorem bstW {e : Expr} {t : TT} {σ : L2.St} {H : Hp} {Q : Bool → Hp → Prop} (h : PW X e t) (q : t σ H Q) : bW X e σ H Q := fun whole pins s I => h.run whole pins s σ H Q I q
theorem bT.imp {e : Expr} {σ : L2.St} {H : Hp} {Q Q' : Bool → Hp → Prop} (h : bT X e σ H Q) (k : ∀ v H', Q v H' → Q' v H') : bT X e σ H Q' := fun pins s I =>
  thn (h pins s I) fun u s1 ⟨H1, I1, q⟩ => ⟨H1, I1, k u H1 q⟩
def BP (K : PySem.W.Frag) (mg : Str → Option Value) (c : Cfg) (σ : L2.St) (P : Pb) : Bool → Hp → Prop := fun b H => ∃ F ρ, Rel K mg c F H σ ρ ∧ P b ρ
def WT (X : Cx) (e : Expr) (ρ : Store) (Y : Str → Store → Prop) (P : Pb) : Prop := ∀ c F H σ, Rel X.K X.mg c F H σ ρ → Lk X c Y → bT X e σ H (BP X.K X.mg c σ P)
def WW (X : Cx) (e : Expr) (ρ : Store) (Y : Str → Store → Prop) (P : Pb) : Prop := ∀ c F H σ, Rel X.K X.mg c F H σ ρ → Lk X c Y → bW X e σ H (BP X.K X.mg c σ P)
theorem WT.run {e : Expr} {c : Cfg} {F H : Hp} {σ : L2.St} {P : Pb} (h : WT X e ρ Y P) (R : Rel X.K X.mg c F H σ ρ) (L : Lk X c Y) :
    bT X e σ H fun b H' => ∃ F' ρ', Ext F F' ∧ Rel X.K X.mg c F' H' σ ρ' ∧ P b ρ' :=
  bT.imp (h (c.at F) F H σ R.into (L.into R.aft.f0 R.aft.new)) fun v H' ⟨F', ρ', R', p⟩ => ⟨F', ρ', R'.aft.f0, R'.back R.aft.f0 R.aft.new, p⟩
theorem wt_of {e : Expr} {P : Pb} (h : WW X e ρ Y P) : WT X e ρ Y P := fun c F H σ R L pins s I => h c F H σ R L _ pins s I
theorem wt_val {e : Expr} {P : Pb} (h : WE X e ρ Y fun w ρ' => ∃ b, w = .val (.bl b) ∧ P b ρ') (he : ∀ whole, isTrue e X.env whole = (do let v ← whole; standAt e.pos; holding [v] (truthy v)) := by intro _; rfl) : WT X e ρ Y P := fun c F H σ R L => by
  refine bstT (pt_val pe_best he) ?_
  refine (h.run R L).imp fun v H1 ⟨F1, ρ1, w, _, R1, r1, b, e1, hb⟩ => ?_
  subst e1
  exact ⟨b, RD.bl_inv r1, F1, ρ1, R1, hb⟩
theorem ww_and1 {a : Expr} {pos : Pos} {P : Pb} (h : WT X a ρ Y P) : WW X (.BoolOp .And [a] pos) ρ Y P := fun c F H σ R L => bstW (pw_and1 pt_best) (h c F H σ R L)
theorem ww_or1 {a : Expr} {pos : Pos} {P : Pb} (h : WT X a ρ Y P) : WW X (.BoolOp .Or [a] pos) ρ Y P := fun c F H σ R L => bstW (pw_or1 pt_best) (h c F H σ R L)
theorem ww_and {a b : Expr} {rest : List Expr} {pos : Pos} {P : Pb} (h : WT X a ρ Y fun k ρ1 => if k = true then WW X (.BoolOp .And (b :: rest) pos) ρ1 Y P else P false ρ1) : WW X (.BoolOp .And (a :: b :: rest) pos) ρ Y P := fun c F H σ R L => by
  refine bstW (pw_and pt_best pw_best) ?_
  refine (h.run R L).imp fun k H1 ⟨F1, ρ1, _, R1, q⟩ => ?_
  cases k with
  | true => exact q c F1 H1 σ R1 L
  | false => exact ⟨F1, ρ1, R1, q⟩
theorem ww_or {a b : Expr} {rest : List Expr} {pos : Pos} {P : Pb} (h : WT X a ρ Y fun k ρ1 => if k = true then P true ρ1 else WW X (.BoolOp .Or (b :: rest) pos) ρ1 Y P) : WW X (.BoolOp .Or (a :: b :: rest) pos) ρ Y P := fun c F H σ R L => by
  refine bstW (pw_or pt_best pw_best) ?_
  refine (h.run R L).imp fun k H1 ⟨F1, ρ1, _, R1, q⟩ => ?_
  cases k with
  | true => exact ⟨F1, ρ1, R1, q⟩
  | false => exact q c F1 H1 σ R1 L
theorem wt_not {a : Expr} {pos : Pos} {P : Pb} (h : WT X a ρ Y fun k ρ1 => P (!k) ρ1) : WT X (.UnaryOp .Not a pos) ρ Y P := fun c F H σ R L => by
  refine bstT (pt_not pt_best) ?_
  exact (h c F H σ R L)

/-! ### comparisons -/
theorem we_cmpI {op : CmpOp} {g : Int → Int → Bool} {a b : Expr} {pos : Pos} (ho : OpR X (compareOp op) (rI0 fun i j => .bl (g i j))) (hm : behindInMarks op b = false)
    (h : WE X a ρ Y fun x ρ1 => WE X b ρ1 Y fun y ρ2 => ∃ i j, x = .val (.int i) ∧ y = .val (.int j) ∧ P (.val (.bl (g i j))) ρ2) : WE X (.Compare a [op] [b] pos) ρ Y P := fun c F H σ R L => by
  refine bst (pe_cmpR ho pe_best pe_best hm) ?_
  refine (h.run R L).imp fun v H1 ⟨F1, ρ1, w, _, R1, r1, hb⟩ => (hb.run R1 L).imp fun u H2 ⟨F2, ρ2, w2, _, R2, r2, i, j, e1, e2, hP⟩ => ?_
  subst e1 e2
  exact ⟨i, j, RD.int_inv r1, RD.int_inv r2, F2, ρ2, .val (.bl (g i j)), R2, RD.bl _, hP⟩
theorem wt_cmpI {op : CmpOp} {g : Int → Int → Bool} {a b : Expr} {pos : Pos} {P : Pb} (ho : OpR X (compareOp op) (rI0 fun i j => .bl (g i j))) (hm : behindInMarks op b = false)
    (h : WE X a ρ Y fun x ρ1 => WE X b ρ1 Y fun y ρ2 => ∃ i j, x = .val (.int i) ∧ y = .val (.int j) ∧ P (g i j) ρ2) : WT X (.Compare a [op] [b] pos) ρ Y P := fun c F H σ R L => by
  refine bstT (pt_cmpR ho pe_best pe_best hm) ?_
  refine (h.run R L).imp fun v H1 ⟨F1, ρ1, w, _, R1, r1, hb⟩ => (hb.run R1 L).imp fun u H2 ⟨F2, ρ2, w2, _, R2, r2, i, j, e1, e2, hP⟩ => ?_
  subst e1 e2
  exact ⟨i, j, RD.int_inv r1, RD.int_inv r2, g i j, rfl, F2, ρ2, R2, hP⟩
/-- scalars -/
def D.sc : D → Option V
  | .non => some .non
  | .bl b => some (.bl b)
  | .int i => some (.int i)
  | .str s => some (.str s)
  | _ => none
theorem RD.sc {K : PySem.W.Frag} {mg : Str → Option Value} {F : Hp} {d : D} {v u : V} (h : RD K mg F d v) (e : d.sc = some u) : v = u := by
  cases h <;> first | (cases e; rfl) | cases e
theorem we_eqS {a b : Expr} {pos : Pos} (h : WE X a ρ Y fun x ρ1 => WE X b ρ1 Y fun y ρ2 => ∃ d e u v, x = .val d ∧ y = .val e ∧ d.sc = some u ∧ e.sc = some v ∧ scal u v = true ∧ P (.val (.bl (decide (u = v)))) ρ2) : WE X (.Compare a [.Eq] [b] pos) ρ Y P := fun c F H σ R L => by
  refine bst (pe_cmpR op_eq pe_best pe_best (nomark _)) ?_
  refine (h.run R L).imp fun v H1 ⟨F1, ρ1, w, _, R1, r1, hb⟩ => (hb.run R1 L).imp fun u H2 ⟨F2, ρ2, w2, _, R2, r2, d, e, p, q, e1, e2, s1, s2, hs, hP⟩ => ?_
  subst e1 e2
  have k1 := RD.sc r1 s1
  have k2 := RD.sc r2 s2
  subst k1 k2
  exact ⟨hs, F2, ρ2, .val (.bl _), R2, RD.bl _, hP⟩
theorem we_neS {a b : Expr} {pos : Pos} (h : WE X a ρ Y fun x ρ1 => WE X b ρ1 Y fun y ρ2 => ∃ d e u v, x = .val d ∧ y = .val e ∧ d.sc = some u ∧ e.sc = some v ∧ scal u v = true ∧ P (.val (.bl (!decide (u = v)))) ρ2) : WE X (.Compare a [.NotEq] [b] pos) ρ Y P := fun c F H σ R L => by
  refine bst (pe_cmpR op_ne pe_best pe_best (nomark _)) ?_
  refine (h.run R L).imp fun v H1 ⟨F1, ρ1, w, _, R1, r1, hb⟩ => (hb.run R1 L).imp fun u H2 ⟨F2, ρ2, w2, _, R2, r2, d, e, p, q, e1, e2, s1, s2, hs, hP⟩ => ?_
  subst e1 e2
  have k1 := RD.sc r1 s1
  have k2 := RD.sc r2 s2
  subst k1 k2
  exact ⟨hs, F2, ρ2, .val (.bl _), R2, RD.bl _, hP⟩
theorem wt_eqS {a b : Expr} {pos : Pos} {P : Pb} (h : WE X a ρ Y fun x ρ1 => WE X b ρ1 Y fun y ρ2 => ∃ d e u v, x = .val d ∧ y = .val e ∧ d.sc = some u ∧ e.sc = some v ∧ scal u v = true ∧ P (decide (u = v)) ρ2) : WT X (.Compare a [.Eq] [b] pos) ρ Y P := fun c F H σ R L => by
  refine bstT (pt_cmpR op_eq pe_best pe_best (nomark _)) ?_
  refine (h.run R L).imp fun v H1 ⟨F1, ρ1, w, _, R1, r1, hb⟩ => (hb.run R1 L).imp fun u H2 ⟨F2, ρ2, w2, _, R2, r2, d, e, p, q, e1, e2, s1, s2, hs, hP⟩ => ?_
  subst e1 e2
  have k1 := RD.sc r1 s1
  have k2 := RD.sc r2 s2
  subst k1 k2
  exact ⟨hs, _, rfl, F2, ρ2, R2, hP⟩
theorem wt_neS {a b : Expr} {pos : Pos} {P : Pb} (h : WE X a ρ Y fun x ρ1 => WE X b ρ1 Y fun y ρ2 => ∃ d e u v, x = .val d ∧ y = .val e ∧ d.sc = some u ∧ e.sc = some v ∧ scal u v = true ∧ P (!decide (u = v)) ρ2) : WT X (.Compare a [.NotEq] [b] pos) ρ Y P := fun c F H σ R L => by
  refine bstT (pt_cmpR op_ne pe_best pe_best (nomark _)) ?_
  refine (h.run R L).imp fun v H1 ⟨F1, ρ1, w, _, R1, r1, hb⟩ => (hb.run R1 L).imp fun u H2 ⟨F2, ρ2, w2, _, R2, r2, d, e, p, q, e1, e2, s1, s2, hs, hP⟩ => ?_
  subst e1 e2
  have k1 := RD.sc r1 s1
  have k2 := RD.sc r2 s2
  subst k1 k2
  exact ⟨hs, _, rfl, F2, ρ2, R2, hP⟩
/-! ### and, or, not, if-else as values -/
theorem we_and1 {op : BoolOp} {a : Expr} {pos : Pos} (h : WE X a ρ Y P) : WE X (.BoolOp op [a] pos) ρ Y P := fun c F H σ R L => bst (pe_one pe_best) (h c F H σ R L)
theorem we_and {a b : Expr} {rest : List Expr} {pos : Pos} (h : WE X a ρ Y fun x ρ1 => ∃ k, x = .val (.bl k) ∧ if k = true then WE X (.BoolOp .And (b :: rest) pos) ρ1 Y P else P (.val (.bl false)) ρ1) : WE X (.BoolOp .And (a :: b :: rest) pos) ρ Y P := fun c F H σ R L => by
  refine bst (pe_and pe_best pe_best) ?_
  refine (h.run R L).imp fun v H1 ⟨F1, ρ1, w, _, R1, r1, k, e1, hb⟩ => ?_
  subst e1
  refine ⟨k, RD.bl_inv r1, ?_⟩
  cases k with
  | true => exact hb c F1 H1 σ R1 L
  | false => exact ⟨F1, ρ1, .val (.bl false), R1, RD.bl _, hb⟩
theorem we_or {a b : Expr} {rest : List Expr} {pos : Pos} (h : WE X a ρ Y fun x ρ1 => ∃ k, x = .val (.bl k) ∧ if k = true then P (.val (.bl true)) ρ1 else WE X (.BoolOp .Or (b :: rest) pos) ρ1 Y P) : WE X (.BoolOp .Or (a :: b :: rest) pos) ρ Y P := fun c F H σ R L => by
  refine bst (pe_or pe_best pe_best) ?_
  refine (h.run R L).imp fun v H1 ⟨F1, ρ1, w, _, R1, r1, k, e1, hb⟩ => ?_
  subst e1
  refine ⟨k, RD.bl_inv r1, ?_⟩
  cases k with
  | true => exact ⟨F1, ρ1, .val (.bl true), R1, RD.bl _, hb⟩
  | false => exact hb c F1 H1 σ R1 L
theorem we_not {a : Expr} {pos : Pos} (h : WE X a ρ Y fun x ρ1 => ∃ k, x = .val (.bl k) ∧ P (.val (.bl (!k))) ρ1) : WE X (.UnaryOp .Not a pos) ρ Y P := fun c F H σ R L => by
  refine bst (pe_not pe_best) ?_
  refine (h.run R L).imp fun v H1 ⟨F1, ρ1, w, _, R1, r1, k, e1, hb⟩ => ?_
  subst e1
  exact ⟨k, RD.bl_inv r1, F1, ρ1, .val (.bl (!k)), R1, RD.bl _, hb⟩
theorem we_neg {a : Expr} {pos : Pos} (h : WE X a ρ Y fun x ρ1 => ∃ i, x = .val (.int i) ∧ P (.val (.int (-i))) ρ1) : WE X (.UnaryOp .USub a pos) ρ Y P := fun c F H σ R L => by
  refine bst (pe_un un_neg pe_best) ?_
  refine (h.run R L).imp fun v H1 ⟨F1, ρ1, w, _, R1, r1, k, e1, hb⟩ => ?_
  subst e1
  exact ⟨k, RD.int_inv r1, F1, ρ1, .val (.int (-k)), R1, RD.int _, hb⟩
theorem we_if {t a b : Expr} {pos : Pos} (h : WT X t ρ Y fun k ρ1 => if k = true then WE X a ρ1 Y P else WE X b ρ1 Y P) : WE X (.IfExp t a b pos) ρ Y P := fun c F H σ R L => by
  refine bst (pe_ifExp pt_best pe_best pe_best) ?_
  refine (h.run R L).imp fun k H1 ⟨F1, ρ1, _, R1, q⟩ => ?_
  cases k with
  | true => exact q c F1 H1 σ R1 L
  | false => exact q c F1 H1 σ R1 L
end
end PL

namespace PL
open PySem PySem.Spec PyProof.Rows L2
variable [Hand]
section
variable {X : Cx} {ρ : Store} {Y : Str → Store → Prop} {P : Po}

/-! ### sequences -/
def D.seq : D → Option (List D)
  | .tup ds => some ds
  | .lst ds => some ds
  | .ro ds => some ds
  | _ => none
/-- the items of a value, by the store -/
def seqW (ρ : Store) : W → Option (List D)
  | .val d => d.seq
  | .loc i => match ρ[i]? with
    | some (some (.own ds)) => some ds
    | some (some (.hown ds)) => some ds
    | _ => none
  | _ => none
theorem RD.seq {K : PySem.W.Frag} {mg : Str → Option Value} {F : Hp} {d : D} {v : V} {ds : List D} (h : RD K mg F d v) (e : d.seq = some ds) : ∃ p xs, v = .ref p ∧ (SqL K F p xs ∨ SqT K F p xs) ∧ RDs K mg F ds xs := by
  cases h with
  | tup h k =>
    cases e
    exact ⟨_, _, rfl, .inr h, k⟩
  | lst h k =>
    cases e
    exact ⟨_, _, rfl, .inl (.inl (.inl h)), k⟩
  | ro h k =>
    cases e
    exact ⟨_, _, rfl, .inl h, k⟩
  | _ => cases e
theorem Rel.loc {K : PySem.W.Frag} {mg : Str → Option Value} {c : Cfg} {F H : Hp} {σ : L2.St} {i : Nat} {v : V} {ds : List D} (R : Rel K mg c F H σ ρ) (h : σ[i]? = some (some v)) (e : ρ[i]? = some (some (.own ds))) :
    ∃ p xs, v = .ref p ∧ H p = some (.lst xs) ∧ F p = none ∧ c.Pr p = none ∧ c.hd ≠ some p ∧ RDs K mg F ds xs := by
  obtain ⟨_, u, h1, h2⟩ := R.slot i _ e
  rw [h] at h1
  cases h1
  exact h2
theorem seqW_sq {K : PySem.W.Frag} {mg : Str → Option Value} {c : Cfg} {F H : Hp} {σ : L2.St} {w : W} {v : V} {ds : List D} (R : Rel K mg c F H σ ρ) (r : RW K mg c F H σ w v) (e : seqW ρ w = some ds) :
    ∃ p xs, v = .ref p ∧ (SqL K H p xs ∨ SqT K H p xs) ∧ RDs K mg F ds xs := by
  cases w with
  | val d =>
    obtain ⟨p, xs, e1, e2, e3⟩ := RD.seq (show RD K mg F d v from r) e
    exact ⟨p, xs, e1, e2.imp (sqL_ext R.aft.sub) (sqT_ext R.aft.sub), e3⟩
  | loc i =>
    cases q : ρ[i]? with
    | none =>
      simp only [seqW, q] at e
      cases e
    | some o =>
      cases o with
      | none =>
        simp only [seqW, q] at e
        cases e
      | some w' =>
        cases w' with
        | own es =>
          simp only [seqW, q] at e
          cases e
          obtain ⟨p, xs, e1, e2, _, _, _, e3⟩ := R.loc (show σ[i]? = some (some v) from r) q
          exact ⟨p, xs, e1, .inl (.inl (.inl e2)), e3⟩
        | hown es =>
          simp only [seqW, q] at e
          cases e
          obtain ⟨_, u, h1, p, xs, _, e1, e2, e3⟩ := R.slot i _ q
          rw [show σ[i]? = some (some v) from r] at h1
          cases h1
          exact ⟨p, xs, e1, .inl (.inl (.inl e2)), e3⟩
        | _ =>
          simp only [seqW, q] at e
          cases e
  | own ds => cases e
  | hnd => cases e
  | zip _ _ => cases e
  | hown _ => cases e
theorem RDs.atI {K : PySem.W.Frag} {mg : Str → Option Value} {F : Hp} {ds : List D} {vs : List V} {i : Int} {d : D} (h : RDs K mg F ds vs) (e : L2.atI ds i = some d) : ∃ v, L2.atI vs i = some v ∧ RD K mg F d v := by
  unfold L2.atI at e ⊢
  rw [h.len]
  cases q : ixN ds.length i with
  | none =>
    rw [q] at e
    cases e
  | some j =>
    rw [q] at e
    exact h.get e

/-- a[i]: a tuple or a list -/
theorem we_ix {a b : Expr} {pos : Pos} (h : WE X a ρ Y fun x ρ1 => WE X b ρ1 Y fun y ρ2 => ∃ ds i d, seqW ρ2 x = some ds ∧ y = .val (.int i) ∧ atI ds i = some d ∧ P (.val d) ρ2) (hs : PlainIx b := by exact fun _ _ => rfl) : WE X (.Subscript a b pos) ρ Y P := fun c F H σ R L => by
  refine bst (pe_ix (ix_list.or ix_tup) pe_best pe_best hs) ?_
  refine (h.run R L).imp fun v H1 ⟨F1, ρ1, w, _, R1, r1, hb⟩ => (hb.run R1 L).imp fun u H2 ⟨F2, ρ2, w2, E2, R2, r2, ds, i, d, e1, e2, e3, hP⟩ => ?_
  subst e2
  have r1' : RW X.K X.mg c F2 H2 σ w v := by
    cases w with
    | val d => exact RD.ext E2 r1
    | loc i => exact r1
    | hnd => exact r1
    | own ds => cases e1
    | zip _ _ => cases e1
    | hown _ => cases e1
  obtain ⟨p, xs, rfl, hq, hr⟩ := seqW_sq R2 r1' e1
  obtain ⟨z, e4, e5⟩ := hr.atI e3
  have fin : VP X.K X.mg c σ P z H2 := ⟨F2, ρ2, .val d, R2, e5, hP⟩
  rcases hq with hq | hq
  · exact .inl ⟨p, xs, i, z, rfl, RD.int_inv r2, hq, e4, fin⟩
  · exact .inr ⟨p, xs, i, z, rfl, RD.int_inv r2, hq, e4, fin⟩

/-! ### arguments -/
def W.st : W → Bool
  | .own _ => false
  | .zip _ _ => false
  | .hown _ => false
  | _ => true
theorem RW.keep {K : PySem.W.Frag} {mg : Str → Option Value} {c : Cfg} {F F' H H' : Hp} {σ : L2.St} {w : W} {v : V} (h : RW K mg c F H σ w v) (s : w.st = true) (e : Ext F F') : RW K mg c F' H' σ w v := by
  cases w with
  | val d => exact RD.ext e h
  | loc i => exact h
  | hnd => exact h
  | own ds => cases s
  | zip _ _ => cases s
  | hown _ => cases s
inductive RWs (K : PySem.W.Frag) (mg : Str → Option Value) (c : Cfg) (F H : Hp) (σ : L2.St) : List W → List V → Prop
  | nil : RWs K mg c F H σ [] []
  | cons {w : W} {ws : List W} {v : V} {vs : List V} : RW K mg c F H σ w v → RWs K mg c F H σ ws vs → RWs K mg c F H σ (w :: ws) (v :: vs)
def bA (X : Cx) (es : List Expr) : TA := fun σ H Q => ∀ (pos : Pos) pins s, Inv X pins σ H s → wpAny (model X.prog X.w) X.A (spliced (backTo pos (starEach es X.env))) (AP X pins σ Q) X.xe s
theorem pa_best {es : List Expr} : PA X es (bA X es) := ⟨fun pos pins s σ H Q I h => h pos pins s I⟩
theorem bstA {es : List Expr} {t : TA} {σ : L2.St} {H : Hp} {Q : List V → Hp → Prop} (h : PA X es t) (q : t σ H Q) : bA X es σ H Q := fun pos pins s I => h.run pos pins s σ H Q I q
theorem bA.imp {es : List Expr} {σ : L2.St} {H : Hp} {Q Q' : List V → Hp → Prop} (h : bA X es σ H Q) (k : ∀ v H', Q v H' → Q' v H') : bA X es σ H Q' := fun pos pins s I =>
  thn (h pos pins s I) fun u s1 ⟨v, H1, I1, r, q⟩ => ⟨v, H1, I1, r, k v H1 q⟩
def WA (X : Cx) (es : List Expr) (ρ : Store) (Y : Str → Store → Prop) (P : List W → Store → Prop) : Prop :=
  ∀ c F H σ, Rel X.K X.mg c F H σ ρ → Lk X c Y → bA X es σ H fun vs H' => ∃ F' ρ' ws, Ext F F' ∧ Rel X.K X.mg c F' H' σ ρ' ∧ RWs X.K X.mg c F' H' σ ws vs ∧ P ws ρ'
theorem wa_nil {P : List W → Store → Prop} (h : P [] ρ) : WA X [] ρ Y P := fun c F H σ R L => bstA pa_nil ⟨F, ρ, [], .refl F, R, .nil, h⟩
theorem wa_cons {e : Expr} {es : List Expr} {P : List W → Store → Prop} (h : WE X e ρ Y fun w ρ1 => w.st = true ∧ WA X es ρ1 Y fun ws ρ2 => P (w :: ws) ρ2) (hs : starEach (e :: es) X.env = (false, eval e X.env) :: starEach es X.env := by rfl) : WA X (e :: es) ρ Y P := fun c F H σ R L => by
  refine bstA (pa_cons pe_best pa_best hs) ?_
  refine (h.run R L).imp fun v H1 ⟨F1, ρ1, w, E1, R1, r1, st, hb⟩ => (hb c F1 H1 σ R1 L).imp fun vs H2 ⟨F2, ρ2, ws, E2, R2, r2, hP⟩ => ?_
  exact ⟨F2, ρ2, w :: ws, E1.trans E2, R2, .cons (r1.keep st E2) r2, hP⟩
/-- all data -/
def vals : List W → Option (List D)
  | [] => some []
  | .val d :: ws => match vals ws with
    | some ds => some (d :: ds)
    | none => none
  | _ :: _ => none
theorem RWs.vals {K : PySem.W.Frag} {mg : Str → Option Value} {c : Cfg} {F H : Hp} {σ : L2.St} : ∀ {ws : List W} {vs : List V} {ds : List D}, RWs K mg c F H σ ws vs → PL.vals ws = some ds → RDs K mg F ds vs
  | _, _, _, .nil, e => by
    cases e
    exact .nil
  | w :: ws, _, ds, .cons h k, e => by
    cases w with
    | val d =>
      cases q : PL.vals ws with
      | none =>
        simp only [PL.vals, q] at e
        cases e
      | some es =>
        simp only [PL.vals, q] at e
        cases e
        exact .cons h (RWs.vals k q)
    | _ => cases e
theorem we_tup {es : List Expr} {x1 : Nat} {pos : Pos} (h : WA X es ρ Y fun ws ρ1 => ∃ ds, vals ws = some ds ∧ ds.length ≤ 100000 ∧ P (.val (.tup ds)) ρ1) : WE X (.Tuple es x1 pos) ρ Y P := fun c F H σ R L => by
  refine bst (pe_tup pa_best) ?_
  refine (h c F H σ R L).imp fun vs H1 ⟨F1, ρ1, ws, _, R1, r1, ds, e1, hz, hP⟩ => ?_
  have r2 := r1.vals e1
  refine ⟨by rw [r2.len]; exact Evl.sz_of hz, fun p hp => ?_⟩
  obtain ⟨R3, r3⟩ := R1.tupNew hp r2
  exact ⟨_, ρ1, .val (.tup ds), R3, r3, hP⟩
theorem we_lst {es : List Expr} {pos : Pos} (h : WA X es ρ Y fun ws ρ1 => ∃ ds, vals ws = some ds ∧ ds.length ≤ 100000 ∧ P (.val (.lst ds)) ρ1) : WE X (.List es pos) ρ Y P := fun c F H σ R L => by
  refine bst (pe_lst pa_best) ?_
  refine (h c F H σ R L).imp fun vs H1 ⟨F1, ρ1, ws, _, R1, r1, ds, e1, hz, hP⟩ => ?_
  have r2 := r1.vals e1
  refine ⟨by rw [r2.len]; exact Evl.sz_of hz, fun p hp => ?_⟩
  obtain ⟨R3, r3⟩ := R1.lstNew hp r2
  exact ⟨_, ρ1, .val (.lst ds), R3, r3, hP⟩

/-! ### built-ins -/
theorem we_cb1 {x : Str} {id : String} {r : List V → Hp → VK → Prop} {e : Expr} {p pos : Pos} (hc : CallR X (.builtin id) r) (hg : Gl X x) (hm : X.mg x = none) (hv : bootBuiltins x = some (.builtin id))
    (h : WE X e ρ Y fun w ρ1 => ∀ c F H σ v, Rel X.K X.mg c F H σ ρ1 → RW X.K X.mg c F H σ w v → r [v] H (VP X.K X.mg c σ P)) (hn : x ≠ "__name__" := by decide) (hdb : (x == ("__debug__" : Str)) = false := by decide)
    (he : starEach (e :: []) X.env = (false, eval e X.env) :: starEach [] X.env := by rfl) (hpl : (backTo pos (starEach [] X.env)).any (·.1) = false := by rfl) : WE X (.Call (.Name x p) [e] [] pos) ρ Y P := fun c F H σ R L => by
  refine bst (pe_callB hc hg hm hv (pa_cons pe_best pa_nil he) hn hdb he hpl) ?_
  refine (h.run R L).imp fun v H1 ⟨F1, ρ1, w, _, R1, r1, k⟩ => ?_
  exact k c F1 H1 σ v R1 r1
theorem we_ct1 {x : Str} {T : String} {r : List V → Hp → VK → Prop} {e : Expr} {p pos : Pos} (hc : CallR X (.type T) r) (hg : Gl X x) (hm : X.mg x = none) (hv : bootBuiltins x = some (.type T))
    (h : WE X e ρ Y fun w ρ1 => ∀ c F H σ v, Rel X.K X.mg c F H σ ρ1 → RW X.K X.mg c F H σ w v → r [v] H (VP X.K X.mg c σ P)) (hn : x ≠ "__name__" := by decide) (hdb : (x == ("__debug__" : Str)) = false := by decide)
    (he : starEach (e :: []) X.env = (false, eval e X.env) :: starEach [] X.env := by rfl) (hpl : (backTo pos (starEach [] X.env)).any (·.1) = false := by rfl) : WE X (.Call (.Name x p) [e] [] pos) ρ Y P := fun c F H σ R L => by
  refine bst (pe_callTy hc hg hm hv (pa_cons pe_best pa_nil he) hn hdb he hpl) ?_
  refine (h.run R L).imp fun v H1 ⟨F1, ρ1, w, _, R1, r1, k⟩ => ?_
  exact k c F1 H1 σ v R1 r1
theorem vp {c : Cfg} {F H : Hp} {σ : L2.St} {d : D} {v : V} (R : Rel X.K X.mg c F H σ ρ) (r : RD X.K X.mg F d v) (h : P (.val d) ρ) : VP X.K X.mg c σ P v H := ⟨F, ρ, .val d, R, r, h⟩
theorem we_len {e : Expr} {p pos : Pos} (hg : Gl X "len") (hm : X.mg "len" = none) (h : WE X e ρ Y fun w ρ1 => ∃ ds, seqW ρ1 w = some ds ∧ P (.val (.int ds.length)) ρ1) (he : starEach [e] X.env = (false, eval e X.env) :: starEach [] X.env := by rfl) : WE X (.Call (.Name "len" p) [e] [] pos) ρ Y P :=
  we_cb1 (he := he) call_len_seq hg hm boot_len (h.imp fun w ρ1 ⟨ds, e1, hP⟩ c F H σ v R r => by
    obtain ⟨p, xs, rfl, hq, hr⟩ := seqW_sq R r e1
    refine ⟨p, xs, rfl, hq, ?_⟩
    rw [hr.len]
    exact vp R (.int _) hP)
theorem we_abs {e : Expr} {p pos : Pos} (hg : Gl X "abs") (hm : X.mg "abs" = none) (h : WE X e ρ Y fun w ρ1 => ∃ i, w = .val (.int i) ∧ P (.val (.int (i.natAbs : Int))) ρ1) (he : starEach [e] X.env = (false, eval e X.env) :: starEach [] X.env := by rfl) : WE X (.Call (.Name "abs" p) [e] [] pos) ρ Y P :=
  we_cb1 (he := he) call_abs hg hm (by decide +kernel) (h.imp fun w ρ1 ⟨i, e1, hP⟩ c F H σ v R r => by
    subst e1
    refine ⟨i, by rw [RD.int_inv r], ?_⟩
    have e : (if i < 0 then -i else i) = (i.natAbs : Int) := by
      split <;> omega
    rw [e]
    exact vp R (.int _) hP)
theorem we_intI {e : Expr} {p pos : Pos} (hg : Gl X "int") (hm : X.mg "int" = none) (h : WE X e ρ Y fun w ρ1 => ∃ i, w = .val (.int i) ∧ P (.val (.int i)) ρ1) (he : starEach [e] X.env = (false, eval e X.env) :: starEach [] X.env := by rfl) : WE X (.Call (.Name "int" p) [e] [] pos) ρ Y P :=
  we_ct1 (he := he) call_int1 hg hm (by decide +kernel) (h.imp fun w ρ1 ⟨i, e1, hP⟩ c F H σ v R r => by
    subst e1
    exact .inl ⟨i, by rw [RD.int_inv r], vp R (.int _) hP⟩)
theorem we_listOf {e : Expr} {p pos : Pos} (hg : Gl X "list") (hm : X.mg "list" = none) (h : WE X e ρ Y fun w ρ1 => ∃ ds, seqW ρ1 w = some ds ∧ P (.val (.lst ds)) ρ1) (he : starEach [e] X.env = (false, eval e X.env) :: starEach [] X.env := by rfl) : WE X (.Call (.Name "list" p) [e] [] pos) ρ Y P :=
  we_ct1 (he := he) call_list_of hg hm (by decide +kernel) (h.imp fun w ρ1 ⟨ds, e1, hP⟩ c F H σ v R r => by
    obtain ⟨p, xs, rfl, hq, hr⟩ := seqW_sq R r e1
    refine ⟨p, xs, rfl, hq, fun l hl => ?_⟩
    obtain ⟨R3, r3⟩ := R.lstNew hl hr
    exact vp R3 r3 hP)
theorem we_tupleOf {e : Expr} {p pos : Pos} (hg : Gl X "tuple") (hm : X.mg "tuple" = none) (h : WE X e ρ Y fun w ρ1 => ∃ ds, seqW ρ1 w = some ds ∧ P (.val (.tup ds)) ρ1) (he : starEach [e] X.env = (false, eval e X.env) :: starEach [] X.env := by rfl) : WE X (.Call (.Name "tuple" p) [e] [] pos) ρ Y P :=
  we_ct1 (he := he) call_tuple_of hg hm (by decide +kernel) (h.imp fun w ρ1 ⟨ds, e1, hP⟩ c F H σ v R r => by
    cases w with
    | val d =>
      have r' : RD X.K X.mg F d v := r
      cases r' with
      | tup h1 k =>
        cases e1
        exact ⟨_, _, rfl, .inr ⟨sqT_ext R.aft.sub h1, vp R (.tup h1 k) hP⟩⟩
      | lst h1 k =>
        cases e1
        refine ⟨_, _, rfl, .inl ⟨.inl (.inl (R.aft.sub _ _ h1)), fun l hl => ?_⟩⟩
        obtain ⟨R3, r3⟩ := R.tupNew hl k
        exact vp R3 r3 hP
      | ro h1 k =>
        cases e1
        refine ⟨_, _, rfl, .inl ⟨sqL_ext R.aft.sub h1, fun l hl => ?_⟩⟩
        obtain ⟨R3, r3⟩ := R.tupNew hl k
        exact vp R3 r3 hP
      | _ => cases e1
    | loc i =>
      cases q : ρ1[i]? with
      | none =>
        simp only [seqW, q] at e1
        cases e1
      | some o =>
        cases o with
        | none =>
          simp only [seqW, q] at e1
          cases e1
        | some w' =>
          cases w' with
          | own es =>
            simp only [seqW, q] at e1
            cases e1
            obtain ⟨p, xs, rfl, h2, _, _, _, k⟩ := R.loc (show σ[i]? = some (some v) from r) q
            refine ⟨_, _, rfl, .inl ⟨.inl (.inl h2), fun l hl => ?_⟩⟩
            obtain ⟨R3, r3⟩ := R.tupNew hl k
            exact vp R3 r3 hP
          | hown es =>
            simp only [seqW, q] at e1
            cases e1
            obtain ⟨_, u, h1, p, xs, _, e1, h2, k⟩ := R.slot i _ q
            rw [show σ[i]? = some (some v) from r] at h1
            cases h1
            subst e1
            refine ⟨_, _, rfl, .inl ⟨.inl (.inl h2), fun l hl => ?_⟩⟩
            obtain ⟨R3, r3⟩ := R.tupNew hl k
            exact vp R3 r3 hP
          | _ =>
            simp only [seqW, q] at e1
            cases e1
    | own ds => cases e1
    | zip _ _ => cases e1
    | hown _ => cases e1
    | hnd => cases e1)
/-- all of flags -/
def D.bools : List D → Option (List Bool)
  | [] => some []
  | .bl b :: ds => match D.bools ds with
    | some bs => some (b :: bs)
    | none => none
  | _ :: _ => none
theorem RDs.bools {K : PySem.W.Frag} {mg : Str → Option Value} {F : Hp} : ∀ {ds : List D} {vs : List V} {bs : List Bool}, RDs K mg F ds vs → D.bools ds = some bs → vs = bs.map V.bl
  | _, _, _, .nil, e => by
    cases e
    rfl
  | d :: ds, _, bs, .cons h k, e => by
    cases h with
    | bl b =>
      cases q : D.bools ds with
      | none =>
        simp only [D.bools, q] at e
        cases e
      | some es =>
        simp only [D.bools, q] at e
        cases e
        rw [RDs.bools k q]
        rfl
    | _ => cases e
theorem bools_map {α : Type} (f : α → Bool) : ∀ xs : List α, D.bools (xs.map fun x => D.bl (f x)) = some (xs.map f)
  | [] => rfl
  | x :: xs => by
    simp only [List.map_cons, D.bools, bools_map f xs]
theorem we_all {e : Expr} {p pos : Pos} (hc : X.calm = true) (hg : Gl X "all") (hm : X.mg "all" = none) (h : WE X e ρ Y fun w ρ1 => ∃ ds bs, w = .val (.lst ds) ∧ D.bools ds = some bs ∧ P (.val (.bl (bs.all id))) ρ1) (he : starEach [e] X.env = (false, eval e X.env) :: starEach [] X.env := by rfl) : WE X (.Call (.Name "all" p) [e] [] pos) ρ Y P :=
  we_cb1 (he := he) (cr_all hc) hg hm (by decide +kernel) (h.imp fun w ρ1 ⟨ds, bs, e1, e2, hP⟩ c F H σ v R r => by
    subst e1
    obtain ⟨a, xs, rfl, h1, k⟩ := RD.lst_inv r
    refine ⟨a, bs, rfl, ?_, vp R (.bl _) hP⟩
    rw [← k.bools e2]
    exact .inl (.inl (R.aft.sub _ _ h1)))
theorem we_any {e : Expr} {p pos : Pos} (hc : X.calm = true) (hg : Gl X "any") (hm : X.mg "any" = none) (h : WE X e ρ Y fun w ρ1 => ∃ ds bs, w = .val (.lst ds) ∧ D.bools ds = some bs ∧ P (.val (.bl (bs.any id))) ρ1) (he : starEach [e] X.env = (false, eval e X.env) :: starEach [] X.env := by rfl) : WE X (.Call (.Name "any" p) [e] [] pos) ρ Y P :=
  we_cb1 (he := he) (cr_any hc) hg hm (by decide +kernel) (h.imp fun w ρ1 ⟨ds, bs, e1, e2, hP⟩ c F H σ v R r => by
    subst e1
    obtain ⟨a, xs, rfl, h1, k⟩ := RD.lst_inv r
    refine ⟨a, bs, rfl, ?_, vp R (.bl _) hP⟩
    rw [← k.bools e2]
    exact .inl (.inl (R.aft.sub _ _ h1)))
end
end PL

namespace PL
open PySem PySem.Spec PyProof.Rows L2
variable [Hand]
/-- what is wanted behind a statement -/
structure Pst where
  nx : Store → Prop
  rt : D → Prop
  bk : Store → Prop := fun _ => False
  ct : Store → Prop := fun _ => False
def EndsOf (K : PySem.W.Frag) (mg : Str → Option Value) (c : Cfg) (T : Pst) : Ends where
  nx := fun σ H => ∃ F ρ, Rel K mg c F H σ ρ ∧ T.nx ρ
  rt := fun v H => ∃ F d, Aft c F H ∧ RD K mg F d v ∧ T.rt d
  bk := fun σ H => ∃ F ρ, Rel K mg c F H σ ρ ∧ T.bk ρ
  ct := fun σ H => ∃ F ρ, Rel K mg c F H σ ρ ∧ T.ct ρ
def bS (X : Cx) (st : Stmt) : TS := fun D σ H => ∀ pins s, Inv X pins σ H s → wpAny (model X.prog X.w) X.A (exec st X.env) (SP X pins D) X.xe s
def bB (X : Cx) (st : List Stmt) : TS := fun D σ H => ∀ pins s, Inv X pins σ H s → wpAny (model X.prog X.w) X.A (execs st X.env) (SP X pins D) X.xe s
theorem ps_best {X : Cx} {st : Stmt} : PS X st (bS X st) := ⟨fun pins s σ H D I h => h pins s I⟩
theorem pss_best {X : Cx} {st : List Stmt} : PSs X st (bB X st) := ⟨fun pins s σ H D I h => h pins s I⟩
theorem bstS {X : Cx} {st : Stmt} {t : TS} {σ : L2.St} {H : Hp} {D : Ends} (h : PS X st t) (q : t D σ H) : bS X st D σ H := fun pins s I => h.run pins s σ H D I q
theorem bstB {X : Cx} {st : List Stmt} {t : TS} {σ : L2.St} {H : Hp} {D : Ends} (h : PSs X st t) (q : t D σ H) : bB X st D σ H := fun pins s I => h.run pins s σ H D I q
/-- not within a block -/
def Cfg.out (c : Cfg) : Prop := c.blk = false ∧ c.zs = true
def WS (X : Cx) (st : Stmt) (ρ : Store) (Y : Str → Store → Prop) (T : Pst) : Prop := ∀ c F H σ, c.out → Rel X.K X.mg c F H σ ρ → Lk X c Y → bS X st (EndsOf X.K X.mg c T) σ H
def WB (X : Cx) (st : List Stmt) (ρ : Store) (Y : Str → Store → Prop) (T : Pst) : Prop := ∀ c F H σ, c.out → Rel X.K X.mg c F H σ ρ → Lk X c Y → bB X st (EndsOf X.K X.mg c T) σ H
section
variable {X : Cx} {ρ : Store} {Y : Str → Store → Prop} {T : Pst}
theorem wb_nil (h : T.nx ρ) : WB X [] ρ Y T := fun c F H σ nb R L => bstB pss_nil ⟨F, ρ, R, h⟩
theorem wb_one {st : Stmt} (h : WS X st ρ Y T) : WB X [st] ρ Y T := fun c F H σ nb R L => bstB (pss_one ps_best) (h c F H σ nb R L)
theorem bS.imp {st : Stmt} {σ : L2.St} {H : Hp} {D D' : Ends} (h : bS X st D σ H) (h1 : ∀ σ H, D.nx σ H → D'.nx σ H) (h2 : ∀ v H, D.rt v H → D'.rt v H) (h3 : ∀ σ H, D.bk σ H → D'.bk σ H) (h4 : ∀ σ H, D.ct σ H → D'.ct σ H) : bS X st D' σ H := fun pins s I =>
  thn (h pins s I) fun f s1 q => by
    cases f with
    | next =>
      obtain ⟨σ', H', I', q⟩ := q
      exact ⟨σ', H', I', h1 _ _ q⟩
    | brk =>
      obtain ⟨σ', H', I', q⟩ := q
      exact ⟨σ', H', I', h3 _ _ q⟩
    | cont =>
      obtain ⟨σ', H', I', q⟩ := q
      exact ⟨σ', H', I', h4 _ _ q⟩
    | ret u =>
      obtain ⟨v, σ', H', I', r, q⟩ := q
      exact ⟨v, σ', H', I', r, h2 _ _ q⟩
theorem wb_cons {st : Stmt} {rest : List Stmt} (h : WS X st ρ Y { T with nx := fun ρ1 => WB X rest ρ1 Y T }) : WB X (st :: rest) ρ Y T := fun c F H σ nb R L => by
  refine bstB (pss_cons ps_best pss_best) ?_
  refine bS.imp (h c F H σ nb R L) (fun σ1 H1 ⟨F1, ρ1, R1, q⟩ => ?_) (fun v H1 q => q) (fun _ _ q => q) (fun _ _ q => q)
  exact q c F1 H1 σ1 nb R1 L
/-- what a return hands back -/
def retW (ρ : Store) : W → Option D
  | .val d => some d
  | .loc i => match ρ[i]? with
    | some (some (.own ds)) => some (.lst ds)
    | _ => none
  | _ => none
theorem Aft.freeze {c : Cfg} {F H : Hp} (nb : c.blk = false) (A : Aft c F H) {p : Addr} {o : HO} (ho : NoT o) (hp : H p = some o) (hf : F p = none) (hpr : c.Pr p = none) (hd : c.hd ≠ some p) : Aft c (upd F p o) H := by
  refine ⟨fun a u e => ?_, A.f0.trans (.new hf), A.pr, A.pr0, fun a u e => ?_, A.nn, A.nb, fun q hq => ?_, A.tb.freeze ho⟩
  · by_cases h : a = p
    · subst h
      rw [upd_same] at e
      cases e
      exact hp
    · rw [upd_ne h] at e
      exact A.sub a u e
  · by_cases h : a = p
    · subst h
      right
      rw [A.nb nb]
      cases z : c.H0 a with
      | none => rfl
      | some o' =>
        have := A.pr0 a o' z hd
        rw [hpr] at this
        cases this
    · rw [upd_ne h] at e
      exact A.new a u e
  · obtain ⟨a1, a5, u, a3, a4⟩ := A.hand q hq
    have hne : q ≠ p := fun e => by
      subst e
      exact hd hq
    exact ⟨by rw [upd_ne hne]; exact a1, a5, u, a3, Hand.mono _ _ _ (.new hf) a4⟩
theorem retW_ok {K : PySem.W.Frag} {mg : Str → Option Value} {c : Cfg} {F H : Hp} {σ : L2.St} {w : W} {v : V} {d : D} (nb : c.blk = false) (R : Rel K mg c F H σ ρ) (r : RW K mg c F H σ w v) (e : retW ρ w = some d) : ∃ F', Ext F F' ∧ Aft c F' H ∧ RD K mg F' d v := by
  cases w with
  | val d' =>
    cases e
    exact ⟨F, .refl F, R.aft, r⟩
  | loc i =>
    cases q : ρ[i]? with
    | none =>
      simp only [retW, q] at e
      cases e
    | some o =>
      cases o with
      | none =>
        simp only [retW, q] at e
        cases e
      | some w' =>
        cases w' with
        | own es =>
          simp only [retW, q] at e
          cases e
          obtain ⟨p, xs, rfl, h2, h3, h4, h5, k⟩ := R.loc (show σ[i]? = some (some v) from r) q
          exact ⟨upd F p (.lst xs), .new h3, R.aft.freeze nb (noT_lst _) h2 h3 h4 h5, .lst upd_same (k.ext (.new h3))⟩
        | _ =>
          simp only [retW, q] at e
          cases e
  | own ds => cases e
  | hnd => cases e
  | zip _ _ => cases e
  | hown _ => cases e
theorem ws_ret {e : Expr} {pos : Pos} (h : WE X e ρ Y fun w ρ1 => ∃ d, retW ρ1 w = some d ∧ T.rt d) : WS X (.Return (some e) pos) ρ Y T := fun c F H σ nb R L => by
  refine bstS (ps_ret pe_best) ?_
  refine (h.run R L).imp fun v H1 ⟨F1, ρ1, w, _, R1, r1, d, e1, hP⟩ => ?_
  obtain ⟨F2, _, A2, r2⟩ := retW_ok nb.1 R1 r1 e1
  exact ⟨F2, d, A2, r2, hP⟩
theorem ws_retN {pos : Pos} (h : T.rt .non) : WS X (.Return none pos) ρ Y T := fun c F H σ nb R L => bstS ps_retN ⟨F, .non, R.aft, .non, h⟩
theorem ws_pass {pos : Pos} (h : T.nx ρ) : WS X (.Pass pos) ρ Y T := fun c F H σ nb R L => bstS ps_pass ⟨F, ρ, R, h⟩
theorem ws_cont {pos : Pos} (h : T.ct ρ) : WS X (.Continue pos) ρ Y T := fun c F H σ nb R L => bstS ps_continue ⟨F, ρ, R, h⟩
theorem ws_break {pos : Pos} (h : T.bk ρ) : WS X (.Break pos) ρ Y T := fun c F H σ nb R L => bstS ps_break ⟨F, ρ, R, h⟩
theorem ws_expr {e : Expr} {pos : Pos} (h : WE X e ρ Y fun w ρ1 => T.nx ρ1) (hs : swapsWith e none pos.line X.env = pure false := by rfl) : WS X (.Expr e pos) ρ Y T := fun c F H σ nb R L => by
  refine bstS (ps_expr pe_best hs) ?_
  refine (h.run R L).imp fun v H1 ⟨F1, ρ1, w, _, R1, r1, hP⟩ => ⟨F1, ρ1, R1, hP⟩
theorem ws_if {t : Expr} {a b : List Stmt} {pos : Pos} (h : WT X t ρ Y fun k ρ1 => if k = true then WB X a ρ1 Y T else WB X b ρ1 Y T) : WS X (.If t a b pos) ρ Y T := fun c F H σ nb R L => by
  refine bstS (ps_if pt_best pss_best pss_best) ?_
  refine (h.run R L).imp fun k H1 ⟨F1, ρ1, _, R1, q⟩ => ?_
  cases k with
  | true => exact q c F1 H1 σ nb R1 L
  | false => exact q c F1 H1 σ nb R1 L
/-- a slot gets data -/
theorem Rel.setVal {K : PySem.W.Frag} {mg : Str → Option Value} {c : Cfg} {F H : Hp} {σ : L2.St} {i : Nat} {d : D} {v : V} (R : Rel K mg c F H σ ρ) (hi : i < σ.length) (r : RD K mg F d v) : Rel K mg c F H (σ.set i (some v)) (ρ.set i (some (.val d))) := by
  refine ⟨R.aft, fun j w hw => ?_, fun j k ds es u hjk h1 h2 h3 h4 => ?_⟩
  · by_cases hj : j = i
    · subst hj
      rw [List.getElem?_set] at hw
      split at hw
      · split at hw
        · cases hw
          exact ⟨(fun _ q => nomatch q), v, by rw [List.getElem?_set_self hi], r⟩
        · cases hw
      · rename_i q
        exact absurd rfl q
    · rw [List.getElem?_set_ne (Ne.symm hj)] at hw
      obtain ⟨h1, u, h2, h3⟩ := R.slot j w hw
      refine ⟨h1, u, by rw [List.getElem?_set_ne (Ne.symm hj)]; exact h2, ?_⟩
      cases w with
      | loc k => exact absurd rfl (h1 k)
      | _ => exact h3
  · have e1 : j ≠ i := fun q => by
      subst q
      rw [List.getElem?_set] at h1
      split at h1
      · split at h1 <;> cases h1
      · rename_i q
        exact absurd rfl q
    have e2 : k ≠ i := fun q => by
      subst q
      rw [List.getElem?_set] at h2
      split at h2
      · split at h2 <;> cases h2
      · rename_i q
        exact absurd rfl q
    rw [List.getElem?_set_ne (Ne.symm e1)] at h1 h3
    rw [List.getElem?_set_ne (Ne.symm e2)] at h2 h4
    exact R.apart j k ds es u hjk h1 h2 h3 h4
theorem bE.inv {e : Expr} {σ : L2.St} {H : Hp} {Q : VK} (h : σ.length = X.N.length → bE X e σ H Q) : bE X e σ H Q := fun pins s I => h I.len pins s I
theorem bS.inv {st : Stmt} {σ : L2.St} {H : Hp} {D : Ends} (h : σ.length = X.N.length → bS X st D σ H) : bS X st D σ H := fun pins s I => h I.len pins s I
theorem lt_of_ix {i : Nat} {x : Str} (h : X.N[i]? = some x) : i < X.N.length := (List.getElem?_eq_some_iff.mp h).1
theorem ws_asg (i : Nat) {x : Str} {e : Expr} {pos' pos : Pos} (hN : X.N.Nodup) (hi : X.N[i]? = some x) (hx : Loc X.env.scope x) (h : WE X e ρ Y fun w ρ1 => ∃ d, w = .val d ∧ T.nx (ρ1.set i (some (.val d)))) (hs : swapsWith e (some (.Name x pos')) pos.line X.env = pure false := by rfl)
    (hf : X.fn x = true ∨ X.env.scope.names.lookup x = some .local := by first | exact .inl rfl | exact .inr rfl | assumption) : WS X (.Assign [.Name x pos'] e pos) ρ Y T := fun c F H σ nb R L => bS.inv fun hl => by
  refine bstS (ps_set hN hi hx pe_best hs hf) ?_
  refine (h.run R L).imp fun v H1 ⟨F1, ρ1, w, _, R1, r1, d, e1, hP⟩ => ?_
  subst e1
  exact ⟨F1, _, R1.setVal (by rw [hl]; exact lt_of_ix hi) r1, hP⟩
theorem ws_aug (i : Nat) {x : Str} {e : Expr} {pos' pos : Pos} (hN : X.N.Nodup) (hi : X.N[i]? = some x) (hx : Loc X.env.scope x) {a : Int} (ha : ρ[i]? = some (some (.val (.int a)))) (h : WE X e ρ Y fun w ρ1 => ∃ b, w = .val (.int b) ∧ T.nx (ρ1.set i (some (.val (.int (a + b))))))
    (hf : X.fn x = true ∨ X.env.scope.names.lookup x = some .local := by first | exact .inl rfl | exact .inr rfl | assumption) : WS X (.AugAssign (.Name x pos') .Add e pos) ρ Y T := fun c F H σ nb R L => bS.inv fun hl => by
  refine bstS (ps_aug hN hi hx pe_best ip_add hf) ?_
  obtain ⟨_, v, h1, h2⟩ := R.slot i _ ha
  refine ⟨v, h1, (h.run R L).imp fun u H1 ⟨F1, ρ1, w, _, R1, r1, b, e1, hP⟩ => ?_⟩
  subst e1
  exact ⟨a, b, RD.int_inv h2, RD.int_inv r1, F1, _, R1.setVal (by rw [hl]; exact lt_of_ix hi) (.int _), hP⟩
/-- while: the invariant by a measure -/
theorem ws_while {t : Expr} {body : List Stmt} {pos : Pos} (I : Nat → Store → Prop) (m0 : Nat) (h0 : I m0 ρ)
    (hs : ∀ m ρ1, I m ρ1 → WT X t ρ1 Y fun k ρ2 => if k = true then WB X body ρ2 Y { T with nx := fun ρ3 => ∃ m', m' < m ∧ I m' ρ3, ct := fun ρ3 => ∃ m', m' < m ∧ I m' ρ3, bk := T.nx } else T.nx ρ2) : WS X (.While t body [] pos) ρ Y T := fun c F H σ nb R L => by
  refine bstS (ps_while L.1.2.1 pt_best pss_best) ?_
  refine ⟨fun m σ H => ∃ F ρ, Rel X.K X.mg c F H σ ρ ∧ I m ρ, ⟨m0, F, ρ, R, h0⟩, fun m σ1 H1 ⟨F1, ρ1, R1, hI⟩ => ?_⟩
  refine ((hs m ρ1 hI).run R1 L).imp fun k H2 ⟨F2, ρ2, _, R2, q⟩ => ?_
  cases k with
  | true =>
    refine ⟨fun σ' H' => ∃ F ρ, Rel X.K X.mg c F H' σ' ρ ∧ ∃ m', m' < m ∧ I m' ρ, fun σ' H' ⟨F', ρ', R', m', hm, hI'⟩ => ⟨m', hm, F', ρ', R', hI'⟩, ?_⟩
    exact q c F2 H2 σ1 nb R2 L
  | false => exact ⟨F2, ρ2, R2, q⟩
end
/-! ### what a def promises -/
/-- a def's meaning: the arguments, what is wanted of the answer, of an exception -/
abbrev Sem1 := List W → (D → Prop) → (Str → Prop) → Prop
structure Aft' (c : Cfg) (F' H' : Hp) : Prop where
  sub : Ext F' H'
  f0 : Ext c.F0 F'
  h0 : ∀ a o, c.H0 a = some o → c.hd ≠ some a → H' a = some o
  new : ∀ a o, F' a = some o → c.F0 a = some o ∨ c.H0 a = none
  nn : ∀ a o, c.H0 a = some o → ∃ o', H' a = some o' ∧ NoT o'
  hand : ∀ p, c.hd = some p → F' p = none ∧ ∃ o, H' p = some o ∧ Hand.HI F' o
  nF : ∀ a o, F' a = some o → NoT o
  tabs : LamX.Tabs Hand.T H'
def HO.isT : HO → Bool
  | .tbl _ => true
  | _ => false
theorem noT_iff {o : HO} : NoT o ↔ HO.isT o = false := by
  cases o <;> first | exact ⟨fun h => absurd rfl (h _), fun h => nomatch h⟩ | exact ⟨fun _ => rfl, fun _ _ q => nomatch q⟩
/-- all but the tables -/
def noTb (H : Hp) : Hp := fun a => (H a).filter fun o => !HO.isT o
theorem noTb_some {H : Hp} {a : Addr} {o : HO} : noTb H a = some o ↔ H a = some o ∧ NoT o := by
  unfold noTb
  rw [noT_iff]
  simp [Option.filter_eq_some_iff]
theorem noTb_none {H : Hp} {a : Addr} (h : noTb H a = none) : H a = none ∨ ∃ ps, H a = some (.tbl ps) := by
  cases e : H a with
  | none => exact .inl rfl
  | some o =>
    cases o with
    | tbl ps => exact .inr ⟨ps, rfl⟩
    | _ =>
      unfold noTb at h
      rw [e] at h
      cases h
theorem Aft.freshN {c : Cfg} {F H : Hp} (A : Aft c F H) {a : Addr} (h : noTb H a = none) : c.N a = none := by
  rcases noTb_none h with h | ⟨ps, h⟩
  · exact (A.fresh0 h).1
  · cases z : c.N a with
    | none => rfl
    | some o1 =>
      obtain ⟨o', q, n⟩ := A.nn a o1 z
      rw [h] at q
      exact absurd (Option.some.inj q).symm (n ps)
def hide (H : Hp) (hd : Option Addr) : Hp := fun a => if hd = some a then none else noTb H a
theorem hide_some {H : Hp} {hd : Option Addr} {a : Addr} {o : HO} : hide H hd a = some o ↔ hd ≠ some a ∧ H a = some o ∧ NoT o := by
  unfold hide
  rw [← noTb_some]
  by_cases h : hd = some a
  · simp [h]
  · simp [h]
/-- the run's data at the entry -/
def cfg0 (hd : Option Addr) (F H : Hp) (W : WX) (n0 : Nat := 0) (fs : List Addr := []) : Cfg := ⟨hd, F, noTb H, noTb H, hide H hd, false, W, n0, fs, true⟩
def spS (K : PySem.W.Frag) (mg : Str → Option Value) (n : Nat) (S : Sem1) : Sp := fun vs H Q E => ∃ (hd : Option Addr) (F : Hp) (ws : List W) (P : D → Prop) (Y : Str → Prop),
  vs.length = n ∧ Ext F H ∧ (∀ a o, F a = some o → NoT o) ∧ LamX.Tabs Hand.T H ∧ (∀ p, hd = some p → F p = none ∧ ∃ o, H p = some o ∧ Hand.HI F o) ∧ RWs K mg (cfg0 hd F H fun _ _ _ _ => False) F H [] ws vs ∧ (∀ w ∈ ws, (∃ d, w = .val d) ∨ w = .hnd) ∧ S ws P Y ∧
  (∀ d v F' H', P d → Aft' (cfg0 hd F H fun _ _ _ _ => False) F' H' → RD K mg F' d v → Q v H') ∧
  (∀ x C F' H', Y x → mg x = some (.ref C) → Aft' (cfg0 hd F H fun _ _ _ _ => False) F' H' → E (.ref C) none H')
end PL

namespace PL
open PySem PySem.Spec PyProof.Rows L2
variable [Hand]
section
variable {K : PySem.W.Frag} {mg : Str → Option Value}
theorem Rel.after {c : Cfg} {F H F' H' : Hp} {σ : L2.St} {ρ : Store} {W : WX} (R : Rel K mg c F H σ ρ) (A : Aft' (cfg0 c.hd F H W) F' H') (hcl : clean ρ = true) : Rel K mg c F' H' σ ρ := by
  refine R.mono (hb := false) ⟨A.sub, R.aft.f0.trans A.f0, fun a o e => ?_, R.aft.pr0, fun a o e => ?_, fun a o e => ?_, R.aft.nb, fun p hp => ?_, ⟨A.nF, R.aft.tb.nP, A.tabs⟩⟩ ⟨A.f0, fun p o h1 hn h2 h3 h4 => ⟨A.h0 p _ (noTb_some.mpr ⟨h1, hn⟩) h4, ?_⟩, fun q => nomatch q⟩ (.inr hcl)
  · refine A.h0 a o (noTb_some.mpr ⟨R.aft.pr a o e, R.aft.tb.nP a o e⟩) fun h => ?_
    obtain ⟨_, q, _⟩ := R.aft.hand a h
    rw [q] at e
    cases e
  · rcases A.new a o e with h | h
    · exact R.aft.new a o h
    · exact .inr (R.aft.freshN h)
  · obtain ⟨o', q, n⟩ := R.aft.nn a o e
    exact A.nn a o' (noTb_some.mpr ⟨q, n⟩)
  · obtain ⟨h1, h2, _⟩ := R.aft.hand p hp
    obtain ⟨k1, o, k2, k3⟩ := A.hand p hp
    exact ⟨k1, h2, o, k2, k3⟩
  · cases e : F' p with
    | none => rfl
    | some u =>
      rcases A.new p u e with h | h
      · have h : F p = some u := h
        rw [h2] at h
        cases h
      · have h : noTb H p = none := h
        rw [noTb_some.mpr ⟨h1, hn⟩] at h
        cases h
theorem RWs.toCall {c c' : Cfg} {F H F' H' : Hp} {σ σ' : L2.St} : ∀ {ws : List W} {vs : List V}, RWs K mg c F H σ ws vs → Ext F F' → c'.hd = c.hd → (∀ w ∈ ws, (∃ d, w = .val d) ∨ w = .hnd) → RWs K mg c' F' H' σ' ws vs
  | _, _, .nil, _, _, _ => .nil
  | w :: ws, _, .cons h k, e, hh, hw => by
    refine .cons ?_ (RWs.toCall k e hh fun w' hm => hw w' (List.mem_cons_of_mem _ hm))
    rcases hw w List.mem_cons_self with ⟨d, rfl⟩ | rfl
    · exact RD.ext e h
    · obtain ⟨p, h1, h2⟩ := h
      exact ⟨p, hh.trans h1, h2⟩
theorem RWs.len {c : Cfg} {F H : Hp} {σ : L2.St} : ∀ {ws : List W} {vs : List V}, RWs K mg c F H σ ws vs → vs.length = ws.length
  | _, _, .nil => rfl
  | _, _, .cons _ k => by rw [List.length_cons, List.length_cons, RWs.len k]
theorem RWs.get {c : Cfg} {F H : Hp} {σ : L2.St} : ∀ {ws : List W} {vs : List V} {i : Nat} {w : W}, RWs K mg c F H σ ws vs → ws[i]? = some w → ∃ v, vs[i]? = some v ∧ RW K mg c F H σ w v
  | _, _, _, _, .nil, e => by simp at e
  | _, _, 0, _, .cons h _, e => by
    simp at e
    subst e
    exact ⟨_, rfl, h⟩
  | _, _, i + 1, x, .cons _ k, e => by
    obtain ⟨u, e1, e2⟩ := RWs.get (i := i) (w := x) k (by simpa using e)
    exact ⟨u, by simpa using e1, e2⟩
end

/-- the module's def x: its meaning, called at level k -/
structure Cal (P : Program) (w : World) (K : PySem.W.Frag) (mg : Str → Option Value) (base : Heap) (k : Nat) (x : Str) (n : Nat) (S : Sem1) : Prop where
  ex : ∃ f fd ps, FnOk P w K mg base (L2.CX P w) k f fd ps (spS K mg n S) ∧ mg x = some (.ref f) ∧ PySem.W.keepIn K (.ref f) = true ∧ Binds K fd ps []
abbrev datas (ws : List W) : Prop := ∀ w ∈ ws, (∃ d, w = .val d) ∨ w = .hnd
def W.dat : W → Bool
  | .val _ => true
  | .hnd => true
  | _ => false
theorem datas_of {ws : List W} (h : ws.all W.dat = true) : datas ws := fun w hw => by
  have := List.all_eq_true.mp h w hw
  cases w with
  | val d => exact .inl ⟨d, rfl⟩
  | hnd => exact .inr rfl
  | _ => cases this
section
variable {X : Cx} {ρ : Store} {Y : Str → Store → Prop} {P : Po}
theorem we_call {k j n : Nat} {x : Str} {S : Sem1} {e : Expr} {es : List Expr} {p pos : Pos} (C : Cal X.prog X.w X.K X.mg X.base k x n S) (hr : Room j X.A) (hk : k ≤ j) (hg : Gl X x)
    (h : WA X (e :: es) ρ Y fun ws ρ1 => ws.length = n ∧ (ws.all W.dat && clean ρ1) = true ∧ S ws (fun d => P (.val d) ρ1) (fun x => Y x ρ1)) (hdb : (x == ("__debug__" : Str)) = false := by decide) (he : starEach (e :: es) X.env = (false, eval e X.env) :: starEach es X.env := by rfl)
    (hpl : (backTo pos (starEach es X.env)).any (·.1) = false := by rfl) : WE X (.Call (.Name x p) (e :: es) [] pos) ρ Y P := fun c F H σ R L => by
  obtain ⟨f, fd, ps, hF, hm, hkp, hb⟩ := C.ex
  refine bst (pe_callS hF (hr.mono hk) hg hm hkp hb (fun σ => passAt L.1.1 σ) pa_best hdb he hpl) ?_
  refine (h c F H σ R L).imp fun vs H1 ⟨F1, ρ1, ws, _, R1, r1, hn, hw, hS⟩ => ?_
  rw [Bool.and_eq_true] at hw
  have hcl := hw.2
  have hw' := datas_of hw.1
  refine ⟨c.hd, F1, ws, _, _, by rw [r1.len]; exact hn, R1.aft.sub, R1.aft.tb.nF, R1.aft.tb.tabs, fun p hp => ?_, r1.toCall (.refl _) rfl hw', hw', hS, fun d v F' H' hP A r => ?_, fun x C F' H' hY hm A => ?_⟩
  · obtain ⟨a1, _, o, a3, a4⟩ := R1.aft.hand p hp
    exact ⟨a1, o, a3, a4⟩
  · exact vp (R1.after A hcl) r hP
  · exact L.2 x C F' H' σ ρ1 hY hm (R1.after A hcl)
end

/-! ### a def by its body -/
/-- the slots at the entry -/
def store0 (N : List Str) (ws : List W) : Store := ws.map some ++ List.replicate (N.length - ws.length) none
theorem rel0 {K : PySem.W.Frag} {mg : Str → Option Value} {hd : Option Addr} {F H : Hp} {W : WX} {N : List Str} {ws : List PL.W} {vs : List V} {n0 : Nat} {fs : List Addr} (sub : Ext F H) (nF : ∀ a o, F a = some o → NoT o) (tabs : LamX.Tabs Hand.T H) (hh : ∀ p, hd = some p → F p = none ∧ ∃ o, H p = some o ∧ Hand.HI F o)
    (r : RWs K mg (cfg0 hd F H fun _ _ _ _ => False) F H [] ws vs) (hw : datas ws) : Rel K mg (cfg0 hd F H W n0 fs) F H (L2.start N vs) (store0 N ws) := by
  refine ⟨⟨sub, .refl F, fun a o e => (hide_some.mp e).2.1, fun a o e hn => hide_some.mpr ⟨hn, noTb_some.mp e⟩, fun a o e => .inl e, fun a o e => ⟨o, noTb_some.mp e⟩, fun _ => rfl, fun p hp => ?_, ⟨nF, fun a o e => (hide_some.mp e).2.2, tabs⟩⟩, fun i w hi => ?_, fun i j ds es v _ hi _ _ _ => ?_⟩
  · obtain ⟨h1, o, h2, h3⟩ := hh p hp
    refine ⟨h1, ?_, o, h2, h3⟩
    cases e : hide H hd p with
    | none => exact e
    | some o' => exact absurd hp (hide_some.mp e).1
  · have hlt : i < ws.length := by
      unfold store0 at hi
      by_cases hlt : i < ws.length
      · exact hlt
      · rw [List.getElem?_append_right (by simpa using hlt), List.getElem?_replicate] at hi
        split at hi <;> cases hi
    have hi' : ws[i]? = some w := by
      unfold store0 at hi
      rw [List.getElem?_append_left (by simpa using hlt), List.getElem?_map] at hi
      cases e : ws[i]? with
      | none =>
        rw [e] at hi
        cases hi
      | some a =>
        rw [e] at hi
        cases hi
        rfl
    obtain ⟨v, h1, h2⟩ := r.get hi'
    have hv : (L2.start N vs)[i]? = some (some v) := by
      unfold L2.start
      rw [List.getElem?_append_left (by rw [List.length_map, r.len]; exact hlt), List.getElem?_map, h1]
      rfl
    rcases hw w (List.mem_of_getElem? hi') with ⟨d, rfl⟩ | rfl
    · exact ⟨(fun _ q => nomatch q), v, hv, h2⟩
    · exact ⟨(fun _ q => nomatch q), v, hv, h2⟩
  · have hi' : ∃ w ∈ ws, w = .own ds := by
      unfold store0 at hi
      by_cases hlt : i < ws.length
      · rw [List.getElem?_append_left (by simpa using hlt), List.getElem?_map] at hi
        cases e : ws[i]? with
        | none =>
          rw [e] at hi
          cases hi
        | some a =>
          rw [e] at hi
          cases hi
          exact ⟨_, List.mem_of_getElem? e, rfl⟩
      · rw [List.getElem?_append_right (by simpa using hlt), List.getElem?_replicate] at hi
        split at hi <;> cases hi
    obtain ⟨w, hm, rfl⟩ := hi'
    rcases hw _ hm with ⟨d, q⟩ | q <;> cases q
theorem Aft.to' {hd : Option Addr} {F H F' H' : Hp} {W W' : WX} {n0 : Nat} {fs : List Addr} (A : Aft (cfg0 hd F H W n0 fs) F' H') : Aft' (cfg0 hd F H W') F' H' :=
  ⟨A.sub, A.f0, fun a o e hn => A.pr a o (hide_some.mpr ⟨hn, noTb_some.mp e⟩), A.new, A.nn, fun p hp => by
    obtain ⟨h1, _, o, h2, h3⟩ := A.hand p hp
    exact ⟨h1, o, h2, h3⟩, A.tb.nF, A.tb.tabs⟩
/-- a def's body, read -/
theorem body_ok {P : Program} {w : World} {K : PySem.W.Frag} {mg : Str → Option Value} {base : Heap} {x : Str} {st : Stmt} {f : Addr} {N ps : List Str} {S : Sem1} {cdv : Value} {A : Around} {outer : List Env} {s : Shared} {H : Hp} {vs : List V} {Qv : VK} {E : XK} (h : spS K mg ps.length S vs H Qv E)
    (hbody : ∀ (ws : List PL.W) (Q : D → Prop) (Y : Str → Prop), S ws Q Y → ws.length = ps.length →
      WB (cxOf (L2.CX P w) P w K mg base N x (defScope st) f cdv A outer s H E) (defBody st) (store0 N ws) (fun x _ => Y x) { nx := fun _ => Q .non, rt := Q }) :
    bB (cxOf (L2.CX P w) P w K mg base N x (defScope st) f cdv A outer s H E) (defBody st) { nx := fun _ H' => Qv .non H', rt := Qv } (L2.start N vs) H := by
  obtain ⟨hd, F0, ws, Pd, Y, hl, sub, nF, tabs, hh, r, hw, hS, hQ, hE⟩ := h
  have hb := hbody ws Pd Y hS (by rw [← r.len]; exact hl)
  have R := rel0 (W := fun cls d _ H' => E cls d H') (N := N) (n0 := s.heap.objs.size) (fs := frs outer) sub nF tabs hh r hw
  have tk : Takes (cxOf (L2.CX P w) P w K mg base N x (defScope st) f cdv A outer s H E) (fun cls d _ H => E cls d H) := takes_of rfl rfl rfl rfl
  have po := passes_of (X := cxOf (L2.CX P w) P w K mg base N x (defScope st) f cdv A outer s H E) rfl
  have L : Lk (cxOf (L2.CX P w) P w K mg base N x (defScope st) f cdv A outer s H E) (cfg0 hd F0 H (fun cls d _ H' => E cls d H') s.heap.objs.size (frs outer)) (fun x _ => Y x) :=
    ⟨⟨tk, po, fun _ => ⟨rfl, rfl⟩⟩, fun x C F' H' σ' ρ' hY hm R' => hE x C F' H' hY hm R'.aft.to'⟩
  intro pins s1 I
  refine thn (hb _ _ _ _ ⟨rfl, rfl⟩ R L pins s1 I) fun fl s2 q => ?_
  cases fl with
  | next =>
    obtain ⟨σ', H', I', F', ρ', R', q⟩ := q
    exact ⟨σ', H', I', hQ .non .non F' H' q R'.aft.to' .non⟩
  | ret u =>
    obtain ⟨v, σ', H', I', rv, F', d, A', rd, q⟩ := q
    exact ⟨v, σ', H', I', rv, hQ d v F' H' q A'.to' rd⟩
  | brk =>
    obtain ⟨_, _, _, _, _, _, q⟩ := q
    exact q.elim
  | cont =>
    obtain ⟨_, _, _, _, _, _, q⟩ := q
    exact q.elim
theorem spS_len {K : PySem.W.Frag} {mg : Str → Option Value} {n : Nat} {S : Sem1} {vs : List V} {H : Hp} {Q : VK} {E : XK} (h : spS K mg n S vs H Q E) : vs.length = n := by
  obtain ⟨_, _, _, _, _, hl, _⟩ := h
  exact hl
/-- THE RULE for a def -/
theorem fn_ok {P : Program} {w : World} {K : PySem.W.Frag} {mg : Str → Option Value} {base : Heap} {k : Nat} {x : Str} {st : Stmt} {f : Addr} {fd : FuncData} {N ps : List Str} {S : Sem1} (F : FunD K x x (defArgs st) (defBody st) (defScope st) [] [] f fd) (Sc : FnScope N ps (defScope st))
    (hbody : ∀ (cdv : Value) (A : Around) (outer : List Env) (s : Shared) (H : Hp) (E : XK) (ws : List PL.W) (Q : D → Prop) (Y : Str → Prop), Room k (A.deeper (envOfC x (defScope st) s.heap.objs.size f cdv)) → S ws Q Y → ws.length = ps.length →
      WB (cxOf (L2.CX P w) P w K mg base N x (defScope st) f cdv A outer s H E) (defBody st) (store0 N ws) (fun x _ => Y x) { nx := fun _ => Q .non, rt := Q }) : FnOk P w K mg base (L2.CX P w) (k + 1) f fd ps (spS K mg ps.length S) := by
  refine F.ok Sc (fun vs H Q E h => spS_len h) (fun cdv A outer s H vs Q E hr h => ⟨_, pss_best, body_ok h fun ws Q Y hS hl => hbody cdv A outer s H E ws Q Y hr hS hl⟩)
/-- .. of a def whose code object is told -/
theorem fn_okL {P : Program} {w : World} {K : PySem.W.Frag} {mg : Str → Option Value} {base : Heap} {k : Nat} {x : Str} {st : Stmt} {f : Addr} {fd : FuncData} {N ps : List Str} {S : Sem1} {p : Str × Option Str} (F : FunD K x x (defArgs st) (defBody st) (defScope st) [] [] f fd) (hf : f = He.fAd K p) (Sc : FnScope N ps (defScope st))
    (hbody : ∀ (A : Around) (outer : List Env) (s : Shared) (H : Hp) (E : XK) (ws : List PL.W) (Q : D → Prop) (Y : Str → Prop), Room k (A.deeper (envOfC x (defScope st) s.heap.objs.size f (.ref (He.codeOf K p)))) → S ws Q Y → ws.length = ps.length →
      WB (cxOf (L2.CX P w) P w K mg base N x (defScope st) f (.ref (He.codeOf K p)) A outer s H E) (defBody st) (store0 N ws) (fun x _ => Y x) { nx := fun _ => Q .non, rt := Q }) : FnOk P w K mg base (L2.CX P w) (k + 1) f fd ps (spS K mg ps.length S) := by
  obtain ⟨oc, od, dV, kV, doc, pm, an, cdv, ct, osl, rfl, lk, hcd, _, _⟩ := F.ex
  obtain ⟨c, rfl⟩ := He.codeIn_ref hcd
  have e : He.codeOf K p = c := He.codeOf_eq (by rw [← hf]; exact lk) rfl
  subst e
  exact fn_of lk hcd Sc (fun vs H Q E h => spS_len h) fun A outer s H vs Q E hr h => ⟨_, pss_best, body_ok h fun ws Q Y hS hl => hbody A outer s H E ws Q Y hr hS hl⟩
end PL

namespace PL
open PySem PySem.Spec PyProof.Rows L2
variable [Hand]
section
variable {X : Cx} {ρ : Store} {Y : Str → Store → Prop} {P : Po} {T : Pst}

/-! ### fresh lists, owned lists -/
def Fr1 (c : Cfg) (F H : Hp) (σ : L2.St) (ρ : Store) (p : Addr) : Prop := F p = none ∧ c.Pr p = none ∧ c.hd ≠ some p ∧ (∀ (i : Nat) (ds : List D), ρ[i]? = some (some (.own ds)) → σ[i]? ≠ some (some (.ref p))) ∧ c.N p = none
def WO (X : Cx) (e : Expr) (ρ : Store) (Y : Str → Store → Prop) (P : List D → Store → Prop) : Prop := ∀ c F H σ, Rel X.K X.mg c F H σ ρ → Lk X c Y →
  bE X e σ H fun v H' => ∃ F' ρ' p xs ds, v = .ref p ∧ H' p = some (.lst xs) ∧ Fr1 c F' H' σ ρ' p ∧ Ext F F' ∧ Rel X.K X.mg c F' H' σ ρ' ∧ RDs X.K X.mg F' ds xs ∧ P ds ρ'
theorem fr1_new {K : PySem.W.Frag} {mg : Str → Option Value} {c : Cfg} {F H : Hp} {σ : L2.St} {p : Addr} {o : HO} (R : Rel K mg c F H σ ρ) (hp : H p = none) : Fr1 c F (upd H p o) σ ρ p := by
  obtain ⟨h1, h2, h3, h4⟩ := R.aft.fresh0 hp
  refine ⟨h3, h4, h2, fun i ds e q => ?_, h1⟩
  obtain ⟨q1, xs, q2, q3, _⟩ := R.loc q e
  cases q2
  rw [hp] at q3
  cases q3
theorem wo_list {es : List Expr} {pos : Pos} {P : List D → Store → Prop} (h : WA X es ρ Y fun ws ρ1 => ∃ ds, vals ws = some ds ∧ ds.length ≤ 100000 ∧ P ds ρ1) : WO X (.List es pos) ρ Y P := fun c F H σ R L => by
  refine bst (pe_lst pa_best) ?_
  refine (h c F H σ R L).imp fun vs H1 ⟨F1, ρ1, ws, E1, R1, r1, ds, e1, hz, hP⟩ => ?_
  have r2 := r1.vals e1
  refine ⟨by rw [r2.len]; exact Evl.sz_of hz, fun p hp => ?_⟩
  exact ⟨F1, ρ1, p, vs, ds, rfl, upd_same, fr1_new R1 hp, E1, R1.growH hp, r2, hP⟩
theorem wo_listOf {e : Expr} {p pos : Pos} {P : List D → Store → Prop} (hg : Gl X "list") (hm : X.mg "list" = none) (h : WE X e ρ Y fun w ρ1 => ∃ ds, seqW ρ1 w = some ds ∧ P ds ρ1) (he : starEach [e] X.env = (false, eval e X.env) :: starEach [] X.env := by rfl) : WO X (.Call (.Name "list" p) [e] [] pos) ρ Y P := fun c F H σ R L => by
  refine bst (pe_callTy call_list_of hg hm (by decide +kernel) (pa_cons pe_best pa_nil he) (by decide) (by decide) he rfl) ?_
  refine (h.run R L).imp fun v H1 ⟨F1, ρ1, w, E1, R1, r1, ds, e1, hP⟩ => ?_
  obtain ⟨p, xs, rfl, hq, hr⟩ := seqW_sq R1 r1 e1
  refine ⟨p, xs, rfl, hq, fun l hl => ?_⟩
  exact ⟨F1, ρ1, l, xs, ds, rfl, upd_same, fr1_new R1 hl, E1, R1.growH hl, hr, hP⟩
/-- a slot gets a fresh list -/
theorem Rel.setOwn {K : PySem.W.Frag} {mg : Str → Option Value} {c : Cfg} {F H : Hp} {σ : L2.St} {i : Nat} {p : Addr} {xs : List V} {ds : List D} (R : Rel K mg c F H σ ρ) (hi : i < σ.length) (hp : H p = some (.lst xs)) (f : Fr1 c F H σ ρ p) (r : RDs K mg F ds xs) :
    Rel K mg c F H (σ.set i (some (.ref p))) (ρ.set i (some (.own ds))) := by
  obtain ⟨f1, f2, f3, f4, f5⟩ := f
  refine ⟨R.aft, fun j w hw => ?_, fun j k ds' es u hjk h1 h2 h3 h4 => ?_⟩
  · by_cases hj : j = i
    · subst hj
      rw [List.getElem?_set] at hw
      split at hw
      · split at hw
        · cases hw
          exact ⟨(fun _ q => nomatch q), _, by rw [List.getElem?_set_self hi], p, xs, rfl, hp, f1, f2, f3, r⟩
        · cases hw
      · rename_i q
        exact absurd rfl q
    · rw [List.getElem?_set_ne (Ne.symm hj)] at hw
      obtain ⟨h1, u, h2, h3⟩ := R.slot j w hw
      refine ⟨h1, u, by rw [List.getElem?_set_ne (Ne.symm hj)]; exact h2, ?_⟩
      cases w with
      | loc k => exact absurd rfl (h1 k)
      | _ => exact h3
  · by_cases ej : j = i
    · subst ej
      have ek : k ≠ j := Ne.symm hjk
      rw [List.getElem?_set_self hi] at h3
      cases h3
      rw [List.getElem?_set_ne (Ne.symm ek)] at h2 h4
      exact f4 k es h2 h4
    · by_cases ek : k = i
      · subst ek
        rw [List.getElem?_set_self hi] at h4
        cases h4
        rw [List.getElem?_set_ne (Ne.symm ej)] at h1 h3
        exact f4 j ds' h1 h3
      · rw [List.getElem?_set_ne (Ne.symm ej)] at h1 h3
        rw [List.getElem?_set_ne (Ne.symm ek)] at h2 h4
        exact R.apart j k ds' es u hjk h1 h2 h3 h4
theorem ws_asgO (i : Nat) {x : Str} {e : Expr} {pos' pos : Pos} (hN : X.N.Nodup) (hi : X.N[i]? = some x) (hx : Loc X.env.scope x) (h : WO X e ρ Y fun ds ρ1 => T.nx (ρ1.set i (some (.own ds)))) (hs : swapsWith e (some (.Name x pos')) pos.line X.env = pure false := by rfl)
    (hf : X.fn x = true ∨ X.env.scope.names.lookup x = some .local := by first | exact .inl rfl | exact .inr rfl | assumption) : WS X (.Assign [.Name x pos'] e pos) ρ Y T := fun c F H σ nb R L => bS.inv fun hl => by
  refine bstS (ps_set hN hi hx pe_best hs hf) ?_
  refine bE.imp (h c F H σ R L) fun v H1 ⟨F1, ρ1, p, xs, ds, e1, h1, f1, _, R1, r1, hP⟩ => ?_
  subst e1
  exact ⟨F1, _, R1.setOwn (by rw [hl]; exact lt_of_ix hi) h1 f1 r1, hP⟩
/-- a, b = x, y -/
theorem ws_par (i j : Nat) {x y : Str} {a b : Expr} {px py pt pos : Pos} {kt k2 pt2} (hc : X.calm = true) (hN : X.N.Nodup) (hi : X.N[i]? = some x) (hj : X.N[j]? = some y) (hij : i ≠ j) (hx : X.env.scope.names.lookup x = some .local) (hy : X.env.scope.names.lookup y = some .local)
    (h : WE X a ρ Y fun u ρ1 => ∃ d, u = .val d ∧ WE X b ρ1 Y fun v ρ2 => ∃ e, v = .val e ∧ T.nx ((ρ2.set i (some (.val d))).set j (some (.val e))))
    (hw : swappedStores [.Tuple [.Name x px, .Name y py] kt pt] (.Tuple [a, b] k2 pt2) X.env = pure (some [x, y]) := by rfl)
    (hs : swapsWithSole [.Tuple [.Name x px, .Name y py] kt pt] (.Tuple [a, b] k2 pt2) pos.line X.env = pure false := by rfl)
    (h1 : starEach (a :: [b]) X.env = (false, eval a X.env) :: starEach [b] X.env := by rfl) (h2 : starEach (b :: []) X.env = (false, eval b X.env) :: starEach [] X.env := by rfl) :
    WS X (.Assign [.Tuple [.Name x px, .Name y py] kt pt] (.Tuple [a, b] k2 pt2) pos) ρ Y T := fun c F H σ nb R L => bS.inv fun hl => by
  refine bstS (ps_par hc hN hi hj hij hx hy (pa_cons pe_best (pa_cons pe_best pa_nil h2) h1) hw hs) ?_
  refine (h.run R L).imp fun u H1 ⟨F1, ρ1, w, _, R1, r1, d, e1, hb⟩ => (hb.run R1 L).imp fun v H2 ⟨F2, ρ2, w2, E2, R2, r2, e, e2, hP⟩ => ?_
  subst e1 e2
  refine ⟨u, v, rfl, F2, _, ?_, hP⟩
  exact (R2.setVal (by rw [hl]; exact lt_of_ix hi) (RD.ext E2 r1)).setVal (by rw [List.length_set, hl]; exact lt_of_ix hj) r2
/-- a, b = x, [..]: the second a fresh list -/
theorem ws_parO (i j : Nat) {x y : Str} {a b : Expr} {px py pt pos : Pos} {kt k2 pt2} (hc : X.calm = true) (hN : X.N.Nodup) (hi : X.N[i]? = some x) (hj : X.N[j]? = some y) (hij : i ≠ j) (hx : X.env.scope.names.lookup x = some .local) (hy : X.env.scope.names.lookup y = some .local)
    (h : WE X a ρ Y fun u ρ1 => ∃ d, u = .val d ∧ WO X b ρ1 Y fun ds ρ2 => T.nx ((ρ2.set i (some (.val d))).set j (some (.own ds)))) (ho : ∀ ds, ρ[i]? ≠ some (some (.own ds)))
    (hw : swappedStores [.Tuple [.Name x px, .Name y py] kt pt] (.Tuple [a, b] k2 pt2) X.env = pure (some [x, y]) := by rfl)
    (hs : swapsWithSole [.Tuple [.Name x px, .Name y py] kt pt] (.Tuple [a, b] k2 pt2) pos.line X.env = pure false := by rfl)
    (h1 : starEach (a :: [b]) X.env = (false, eval a X.env) :: starEach [b] X.env := by rfl) (h2 : starEach (b :: []) X.env = (false, eval b X.env) :: starEach [] X.env := by rfl) :
    WS X (.Assign [.Tuple [.Name x px, .Name y py] kt pt] (.Tuple [a, b] k2 pt2) pos) ρ Y T := fun c F H σ nb R L => bS.inv fun hl => by
  refine bstS (ps_par hc hN hi hj hij hx hy (pa_cons pe_best (pa_cons pe_best pa_nil h2) h1) hw hs) ?_
  refine (h.run R L).imp fun u H1 ⟨F1, ρ1, w, _, R1, r1, d, e1, hb⟩ => bE.imp (hb c F1 H1 σ R1 L) fun v H2 ⟨F2, ρ2, p, xs, ds, e2, q2, f2, E2, R2, r2, hP⟩ => ?_
  subst e1 e2
  refine ⟨u, .ref p, rfl, F2, _, ?_, hP⟩
  refine (R2.setVal (by rw [hl]; exact lt_of_ix hi) (RD.ext E2 r1)).setOwn (by rw [List.length_set, hl]; exact lt_of_ix hj) q2 ⟨f2.1, f2.2.1, f2.2.2.1, fun k es hk hσ => ?_, f2.2.2.2.2⟩ r2
  by_cases hki : k = i
  · subst hki
    rw [List.getElem?_set] at hk
    split at hk
    · split at hk <;> cases hk
    · rename_i q
      exact absurd rfl q
  · rw [List.getElem?_set_ne (Ne.symm hki)] at hk hσ
    exact f2.2.2.2.1 k es hk hσ
theorem RD.tup2 {K : PySem.W.Frag} {mg : Str → Option Value} {F : Hp} {d e : D} {v : V} (h : RD K mg F (.tup [d, e]) v) : ∃ a x y, v = .ref a ∧ SqT K F a [x, y] ∧ RD K mg F d x ∧ RD K mg F e y := by
  obtain ⟨a, xs, rfl, h1, h2⟩ := RD.tup_inv h
  cases h2 with
  | cons p q =>
    cases q with
    | cons p' q' =>
      cases q'
      exact ⟨a, _, _, rfl, h1, p, p'⟩
theorem RD.tup3 {K : PySem.W.Frag} {mg : Str → Option Value} {F : Hp} {d e f : D} {v : V} (h : RD K mg F (.tup [d, e, f]) v) : ∃ a x y z, v = .ref a ∧ SqT K F a [x, y, z] ∧ RD K mg F d x ∧ RD K mg F e y ∧ RD K mg F f z := by
  obtain ⟨a, xs, rfl, h1, h2⟩ := RD.tup_inv h
  cases h2 with
  | cons p q =>
    cases q with
    | cons p' q' =>
      cases q' with
      | cons p'' q'' =>
        cases q''
        exact ⟨a, _, _, _, rfl, h1, p, p', p''⟩
/-- a, b = e, e a pair -/
theorem ws_asgT (i j : Nat) {x y : Str} {e : Expr} {px py pt pos : Pos} {kt} (hc : X.calm = true) (hN : X.N.Nodup) (hi : X.N[i]? = some x) (hj : X.N[j]? = some y) (hx : Loc X.env.scope x) (hy : Loc X.env.scope y)
    (h : WE X e ρ Y fun u ρ1 => ∃ d d', u = .val (.tup [d, d']) ∧ T.nx ((ρ1.set i (some (.val d))).set j (some (.val d'))))
    (hs : swapsWithSole [.Tuple [.Name x px, .Name y py] kt pt] e pos.line X.env = pure false := by rfl) (hw : swappedStores [.Tuple [.Name x px, .Name y py] kt pt] e X.env = pure none := by rfl)
    (hf1 : X.fn x = true ∨ X.env.scope.names.lookup x = some .local := by first | exact .inl rfl | exact .inr rfl | assumption) (hf2 : X.fn y = true ∨ X.env.scope.names.lookup y = some .local := by first | exact .inl rfl | exact .inr rfl | assumption) :
    WS X (.Assign [.Tuple [.Name x px, .Name y py] kt pt] e pos) ρ Y T := fun c F H σ nb R L => bS.inv fun hl => by
  refine bstS (ps_asg pe_best (pg_tup hc (pgs_cons (pg_name hN hi hx hf1) (pgs_cons (pg_name hN hj hy hf2) pgs_nil))) hs hw) ?_
  refine (h.run R L).imp fun u H1 ⟨F1, ρ1, w, _, R1, r1, d, d', e1, hP⟩ => ?_
  subst e1
  obtain ⟨a, v1, v2, rfl, q1, q2, q3⟩ := RD.tup2 r1
  refine ⟨a, [v1, v2], rfl, sqT_ext R1.aft.sub q1, rfl, v1, [v2], rfl, v2, [], rfl, rfl, F1, _, ?_, hP⟩
  exact (R1.setVal (by rw [hl]; exact lt_of_ix hi) q2).setVal (by rw [List.length_set, hl]; exact lt_of_ix hj) q3
theorem ws_asgT3 (i j k : Nat) {x y z : Str} {e : Expr} {px py pz pt pos : Pos} {kt} (hc : X.calm = true) (hN : X.N.Nodup) (hi : X.N[i]? = some x) (hj : X.N[j]? = some y) (hk : X.N[k]? = some z) (hx : Loc X.env.scope x) (hy : Loc X.env.scope y) (hz : Loc X.env.scope z)
    (h : WE X e ρ Y fun u ρ1 => ∃ d d' d'', u = .val (.tup [d, d', d'']) ∧ T.nx (((ρ1.set i (some (.val d))).set j (some (.val d'))).set k (some (.val d''))))
    (hs : swapsWithSole [.Tuple [.Name x px, .Name y py, .Name z pz] kt pt] e pos.line X.env = pure false := by rfl) (hw : swappedStores [.Tuple [.Name x px, .Name y py, .Name z pz] kt pt] e X.env = pure none := by rfl)
    (hf1 : X.fn x = true ∨ X.env.scope.names.lookup x = some .local := by first | exact .inl rfl | exact .inr rfl | assumption) (hf2 : X.fn y = true ∨ X.env.scope.names.lookup y = some .local := by first | exact .inl rfl | exact .inr rfl | assumption)
    (hf3 : X.fn z = true ∨ X.env.scope.names.lookup z = some .local := by first | exact .inl rfl | exact .inr rfl | assumption) :
    WS X (.Assign [.Tuple [.Name x px, .Name y py, .Name z pz] kt pt] e pos) ρ Y T := fun c F H σ nb R L => bS.inv fun hl => by
  refine bstS (ps_asg pe_best (pg_tup hc (pgs_cons (pg_name hN hi hx hf1) (pgs_cons (pg_name hN hj hy hf2) (pgs_cons (pg_name hN hk hz hf3) pgs_nil)))) hs hw) ?_
  refine (h.run R L).imp fun u H1 ⟨F1, ρ1, w, _, R1, r1, d, d', d'', e1, hP⟩ => ?_
  subst e1
  obtain ⟨a, v1, v2, v3, rfl, q1, q2, q3, q4⟩ := RD.tup3 r1
  refine ⟨a, [v1, v2, v3], rfl, sqT_ext R1.aft.sub q1, rfl, v1, [v2, v3], rfl, v2, [v3], rfl, v3, [], rfl, rfl, F1, _, ?_, hP⟩
  exact ((R1.setVal (by rw [hl]; exact lt_of_ix hi) q2).setVal (by rw [List.length_set, hl]; exact lt_of_ix hj) q3).setVal (by rw [List.length_set, List.length_set, hl]; exact lt_of_ix hk) q4

/-! ### an owned list changed -/
theorem XO.upd1 {c : Cfg} {F H : Hp} {p q : Addr} {o u : HO} {φ : Heap → Prop} (x : XO c F H q φ) (hp : H p = some u) (hu : PlainO u) : XO c F (upd H p o) q φ := by
  obtain ⟨h1, h2, h3, h4, h5⟩ := x
  have hne : q ≠ p := fun e => by
    rw [e, hp] at h1
    exact hu.2 _ (Option.some.inj h1)
  exact ⟨by rw [upd_ne hne]; exact h1, h2, h3, h4, h5⟩
theorem ZipR.upd1 {K : PySem.W.Frag} {mg : Str → Option Value} {c : Cfg} {F H : Hp} {p : Addr} {o u : HO} {v : V} {ds es : List D} (x : ZipR K mg c F H v ds es) (hp : H p = some u) (hu : PlainO u) : ZipR K mg c F (upd H p o) v ds es := by
  obtain ⟨z, TI, TO, i1, i2, a, b, xs, ys, e1, e2, ⟨x1, x2, x3, x4, x5⟩, r⟩ := x
  exact ⟨z, TI, TO, i1, i2, a, b, xs, ys, e1, e2, ⟨x1.upd1 hp hu, x2.upd1 hp hu, x3.upd1 hp hu, x4.upd1 hp hu, x5.upd1 hp hu⟩, r⟩
theorem Aft.write {c : Cfg} {F H : Hp} (A : Aft c F H) {p : Addr} {o u0 : HO} (ho : NoT o) (hp0 : H p = some u0) (hu0 : PlainO u0) (hf : F p = none) (hpr : c.Pr p = none) (hd : c.hd ≠ some p) : Aft c F (upd H p o) := by
  refine ⟨fun a u e => ?_, A.f0, fun a u e => ?_, A.pr0, A.new, fun a u e => ?_, A.nb, fun q hq => ?_, A.tb.write hp0 hu0⟩
  · have h : a ≠ p := ne_of_none e hf
    rw [upd_ne h]
    exact A.sub a u e
  · have h : a ≠ p := ne_of_none e hpr
    rw [upd_ne h]
    exact A.pr a u e
  · by_cases h : a = p
    · subst h
      exact ⟨_, upd_same, ho⟩
    · rw [upd_ne h]
      exact A.nn a u e
  · obtain ⟨a1, a5, u, a3, a4⟩ := A.hand q hq
    have hne : q ≠ p := fun e => by
      subst e
      exact hd hq
    exact ⟨a1, a5, u, by rw [upd_ne hne]; exact a3, a4⟩
theorem Rel.write {K : PySem.W.Frag} {mg : Str → Option Value} {c : Cfg} {F H : Hp} {σ : L2.St} {i : Nat} {p : Addr} {ds es : List D} {ys : List V} (R : Rel K mg c F H σ ρ) (hi : ρ[i]? = some (some (.own ds))) (hv : σ[i]? = some (some (.ref p))) (r : RDs K mg F es ys) :
    Rel K mg c F (upd H p (.lst ys)) σ (ρ.set i (some (.own es))) := by
  obtain ⟨q, xs, eq, h1, h2, h3, h4, _⟩ := R.loc hv hi
  cases eq
  have hlt : i < ρ.length := (List.getElem?_eq_some_iff.mp hi).1
  refine ⟨R.aft.write (noT_lst _) h1 (plain_lst _) h2 h3 h4, fun j w hw => ?_, fun j k ds' es' u hjk k1 k2 k3 k4 => ?_⟩
  · by_cases hj : j = i
    · subst hj
      rw [List.getElem?_set_self hlt] at hw
      cases hw
      exact ⟨(fun _ q => nomatch q), _, hv, p, ys, rfl, upd_same, h2, h3, h4, r⟩
    · rw [List.getElem?_set_ne (Ne.symm hj)] at hw
      obtain ⟨a1, u, a2, a3⟩ := R.slot j w hw
      refine ⟨a1, u, a2, ?_⟩
      cases w with
      | own ds' =>
        obtain ⟨p', xs', e', b1, b2, b3, b4, b5⟩ := a3
        subst e'
        have hne : p' ≠ p := fun e => by
          subst e
          exact R.apart j i ds' ds _ hj hw hi a2 hv
        exact ⟨p', xs', rfl, by rw [upd_ne hne]; exact b1, b2, b3, b4, b5⟩
      | zip _ _ => exact ZipR.upd1 a3 h1 (plain_lst _)
      | hown ds' =>
        obtain ⟨p', xs', g1, e', b1, b5⟩ := a3
        have hne : p' ≠ p := fun e => h4 (e ▸ g1)
        exact ⟨p', xs', g1, e', by rw [upd_ne hne]; exact b1, b5⟩
      | _ => exact a3
  · have own : ∀ (m : Nat) (zs : List D), (ρ.set i (some (.own es)))[m]? = some (some (.own zs)) → ∃ zs', ρ[m]? = some (some (.own zs')) := fun m zs hm => by
      by_cases e : m = i
      · subst e
        exact ⟨_, hi⟩
      · rw [List.getElem?_set_ne (Ne.symm e)] at hm
        exact ⟨_, hm⟩
    obtain ⟨z1, e1⟩ := own j ds' k1
    obtain ⟨z2, e2⟩ := own k es' k2
    exact R.apart j k z1 z2 u hjk e1 e2 k3 k4
section
variable {o : Expr} {apos cpos : Pos}
theorem snoc_of {α : Type} {xs : List α} (h : xs ≠ []) : ∃ ys y, xs = ys ++ [y] := ⟨xs.dropLast, xs.getLast h, (List.dropLast_concat_getLast h).symm⟩
theorem we_pop (h : WE X o ρ Y fun w ρ1 => ∃ i ds d, w = .loc i ∧ ρ1[i]? = some (some (.own (ds ++ [d]))) ∧ P (.val d) (ρ1.set i (some (.own ds))))
    (hp : PE X (.Call (.Attribute o "pop" apos) [] [] cpos) (tBM0 X.K "list" rPop (bE X o)) := by exact pe_bm0 PySem.F.plainAttrs_list PySem.F.slot_list_pop PySem.F.type_list_pop mt_pop pe_best) : WE X (.Call (.Attribute o "pop" apos) [] [] cpos) ρ Y P := fun c F H σ R L => by
  refine bst hp ?_
  refine (h.run R L).imp fun v H1 ⟨F1, ρ1, w, E1, R1, r1, i, ds, d, e1, h1, hP⟩ => ?_
  subst e1
  have r1' : σ[i]? = some (some v) := r1
  obtain ⟨p, xs, rfl, h2, h3, h4, h5, k⟩ := R1.loc r1' h1
  have hne : xs ≠ [] := fun e => by
    subst e
    have := k.len
    simp at this
  obtain ⟨ys, y, rfl⟩ := snoc_of hne
  have hl : ys.length = ds.length := by
    have := k.len
    simp at this
    exact this
  have k1 : RDs X.K X.mg F1 ds ys := by
    have := k.take ds.length
    rw [List.take_left, ← hl, List.take_left] at this
    exact this
  obtain ⟨y', e2, k2⟩ := k.get (i := ds.length) (d := d) (by simp)
  rw [← hl] at e2
  simp at e2
  subst e2
  refine ⟨.inl ⟨rfl, _, .inl (.inl h2)⟩, p, _, y, rfl, rfl, h2, by simp, ?_⟩
  rw [List.dropLast_concat]
  exact ⟨F1, _, .val d, R1.write h1 r1' k1, k2, hP⟩
theorem we_append {e : Expr} (h : WE X o ρ Y fun w ρ1 => ∃ i zs, w = .loc i ∧ ρ1[i]? = some (some (.own zs)) ∧ WE X e ρ1 Y fun u ρ2 => ∃ d ds, u = .val d ∧ ρ2[i]? = some (some (.own ds)) ∧ ds.length < 100000 ∧ P (.val .non) (ρ2.set i (some (.own (ds ++ [d])))))
    (hp : PE X (.Call (.Attribute o "append" apos) [e] [] cpos) (tBM X.K "list" rAppend (bE X o) (tCons (bE X e) tNil)) := by exact pe_bm PySem.F.plainAttrs_list PySem.F.slot_list_append PySem.F.type_list_append mt_append pe_best (pa_cons pe_best pa_nil)) :
    WE X (.Call (.Attribute o "append" apos) [e] [] cpos) ρ Y P := fun c F H σ R L => by
  refine bst hp ?_
  refine (h.run R L).imp fun v H1 ⟨F1, ρ1, w, E1, R1, r1, i, zs, e1, hz1, hb⟩ => ?_
  subst e1
  have r1' : σ[i]? = some (some v) := r1
  obtain ⟨p, xs, rfl, h3, _, _, _, _⟩ := R1.loc r1' hz1
  refine ⟨.inl ⟨rfl, _, .inl (.inl h3)⟩, (hb.run R1 L).imp fun u H2 ⟨F2, ρ2, w2, E2, R2, r2, d, ds, e2, h2, hz, hP⟩ => ?_⟩
  subst e2
  obtain ⟨p', xs', e3, h3, h4, h5, h6, k⟩ := R2.loc r1' h2
  cases e3
  refine ⟨p, xs', u, rfl, rfl, h3, by rw [k.len]; exact Evl.sz_lt hz, ?_⟩
  exact ⟨F2, _, .val .non, R2.write h2 r1' (k.append (.cons r2 .nil)), .non, hP⟩
theorem we_extend {e : Expr} (h : WE X o ρ Y fun w ρ1 => ∃ i zs, w = .loc i ∧ ρ1[i]? = some (some (.own zs)) ∧ WE X e ρ1 Y fun u ρ2 => ∃ es ds, u = .val (.lst es) ∧ ρ2[i]? = some (some (.own ds)) ∧ ds.length + es.length ≤ 100000 ∧ P (.val .non) (ρ2.set i (some (.own (ds ++ es)))))
    (hp : PE X (.Call (.Attribute o "extend" apos) [e] [] cpos) (tBM X.K "list" rExtend (bE X o) (tCons (bE X e) tNil)) := by exact pe_bm PySem.F.plainAttrs_list PySem.F.slot_list_extend PySem.F.type_list_extend mt_extend pe_best (pa_cons pe_best pa_nil)) :
    WE X (.Call (.Attribute o "extend" apos) [e] [] cpos) ρ Y P := fun c F H σ R L => by
  refine bst hp ?_
  refine (h.run R L).imp fun v H1 ⟨F1, ρ1, w, E1, R1, r1, i, zs, e1, hz1, hb⟩ => ?_
  subst e1
  have r1' : σ[i]? = some (some v) := r1
  obtain ⟨p, xs, rfl, h3, _, _, _, _⟩ := R1.loc r1' hz1
  refine ⟨.inl ⟨rfl, _, .inl (.inl h3)⟩, (hb.run R1 L).imp fun u H2 ⟨F2, ρ2, w2, E2, R2, r2, es, ds, e2, h2, hz, hP⟩ => ?_⟩
  subst e2
  obtain ⟨p', xs', e3, h3, h4, h5, h6, k⟩ := R2.loc r1' h2
  cases e3
  obtain ⟨b, ys, rfl, hb1, k2⟩ := RD.lst_inv r2
  refine ⟨p, b, xs', ys, rfl, rfl, h3, R2.aft.sub _ _ hb1, by rw [k.len, k2.len]; exact Evl.sz_of hz, ?_⟩
  exact ⟨F2, _, .val .non, R2.write h2 r1' (k.append k2), .non, hP⟩
end
end
end PL

namespace PL
open PySem PySem.Spec PyProof.Rows L2
variable [Hand]
/-! ### isinstance -/
def D.ty : D → String
  | .non => "NoneType" | .bl _ => "bool" | .int _ => "int" | .str _ => "str" | .tup _ => "tuple" | .lst _ => "list" | .ro _ => "list" | .dct _ _ => "dict" | .fn _ => "function"
def D.plain : D → Bool
  | .fn _ => false
  | _ => true
def D.isTup : D → Bool | .tup _ => true | _ => false
def D.isLst : D → Bool | .lst _ => true | .ro _ => true | _ => false
def D.isDct : D → Bool | .dct _ _ => true | _ => false
def D.isStr : D → Bool | .str _ => true | _ => false
def D.isBl : D → Bool | .bl _ => true | _ => false
def D.isInt : D → Bool | .int _ => true | .bl _ => true | _ => false
theorem RD.tyx {K : PySem.W.Frag} {mg : Str → Option Value} {F H : Hp} {d : D} {v : V} (h : RD K mg F d v) (e : Ext F H) (hp : d.plain = true) : TyX K H v (.type d.ty) := by
  cases h with
  | non => exact .base .non
  | bl b => exact .base (.bl b)
  | int i => exact .base (.int i)
  | str s => exact .base (.str s)
  | tup h k =>
    rcases sqT_ext e h with (h | ⟨o, h⟩) | h
    · exact .base (.tup h)
    · exact .fTuple h
    · obtain ⟨o, its, n, h1, h2, _⟩ := h
      exact .kTuple h1 h2
  | lst h k => exact .base (.lst (e _ _ h))
  | ro h k =>
    rcases sqL_ext e h with (h | ⟨o, h⟩) | h
    · exact .base (.lst h)
    · exact .base (.frz h)
    · obtain ⟨o, its, n, h1, h2, _⟩ := h
      exact .kList h1 h2
  | dct h h1 h2 k => exact .base (.dK (e _ _ h))
  | fn h => cases hp
theorem kit_tup (d : D) (h : d.plain = true) : kitB d.ty "tuple" = some d.isTup := by
  cases d with
  | non => exact (by decide +kernel : kitB "NoneType" "tuple" = some false)
  | bl _ => exact (by decide +kernel : kitB "bool" "tuple" = some false)
  | int _ => exact (by decide +kernel : kitB "int" "tuple" = some false)
  | str _ => exact (by decide +kernel : kitB "str" "tuple" = some false)
  | tup _ => exact (by decide +kernel : kitB "tuple" "tuple" = some true)
  | lst _ => exact (by decide +kernel : kitB "list" "tuple" = some false)
  | ro _ => exact (by decide +kernel : kitB "list" "tuple" = some false)
  | dct => exact (by decide +kernel : kitB "dict" "tuple" = some false)
  | fn _ => cases h
theorem kit_lst (d : D) (h : d.plain = true) : kitB d.ty "list" = some d.isLst := by
  cases d with
  | non => exact (by decide +kernel : kitB "NoneType" "list" = some false)
  | bl _ => exact (by decide +kernel : kitB "bool" "list" = some false)
  | int _ => exact (by decide +kernel : kitB "int" "list" = some false)
  | str _ => exact (by decide +kernel : kitB "str" "list" = some false)
  | tup _ => exact (by decide +kernel : kitB "tuple" "list" = some false)
  | lst _ => exact (by decide +kernel : kitB "list" "list" = some true)
  | ro _ => exact (by decide +kernel : kitB "list" "list" = some true)
  | dct => exact (by decide +kernel : kitB "dict" "list" = some false)
  | fn _ => cases h
theorem kit_dct (d : D) (h : d.plain = true) : kitB d.ty "dict" = some d.isDct := by
  cases d with
  | non => exact (by decide +kernel : kitB "NoneType" "dict" = some false)
  | bl _ => exact (by decide +kernel : kitB "bool" "dict" = some false)
  | int _ => exact (by decide +kernel : kitB "int" "dict" = some false)
  | str _ => exact (by decide +kernel : kitB "str" "dict" = some false)
  | tup _ => exact (by decide +kernel : kitB "tuple" "dict" = some false)
  | lst _ => exact (by decide +kernel : kitB "list" "dict" = some false)
  | ro _ => exact (by decide +kernel : kitB "list" "dict" = some false)
  | dct => exact (by decide +kernel : kitB "dict" "dict" = some true)
  | fn _ => cases h
theorem kit_str (d : D) (h : d.plain = true) : kitB d.ty "str" = some d.isStr := by
  cases d with
  | non => exact (by decide +kernel : kitB "NoneType" "str" = some false)
  | bl _ => exact (by decide +kernel : kitB "bool" "str" = some false)
  | int _ => exact (by decide +kernel : kitB "int" "str" = some false)
  | str _ => exact (by decide +kernel : kitB "str" "str" = some true)
  | tup _ => exact (by decide +kernel : kitB "tuple" "str" = some false)
  | lst _ => exact (by decide +kernel : kitB "list" "str" = some false)
  | ro _ => exact (by decide +kernel : kitB "list" "str" = some false)
  | dct => exact (by decide +kernel : kitB "dict" "str" = some false)
  | fn _ => cases h
theorem kit_bl (d : D) (h : d.plain = true) : kitB d.ty "bool" = some d.isBl := by
  cases d with
  | non => exact (by decide +kernel : kitB "NoneType" "bool" = some false)
  | bl _ => exact (by decide +kernel : kitB "bool" "bool" = some true)
  | int _ => exact (by decide +kernel : kitB "int" "bool" = some false)
  | str _ => exact (by decide +kernel : kitB "str" "bool" = some false)
  | tup _ => exact (by decide +kernel : kitB "tuple" "bool" = some false)
  | lst _ => exact (by decide +kernel : kitB "list" "bool" = some false)
  | ro _ => exact (by decide +kernel : kitB "list" "bool" = some false)
  | dct => exact (by decide +kernel : kitB "dict" "bool" = some false)
  | fn _ => cases h
theorem kit_int (d : D) (h : d.plain = true) : kitB d.ty "int" = some d.isInt := by
  cases d with
  | non => exact (by decide +kernel : kitB "NoneType" "int" = some false)
  | bl _ => exact (by decide +kernel : kitB "bool" "int" = some true)
  | int _ => exact (by decide +kernel : kitB "int" "int" = some true)
  | str _ => exact (by decide +kernel : kitB "str" "int" = some false)
  | tup _ => exact (by decide +kernel : kitB "tuple" "int" = some false)
  | lst _ => exact (by decide +kernel : kitB "list" "int" = some false)
  | ro _ => exact (by decide +kernel : kitB "list" "int" = some false)
  | dct => exact (by decide +kernel : kitB "dict" "int" = some false)
  | fn _ => cases h
section
variable {X : Cx} {ρ : Store} {Y : Str → Store → Prop} {P : Po} {T : Pst}
theorem we_isi {N : String} {x : Str} {g : D → Bool} {e : Expr} {p p2 pos : Pos} (hk : ∀ d : D, d.plain = true → kitB d.ty N = some (g d)) (hg : Gl X "isinstance") (hm : X.mg "isinstance" = none) (hg2 : Gl X x) (hm2 : X.mg x = none) (hv : bootBuiltins x = some (.type N)) (hn : x ≠ "__name__") (hdb : (x == ("__debug__" : Str)) = false)
    (h : WE X e ρ Y fun w ρ1 => ∃ d, w = .val d ∧ d.plain = true ∧ P (.val (.bl (g d))) ρ1) (he : starEach (e :: [.Name x p2]) X.env = (false, eval e X.env) :: starEach [.Name x p2] X.env := by rfl) :
    WE X (.Call (.Name "isinstance" p) [e, .Name x p2] [] pos) ρ Y P := fun c F H σ R L => by
  refine bst (pe_callB call_isi hg hm (by decide +kernel) (pa_cons pe_best (pa_cons (pe_bltn (v := .ty N) hg2 hm2 hv rfl hn hdb) pa_nil) he) (by decide) (by decide) he) ?_
  refine (h.run R L).imp fun v H1 ⟨F1, ρ1, w, _, R1, r1, d, e1, hp, hP⟩ => ?_
  subst e1
  exact ⟨v, .ty N, .type d.ty, .type N, g d, rfl, .ty N, RD.tyx r1 R1.aft.sub hp, kit_ty (hk d hp), vp R1 (.bl _) hP⟩
theorem we_isTup {e : Expr} {p p2 pos : Pos} (hg : Gl X "isinstance") (hm : X.mg "isinstance" = none) (hg2 : Gl X "tuple") (hm2 : X.mg "tuple" = none) (h : WE X e ρ Y fun w ρ1 => ∃ d, w = .val d ∧ d.plain = true ∧ P (.val (.bl d.isTup)) ρ1)
    (he : starEach (e :: [.Name "tuple" p2]) X.env = (false, eval e X.env) :: starEach [.Name "tuple" p2] X.env := by rfl) : WE X (.Call (.Name "isinstance" p) [e, .Name "tuple" p2] [] pos) ρ Y P := we_isi kit_tup hg hm hg2 hm2 (by decide +kernel) (by decide) (by decide) h he
theorem we_isLst {e : Expr} {p p2 pos : Pos} (hg : Gl X "isinstance") (hm : X.mg "isinstance" = none) (hg2 : Gl X "list") (hm2 : X.mg "list" = none) (h : WE X e ρ Y fun w ρ1 => ∃ d, w = .val d ∧ d.plain = true ∧ P (.val (.bl d.isLst)) ρ1)
    (he : starEach (e :: [.Name "list" p2]) X.env = (false, eval e X.env) :: starEach [.Name "list" p2] X.env := by rfl) : WE X (.Call (.Name "isinstance" p) [e, .Name "list" p2] [] pos) ρ Y P := we_isi kit_lst hg hm hg2 hm2 (by decide +kernel) (by decide) (by decide) h he
theorem we_isDct {e : Expr} {p p2 pos : Pos} (hg : Gl X "isinstance") (hm : X.mg "isinstance" = none) (hg2 : Gl X "dict") (hm2 : X.mg "dict" = none) (h : WE X e ρ Y fun w ρ1 => ∃ d, w = .val d ∧ d.plain = true ∧ P (.val (.bl d.isDct)) ρ1)
    (he : starEach (e :: [.Name "dict" p2]) X.env = (false, eval e X.env) :: starEach [.Name "dict" p2] X.env := by rfl) : WE X (.Call (.Name "isinstance" p) [e, .Name "dict" p2] [] pos) ρ Y P := we_isi kit_dct hg hm hg2 hm2 (by decide +kernel) (by decide) (by decide) h he
theorem we_isStr {e : Expr} {p p2 pos : Pos} (hg : Gl X "isinstance") (hm : X.mg "isinstance" = none) (hg2 : Gl X "str") (hm2 : X.mg "str" = none) (h : WE X e ρ Y fun w ρ1 => ∃ d, w = .val d ∧ d.plain = true ∧ P (.val (.bl d.isStr)) ρ1)
    (he : starEach (e :: [.Name "str" p2]) X.env = (false, eval e X.env) :: starEach [.Name "str" p2] X.env := by rfl) : WE X (.Call (.Name "isinstance" p) [e, .Name "str" p2] [] pos) ρ Y P := we_isi kit_str hg hm hg2 hm2 (by decide +kernel) (by decide) (by decide) h he
theorem we_isBl {e : Expr} {p p2 pos : Pos} (hg : Gl X "isinstance") (hm : X.mg "isinstance" = none) (hg2 : Gl X "bool") (hm2 : X.mg "bool" = none) (h : WE X e ρ Y fun w ρ1 => ∃ d, w = .val d ∧ d.plain = true ∧ P (.val (.bl d.isBl)) ρ1)
    (he : starEach (e :: [.Name "bool" p2]) X.env = (false, eval e X.env) :: starEach [.Name "bool" p2] X.env := by rfl) : WE X (.Call (.Name "isinstance" p) [e, .Name "bool" p2] [] pos) ρ Y P := we_isi kit_bl hg hm hg2 hm2 (by decide +kernel) (by decide) (by decide) h he
theorem we_isInt {e : Expr} {p p2 pos : Pos} (hg : Gl X "isinstance") (hm : X.mg "isinstance" = none) (hg2 : Gl X "int") (hm2 : X.mg "int" = none) (h : WE X e ρ Y fun w ρ1 => ∃ d, w = .val d ∧ d.plain = true ∧ P (.val (.bl d.isInt)) ρ1)
    (he : starEach (e :: [.Name "int" p2]) X.env = (false, eval e X.env) :: starEach [.Name "int" p2] X.env := by rfl) : WE X (.Call (.Name "isinstance" p) [e, .Name "int" p2] [] pos) ρ Y P := we_isi kit_int hg hm hg2 hm2 (by decide +kernel) (by decide) (by decide) h he
/-- isinstance(e, (tuple, list)) -/
theorem we_isTL {e : Expr} {p p2 p3 pos p4 : Pos} {k4} (hg : Gl X "isinstance") (hm : X.mg "isinstance" = none) (hg2 : Gl X "tuple") (hm2 : X.mg "tuple" = none) (hg3 : Gl X "list") (hm3 : X.mg "list" = none)
    (h : WE X e ρ Y fun w ρ1 => ∃ d, w = .val d ∧ d.plain = true ∧ P (.val (.bl (d.isTup || d.isLst))) ρ1) (he : starEach (e :: [.Tuple [.Name "tuple" p2, .Name "list" p3] k4 p4]) X.env = (false, eval e X.env) :: starEach [.Tuple [.Name "tuple" p2, .Name "list" p3] k4 p4] X.env := by rfl) :
    WE X (.Call (.Name "isinstance" p) [e, .Tuple [.Name "tuple" p2, .Name "list" p3] k4 p4] [] pos) ρ Y P := fun c F H σ R L => by
  refine bst (pe_callB call_isiT hg hm (by decide +kernel) (pa_cons pe_best (pa_cons (pe_tup (pa_cons (pe_bltn (v := .ty "tuple") hg2 hm2 (by decide +kernel) rfl) (pa_cons (pe_bltn (v := .ty "list") hg3 hm3 (by decide +kernel) rfl) pa_nil))) pa_nil) he) (by decide) (by decide) he) ?_
  refine (h.run R L).imp fun v H1 ⟨F1, ρ1, w, _, R1, r1, d, e1, hp, hP⟩ => ?_
  subst e1
  refine ⟨by show 2 ≤ sizeLine; decide, fun q hq => ?_⟩
  have R2 := R1.growH (o := .tup [V.ty "tuple", V.ty "list"]) hq
  refine ⟨v, q, [.ty "tuple", .ty "list"], .type d.ty, [.type "tuple", .type "list"], d.isTup || d.isLst, rfl, upd_same, .cons (.ty _) (.cons (.ty _) .nil), RD.tyx r1 R2.aft.sub hp, ?_, vp R2 (.bl _) hP⟩
  refine kitAny_cons (kit_ty (kit_tup d hp)) (fun e => ?_) (fun e => by rw [e]; rfl)
  rw [e, Bool.false_or]
  refine kitAny_cons (kit_ty (kit_lst d hp)) (fun e => ?_) (fun e => e)
  rw [e]
  exact kitAny_nil

/-! ### raising -/
/-- the module's own exception class -/
structure Exc1 (K : PySem.W.Frag) (mg : Str → Option Value) (x : Str) : Prop where
  ex : ∃ (C : Addr), mg x = some (.ref C) ∧ PySem.W.excIn K C [.type "ValueError", .type "Exception", .type "BaseException", .type "object"] "ValueError.__new__" = true ∧ PySem.W.keepIn K (.ref C) = true ∧ PySem.W.subIn K (.ref C) (.type "BaseException") = some true ∧ PySem.W.typeIn K (.ref C) = some (.type "type")
theorem pmk_own0 {C : Addr} {bmB : List Value} {x : Str} {p pos : Pos} {B newId initId : String} (F : ExcBaseFacts B newId initId bmB) (q : PySem.W.excIn X.K C bmB newId = true) (gC : X.mg x = some (.ref C)) (kC : PySem.W.keepIn X.K (.ref C) = true) (r : Raises X (.ref C)) (hg : Gl X x)
    (hdb : (x == ("__debug__" : Str)) = false := by decide) : PMk X (.Call (.Name x p) [] [] pos) (fun _ H Q => Q (.ref C) none H) := by
  intro pins s σ H Q I h
  refine wpAny_Call_Name_kw (ld_glob I hg gC ?_ hdb)
  refine PySem.W.callWith_K0 I.kIn kC ?_
  show wpAny _ _ (call (.ref C) []) _ _ _
  obtain ⟨bm, N, nm, qn, bs, hdct, sn, sub, ab, col, dd, k0, k1, k2, k3, k5, mN, hC, hN, hni, T⟩ := exc_obj I.kIn q
  refine wpAny_call_exc_subT F T hC hN hni (fun h' e hm => ?_) (by show 0 ≤ sizeLine; rw [sizeLine_eq]; omega)
  exact mk_of I hm r h (I.hok.gone hm.new)
theorem ws_raise {x : Str} {p pos pos' : Pos} (hc : X.calm = true) (E : Exc1 X.K X.mg x) (hg : Gl X x) (h : Y x ρ) (hdb : (x == ("__debug__" : Str)) = false := by decide) : WS X (.Raise (some (.Call (.Name x p) [] [] pos)) none pos') ρ Y T := fun c F H σ nb R L => by
  obtain ⟨C, h1, h2, h3, h4, h5⟩ := E.ex
  refine bstS (ps_raise hc L.1.1 (pmk_own0 PySem.F.excBase_ValueError h2 h1 h3 (raises_own h4 h5) hg hdb)) ?_
  exact L.2 x C F H σ ρ h h1 R
end
end PL

namespace PL
open PySem PySem.Spec PyProof.Rows L2
variable [Hand]
/-! ### what is walked -/
structure IsIt (K : PySem.W.Frag) (mg : Str → Option Value) (c : Cfg) (F0 : Hp) (J : It) (items : List D) : Prop where
  go : ∀ i d F H, items[i]? = some d → Ext F0 F → Aft c F H → J.go i H
  yld : ∀ i d F H v H', items[i]? = some d → Ext F0 F → Aft c F H → J.yld i H v H' → (H' = H ∧ RD K mg F d v) ∨ ∃ p o, H p = none ∧ H' = upd H p o ∧ NoT o ∧ RD K mg (upd F p o) d v
  stop : ∀ F H, Ext F0 F → Aft c F H → J.stop items.length H
section
variable {K : PySem.W.Frag} {mg : Str → Option Value} {c : Cfg} {F0 : Hp}
theorem RDs.none_of {F : Hp} {ds : List D} {vs : List V} (h : RDs K mg F ds vs) {i : Nat} {d : D} (e : ds[i]? = some d) : ∃ v, vs[i]? = some v ∧ RD K mg F d v := h.get e
theorem isIt_list {a : Addr} {xs : List V} {ds : List D} (h : SqL K F0 a xs) (r : RDs K mg F0 ds xs) : IsIt K mg c F0 (Itl K a) ds where
  go := fun i d F H e h1 A => by
    obtain ⟨v, e1, _⟩ := r.get e
    exact ⟨xs, v, sqL_ext A.sub (sqL_ext h1 h), e1⟩
  yld := fun i d F H v H' e h1 A y => by
    obtain ⟨q, k⟩ := y
    obtain ⟨u, e1, r1⟩ := r.get e
    have := k xs (sqL_ext A.sub (sqL_ext h1 h))
    rw [e1] at this
    cases this
    exact .inl ⟨q, r1.ext h1⟩
  stop := fun F H h1 A => ⟨xs, sqL_ext A.sub (sqL_ext h1 h), by rw [r.len]; exact Nat.le_refl _⟩
theorem isIt_tup {a : Addr} {xs : List V} {ds : List D} (h : SqT K F0 a xs) (r : RDs K mg F0 ds xs) : IsIt K mg c F0 (Itt K a) ds where
  go := fun i d F H e h1 A => by
    obtain ⟨v, e1, _⟩ := r.get e
    exact ⟨xs, v, sqT_ext A.sub (sqT_ext h1 h), e1⟩
  yld := fun i d F H v H' e h1 A y => by
    obtain ⟨q, k⟩ := y
    obtain ⟨u, e1, r1⟩ := r.get e
    have := k xs (sqT_ext A.sub (sqT_ext h1 h))
    rw [e1] at this
    cases this
    exact .inl ⟨q, r1.ext h1⟩
  stop := fun F H h1 A => ⟨xs, sqT_ext A.sub (sqT_ext h1 h), by rw [r.len]; exact Nat.le_refl _⟩
theorem isIt_rng {lo : Int} {n : Nat} : IsIt K mg c F0 (Itr lo n) ((List.range n).map fun (k : Nat) => D.int (lo + k)) where
  go := fun i d F H e h1 A => by
    have h := (List.getElem?_eq_some_iff.mp e).1
    rw [List.length_map, List.length_range] at h
    exact h
  yld := fun i d F H v H' e h1 A y => by
    obtain ⟨q, k⟩ := y
    have h := (List.getElem?_eq_some_iff.mp e).1
    rw [List.length_map, List.length_range] at h
    rw [List.getElem?_map, List.getElem?_range h] at e
    cases e
    subst k
    exact .inl ⟨q, .int _⟩
  stop := fun F H h1 A => by
    show n ≤ _
    rw [List.length_map, List.length_range]
    exact Nat.le_refl _
theorem zip_get {ds es : List D} {i : Nat} {d : D} (e : (List.zipWith (fun x y => D.tup [x, y]) ds es)[i]? = some d) : ∃ x y, ds[i]? = some x ∧ es[i]? = some y ∧ d = .tup [x, y] := by
  rw [List.getElem?_zipWith] at e
  cases h1 : ds[i]? with
  | none =>
    rw [h1] at e
    cases e
  | some x =>
    cases h2 : es[i]? with
    | none =>
      rw [h1, h2] at e
      cases e
    | some y =>
      rw [h1, h2] at e
      cases e
      exact ⟨x, y, rfl, rfl, rfl⟩
theorem isIt_zip {a b : Addr} {xs ys : List V} {ds es : List D} (h : SqL K F0 a xs) (r : RDs K mg F0 ds xs) (h' : SqL K F0 b ys) (r' : RDs K mg F0 es ys) : IsIt K mg c F0 (Itz K a b) (List.zipWith (fun x y => D.tup [x, y]) ds es) where
  go := fun i d F H e h1 A => by
    obtain ⟨x, y, e1, e2, _⟩ := zip_get e
    obtain ⟨v, q1, _⟩ := r.get e1
    obtain ⟨u, q2, _⟩ := r'.get e2
    exact ⟨xs, ys, v, u, sqL_ext A.sub (sqL_ext h1 h), sqL_ext A.sub (sqL_ext h1 h'), q1, q2⟩
  yld := fun i d F H v H' e h1 A y => by
    obtain ⟨x, y', e1, e2, rfl⟩ := zip_get e
    obtain ⟨T, z1, z2, rfl, hT, rfl, k1, k2⟩ := y
    obtain ⟨v1, q1, r1⟩ := r.get e1
    obtain ⟨v2, q2, r2⟩ := r'.get e2
    have w1 := k1 xs (sqL_ext A.sub (sqL_ext h1 h))
    rw [q1] at w1
    cases w1
    have w2 := k2 ys (sqL_ext A.sub (sqL_ext h1 h'))
    rw [q2] at w2
    cases w2
    have hF := (A.fresh0 hT).2.2.1
    exact .inr ⟨T, _, hT, rfl, noT_tup _, .tup (.inl (.inl upd_same)) (.cons (r1.ext (h1.trans (.new hF))) (.cons (r2.ext (h1.trans (.new hF))) .nil))⟩
  stop := fun F H h1 A => ⟨xs, ys, sqL_ext A.sub (sqL_ext h1 h), sqL_ext A.sub (sqL_ext h1 h'), by
    rw [List.length_zipWith, r.len, r'.len]
    omega⟩
theorem isIt_zipT {a b : Addr} {xs ys : List V} {ds es : List D} (h : SqT K F0 a xs) (r : RDs K mg F0 ds xs) (h' : SqT K F0 b ys) (r' : RDs K mg F0 es ys) : IsIt K mg c F0 (RZ.ItzT K a b) (List.zipWith (fun x y => D.tup [x, y]) ds es) where
  go := fun i d F H e h1 A => by
    obtain ⟨x, y, e1, e2, _⟩ := zip_get e
    obtain ⟨v, q1, _⟩ := r.get e1
    obtain ⟨u, q2, _⟩ := r'.get e2
    exact ⟨xs, ys, v, u, sqT_ext A.sub (sqT_ext h1 h), sqT_ext A.sub (sqT_ext h1 h'), q1, q2⟩
  yld := fun i d F H v H' e h1 A y => by
    obtain ⟨x, y', e1, e2, rfl⟩ := zip_get e
    obtain ⟨T, z1, z2, rfl, hT, rfl, k1, k2⟩ := y
    obtain ⟨v1, q1, r1⟩ := r.get e1
    obtain ⟨v2, q2, r2⟩ := r'.get e2
    have w1 := k1 xs (sqT_ext A.sub (sqT_ext h1 h))
    rw [q1] at w1
    cases w1
    have w2 := k2 ys (sqT_ext A.sub (sqT_ext h1 h'))
    rw [q2] at w2
    cases w2
    have hF := (A.fresh0 hT).2.2.1
    exact .inr ⟨T, _, hT, rfl, noT_tup _, .tup (.inl (.inl upd_same)) (.cons (r1.ext (h1.trans (.new hF))) (.cons (r2.ext (h1.trans (.new hF))) .nil))⟩
  stop := fun F H h1 A => ⟨xs, ys, sqT_ext A.sub (sqT_ext h1 h), sqT_ext A.sub (sqT_ext h1 h'), by
    rw [List.length_zipWith, r.len, r'.len]
    omega⟩
end
def bI (X : Cx) (tg iter : Expr) : TI := fun σ H R => ∀ pins s, Inv X pins σ H s → wpAny (model X.prog X.w) X.A (eval iter X.env) (fun v s1 => wpAny (model X.prog X.w) X.A (pyIter v) (PIE X pins σ tg R) X.xe s1) X.xe s
theorem pi_best {X : Cx} {tg iter : Expr} : PI X tg iter (bI X tg iter) := ⟨fun pins s σ H R I h => h pins s I⟩
theorem bstI {X : Cx} {tg iter : Expr} {w : TI} {σ : L2.St} {H : Hp} {R : It → Hp → Prop} (h : PI X tg iter w) (q : w σ H R) : bI X tg iter σ H R := fun pins s I => h.run pins s σ H R I q
theorem bI.imp {X : Cx} {tg iter : Expr} {σ : L2.St} {H : Hp} {R R' : It → Hp → Prop} (h : bI X tg iter σ H R) (k : ∀ J H, R J H → R' J H) : bI X tg iter σ H R' := fun pins s I =>
  thn (h pins s I) fun v s1 h1 => thn h1 fun u s2 ⟨it, fp, tn, J, H', e, I', tr, h0, hf, r⟩ => ⟨it, fp, tn, J, H', e, I', tr, h0, hf, k J H' r⟩
def WI (X : Cx) (tg iter : Expr) (ρ : Store) (Y : Str → Store → Prop) (P : List D → Store → Prop) : Prop := ∀ c F H σ, Rel X.K X.mg c F H σ ρ → Lk X c Y →
  bI X tg iter σ H fun J H' => ∃ F' ρ' items, Ext F F' ∧ Rel X.K X.mg c F' H' σ ρ' ∧ IsIt X.K X.mg c F' J items ∧ P items ρ'
section
variable {X : Cx} {ρ : Store} {Y : Str → Store → Prop} {P : List D → Store → Prop} {tg e : Expr}
theorem wi_lst (hc : X.calm = true) (h : WE X e ρ Y fun w ρ1 => ∃ ds, (w = .val (.lst ds) ∨ w = .val (.ro ds)) ∧ P ds ρ1) (hpi : ∀ te, PE X e te → PI X tg e (iList X.K te)) : WI X tg e ρ Y P := fun c F H σ R L => by
  refine bstI (hpi _ pe_best) ?_
  refine (h.run R L).imp fun v H1 ⟨F1, ρ1, w, E1, R1, r1, ds, e1, hP⟩ => ?_
  have r2 : ∃ a xs, v = .ref a ∧ SqL X.K F1 a xs ∧ RDs X.K X.mg F1 ds xs := by
    rcases e1 with rfl | rfl
    · obtain ⟨a, xs, q1, q2, q3⟩ := RD.lst_inv r1
      exact ⟨a, xs, q1, .inl (.inl q2), q3⟩
    · have r1' : RD X.K X.mg F1 (.ro ds) v := r1
      cases r1' with
      | ro h k => exact ⟨_, _, rfl, h, k⟩
  obtain ⟨a, xs, rfl, q2, q3⟩ := r2
  exact ⟨a, rfl, ⟨xs, sqL_ext R1.aft.sub q2⟩, F1, ρ1, ds, E1, R1, isIt_list q2 q3, hP⟩
theorem wi_tup (hc : X.calm = true) (h : WE X e ρ Y fun w ρ1 => ∃ ds, w = .val (.tup ds) ∧ P ds ρ1) (hpi : ∀ te, PE X e te → PI X tg e (iTup X.K te)) : WI X tg e ρ Y P := fun c F H σ R L => by
  refine bstI (hpi _ pe_best) ?_
  refine (h.run R L).imp fun v H1 ⟨F1, ρ1, w, E1, R1, r1, ds, e1, hP⟩ => ?_
  subst e1
  obtain ⟨a, xs, rfl, q2, q3⟩ := RD.tup_inv r1
  exact ⟨a, rfl, ⟨xs, sqT_ext R1.aft.sub q2⟩, F1, ρ1, ds, E1, R1, isIt_tup q2 q3, hP⟩
end
end PL

namespace PL
open PySem PySem.Spec PyProof.Rows L2
variable [Hand]
/-! ### slots set, slots wiped -/
def setS : L2.St → List Nat → List V → L2.St
  | σ, j :: js, v :: vs => setS (σ.set j (some v)) js vs
  | σ, _, _ => σ
def setW : Store → List Nat → List D → Store
  | ρ, j :: js, d :: ds => setW (ρ.set j (some (.val d))) js ds
  | ρ, _, _ => ρ
def wipeW : Store → List Nat → Store
  | ρ, [] => ρ
  | ρ, j :: js => (wipeW ρ js).set j none
section
variable {K : PySem.W.Frag} {mg : Str → Option Value} {c : Cfg} {F H : Hp} {σ : L2.St} {ρ : Store}
theorem Rel.setAll : ∀ {js : List Nat} {ds : List D} {vs : List V} {σ : L2.St} {ρ : Store}, Rel K mg c F H σ ρ → RDs K mg F ds vs → (∀ j ∈ js, j < σ.length) → Rel K mg c F H (setS σ js vs) (setW ρ js ds)
  | [], _, _, _, _, R, _, _ => by
    unfold setS setW
    exact R
  | j :: js, _, _, _, _, R, .nil, _ => by
    unfold setS setW
    exact R
  | j :: js, _, _, _, _, R, .cons h k, hj => by
    unfold setS setW
    refine Rel.setAll (R.setVal (hj j List.mem_cons_self) h) k fun i hi => ?_
    rw [List.length_set]
    exact hj i (List.mem_cons_of_mem _ hi)
theorem Rel.clear1 (R : Rel K mg c F H σ ρ) (j : Nat) : Rel K mg c F H (σ.set j none) (ρ.set j none) := by
  have key : ∀ (i : Nat) (w : W), (ρ.set j none)[i]? = some (some w) → i ≠ j ∧ ρ[i]? = some (some w) := fun i w hi => by
    have hne : i ≠ j := fun e => by
      subst e
      rw [List.getElem?_set] at hi
      split at hi
      · split at hi <;> cases hi
      · rename_i q
        exact absurd rfl q
    rw [List.getElem?_set_ne (Ne.symm hne)] at hi
    exact ⟨hne, hi⟩
  refine ⟨R.aft, fun i w hi => ?_, fun i k ds es v hik h1 h2 h3 h4 => ?_⟩
  · obtain ⟨hne, hi'⟩ := key i w hi
    obtain ⟨a1, v, a2, a3⟩ := R.slot i w hi'
    refine ⟨a1, v, by rw [List.getElem?_set_ne (Ne.symm hne)]; exact a2, ?_⟩
    cases w with
    | loc k => exact absurd rfl (a1 k)
    | _ => exact a3
  · obtain ⟨n1, h1'⟩ := key i _ h1
    obtain ⟨n2, h2'⟩ := key k _ h2
    rw [List.getElem?_set_ne (Ne.symm n1)] at h3
    rw [List.getElem?_set_ne (Ne.symm n2)] at h4
    exact R.apart i k ds es v hik h1' h2' h3 h4
theorem Rel.wipe : ∀ (vs : List Nat), Rel K mg c F H σ ρ → Rel K mg c F H (wipe σ vs) (wipeW ρ vs)
  | [], R => R
  | v :: vs, R => (Rel.wipe vs R).clear1 v
theorem setS_out {i : Nat} : ∀ {js : List Nat} {vs : List V} {σ : L2.St}, i ∉ js → (setS σ js vs)[i]? = σ[i]?
  | [], _, _, _ => by
    unfold setS
    rfl
  | j :: js, [], _, _ => by
    unfold setS
    rfl
  | j :: js, v :: vs, σ, h => by
    unfold setS
    rw [setS_out fun q => h (List.mem_cons_of_mem _ q), List.getElem?_set_ne fun e => h (by rw [e]; exact List.mem_cons_self)]
theorem setW_out {i : Nat} : ∀ {js : List Nat} {ds : List D} {ρ : Store}, i ∉ js → (setW ρ js ds)[i]? = ρ[i]?
  | [], _, _, _ => by
    unfold setW
    rfl
  | j :: js, [], _, _ => by
    unfold setW
    rfl
  | j :: js, v :: vs, σ, h => by
    unfold setW
    rw [setW_out fun q => h (List.mem_cons_of_mem _ q), List.getElem?_set_ne fun e => h (by rw [e]; exact List.mem_cons_self)]
theorem wipe_out' {i : Nat} : ∀ {vs : List Nat}, i ∉ vs → (L2.wipe σ vs)[i]? = σ[i]?
  | [], _ => rfl
  | v :: vs, h => by
    unfold L2.wipe
    rw [List.getElem?_set_ne fun e => h (by rw [e]; exact List.mem_cons_self)]
    exact wipe_out' fun q => h (List.mem_cons_of_mem _ q)
theorem wipeW_out {i : Nat} : ∀ {vs : List Nat}, i ∉ vs → (wipeW ρ vs)[i]? = ρ[i]?
  | [], _ => rfl
  | v :: vs, h => by
    unfold wipeW
    rw [List.getElem?_set_ne fun e => h (by rw [e]; exact List.mem_cons_self)]
    exact wipeW_out fun q => h (List.mem_cons_of_mem _ q)
theorem setS_len : ∀ {js : List Nat} {vs : List V} {σ : L2.St}, (setS σ js vs).length = σ.length
  | [], _, _ => by
    unfold setS
    rfl
  | j :: js, [], _ => by
    unfold setS
    rfl
  | j :: js, v :: vs, σ => by
    unfold setS
    rw [setS_len, List.length_set]
theorem wipe_get (σ : L2.St) : ∀ (vs : List Nat) (i : Nat), (L2.wipe σ vs)[i]? = if i ∈ vs then (σ[i]?).map (fun _ => none) else σ[i]?
  | [], i => by simp [L2.wipe]
  | v :: vs, i => by
    unfold L2.wipe
    rw [List.getElem?_set]
    by_cases h : v = i
    · subst h
      rw [if_pos rfl, if_pos List.mem_cons_self, wipe_length]
      by_cases hl : v < σ.length
      · rw [if_pos hl, List.getElem?_eq_getElem hl]
        rfl
      · rw [if_neg hl, List.getElem?_eq_none (by omega)]
        rfl
    · rw [if_neg h, wipe_get σ vs i]
      have e : (i ∈ v :: vs) ↔ i ∈ vs := by
        rw [List.mem_cons]
        exact ⟨fun q => q.resolve_left (Ne.symm h), .inr⟩
      by_cases hm : i ∈ vs
      · rw [if_pos hm, if_pos (e.mpr hm)]
      · rw [if_neg hm, if_neg fun q => hm (e.mp q)]
/-- what is set is wiped again -/
theorem wipe_set {js : List Nat} {vs : List V} {ws : List Nat} (h : ∀ j ∈ js, j ∈ ws) : L2.wipe (setS (L2.wipe σ ws) js vs) ws = L2.wipe σ ws := by
  apply List.ext_getElem?
  intro i
  rw [wipe_get, wipe_get]
  by_cases hm : i ∈ ws
  · rw [if_pos hm, if_pos hm]
    have hl : (setS (L2.wipe σ ws) js vs).length = σ.length := by rw [setS_len, wipe_length]
    by_cases hi : i < σ.length
    · rw [List.getElem?_eq_getElem (by rw [hl]; exact hi), List.getElem?_eq_getElem hi]
      rfl
    · rw [List.getElem?_eq_none (by rw [hl]; omega), List.getElem?_eq_none (by omega)]
  · rw [if_neg hm, if_neg hm, setS_out fun q => hm (h i q), wipe_out' hm]
end
/-- no slot of these is a list of one's own -/
def notOwn : Option (Option W) → Bool
  | some (some (.own _)) => false
  | _ => true
def freeOwn (ρ : Store) (vs : List Nat) : Prop := (clean ρ && vs.all fun i => notOwn ρ[i]?) = true
theorem freeOwn.cl {ρ : Store} {vs : List Nat} (h : freeOwn ρ vs) : clean ρ = true := (by unfold freeOwn at h; exact Bool.and_eq_true_iff.mp h : _ ∧ _).1
theorem freeOwn.at_ {ρ : Store} {vs : List Nat} (h : freeOwn ρ vs) (i : Nat) (hi : i ∈ vs) (ds : List D) : ρ[i]? ≠ some (some (.own ds)) := fun e => by
  unfold freeOwn at h
  have := List.all_eq_true.mp (Bool.and_eq_true_iff.mp h).2 i hi
  rw [e] at this
  cases this
/-- the cfg within a block: the list that is made is not to be changed -/
def Cfg.blk' (c : Cfg) (F H : Hp) (p : Addr) (xs : List V) : Cfg := { c with F0 := F, N := noTb H, Pr := upd c.Pr p (.lst xs), blk := true, zs := false, W := fun _ _ _ _ => False }
section
variable {K : PySem.W.Frag} {mg : Str → Option Value} {c : Cfg} {F H F2 H2 : Hp} {σ : L2.St} {ρ : Store} {p : Addr} {xs : List V}
theorem Rel.intoBlk (R : Rel K mg c F H σ ρ) (hcl : clean ρ = true) (hp : H p = some (.lst xs)) (f : Fr1 c F H σ ρ p) : Rel K mg (c.blk' F H p xs) F H σ ρ := by
  obtain ⟨f1, f2, f3, f4, f5⟩ := f
  refine ⟨⟨R.aft.sub, .refl F, fun a o e => ?_, fun a o e hn => ?_, fun a o e => .inl e, fun a o e => ⟨o, noTb_some.mp e⟩, (fun q => by cases q), fun q hq => ?_, ⟨R.aft.tb.nF, fun a o e => ?_, R.aft.tb.tabs⟩⟩, fun i w hw => ?_, R.apart⟩
  · have e : upd c.Pr p (.lst xs) a = some o := e
    by_cases h : a = p
    · subst h
      rw [upd_same] at e
      cases e
      exact hp
    · rw [upd_ne h] at e
      exact R.aft.pr a o e
  · show upd c.Pr p (.lst xs) a = some o
    have h1 := R.aft.pr0 a o e hn
    rw [upd_ne (ne_of_none h1 f2)]
    exact h1
  · obtain ⟨a1, a2, a3⟩ := R.aft.hand q hq
    have hne : q ≠ p := fun e => f3 (e ▸ hq)
    exact ⟨a1, by show upd c.Pr p (.lst xs) q = none; rw [upd_ne hne]; exact a2, a3⟩
  · have e : upd c.Pr p (.lst xs) a = some o := e
    by_cases h : a = p
    · subst h
      rw [upd_same] at e
      cases e
      exact noT_lst _
    · rw [upd_ne h] at e
      exact R.aft.tb.nP a o e
  · obtain ⟨a1, v, a2, a3⟩ := R.slot i w hw
    refine ⟨a1, v, a2, ?_⟩
    cases w with
    | own ds =>
      obtain ⟨q, ys, e1, e2, e3, e4, e5, e6⟩ := a3
      subst e1
      have hne : q ≠ p := fun e => by
        subst e
        exact f4 i ds hw a2
      exact ⟨q, ys, rfl, e2, e3, by show upd c.Pr p (.lst xs) q = none; rw [upd_ne hne]; exact e4, e5, e6⟩
    | zip ds es => exact absurd rfl ((clean_at hcl hw).1 ds es)
    | _ => exact a3
/-- back from the block -/
theorem Rel.ofBlk {js vs : List Nat} {ds : List D} {us : List V} (R : Rel K mg c F H σ ρ) (hp : H p = some (.lst xs)) (f : Fr1 c F H σ ρ p) (fo : freeOwn ρ vs) (hj : ∀ j ∈ js, j ∈ vs)
    (R2 : Rel K mg (c.blk' F H p xs) F2 H2 (setS (L2.wipe σ vs) js us) (setW (wipeW ρ vs) js ds)) : Rel K mg c F2 H2 σ ρ ∧ H2 p = some (.lst xs) ∧ Fr1 c F2 H2 σ ρ p ∧ Ext F F2 := by
  obtain ⟨f1, f2, f3, f4, f5⟩ := f
  have E : Ext F F2 := R2.aft.f0
  have hF2 : F2 p = none := by
    cases e : F2 p with
    | none => rfl
    | some o =>
      rcases R2.aft.new p o e with h | h
      · have h : F p = some o := h
        rw [f1] at h
        cases h
      · have h : noTb H p = none := h
        rw [noTb_some.mpr ⟨hp, noT_lst _⟩] at h
        cases h
  have A : Aft c F2 H2 := by
    refine ⟨R2.aft.sub, R.aft.f0.trans E, fun a o e => ?_, R.aft.pr0, fun a o e => ?_, fun a o e => ?_, R.aft.nb, fun q hq => ?_, ⟨R2.aft.tb.nF, R.aft.tb.nP, R2.aft.tb.tabs⟩⟩
    · refine R2.aft.pr a o (show upd c.Pr p (.lst xs) a = some o from ?_)
      rw [upd_ne (ne_of_none e f2)]
      exact e
    · rcases R2.aft.new a o e with h | h
      · exact R.aft.new a o h
      · exact .inr (R.aft.freshN h)
    · obtain ⟨o', q⟩ := R.aft.nn a o e
      exact R2.aft.nn a o' (noTb_some.mpr q)
    · obtain ⟨a1, _, a3⟩ := R2.aft.hand q hq
      obtain ⟨_, b2, _⟩ := R.aft.hand q hq
      exact ⟨a1, b2, a3⟩
  refine ⟨⟨A, fun i w hw => ?_, R.apart⟩, R2.aft.pr p _ (show upd c.Pr p (.lst xs) p = some (.lst xs) from upd_same), ⟨hF2, f2, f3, f4, f5⟩, E⟩
  obtain ⟨a1, v, a2, a3⟩ := R.slot i w hw
  refine ⟨a1, v, a2, ?_⟩
  by_cases hm : i ∈ vs
  · cases w with
    | own ds' => exact absurd hw (fo.at_ i hm ds')
    | val d => exact RD.ext E a3
    | zip ds es => exact absurd rfl ((clean_at fo.cl hw).1 ds es)
    | hown ds => exact absurd rfl ((clean_at fo.cl hw).2 ds)
    | _ => exact a3
  · have e1 : (setW (wipeW ρ vs) js ds)[i]? = some (some w) := by
      rw [setW_out fun q => hm (hj i q), wipeW_out hm]
      exact hw
    have e2 : (setS (L2.wipe σ vs) js us)[i]? = σ[i]? := by rw [setS_out fun q => hm (hj i q), wipe_out' hm]
    obtain ⟨_, u, b2, b3⟩ := R2.slot i w e1
    rw [e2, a2] at b2
    cases b2
    cases w with
    | own ds' =>
      obtain ⟨q, ys, g1, g2, g3, g4, g5, g6⟩ := b3
      subst g1
      have g4' : upd c.Pr p (.lst xs) q = none := g4
      have hne : q ≠ p := fun e => by
        subst e
        rw [upd_same] at g4'
        cases g4'
      rw [upd_ne hne] at g4'
      exact ⟨q, ys, rfl, g2, g3, g4', g5, g6⟩
    | loc k => exact absurd rfl (a1 k)
    | zip ds es => exact absurd rfl ((clean_at fo.cl hw).1 ds es)
    | hown ds => exact absurd rfl ((clean_at fo.cl hw).2 ds)
    | _ => exact b3
end
/-! ### the block's judgements -/
section
variable {X : Cx} {scope : Scope}
abbrev Blk (X : Cx) (s : Shared) (H : Hp) (scope : Scope) (C : Addr) (cl : List (Str × Addr)) (fp : List Addr) : Cx := X.blk s H scope (compEnvC scope cl C X.env) fp
def WEb (X : Cx) (scope : Scope) (e : Expr) (ρ : Store) (P : Po) : Prop := ∀ (s : Shared) (H : Hp) (C : Addr) (cl : List (Str × Addr)) (fp : List Addr), WE (Blk X s H scope C cl fp) e ρ (fun _ _ => False) P
def WTb (X : Cx) (scope : Scope) (e : Expr) (ρ : Store) (P : Pb) : Prop := ∀ (s : Shared) (H : Hp) (C : Addr) (cl : List (Str × Addr)) (fp : List Addr), WT (Blk X s H scope C cl fp) e ρ (fun _ _ => False) P
def bEb (X : Cx) (scope : Scope) (e : Expr) : TE := fun σ H Q => ∀ (s : Shared) (H0 : Hp) (C : Addr) (cl : List (Str × Addr)) (fp : List Addr), bE (Blk X s H0 scope C cl fp) e σ H Q
def bTb (X : Cx) (scope : Scope) (e : Expr) : TT := fun σ H Q => ∀ (s : Shared) (H0 : Hp) (C : Addr) (cl : List (Str × Addr)) (fp : List Addr), bT (Blk X s H0 scope C cl fp) e σ H Q
theorem lk_blk {s : Shared} {H : Hp} {C : Addr} {cl : List (Str × Addr)} {fp : List Addr} {c : Cfg} (hw : c.W = fun _ _ _ _ => False) (hb : c.zs = false) : Lk (Blk X s H scope C cl fp) c (fun _ _ => False) :=
  ⟨⟨by rw [hw]; exact takes0, PassesOwn.never, fun q => by rw [hb] at q; cases q⟩, fun _ _ _ _ _ _ h => h.elim⟩
/-- the meaning of a comprehension's turns: un: what the target is bound to by an item -/
def LcW (un : D → Option (List D)) (cond : List D → (Bool → Prop) → Prop) (elt : List D → (D → Prop) → Prop) : List D → List D → (List D → Prop) → Prop
  | [], acc, K => K acc
  | it :: r, acc, K => ∃ ds, un it = some ds ∧ cond ds fun b => if b = true then elt ds fun d => LcW un cond elt r (acc ++ [d]) K else LcW un cond elt r acc K
/-- the target g at the slots js -/
def Tgt (K : PySem.W.Frag) (mg : Str → Option Value) (g : TG) (js : List Nat) (un : D → Option (List D)) : Prop :=
  ∀ (F H : Hp) (d : D) (ds : List D) (v : V) (σ : L2.St) (Q : L2.St → Hp → Prop), Ext F H → RD K mg F d v → un d = some ds → (∀ vs, RDs K mg F ds vs → Q (setS σ js vs) H) → g v σ H Q
def un1 (d : D) : Option (List D) := some [d]
def un2 : D → Option (List D)
  | .tup [a, b] => some [a, b]
  | _ => none
theorem tgt1 {K : PySem.W.Frag} {mg : Str → Option Value} {j : Nat} : Tgt K mg (gName j) [j] un1 := fun F H d ds v σ Q e r h k => by
  cases h
  exact k [v] (.cons r .nil)
theorem tgt2 {K : PySem.W.Frag} {mg : Str → Option Value} {i j : Nat} : Tgt K mg (gTup K 2 (gCons (gName i) (gCons (gName j) gNil))) [i, j] un2 := fun F H d ds v σ Q e r h k => by
  unfold un2 at h
  split at h
  · cases h
    obtain ⟨a, x, y, rfl, q1, q2, q3⟩ := RD.tup2 r
    exact ⟨a, [x, y], rfl, sqT_ext e q1, rfl, x, [y], rfl, y, [], rfl, rfl, k [x, y] (.cons q2 (.cons q3 .nil))⟩
  · cases h
end
end PL

namespace PL
open PySem PySem.Spec PyProof.Rows L2
variable [Hand]
section
variable {X : Cx} {ρ : Store} {Y : Str → Store → Prop} {P : Po} {T : Pst}
/-- the tests of a comprehension: none, or one -/
def condN (ρb : List D → Store) : List D → (Bool → Prop) → Prop := fun _ K => K true
def condC (X : Cx) (scope : Scope) (ρb : List D → Store) (t : Expr) : List D → (Bool → Prop) → Prop := fun ds K => WTb X scope t (ρb ds) fun b ρ2 => ρ2 = ρb ds ∧ K b
def eltE (X : Cx) (scope : Scope) (ρb : List D → Store) (e : Expr) : List D → (D → Prop) → Prop := fun ds K => WEb X scope e (ρb ds) fun w ρ2 => ρ2 = ρb ds ∧ ∃ d, w = .val d ∧ K d
def FreshP (X : Cx) (c : Cfg) (F0 : Hp) (σ : L2.St) (P : List D → Store → Prop) : VK := fun v H' => ∃ F' ρ' p xs ds, v = .ref p ∧ H' p = some (.lst xs) ∧ Fr1 c F' H' σ ρ' p ∧ Ext F0 F' ∧ Rel X.K X.mg c F' H' σ ρ' ∧ RDs X.K X.mg F' ds xs ∧ P ds ρ'
theorem Rel.writeFr {K : PySem.W.Frag} {mg : Str → Option Value} {c : Cfg} {F H : Hp} {σ : L2.St} {ρ : Store} {p : Addr} {o u0 : HO} (R : Rel K mg c F H σ ρ) (ho : NoT o) (hp0 : H p = some u0) (hu0 : PlainO u0) (f : Fr1 c F H σ ρ p) : Rel K mg c F (upd H p o) σ ρ := by
  obtain ⟨f1, f2, f3, f4, f5⟩ := f
  refine ⟨R.aft.write ho hp0 hu0 f1 f2 f3, fun i w hw => ?_, R.apart⟩
  obtain ⟨a1, v, a2, a3⟩ := R.slot i w hw
  refine ⟨a1, v, a2, ?_⟩
  cases w with
  | own ds =>
    obtain ⟨q, ys, e1, e2, e3⟩ := a3
    subst e1
    have hne : q ≠ p := fun e => by
      subst e
      exact f4 i ds hw a2
    exact ⟨q, ys, rfl, by rw [upd_ne hne]; exact e2, e3⟩
  | zip _ _ => exact ZipR.upd1 a3 hp0 hu0
  | hown ds' =>
    obtain ⟨p', xs', g1, e', b1, b5⟩ := a3
    have hne : p' ≠ p := fun e => f3 (e ▸ g1)
    exact ⟨p', xs', g1, e', by rw [upd_ne hne]; exact b1, b5⟩
  | _ => exact a3
/-- the reading of a comprehension, whatever its test -/
theorem lc_run {tg iter : Expr} {scope : Scope} {vs js : List Nat} {g : TG} {un : D → Option (List D)} {elt : Expr} {tt : TT} {cond : Store → List D → (Bool → Prop) → Prop} {P : List D → Store → Prop} {c : Cfg} {F H : Hp} {σ : L2.St}
    (hg : Tgt X.K X.mg g js un) (hj : ∀ j ∈ js, j ∈ vs) (hl : ∀ j ∈ js, j < σ.length)
    (ht : ∀ (c : Cfg) (F H : Hp) (σ : L2.St) (ρb : Store) (ds : List D) (K : Bool → Prop), c.W = (fun _ _ _ _ => False) → c.zs = false → Rel X.K X.mg c F H σ (setW (wipeW ρb vs) js ds) → cond ρb ds K → ∀ Q : Bool → Hp → Prop, (∀ b H' F', Rel X.K X.mg c F' H' σ (setW (wipeW ρb vs) js ds) → K b → Q b H') → tt σ H Q)
    (h : WI X tg iter ρ Y fun items ρ1 => items.length ≤ 40000 ∧ freeOwn ρ1 vs ∧ LcW un (cond ρ1) (eltE X scope (fun ds => setW (wipeW ρ1 vs) js ds) elt) items [] fun ds => P ds ρ1) (R : Rel X.K X.mg c F H σ ρ) (L : Lk X c Y) {Q : VK} (hq : ∀ v H', FreshP X c F σ P v H' → Q v H') :
    tLc (bI X tg iter) g tt (bEb X scope elt) vs σ H Q := by
  refine bI.imp (h c F H σ R L) fun J H1 ⟨F1, ρ1, items, E1, R1, it, hz, fo, hL⟩ => ?_
  intro p hp
  refine ⟨fun i m H' => m = items.length - i ∧ i ≤ items.length ∧ ∃ F' acc xs, Ext F1 F' ∧ Rel X.K X.mg c F' H' σ ρ1 ∧ H' p = some (.lst xs) ∧ Fr1 c F' H' σ ρ1 p ∧ RDs X.K X.mg F' acc xs ∧ acc.length ≤ i ∧ LcW un (cond ρ1) (eltE X scope (fun ds => setW (wipeW ρ1 vs) js ds) elt) (items.drop i) acc fun ds => P ds ρ1,
    ⟨items.length, by simp, Nat.zero_le _, F1, [], [], .refl F1, R1.growH hp, upd_same, fr1_new R1 hp, .nil, Nat.le_refl _, hL⟩, ?_⟩
  rintro i m H' ⟨rfl, hi, F', acc, xs, E2, R2, h2, f2, k2, ha, hL2⟩
  by_cases hlt : i < items.length
  · refine .inr ⟨it.go i items[i] F' H' (by simp [hlt]) E2 R2.aft, fun H3 => ∃ F3 acc3 xs3, Ext F1 F3 ∧ Rel X.K X.mg c F3 H3 σ ρ1 ∧ H3 p = some (.lst xs3) ∧ Fr1 c F3 H3 σ ρ1 p ∧ RDs X.K X.mg F3 acc3 xs3 ∧ acc3.length ≤ i + 1 ∧ LcW un (cond ρ1) (eltE X scope (fun ds => setW (wipeW ρ1 vs) js ds) elt) (items.drop (i + 1)) acc3 fun ds => P ds ρ1,
      fun H3 q => ⟨items.length - (i + 1), by omega, rfl, hlt, q⟩, fun v H3 y => ?_⟩
    rw [List.drop_eq_getElem_cons hlt] at hL2
    obtain ⟨ds, hun, hc⟩ := hL2
    -- the item
    have item : ∃ F3, Ext F' F3 ∧ Rel X.K X.mg c F3 H3 σ ρ1 ∧ H3 p = some (.lst xs) ∧ Fr1 c F3 H3 σ ρ1 p ∧ RD X.K X.mg F3 items[i] v := by
      rcases it.yld i items[i] F' H' v H3 (by simp [hlt]) E2 R2.aft y with ⟨rfl, r⟩ | ⟨q, o, hq, rfl, hno, r⟩
      · exact ⟨F', .refl F', R2, h2, f2, r⟩
      · have hne : p ≠ q := ne_of_none h2 hq
        obtain ⟨g1, g2, g3, g4, g5⟩ := f2
        exact ⟨upd F' q o, .new (R2.aft.fresh0 hq).2.2.1, R2.grow hq hno, by rw [upd_ne hne]; exact h2, ⟨by rw [upd_ne hne]; exact g1, g2, g3, g4, g5⟩, r⟩
    obtain ⟨F3, E3, R3, h3, f3, r3⟩ := item
    have Rb := (R3.intoBlk fo.cl h3 f3).wipe vs
    refine hg F3 H3 items[i] ds v (L2.wipe σ vs) _ R3.aft.sub r3 hun fun us ku => ⟨wipe_set hj, ?_⟩
    have Rb2 := Rb.setAll (js := js) ku fun j hjm => by rw [wipe_length]; exact hl j hjm
    refine ht (c.blk' F3 H3 p xs) F3 H3 _ ρ1 ds _ rfl rfl Rb2 hc _ fun b H4 F4 R4 kb => ?_
    cases b with
    | true =>
      have kb : eltE X scope (fun ds => setW (wipeW ρ1 vs) js ds) elt ds _ := kb
      intro s0 H0 C cl fp
      refine bE.imp (kb s0 H0 C cl fp (c.blk' F3 H3 p xs) F4 H4 _ R4 (lk_blk rfl rfl)) fun y H5 ⟨F5, ρ5, w, R5, r5, e5, d, e6, kd⟩ => ?_
      subst e5 e6
      obtain ⟨R6, h6, f6, E6⟩ := R3.ofBlk h3 f3 fo hj R5
      refine ⟨xs, h6, ?_, F5, acc ++ [d], xs ++ [y], (E2.trans E3).trans E6, ?_, upd_same, ?_, ?_, by rw [List.length_append]; simp; omega, kd⟩
      · rw [k2.len]
        exact Evl.sz_lt (by omega)
      · exact R6.writeFr (noT_lst _) h6 (plain_lst _) f6
      · exact f6
      · exact (k2.ext (E3.trans E6)).append (.cons r5 .nil)
    | false =>
      obtain ⟨R6, h6, f6, E6⟩ := R3.ofBlk h3 f3 fo hj R4
      exact ⟨F4, acc, xs, (E2.trans E3).trans E6, R6, h6, f6, k2.ext (E3.trans E6), by omega, kb⟩
  · have e : i = items.length := by omega
    subst e
    rw [List.drop_length] at hL2
    exact .inl ⟨it.stop F' H' E2 R2.aft, hq _ _ ⟨F', ρ1, p, xs, acc, rfl, h2, f2, E1.trans E2, R2, k2, hL2⟩⟩

theorem ht_none {vs js : List Nat} (c : Cfg) (F H : Hp) (σ : L2.St) (ρb : Store) (ds : List D) (K : Bool → Prop) (_ : c.W = (fun _ _ _ _ => False)) (_ : c.zs = false) (R : Rel X.K X.mg c F H σ (setW (wipeW ρb vs) js ds)) (h : condN (fun ds => setW (wipeW ρb vs) js ds) ds K)
    (Q : Bool → Hp → Prop) (k : ∀ b H' F', Rel X.K X.mg c F' H' σ (setW (wipeW ρb vs) js ds) → K b → Q b H') : tYes σ H Q := k true H F R h
theorem ht_one {scope : Scope} {t : Expr} {vs js : List Nat} (c : Cfg) (F H : Hp) (σ : L2.St) (ρb : Store) (ds : List D) (K : Bool → Prop) (hw : c.W = (fun _ _ _ _ => False)) (hbk : c.zs = false) (R : Rel X.K X.mg c F H σ (setW (wipeW ρb vs) js ds)) (h : condC X scope (fun ds => setW (wipeW ρb vs) js ds) t ds K)
    (Q : Bool → Hp → Prop) (k : ∀ b H' F', Rel X.K X.mg c F' H' σ (setW (wipeW ρb vs) js ds) → K b → Q b H') : bTb X scope t σ H Q := fun s0 H0 C cl fp =>
  bT.imp (h s0 H0 C cl fp c F H σ R (lk_blk hw hbk)) fun b H' ⟨F', ρ', R', e, kb⟩ => by
    subst e
    exact k b H' F' R' kb
theorem Aft.freezeN {c : Cfg} {F H : Hp} (A : Aft c F H) {p : Addr} {o : HO} (ho : NoT o) (hp : H p = some o) (hf : F p = none) (hd : c.hd ≠ some p) (hN : c.N p = none) : Aft c (upd F p o) H := by
  refine ⟨fun a u e => ?_, A.f0.trans (.new hf), A.pr, A.pr0, fun a u e => ?_, A.nn, A.nb, fun q hq => ?_, A.tb.freeze ho⟩
  · by_cases h : a = p
    · subst h
      rw [upd_same] at e
      cases e
      exact hp
    · rw [upd_ne h] at e
      exact A.sub a u e
  · by_cases h : a = p
    · subst h
      exact .inr hN
    · rw [upd_ne h] at e
      exact A.new a u e
  · obtain ⟨a1, a5, u, a3, a4⟩ := A.hand q hq
    have hne : q ≠ p := fun e => by
      subst e
      exact hd hq
    exact ⟨by rw [upd_ne hne]; exact a1, a5, u, a3, Hand.mono _ _ _ (.new hf) a4⟩
theorem Rel.freezeFr {K : PySem.W.Frag} {mg : Str → Option Value} {c : Cfg} {F H : Hp} {σ : L2.St} {ρ : Store} {p : Addr} {o : HO} (R : Rel K mg c F H σ ρ) (ho : PlainO o) (hp : H p = some o) (f : Fr1 c F H σ ρ p) : Rel K mg c (upd F p o) H σ ρ := by
  obtain ⟨f1, f2, f3, f4, f5⟩ := f
  refine ⟨R.aft.freezeN ho.1 hp f1 f3 f5, fun i w hw => ?_, R.apart⟩
  obtain ⟨a1, v, a2, a3⟩ := R.slot i w hw
  refine ⟨a1, v, a2, ?_⟩
  cases w with
  | own ds =>
    obtain ⟨q, ys, e1, e2, e3, e4, e5, e6⟩ := a3
    subst e1
    have hne : q ≠ p := fun e => by
      subst e
      exact f4 i ds hw a2
    exact ⟨q, ys, rfl, e2, by rw [upd_ne hne]; exact e3, e4, e5, e6.ext (.new f1)⟩
  | zip ds es =>
    obtain ⟨z, TI, TO, i1, i2, a, b, xs, ys, e1, e2, ⟨x1, x2, x3, x4, x5⟩, r1, r2, r3, r4⟩ := a3
    have k : ∀ {q : Addr} {φ : Heap → Prop}, XO c F H q φ → XO c (upd F p o) H q φ := fun {q φ} ⟨h1, h2, h3, h4, h5⟩ => by
      have hne : q ≠ p := fun e => by
        rw [e, hp] at h1
        exact ho.2 _ (Option.some.inj h1)
      exact ⟨h1, by rw [upd_ne hne]; exact h2, h3, h4, h5⟩
    exact ⟨z, TI, TO, i1, i2, a, b, xs, ys, e1, e2, ⟨k x1, k x2, k x3, k x4, k x5⟩, sqL_ext (.new f1) r1, r2.ext (.new f1), sqL_ext (.new f1) r3, r4.ext (.new f1)⟩
  | hown ds' =>
    obtain ⟨p', xs', g1, e', b1, b5⟩ := a3
    exact ⟨p', xs', g1, e', b1, b5.ext (.new f1)⟩
  | val d => exact RD.ext (.new f1) a3
  | _ => exact a3
/-- frozen -/
theorem FreshP.vp {c : Cfg} {F0 : Hp} {σ : L2.St} {v : V} {H : Hp} {P : List D → Store → Prop} {P' : Po} (h : FreshP X c F0 σ P v H) (k : ∀ ds ρ, P ds ρ → P' (.val (.lst ds)) ρ) : VP X.K X.mg c σ P' v H := by
  obtain ⟨F', ρ', p, xs, ds, rfl, h1, f, E, R, r, hP⟩ := h
  exact ⟨upd F' p (.lst xs), ρ', .val (.lst ds), R.freezeFr (plain_lst _) h1 f, .lst upd_same (r.ext (.new f.1)), k ds ρ' hP⟩
/-- [elt for tg in iter] -/
theorem we_lc {tg iter elt : Expr} {scope : Scope} {own : List (Str × Nat)} {js : List Nat} {g : TG} {un : D → Option (List D)} {pos : Pos} (hc : X.calm = true) (hN : X.N.Nodup) (ok : BlkOk X.N X.env.scope scope own)
    (hpg : ∀ (s : Shared) (H : Hp) (C : Addr) (cl : List (Str × Addr)) (fp : List Addr), PG (X.blk s H scope (compEnvC scope cl C X.env) fp) tg g) (hg : Tgt X.K X.mg g js un) (hj : ∀ j ∈ js, j ∈ own.map (·.2)) (hl : ∀ j ∈ js, j < X.N.length)
    (h : WI X tg iter ρ Y fun items ρ1 => items.length ≤ 40000 ∧ freeOwn ρ1 (own.map (·.2)) ∧ LcW un (condN (fun ds => setW (wipeW ρ1 (own.map (·.2))) js ds)) (eltE X scope (fun ds => setW (wipeW ρ1 (own.map (·.2))) js ds) elt) items [] fun ds => P (.val (.lst ds)) ρ1)
    (hs : ∀ x, foldedSetIterable iter X.env x = pure x := by intro _; rfl) : WE X (.ListComp elt [⟨tg, iter, [], 0⟩] scope pos) ρ Y P := fun c F H σ R L => bE.inv fun hlen => by
  refine bst (pe_lc (te := bEb X scope elt) hc hN pi_best ok hpg (fun s H C cl fp => pts_nil) (fun s H C cl fp => ⟨fun pins s' σ' H' Q I h => h s H C cl fp pins s' I⟩) hs) ?_
  exact lc_run (P := fun ds ρ1 => P (.val (.lst ds)) ρ1) (vs := own.map (·.2)) hg hj (fun j hj => by rw [hlen]; exact hl j hj) (fun c F H σ ρb ds K => ht_none c F H σ ρb ds K) h R L fun v H' q => q.vp fun ds ρ hP => hP
theorem we_lcIf {tg iter elt : Expr} {t : Expr} {scope : Scope} {own : List (Str × Nat)} {js : List Nat} {g : TG} {un : D → Option (List D)} {pos : Pos} (hc : X.calm = true) (hN : X.N.Nodup) (ok : BlkOk X.N X.env.scope scope own)
    (hpg : ∀ (s : Shared) (H : Hp) (C : Addr) (cl : List (Str × Addr)) (fp : List Addr), PG (X.blk s H scope (compEnvC scope cl C X.env) fp) tg g) (hg : Tgt X.K X.mg g js un) (hj : ∀ j ∈ js, j ∈ own.map (·.2)) (hl : ∀ j ∈ js, j < X.N.length)
    (h : WI X tg iter ρ Y fun items ρ1 => items.length ≤ 40000 ∧ freeOwn ρ1 (own.map (·.2)) ∧ LcW un (condC X scope (fun ds => setW (wipeW ρ1 (own.map (·.2))) js ds) t) (eltE X scope (fun ds => setW (wipeW ρ1 (own.map (·.2))) js ds) elt) items [] fun ds => P (.val (.lst ds)) ρ1)
    (hs : ∀ x, foldedSetIterable iter X.env x = pure x := by intro _; rfl) : WE X (.ListComp elt [⟨tg, iter, [t], 0⟩] scope pos) ρ Y P := fun c F H σ R L => bE.inv fun hlen => by
  refine bst (pe_lc (te := bEb X scope elt) (tt := bTb X scope t) hc hN pi_best ok hpg (fun s H C cl fp => pts_one ⟨fun pins s' σ' H' Q I h => h s H C cl fp pins s' I⟩) (fun s H C cl fp => ⟨fun pins s' σ' H' Q I h => h s H C cl fp pins s' I⟩) hs) ?_
  exact lc_run (P := fun ds ρ1 => P (.val (.lst ds)) ρ1) (vs := own.map (·.2)) hg hj (fun j hj => by rw [hlen]; exact hl j hj) (fun c F H σ ρb ds K => ht_one c F H σ ρb ds K) h R L fun v H' q => q.vp fun ds ρ hP => hP
theorem ws_lc (i : Nat) {y : Str} {py spos : Pos} {tg iter elt : Expr} {scope : Scope} {own : List (Str × Nat)} {js : List Nat} {g : TG} {un : D → Option (List D)} {pos : Pos} (hy : X.N[i]? = some y) (hyl : X.env.scope.names.lookup y = some .local) (hc : X.calm = true) (hN : X.N.Nodup) (ok : BlkOk X.N X.env.scope scope own)
    (hpg : ∀ (s : Shared) (H : Hp) (C : Addr) (cl : List (Str × Addr)) (fp : List Addr), PG (X.blk s H scope (compEnvC scope cl C X.env) fp) tg g) (hg : Tgt X.K X.mg g js un) (hj : ∀ j ∈ js, j ∈ own.map (·.2)) (hl : ∀ j ∈ js, j < X.N.length)
    (h : WI X tg iter ρ Y fun items ρ1 => items.length ≤ 40000 ∧ freeOwn ρ1 (own.map (·.2)) ∧ LcW un (condN (fun ds => setW (wipeW ρ1 (own.map (·.2))) js ds)) (eltE X scope (fun ds => setW (wipeW ρ1 (own.map (·.2))) js ds) elt) items [] fun ds => T.nx (ρ1.set i (some (.val (.lst ds)))))
    (hsw : swapsWith (.ListComp elt [⟨tg, iter, [], 0⟩] scope pos) (some (.Name y py)) spos.line X.env = pure true)
    (hs : ∀ x, foldedSetIterable iter X.env x = pure x := by intro _; rfl) : WS X (.Assign [.Name y py] (.ListComp elt [⟨tg, iter, [], 0⟩] scope pos) spos) ρ Y T := fun c F H σ nb R L => bS.inv fun hlen => by
  refine bstS (ps_setLc (te := bEb X scope elt) hc hN hy hyl hsw pi_best ok hpg (fun s H C cl fp => pts_nil) (fun s H C cl fp => ⟨fun pins s' σ' H' Q I h => h s H C cl fp pins s' I⟩) hs) ?_
  refine lc_run (P := fun ds ρ1 => T.nx (ρ1.set i (some (.val (.lst ds))))) (vs := own.map (·.2)) hg hj (fun j hj => by rw [hlen]; exact hl j hj) (fun c F H σ ρb ds K => ht_none c F H σ ρb ds K) h R L fun v H' q => ?_
  obtain ⟨F', ρ', w, R', r', d, e, hP⟩ := q.vp (P' := fun w ρ => ∃ d, w = .val (.lst d) ∧ T.nx (ρ.set i (some (.val (.lst d))))) fun ds ρ hP => ⟨ds, rfl, hP⟩
  subst e
  exact ⟨F', _, R'.setVal (by rw [hlen]; exact lt_of_ix hy) r', hP⟩
theorem ws_lcIf (i : Nat) {y : Str} {py spos : Pos} {tg iter elt : Expr} {t : Expr} {scope : Scope} {own : List (Str × Nat)} {js : List Nat} {g : TG} {un : D → Option (List D)} {pos : Pos} (hy : X.N[i]? = some y) (hyl : X.env.scope.names.lookup y = some .local) (hc : X.calm = true) (hN : X.N.Nodup) (ok : BlkOk X.N X.env.scope scope own)
    (hpg : ∀ (s : Shared) (H : Hp) (C : Addr) (cl : List (Str × Addr)) (fp : List Addr), PG (X.blk s H scope (compEnvC scope cl C X.env) fp) tg g) (hg : Tgt X.K X.mg g js un) (hj : ∀ j ∈ js, j ∈ own.map (·.2)) (hl : ∀ j ∈ js, j < X.N.length)
    (h : WI X tg iter ρ Y fun items ρ1 => items.length ≤ 40000 ∧ freeOwn ρ1 (own.map (·.2)) ∧ LcW un (condC X scope (fun ds => setW (wipeW ρ1 (own.map (·.2))) js ds) t) (eltE X scope (fun ds => setW (wipeW ρ1 (own.map (·.2))) js ds) elt) items [] fun ds => T.nx (ρ1.set i (some (.val (.lst ds)))))
    (hsw : swapsWith (.ListComp elt [⟨tg, iter, [t], 0⟩] scope pos) (some (.Name y py)) spos.line X.env = pure true)
    (hs : ∀ x, foldedSetIterable iter X.env x = pure x := by intro _; rfl) : WS X (.Assign [.Name y py] (.ListComp elt [⟨tg, iter, [t], 0⟩] scope pos) spos) ρ Y T := fun c F H σ nb R L => bS.inv fun hlen => by
  refine bstS (ps_setLc (te := bEb X scope elt) (tt := bTb X scope t) hc hN hy hyl hsw pi_best ok hpg (fun s H C cl fp => pts_one ⟨fun pins s' σ' H' Q I h => h s H C cl fp pins s' I⟩) (fun s H C cl fp => ⟨fun pins s' σ' H' Q I h => h s H C cl fp pins s' I⟩) hs) ?_
  refine lc_run (P := fun ds ρ1 => T.nx (ρ1.set i (some (.val (.lst ds))))) (vs := own.map (·.2)) hg hj (fun j hj => by rw [hlen]; exact hl j hj) (fun c F H σ ρb ds K => ht_one c F H σ ρb ds K) h R L fun v H' q => ?_
  obtain ⟨F', ρ', w, R', r', d, e, hP⟩ := q.vp (P' := fun w ρ => ∃ d, w = .val (.lst d) ∧ T.nx (ρ.set i (some (.val (.lst d))))) fun ds ρ hP => ⟨ds, rfl, hP⟩
  subst e
  exact ⟨F', _, R'.setVal (by rw [hlen]; exact lt_of_ix hy) r', hP⟩
theorem ws_lcO (i : Nat) {y : Str} {py spos : Pos} {tg iter elt : Expr} {scope : Scope} {own : List (Str × Nat)} {js : List Nat} {g : TG} {un : D → Option (List D)} {pos : Pos} (hy : X.N[i]? = some y) (hyl : X.env.scope.names.lookup y = some .local) (hc : X.calm = true) (hN : X.N.Nodup) (ok : BlkOk X.N X.env.scope scope own)
    (hpg : ∀ (s : Shared) (H : Hp) (C : Addr) (cl : List (Str × Addr)) (fp : List Addr), PG (X.blk s H scope (compEnvC scope cl C X.env) fp) tg g) (hg : Tgt X.K X.mg g js un) (hj : ∀ j ∈ js, j ∈ own.map (·.2)) (hl : ∀ j ∈ js, j < X.N.length)
    (h : WI X tg iter ρ Y fun items ρ1 => items.length ≤ 40000 ∧ freeOwn ρ1 (own.map (·.2)) ∧ LcW un (condN (fun ds => setW (wipeW ρ1 (own.map (·.2))) js ds)) (eltE X scope (fun ds => setW (wipeW ρ1 (own.map (·.2))) js ds) elt) items [] fun ds => T.nx (ρ1.set i (some (.own ds))))
    (hsw : swapsWith (.ListComp elt [⟨tg, iter, [], 0⟩] scope pos) (some (.Name y py)) spos.line X.env = pure true)
    (hs : ∀ x, foldedSetIterable iter X.env x = pure x := by intro _; rfl) : WS X (.Assign [.Name y py] (.ListComp elt [⟨tg, iter, [], 0⟩] scope pos) spos) ρ Y T := fun c F H σ nb R L => bS.inv fun hlen => by
  refine bstS (ps_setLc (te := bEb X scope elt) hc hN hy hyl hsw pi_best ok hpg (fun s H C cl fp => pts_nil) (fun s H C cl fp => ⟨fun pins s' σ' H' Q I h => h s H C cl fp pins s' I⟩) hs) ?_
  refine lc_run (P := fun ds ρ1 => T.nx (ρ1.set i (some (.own ds)))) (vs := own.map (·.2)) hg hj (fun j hj => by rw [hlen]; exact hl j hj) (fun c F H σ ρb ds K => ht_none c F H σ ρb ds K) h R L fun v H' q => ?_
  obtain ⟨F', ρ', p, xs, ds, rfl, h1, f, E, R', r, hP⟩ := q
  exact ⟨F', _, R'.setOwn (by rw [hlen]; exact lt_of_ix hy) h1 f r, hP⟩
theorem ws_lcOIf (i : Nat) {y : Str} {py spos : Pos} {tg iter elt : Expr} {t : Expr} {scope : Scope} {own : List (Str × Nat)} {js : List Nat} {g : TG} {un : D → Option (List D)} {pos : Pos} (hy : X.N[i]? = some y) (hyl : X.env.scope.names.lookup y = some .local) (hc : X.calm = true) (hN : X.N.Nodup) (ok : BlkOk X.N X.env.scope scope own)
    (hpg : ∀ (s : Shared) (H : Hp) (C : Addr) (cl : List (Str × Addr)) (fp : List Addr), PG (X.blk s H scope (compEnvC scope cl C X.env) fp) tg g) (hg : Tgt X.K X.mg g js un) (hj : ∀ j ∈ js, j ∈ own.map (·.2)) (hl : ∀ j ∈ js, j < X.N.length)
    (h : WI X tg iter ρ Y fun items ρ1 => items.length ≤ 40000 ∧ freeOwn ρ1 (own.map (·.2)) ∧ LcW un (condC X scope (fun ds => setW (wipeW ρ1 (own.map (·.2))) js ds) t) (eltE X scope (fun ds => setW (wipeW ρ1 (own.map (·.2))) js ds) elt) items [] fun ds => T.nx (ρ1.set i (some (.own ds))))
    (hsw : swapsWith (.ListComp elt [⟨tg, iter, [t], 0⟩] scope pos) (some (.Name y py)) spos.line X.env = pure true)
    (hs : ∀ x, foldedSetIterable iter X.env x = pure x := by intro _; rfl) : WS X (.Assign [.Name y py] (.ListComp elt [⟨tg, iter, [t], 0⟩] scope pos) spos) ρ Y T := fun c F H σ nb R L => bS.inv fun hlen => by
  refine bstS (ps_setLc (te := bEb X scope elt) (tt := bTb X scope t) hc hN hy hyl hsw pi_best ok hpg (fun s H C cl fp => pts_one ⟨fun pins s' σ' H' Q I h => h s H C cl fp pins s' I⟩) (fun s H C cl fp => ⟨fun pins s' σ' H' Q I h => h s H C cl fp pins s' I⟩) hs) ?_
  refine lc_run (P := fun ds ρ1 => T.nx (ρ1.set i (some (.own ds)))) (vs := own.map (·.2)) hg hj (fun j hj => by rw [hlen]; exact hl j hj) (fun c F H σ ρb ds K => ht_one c F H σ ρb ds K) h R L fun v H' q => ?_
  obtain ⟨F', ρ', p, xs, ds, rfl, h1, f, E, R', r, hP⟩ := q
  exact ⟨F', _, R'.setOwn (by rw [hlen]; exact lt_of_ix hy) h1 f r, hP⟩
end
end PL

namespace PL
open PySem PySem.Spec PyProof.Rows L2
variable [Hand]
section
variable {X : Cx} {ρ : Store} {Y : Str → Store → Prop} {P : Po} {T : Pst}

/-! ### for -/
theorem bB.impI {st : List Stmt} {σ : L2.St} {H : Hp} {D D' : Ends} (h : bB X st D σ H) (h1 : ∀ σ H, σ.length = X.N.length → D.nx σ H → D'.nx σ H) (h2 : ∀ v H, D.rt v H → D'.rt v H) (h3 : ∀ σ H, D.bk σ H → D'.bk σ H) (h4 : ∀ σ H, σ.length = X.N.length → D.ct σ H → D'.ct σ H) : bB X st D' σ H := fun pins s I =>
  thn (h pins s I) fun f s1 q => by
    cases f with
    | next =>
      obtain ⟨σ', H', I', q⟩ := q
      exact ⟨σ', H', I', h1 _ _ I'.len q⟩
    | brk =>
      obtain ⟨σ', H', I', q⟩ := q
      exact ⟨σ', H', I', h3 _ _ q⟩
    | cont =>
      obtain ⟨σ', H', I', q⟩ := q
      exact ⟨σ', H', I', h4 _ _ I'.len q⟩
    | ret u =>
      obtain ⟨v, σ', H', I', r, q⟩ := q
      exact ⟨v, σ', H', I', r, h2 _ _ q⟩
theorem ws_for {tg iter : Expr} {body : List Stmt} {pos : Pos} {js : List Nat} {g : TG} {un : D → Option (List D)} (hc : X.calm = true) (hpg : PG X tg g) (hg : Tgt X.K X.mg g js un) (hl : ∀ j ∈ js, j < X.N.length)
    (h : WI X tg iter ρ Y fun items ρ1 => ∃ J : Nat → Store → Prop, J 0 ρ1 ∧ (∀ i d ρ2, items[i]? = some d → J i ρ2 → ∃ ds, un d = some ds ∧ WB X body (setW ρ2 js ds) Y { T with nx := J (i + 1), ct := J (i + 1), bk := T.nx }) ∧ (∀ ρ2, J items.length ρ2 → T.nx ρ2))
    (hs : ∀ x, foldedSetIterable iter X.env x = pure x := by intro _; rfl) : WS X (.For tg iter body [] pos) ρ Y T := fun c F H σ nb R L => bS.inv fun hlen => by
  refine bstS (ps_for L.1.2.1 hc pi_best hpg pss_best hs) ?_
  refine bI.imp (h c F H σ R L) fun J H1 ⟨F1, ρ1, items, E1, R1, it, V, v0, vs, vn⟩ => ?_
  have f0 : Ext c.F0 F1 := R1.aft.f0
  have fn : ∀ a o, F1 a = some o → c.F0 a = some o ∨ c.N a = none := R1.aft.new
  have L' : Lk X (c.at F1) Y := L.into f0 fn
  refine ⟨fun i m σ' H' => σ'.length = X.N.length ∧ i ≤ items.length ∧ m = items.length - i ∧ ∃ F' ρ', Rel X.K X.mg (c.at F1) F' H' σ' ρ' ∧ V i ρ', ⟨items.length, hlen, Nat.zero_le _, rfl, F1, ρ1, R1.into, v0⟩, fun i m σ2 H2 ⟨hl2, hi, hm, F2, ρ2, R2, hV⟩ => ?_⟩
  by_cases hlt : i < items.length
  · right
    have hd : items[i]? = some items[i] := List.getElem?_eq_getElem hlt
    have e12 : Ext F1 F2 := R2.aft.f0
    have A2 : Aft c F2 H2 := (R2.back f0 fn).aft
    refine ⟨it.go i _ F2 H2 hd e12 A2, fun σ' H' => σ'.length = X.N.length ∧ ∃ F' ρ', Rel X.K X.mg (c.at F1) F' H' σ' ρ' ∧ V (i + 1) ρ', fun σ' H' ⟨hl', F', ρ', R', hV'⟩ => ⟨items.length - (i + 1), by omega, hl', by omega, rfl, F', ρ', R', hV'⟩, fun x H3 y => ?_⟩
    obtain ⟨ds, hu, hb⟩ := vs i _ ρ2 hd hV
    have key : ∀ F3, Ext F2 F3 → Rel X.K X.mg (c.at F1) F3 H3 σ2 ρ2 → RD X.K X.mg F3 items[i] x → g x σ2 H3 fun σ4 H4 => bB X body { nx := fun σ' H' => σ'.length = X.N.length ∧ ∃ F' ρ', Rel X.K X.mg (c.at F1) F' H' σ' ρ' ∧ V (i + 1) ρ', rt := (EndsOf X.K X.mg c T).rt, bk := (EndsOf X.K X.mg c T).nx, ct := fun σ' H' => σ'.length = X.N.length ∧ ∃ F' ρ', Rel X.K X.mg (c.at F1) F' H' σ' ρ' ∧ V (i + 1) ρ' } σ4 H4 := fun F3 e23 R3 r3 => by
      refine hg F3 H3 _ ds x σ2 _ R3.aft.sub r3 hu fun us ru => ?_
      have R4 := R3.setAll (js := js) ru fun j hj => by rw [hl2]; exact hl j hj
      refine bB.impI (hb (c.at F1) F3 H3 _ nb R4 L') (fun σ' H' hl' ⟨F', ρ', R', q⟩ => ⟨hl', F', ρ', R', q⟩) (fun v H' ⟨F', d, A', r', q⟩ => ⟨F', d, A'.back f0 fn, r', q⟩) (fun σ' H' ⟨F', ρ', R', q⟩ => ⟨F', ρ', R'.back f0 fn, q⟩) (fun σ' H' hl' ⟨F', ρ', R', q⟩ => ⟨hl', F', ρ', R', q⟩)
    rcases it.yld i _ F2 H2 x H3 hd e12 A2 y with ⟨rfl, r⟩ | ⟨p, o, hp, rfl, hno, r⟩
    · exact key F2 (.refl _) R2 r
    · exact key (upd F2 p o) (.new (R2.aft.fresh0 hp).2.2.1) (R2.grow hp hno) r
  · left
    have e : i = items.length := by omega
    subst e
    exact ⟨it.stop F2 H2 R2.aft.f0 (R2.back f0 fn).aft, F2, ρ2, R2.back f0 fn, vn ρ2 hV⟩

/-! ### what is walked: zip, range -/
theorem RWs.two {K : PySem.W.Frag} {mg : Str → Option Value} {c : Cfg} {F H : Hp} {σ : L2.St} {d e : D} {vs : List V} (h : RWs K mg c F H σ [.val d, .val e] vs) : ∃ x y, vs = [x, y] ∧ RD K mg F d x ∧ RD K mg F e y := by
  cases h with
  | cons p q =>
    cases q with
    | cons p' q' =>
      cases q'
      exact ⟨_, _, rfl, p, p'⟩
theorem RWs.one {K : PySem.W.Frag} {mg : Str → Option Value} {c : Cfg} {F H : Hp} {σ : L2.St} {d : D} {vs : List V} (h : RWs K mg c F H σ [.val d] vs) : ∃ x, vs = [x] ∧ RD K mg F d x := by
  cases h with
  | cons p q =>
    cases q
    exact ⟨_, rfl, p⟩
theorem wi_zipT {e e2 : Expr} {P : List D → Store → Prop} {p pos tpos : Pos} {elts : List Expr} {kk : Nat} (hg : Gl X "zip") (hm : X.mg "zip" = none) (h : WA X [e, e2] ρ Y fun ws ρ1 => ∃ ds es, ws = [.val (.tup ds), .val (.tup es)] ∧ P (List.zipWith (fun x y => D.tup [x, y]) ds es) ρ1)
    (hs : starEach [e, e2] X.env = (false, eval e X.env) :: starEach [e2] X.env := by rfl) (hpl : (backTo pos (starEach [e2] X.env)).any (·.1) = false := by rfl) : WI X (.Tuple elts kk tpos) (.Call (.Name "zip" p) [e, e2] [] pos) ρ Y P := fun c F H σ R L => by
  refine bstI (RZ.pi_zipA hg hm pa_best hs hpl) ?_
  refine (h c F H σ R L).imp fun vs H1 ⟨F1, ρ1, ws, E1, R1, r1, ds, es, e1, hP⟩ => ?_
  subst e1
  obtain ⟨x, y, rfl, q1, q2⟩ := r1.two
  obtain ⟨a, xs, rfl, a1, a2⟩ := RD.tup_inv q1
  obtain ⟨b, ys, rfl, b1, b2⟩ := RD.tup_inv q2
  exact ⟨a, b, xs, ys, rfl, .inr ⟨sqT_ext R1.aft.sub a1, sqT_ext R1.aft.sub b1, F1, ρ1, _, E1, R1, isIt_zipT a1 a2 b1 b2, hP⟩⟩
theorem wi_zipL {e e2 : Expr} {P : List D → Store → Prop} {p pos tpos : Pos} {elts : List Expr} {kk : Nat} (hg : Gl X "zip") (hm : X.mg "zip" = none) (h : WA X [e, e2] ρ Y fun ws ρ1 => ∃ ds es, ws = [.val (.lst ds), .val (.lst es)] ∧ P (List.zipWith (fun x y => D.tup [x, y]) ds es) ρ1)
    (hs : starEach [e, e2] X.env = (false, eval e X.env) :: starEach [e2] X.env := by rfl) (hpl : (backTo pos (starEach [e2] X.env)).any (·.1) = false := by rfl) : WI X (.Tuple elts kk tpos) (.Call (.Name "zip" p) [e, e2] [] pos) ρ Y P := fun c F H σ R L => by
  refine bstI (RZ.pi_zipA hg hm pa_best hs hpl) ?_
  refine (h c F H σ R L).imp fun vs H1 ⟨F1, ρ1, ws, E1, R1, r1, ds, es, e1, hP⟩ => ?_
  subst e1
  obtain ⟨x, y, rfl, q1, q2⟩ := r1.two
  obtain ⟨a, xs, rfl, a1, a2⟩ := RD.lst_inv q1
  obtain ⟨b, ys, rfl, b1, b2⟩ := RD.lst_inv q2
  exact ⟨a, b, xs, ys, rfl, .inl ⟨sqL_ext R1.aft.sub (.inl (.inl a1)), sqL_ext R1.aft.sub (.inl (.inl b1)), F1, ρ1, _, E1, R1, isIt_zip (.inl (.inl a1)) a2 (.inl (.inl b1)) b2, hP⟩⟩
theorem wi_range1 {tg a : Expr} {P : List D → Store → Prop} {p pos : Pos} (hg : Gl X "range") (hm : X.mg "range" = none) (h : WE X a ρ Y fun w ρ1 => ∃ j : Int, w = .val (.int j) ∧ -(2 ^ 62) ≤ j ∧ j < 2 ^ 62 ∧ P ((List.range j.toNat).map fun (k : Nat) => D.int (0 + k)) ρ1)
    (hs : starEach [a] X.env = [(false, eval a X.env)] := by rfl) : WI X tg (.Call (.Name "range" p) [a] [] pos) ρ Y P := fun c F H σ R L => by
  refine bstI (pi_range1 hg hm (pa_cons pe_best pa_nil (by rw [hs]; rfl)) hs) ?_
  refine (h.run R L).imp fun v H1 ⟨F1, ρ1, w, E1, R1, r1, j, e1, h1, h2, hP⟩ => ?_
  subst e1
  exact ⟨j, by rw [RD.int_inv r1], h1, h2, F1, ρ1, _, E1, R1, isIt_rng, hP⟩

/-! ### powers, lists and tuples joined, cut -/
theorem we_pow {a b : Expr} {pos : Pos} (h : WE X a ρ Y fun x ρ1 => WE X b ρ1 Y fun y ρ2 => ∃ i j, x = .val (.int i) ∧ y = .val (.int j) ∧ CPow i j ∧ P (.val (.int (i ^ j.toNat))) ρ2) : WE X (.BinOp a .Pow b pos) ρ Y P := we_binI op_pow h
/-- lists -/
def lstW (ρ : Store) : W → Option (List D)
  | .val (.lst ds) => some ds
  | .loc i => match ρ[i]? with
    | some (some (.own ds)) => some ds
    | _ => none
  | _ => none
theorem lstW_h {K : PySem.W.Frag} {mg : Str → Option Value} {c : Cfg} {F H : Hp} {σ : L2.St} {w : W} {v : V} {ds : List D} (R : Rel K mg c F H σ ρ) (r : RW K mg c F H σ w v) (e : lstW ρ w = some ds) : ∃ p xs, v = .ref p ∧ H p = some (.lst xs) ∧ RDs K mg F ds xs := by
  cases w with
  | val d =>
    cases d with
    | lst es =>
      cases e
      obtain ⟨p, xs, e1, e2, e3⟩ := RD.lst_inv r
      exact ⟨p, xs, e1, R.aft.sub _ _ e2, e3⟩
    | _ => cases e
  | loc i =>
    cases q : ρ[i]? with
    | none =>
      simp only [lstW, q] at e
      cases e
    | some o =>
      cases o with
      | none =>
        simp only [lstW, q] at e
        cases e
      | some w' =>
        cases w' with
        | own es =>
          simp only [lstW, q] at e
          cases e
          obtain ⟨p, xs, e1, e2, _, _, _, e3⟩ := R.loc (show σ[i]? = some (some v) from r) q
          exact ⟨p, xs, e1, e2, e3⟩
        | _ =>
          simp only [lstW, q] at e
          cases e
  | own ds => cases e
  | hnd => cases e
  | zip _ _ => cases e
  | hown _ => cases e
theorem lstW_st {w : W} {ds : List D} (e : lstW ρ w = some ds) : w.st = true := by
  cases w with
  | own ds => cases e
  | zip _ _ => cases e
  | hown _ => cases e
  | _ => rfl
theorem we_cat {a b : Expr} {pos : Pos} (h : WE X a ρ Y fun x ρ1 => WE X b ρ1 Y fun y ρ2 => ∃ ds es, lstW ρ2 x = some ds ∧ lstW ρ2 y = some es ∧ ds.length + es.length ≤ 100000 ∧ P (.val (.lst (ds ++ es))) ρ2) : WE X (.BinOp a .Add b pos) ρ Y P := fun c F H σ R L => by
  refine bst (pe_op op_cat pe_best pe_best) ?_
  refine (h.run R L).imp fun v H1 ⟨F1, ρ1, w, _, R1, r1, hb⟩ => (hb.run R1 L).imp fun u H2 ⟨F2, ρ2, w2, E2, R2, r2, ds, es, e1, e2, hz, hP⟩ => ?_
  obtain ⟨p, xs, rfl, h1, k1⟩ := lstW_h R2 (r1.keep (H' := H2) (lstW_st e1) E2) e1
  obtain ⟨q, ys, rfl, h2, k2⟩ := lstW_h R2 r2 e2
  refine ⟨p, q, xs, ys, rfl, rfl, h1, h2, by rw [k1.len, k2.len]; exact Evl.sz_of hz, fun l hl => ?_⟩
  obtain ⟨R3, r3⟩ := R2.lstNew hl (k1.append k2)
  exact vp R3 r3 hP
theorem RDs.flat {K : PySem.W.Frag} {mg : Str → Option Value} {F : Hp} {ds : List D} {vs : List V} (h : RDs K mg F ds vs) : ∀ n : Nat, RDs K mg F (List.replicate n ds).flatten (List.replicate n vs).flatten
  | 0 => .nil
  | n + 1 => by
    rw [List.replicate_succ, List.replicate_succ, List.flatten_cons, List.flatten_cons]
    exact h.append (RDs.flat h n)
theorem we_rep {a b : Expr} {pos : Pos} (h : WE X a ρ Y fun x ρ1 => WE X b ρ1 Y fun y ρ2 => ∃ ds k, lstW ρ2 x = some ds ∧ y = .val (.int k) ∧ -(2 ^ 63) ≤ k ∧ k < 2 ^ 63 ∧ ds.length * k.toNat ≤ 100000 ∧ P (.val (.lst (List.replicate k.toNat ds).flatten)) ρ2) : WE X (.BinOp a .Mult b pos) ρ Y P := fun c F H σ R L => by
  refine bst (pe_op op_rep pe_best pe_best) ?_
  refine (h.run R L).imp fun v H1 ⟨F1, ρ1, w, _, R1, r1, hb⟩ => (hb.run R1 L).imp fun u H2 ⟨F2, ρ2, w2, E2, R2, r2, ds, k, e1, e2, hl, hu, hz, hP⟩ => ?_
  subst e2
  obtain ⟨p, xs, rfl, h1, k1⟩ := lstW_h R2 (r1.keep (H' := H2) (lstW_st e1) E2) e1
  refine ⟨p, k, xs, rfl, RD.int_inv r2, h1, hl, hu, by rw [k1.len]; exact Evl.sz_of hz, fun l hl => ?_⟩
  obtain ⟨R3, r3⟩ := R2.lstNew hl (k1.flat k.toNat)
  exact vp R3 r3 hP
theorem we_catT {a b : Expr} {pos : Pos} (h : WE X a ρ Y fun x ρ1 => WE X b ρ1 Y fun y ρ2 => ∃ ds es, x = .val (.tup ds) ∧ y = .val (.tup es) ∧ ds.length + es.length ≤ 100000 ∧ P (.val (.tup (ds ++ es))) ρ2) : WE X (.BinOp a .Add b pos) ρ Y P := fun c F H σ R L => by
  refine bst (pe_op op_catA pe_best pe_best) ?_
  refine (h.run R L).imp fun v H1 ⟨F1, ρ1, w, _, R1, r1, hb⟩ => (hb.run R1 L).imp fun u H2 ⟨F2, ρ2, w2, E2, R2, r2, ds, es, e1, e2, hz, hP⟩ => ?_
  subst e1 e2
  obtain ⟨p, xs, rfl, h1, k1⟩ := RD.tup_inv (RD.ext E2 r1)
  obtain ⟨q, ys, rfl, h2, k2⟩ := RD.tup_inv r2
  refine ⟨p, q, xs, ys, rfl, rfl, sqT_ext R2.aft.sub h1, sqT_ext R2.aft.sub h2, by rw [k1.len, k2.len]; exact Evl.sz_of hz, fun e => ?_, fun _ e => ?_, fun _ _ l hl => ?_⟩
  · subst e
    cases k1
    exact vp R2 (.tup h2 k2) hP
  · subst e
    cases k2
    rw [List.append_nil] at hP
    exact vp R2 (.tup h1 k1) hP
  · obtain ⟨R3, r3⟩ := R2.tupNew hl (k1.append k2)
    exact vp R3 r3 hP
/-- a slice's items -/
def cutD (ds : List D) (lo hi : Option Int) : List D := (ds.drop (HT.sIx ds.length 0 lo)).take (HT.sIx ds.length ds.length hi - HT.sIx ds.length 0 lo)
theorem RDs.cut {K : PySem.W.Frag} {mg : Str → Option Value} {F : Hp} {ds : List D} {vs : List V} {lo hi : Option Int} (h : RDs K mg F ds vs) : RDs K mg F (cutD ds lo hi) (cutV vs lo hi) := by
  unfold cutD cutV
  rw [h.len]
  exact (h.drop _).take _
theorem cut_whole {ds : List D} {lo hi : Option Int} (h : HT.sIx ds.length 0 lo = 0 ∧ HT.sIx ds.length ds.length hi = ds.length) : cutD ds lo hi = ds := by
  unfold cutD
  rw [h.1, h.2]
  simp
/-- a slice's part -/
def WPt (X : Cx) (e : Option Expr) (ρ : Store) (Y : Str → Store → Prop) (P : Option Int → Store → Prop) : Prop := match e with
  | none => P none ρ
  | some e => WE X e ρ Y fun w ρ1 => ∃ i, w = .val (.int i) ∧ P (some i) ρ1
def bO (X : Cx) (e : Option Expr) : TO := match e with
  | none => tNoPart
  | some e => tPart (bE X e)
theorem po_best {e : Option Expr} : PO X e (bO X e) := by
  cases e with
  | none => exact po_none
  | some e => exact po_some pe_best
theorem WPt.run {e : Option Expr} {P : Option Int → Store → Prop} {c : Cfg} {F H : Hp} {σ : L2.St} (h : WPt X e ρ Y P) (R : Rel X.K X.mg c F H σ ρ) (L : Lk X c Y) {Q : Option Int → Hp → Prop} (hq : ∀ o F' H' ρ', Ext F F' → Rel X.K X.mg c F' H' σ ρ' → P o ρ' → Q o H') : bO X e σ H Q := by
  cases e with
  | none => exact hq none F H ρ (.refl F) R h
  | some e =>
    refine (WE.run h R L).imp fun v H1 ⟨F1, ρ1, w, E1, R1, r1, i, e1, hP⟩ => ?_
    subst e1
    exact ⟨i, RD.int_inv r1, hq (some i) F1 H1 ρ1 E1 R1 hP⟩
theorem we_slT {e : Expr} {lo hi : Option Expr} {pos p2 : Pos} (h : WE X e ρ Y fun x ρ1 => WPt X lo ρ1 Y fun l ρ2 => WPt X hi ρ2 Y fun u ρ3 => ∃ ds, x = .val (.tup ds) ∧ P (.val (.tup (cutD ds l u))) ρ3) : WE X (.Subscript e (.Slice lo hi none p2) pos) ρ Y P := fun c F H σ R L => by
  refine bst (pe_slice sl_tupA pe_best po_best po_best) ?_
  refine (h.run R L).imp fun v H1 ⟨F1, ρ1, w, _, R1, r1, hl⟩ => hl.run R1 L fun l F2 H2 ρ2 E2 R2 hu => hu.run R2 L fun u F3 H3 ρ3 E3 R3 ⟨ds, e1, hP⟩ => ?_
  subst e1
  obtain ⟨p, xs, rfl, h1, k1⟩ := RD.tup_inv (RD.ext (E2.trans E3) r1)
  refine ⟨p, xs, rfl, sqT_ext R3.aft.sub h1, fun hw => ?_, fun hw q hq => ?_⟩
  · rw [k1.len] at hw
    rw [cut_whole hw] at hP
    exact vp R3 (.tup h1 k1) hP
  · obtain ⟨R4, r4⟩ := R3.tupNew hq k1.cut
    exact vp R4 r4 hP
theorem we_slL {e : Expr} {lo hi : Option Expr} {pos p2 : Pos} (h : WE X e ρ Y fun x ρ1 => WPt X lo ρ1 Y fun l ρ2 => WPt X hi ρ2 Y fun u ρ3 => ∃ ds, (x = .val (.lst ds) ∨ x = .val (.ro ds)) ∧ P (.val (.lst (cutD ds l u))) ρ3) : WE X (.Subscript e (.Slice lo hi none p2) pos) ρ Y P := fun c F H σ R L => by
  refine bst (pe_slice sl_list pe_best po_best po_best) ?_
  refine (h.run R L).imp fun v H1 ⟨F1, ρ1, w, _, R1, r1, hl⟩ => hl.run R1 L fun l F2 H2 ρ2 E2 R2 hu => hu.run R2 L fun u F3 H3 ρ3 E3 R3 ⟨ds, e1, hP⟩ => ?_
  have r2 : ∃ a xs, v = .ref a ∧ SqL X.K F3 a xs ∧ RDs X.K X.mg F3 ds xs := by
    rcases e1 with rfl | rfl
    · obtain ⟨a, xs, q1, q2, q3⟩ := RD.lst_inv (RD.ext (E2.trans E3) r1)
      exact ⟨a, xs, q1, .inl (.inl q2), q3⟩
    · have r1' : RD X.K X.mg F3 (.ro ds) v := RD.ext (E2.trans E3) r1
      cases r1' with
      | ro h k => exact ⟨_, _, rfl, h, k⟩
  obtain ⟨a, xs, rfl, h1, k1⟩ := r2
  refine ⟨a, xs, rfl, sqL_ext R3.aft.sub h1, fun q hq => ?_⟩
  obtain ⟨R4, r4⟩ := R3.lstNew hq k1.cut
  exact vp R4 r4 hP

/-! ### in, is None -/
def scs : List D → Option (List V)
  | [] => some []
  | d :: ds => match d.sc, scs ds with
    | some v, some vs => some (v :: vs)
    | _, _ => none
theorem sc_flat {d : D} {v : V} (e : d.sc = some v) : flatV v = true := by
  cases d <;> first | (cases e; rfl) | cases e
theorem scs_flat : ∀ {ds : List D} {us : List V}, scs ds = some us → us.all flatV = true
  | [], us, e => by
    cases e
    rfl
  | d :: ds, us, e => by
    unfold scs at e
    split at e
    · rename_i v vs q1 q2
      cases e
      rw [List.all_cons, sc_flat q1, scs_flat q2]
      rfl
    · cases e
theorem RDs.scs {K : PySem.W.Frag} {mg : Str → Option Value} {F : Hp} : ∀ {ds : List D} {vs us : List V}, RDs K mg F ds vs → PL.scs ds = some us → vs = us
  | _, _, us, .nil, e => by
    cases e
    rfl
  | d :: ds, _, us, .cons h k, e => by
    unfold PL.scs at e
    split at e
    · rename_i v vs q1 q2
      cases e
      rw [RD.sc h q1, RDs.scs k q2]
    · cases e
theorem wt_notIn {a b : Expr} {pos : Pos} {P : Pb} (hm : behindInMarks .NotIn b = false) (h : WE X a ρ Y fun x ρ1 => WE X b ρ1 Y fun y ρ2 => ∃ d u ds us, x = .val d ∧ d.sc = some u ∧ seqW ρ2 y = some ds ∧ scs ds = some us ∧ P (!inV u us) ρ2) : WT X (.Compare a [.NotIn] [b] pos) ρ Y P := fun c F H σ R L => by
  refine bstT (pt_cmpR op_notIn_seq pe_best pe_best hm) ?_
  refine (h.run R L).imp fun v H1 ⟨F1, ρ1, w, _, R1, r1, hb⟩ => (hb.run R1 L).imp fun u H2 ⟨F2, ρ2, w2, _, R2, r2, d, z, ds, us, e1, s1, e2, s2, hP⟩ => ?_
  subst e1
  have k1 := RD.sc r1 s1
  subst k1
  obtain ⟨p, xs, rfl, hq, hr⟩ := seqW_sq R2 r2 e2
  have k2 := hr.scs s2
  subst k2
  exact ⟨p, xs, rfl, hq, sc_flat s1, scs_flat s2, _, rfl, F2, ρ2, R2, hP⟩
def D.isNon : D → Bool
  | .non => true
  | _ => false
theorem RD.isNon {K : PySem.W.Frag} {mg : Str → Option Value} {F : Hp} {d : D} {v : V} (h : RD K mg F d v) : decide (v = .non) = d.isNon := by
  cases h <;> rfl
theorem wt_isN {a : Expr} {pos pos' : Pos} {j} {P : Pb} (h : WE X a ρ Y fun x ρ1 => ∃ d, x = .val d ∧ P d.isNon ρ1) : WT X (.Compare a [.Is] [.Constant .none j pos'] pos) ρ Y P := fun c F H σ R L => by
  refine bstT (pt_cmp (pc_isN pe_best)) ?_
  refine (h.run R L).imp fun v H1 ⟨F1, ρ1, w, _, R1, r1, d, e1, hP⟩ => ?_
  subst e1
  refine ⟨_, rfl, F1, ρ1, R1, ?_⟩
  rw [RD.isNon r1]
  exact hP
theorem wt_notN {a : Expr} {pos pos' : Pos} {j} {P : Pb} (h : WE X a ρ Y fun x ρ1 => ∃ d, x = .val d ∧ P (!d.isNon) ρ1) : WT X (.Compare a [.IsNot] [.Constant .none j pos'] pos) ρ Y P := fun c F H σ R L => by
  refine bstT (pt_cmp (pc_notN pe_best)) ?_
  refine (h.run R L).imp fun v H1 ⟨F1, ρ1, w, _, R1, r1, d, e1, hP⟩ => ?_
  subst e1
  refine ⟨_, rfl, F1, ρ1, R1, ?_⟩
  rw [RD.isNon r1]
  exact hP
end
end PL

namespace PL
open PySem PySem.Spec PyProof.Rows L2
variable [Hand]
/-! ### a new thing, guarded -/
def Cfg.grd (c : Cfg) (F H : Hp) (p : Addr) (o : HO) : Cfg := { c with F0 := F, N := noTb H, Pr := upd c.Pr p o, blk := true }
section
variable {K : PySem.W.Frag} {mg : Str → Option Value} {c : Cfg} {F H F2 H2 : Hp} {σ σ2 : L2.St} {ρ ρ2 : Store} {p : Addr} {o : HO}
theorem Rel.intoGrd (R : Rel K mg c F H σ ρ) (hcl : clean ρ = true) (ho : NoT o) (hp : H p = some o) (f : Fr1 c F H σ ρ p) : Rel K mg (c.grd F H p o) F H σ ρ := by
  obtain ⟨f1, f2, f3, f4, f5⟩ := f
  refine ⟨⟨R.aft.sub, .refl F, fun a u e => ?_, fun a u e hn => ?_, fun a u e => .inl e, fun a u e => ⟨u, noTb_some.mp e⟩, (fun q => by cases q), fun q hq => ?_, ⟨R.aft.tb.nF, fun a u e => ?_, R.aft.tb.tabs⟩⟩, fun i w hw => ?_, R.apart⟩
  · have e : upd c.Pr p o a = some u := e
    by_cases h : a = p
    · subst h
      rw [upd_same] at e
      cases e
      exact hp
    · rw [upd_ne h] at e
      exact R.aft.pr a u e
  · show upd c.Pr p o a = some u
    have h1 := R.aft.pr0 a u e hn
    rw [upd_ne (ne_of_none h1 f2)]
    exact h1
  · obtain ⟨a1, a2, a3⟩ := R.aft.hand q hq
    have hne : q ≠ p := fun e => f3 (e ▸ hq)
    exact ⟨a1, by show upd c.Pr p o q = none; rw [upd_ne hne]; exact a2, a3⟩
  · have e : upd c.Pr p o a = some u := e
    by_cases h : a = p
    · subst h
      rw [upd_same] at e
      cases e
      exact ho
    · rw [upd_ne h] at e
      exact R.aft.tb.nP a u e
  · obtain ⟨a1, v, a2, a3⟩ := R.slot i w hw
    refine ⟨a1, v, a2, ?_⟩
    cases w with
    | own ds =>
      obtain ⟨q, ys, e1, e2, e3, e4, e5, e6⟩ := a3
      subst e1
      have hne : q ≠ p := fun e => by
        subst e
        exact f4 i ds hw a2
      exact ⟨q, ys, rfl, e2, e3, by show upd c.Pr p o q = none; rw [upd_ne hne]; exact e4, e5, e6⟩
    | zip ds es => exact absurd rfl ((clean_at hcl hw).1 ds es)
    | _ => exact a3
theorem Rel.ofGrd (R : Rel K mg c F H σ ρ) (ho : NoT o) (hp : H p = some o) (f : Fr1 c F H σ ρ p) (R2 : Rel K mg (c.grd F H p o) F2 H2 σ2 ρ2) : Rel K mg c F2 H2 σ2 ρ2 ∧ H2 p = some o ∧ Fr1 c F2 H2 σ2 ρ2 p ∧ Ext F F2 := by
  obtain ⟨f1, f2, f3, f4, f5⟩ := f
  have E : Ext F F2 := R2.aft.f0
  have hF2 : F2 p = none := by
    cases e : F2 p with
    | none => rfl
    | some u =>
      rcases R2.aft.new p u e with h | h
      · have h : F p = some u := h
        rw [f1] at h
        cases h
      · have h : noTb H p = none := h
        rw [noTb_some.mpr ⟨hp, ho⟩] at h
        cases h
  have A : Aft c F2 H2 := by
    refine ⟨R2.aft.sub, R.aft.f0.trans E, fun a u e => ?_, R.aft.pr0, fun a u e => ?_, fun a u e => ?_, R.aft.nb, fun q hq => ?_, ⟨R2.aft.tb.nF, R.aft.tb.nP, R2.aft.tb.tabs⟩⟩
    · refine R2.aft.pr a u (show upd c.Pr p o a = some u from ?_)
      rw [upd_ne (ne_of_none e f2)]
      exact e
    · rcases R2.aft.new a u e with h | h
      · exact R.aft.new a u h
      · exact .inr (R.aft.freshN h)
    · obtain ⟨o', q⟩ := R.aft.nn a u e
      exact R2.aft.nn a o' (noTb_some.mpr q)
    · obtain ⟨a1, _, a3⟩ := R2.aft.hand q hq
      obtain ⟨_, b2, _⟩ := R.aft.hand q hq
      exact ⟨a1, b2, a3⟩
  have key : ∀ q, (upd c.Pr p o) q = none → q ≠ p ∧ c.Pr q = none := fun q e => by
    have hne : q ≠ p := fun z => by
      subst z
      rw [upd_same] at e
      cases e
    rw [upd_ne hne] at e
    exact ⟨hne, e⟩
  refine ⟨⟨A, fun i w hw => ?_, R2.apart⟩, R2.aft.pr p _ (show upd c.Pr p o p = some o from upd_same), ⟨hF2, f2, f3, fun i ds hi q => ?_, f5⟩, E⟩
  · obtain ⟨a1, v, a2, a3⟩ := R2.slot i w hw
    refine ⟨a1, v, a2, ?_⟩
    cases w with
    | own ds =>
      obtain ⟨q, ys, e1, e2, e3, e4, e5, e6⟩ := a3
      exact ⟨q, ys, e1, e2, e3, (key q e4).2, e5, e6⟩
    | zip ds es =>
      obtain ⟨z, TI, TO, i1, i2, a, b, xs, ys, e1, e2, ⟨x1, x2, x3, x4, x5⟩, r⟩ := a3
      have k : ∀ {q : Addr} {φ : Heap → Prop}, XO (c.grd F H p o) F2 H2 q φ → XO c F2 H2 q φ := fun {q φ} ⟨h1, h2, h3, h4, h5⟩ => ⟨h1, h2, (key q h3).2, h4, R.aft.freshN h5.1, h5.2⟩
      exact ⟨z, TI, TO, i1, i2, a, b, xs, ys, e1, e2, ⟨k x1, k x2, k x3, k x4, k x5⟩, r⟩
    | _ => exact a3
  · obtain ⟨_, v, a2, a3⟩ := R2.slot i _ hi
    rw [q] at a2
    cases a2
    obtain ⟨q', ys, e1, e2, e3, e4, e5, e6⟩ := a3
    cases e1
    exact (key p e4).1 rfl
end
/-! ### dicts as data -/
def D.key : D → Option Key
  | .int i => some (.inl i)
  | .str x => some (.inr x)
  | _ => none
theorem RD.key {K : PySem.W.Frag} {mg : Str → Option Value} {F : Hp} {d : D} {v : V} {k : Key} (h : RD K mg F d v) (e : d.key = some k) : v = kV k := by
  cases h <;> first | (cases e; rfl) | cases e
def lookD : List Key → List D → Key → Option D
  | k :: ks, d :: ds, x => if k = x then some d else lookD ks ds x
  | _, _, _ => none
theorem RDs.look {K : PySem.W.Frag} {mg : Str → Option Value} {F : Hp} {x : Key} {d : D} : ∀ {ks : List Key} {ds : List D} {vs : List V}, RDs K mg F ds vs → lookD ks ds x = some d → ∃ v, valV (ks.zip vs) x = some v ∧ RD K mg F d v
  | [], _, _, _, e => by
    unfold lookD at e
    cases e
  | k :: ks, _, _, .nil, e => by
    unfold lookD at e
    cases e
  | k :: ks, _, _, .cons h t, e => by
    unfold lookD at e
    rw [List.zip_cons_cons]
    by_cases q : k = x
    · rw [if_pos q] at e
      cases e
      exact ⟨_, valV_pos (p := (k, _)) q, h⟩
    · rw [if_neg q] at e
      obtain ⟨v, e1, e2⟩ := RDs.look t e
      exact ⟨v, by rw [valV_neg (p := (k, _)) q]; exact e1, e2⟩
theorem valV_not {kvs : List (Key × V)} {k : Key} (h : k ∉ kvs.map (·.1)) : valV kvs k = none := by
  induction kvs with
  | nil => rfl
  | cons p r ih =>
    rw [List.map_cons, List.mem_cons, not_or] at h
    rw [valV_neg (Ne.symm h.1)]
    exact ih h.2
theorem mergeK_new : ∀ (more kvs : List (Key × V)), ((kvs ++ more).map (·.1)).Nodup → mergeK kvs more = kvs ++ more
  | [], kvs, _ => by
    rw [List.append_nil]
    rfl
  | p :: r, kvs, h => by
    have e : kvs ++ p :: r = (kvs ++ [p]) ++ r := by rw [List.append_assoc]; rfl
    have hv : valV kvs p.1 = none := by
      refine valV_not fun hm => ?_
      rw [List.map_append, List.nodup_append] at h
      exact h.2.2 _ hm _ (by rw [List.map_cons]; exact List.mem_cons_self) rfl
    show mergeK (putK kvs p.1 p.2) r = _
    rw [putK_new _ hv, e]
    exact mergeK_new r _ (by rw [← e]; exact h)
section
variable {X : Cx} {ρ : Store} {Y : Str → Store → Prop} {P : Po} {T : Pst}
def bPs (X : Cx) : List (Option Expr) → List Expr → List (TE × TE)
  | some k :: ks, v :: vs => (bE X k, bE X v) :: bPs X ks vs
  | _, _ => []
theorem pps_best {pos : Pos} : ∀ {ks : List (Option Expr)} {vs : List Expr}, ks.all (·.isSome) = true → ks.length = vs.length → PPs X pos ks vs (bPs X ks vs)
  | [], [], _, _ => pps_nil
  | some k :: ks, v :: vs, h, e => pps_cons pe_best pe_best (pps_best (by simpa using h) (by simpa using e))
  | none :: ks, _, h, _ => by simp at h
/-- the pairs of a display -/
def WD (X : Cx) (ks : List (Option Expr)) (vs : List Expr) (ρ : Store) (Y : Str → Store → Prop) (P : List Key → List D → Store → Prop) : Prop :=
  ∀ c F H σ, Rel X.K X.mg c F H σ ρ → Lk X c Y → tPairs (bPs X ks vs) σ H fun ps H' => ∃ F' ρ' kk us ds, Ext F F' ∧ Rel X.K X.mg c F' H' σ ρ' ∧ RDs X.K X.mg F' ds us ∧ kk.length = us.length ∧ ps = (kk.zip us).map (fun kv => (kV kv.1, kv.2)) ∧ P kk ds ρ'
theorem tPairs.imp : ∀ {l : List (Expr × Expr)} {σ : L2.St} {H : Hp} {Q Q' : List (V × V) → Hp → Prop}, tPairs (l.map fun p => (bE X p.1, bE X p.2)) σ H Q → (∀ v H', Q v H' → Q' v H') → tPairs (l.map fun p => (bE X p.1, bE X p.2)) σ H Q'
  | [], _, H, _, _, h, k => k _ _ h
  | p :: r, _, _, _, _, h, k => bE.imp h fun _ _ h1 => bE.imp h1 fun _ _ h2 => tPairs.imp h2 fun _ _ q => k _ _ q
theorem bPs_eq : ∀ (ks : List (Option Expr)) (vs : List Expr), ∃ l : List (Expr × Expr), bPs X ks vs = l.map fun p => (bE X p.1, bE X p.2)
  | [], _ => ⟨[], rfl⟩
  | none :: _, _ => ⟨[], rfl⟩
  | some k :: ks, [] => ⟨[], rfl⟩
  | some k :: ks, v :: vs => by
    obtain ⟨l, e⟩ := bPs_eq ks vs
    exact ⟨(k, v) :: l, by rw [bPs, e]; rfl⟩
theorem bPs_imp {ks : List (Option Expr)} {vs : List Expr} {σ : L2.St} {H : Hp} {Q Q' : List (V × V) → Hp → Prop} (h : tPairs (bPs X ks vs) σ H Q) (k : ∀ v H', Q v H' → Q' v H') : tPairs (bPs X ks vs) σ H Q' := by
  obtain ⟨l, e⟩ := bPs_eq (X := X) ks vs
  rw [e] at h ⊢
  exact tPairs.imp h k
theorem wd_nil {P : List Key → List D → Store → Prop} (h : P [] [] ρ) : WD X [] [] ρ Y P := fun c F H σ R L => ⟨F, ρ, [], [], [], .refl F, R, .nil, rfl, rfl, h⟩
theorem wd_cons {k v : Expr} {ks : List (Option Expr)} {vs : List Expr} {P : List Key → List D → Store → Prop} (h : WE X k ρ Y fun x ρ1 => ∃ d kk, x = .val d ∧ d.key = some kk ∧ WE X v ρ1 Y fun y ρ2 => ∃ e, y = .val e ∧ WD X ks vs ρ2 Y fun kks ds ρ3 => P (kk :: kks) (e :: ds) ρ3) : WD X (some k :: ks) (v :: vs) ρ Y P := fun c F H σ R L => by
  refine (h.run R L).imp fun x H1 ⟨F1, ρ1, w, E1, R1, r1, d, kk, e1, e2, hb⟩ => (hb.run R1 L).imp fun y H2 ⟨F2, ρ2, w2, E2, R2, r2, e, e3, hr⟩ => bPs_imp (hr c F2 H2 σ R2 L) fun ps H3 ⟨F3, ρ3, kks, us, ds, E3, R3, r3, hl, e4, hP⟩ => ?_
  subst e1 e3
  refine ⟨F3, ρ3, kk :: kks, y :: us, e :: ds, E1.trans (E2.trans E3), R3, .cons (RD.ext E3 r2) r3, by rw [List.length_cons, List.length_cons, hl], ?_, hP⟩
  rw [e4, RD.key r1 e2]
  rfl
theorem Lk.intoGrd {c : Cfg} {F H : Hp} {p : Addr} {o : HO} {σ : L2.St} {ρ' : Store} (R : Rel X.K X.mg c F H σ ρ') (ho : NoT o) (hp : H p = some o) (f : Fr1 c F H σ ρ' p) (L : Lk X c Y) (hs : ∀ x C F' H' σ2 ρ2, Y x ρ2 → X.mg x = some (.ref C) → Rel X.K X.mg c F' H' σ2 ρ2 → c.W (.ref C) none σ2 H' := L.2) : Lk X (c.grd F H p o) Y :=
  ⟨L.1, fun x C F' H' σ2 ρ2 hy hm R2 => L.2 x C F' H' σ2 ρ2 hy hm (R.ofGrd ho hp f R2).1⟩
theorem we_disp {ks : List (Option Expr)} {vs : List Expr} {pos : Pos} (hall : ks.all (·.isSome) = true) (hl : ks.length = vs.length) (h0 : ks ≠ []) (h15 : ks.length ≤ 15) (hcl : clean ρ = true) (h : WD X ks vs ρ Y fun kk ds ρ1 => kk.Nodup ∧ kk.length ≤ 15 ∧ P (.val (.dct kk ds)) ρ1) : WE X (.Dict ks vs pos) ρ Y P := fun c F H σ R L => by
  refine bst (pe_disp (pps_best hall hl) hall hl h0 h15) ?_
  intro p hp
  have f := fr1_new (o := .dK []) R hp
  have R1 : Rel X.K X.mg c F (upd H p (.dK [])) σ ρ := R.growH hp
  have hp1 : (upd H p (.dK [])) p = some (.dK []) := upd_same
  refine bPs_imp (h _ F _ σ (R1.intoGrd hcl (noT_dK _) hp1 f) (L.intoGrd R1 (noT_dK _) hp1 f)) fun ps H2 ⟨F2, ρ2, kk, us, ds, _, R2, r2, hl2, ep, hn, hz, hP⟩ => ?_
  obtain ⟨R3, q3, f3, E3⟩ := R1.ofGrd (noT_dK _) hp1 f R2
  refine ⟨q3, kk.zip us, ep, by rw [List.length_zip]; omega, ?_⟩
  have em : mergeK [] (kk.zip us) = kk.zip us := by
    have := mergeK_new (kk.zip us) [] (by rw [List.nil_append, List.map_fst_zip (by omega)]; exact hn)
    rw [this, List.nil_append]
  rw [em]
  have R4 := R3.writeFr (o := .dK (kk.zip us)) (noT_dK _) q3 (plain_dK _) f3
  have f4 : Fr1 c F2 (upd H2 p (.dK (kk.zip us))) σ ρ2 p := f3
  have R5 := R4.freezeFr (plain_dK _) upd_same f4
  exact vp R5 (.dct upd_same rfl hl2 (r2.ext (.new f3.1))) hP
theorem we_dict0 {pos : Pos} (h : P (.val (.dct [] [])) ρ) : WE X (.Dict [] [] pos) ρ Y P := fun c F H σ R L => by
  refine bst pe_dnewK ?_
  intro p hp
  exact vp (R.grow hp (noT_dK _)) (.dct (kvs := []) upd_same rfl rfl .nil) h
/-- d[k] -/
theorem we_dget {j : Nat} {o i : Expr} {pos : Pos} (hr : Room j X.A) (h : WE X o ρ Y fun x ρ1 => WE X i ρ1 Y fun y ρ2 => ∃ ks ds d k e, x = .val (.dct ks ds) ∧ y = .val d ∧ d.key = some k ∧ lookD ks ds k = some e ∧ P (.val e) ρ2) (hs : NoSl i := by exact fun _ _ => rfl) : WE X (.Subscript o i pos) ρ Y P := fun c F H σ R L => by
  refine bst (pe_dget (by have := hr.units; omega) pe_best pe_best hs) ?_
  refine (h.run R L).imp fun v H1 ⟨F1, ρ1, w, _, R1, r1, hb⟩ => (hb.run R1 L).imp fun u H2 ⟨F2, ρ2, w2, E2, R2, r2, ks, ds, d, k, e, e1, e2, e3, e4, hP⟩ => ?_
  subst e1 e2
  have r1' : RD X.K X.mg F2 (.dct ks ds) v := RD.ext E2 r1
  cases r1' with
  | dct h1 h2 h3 h4 =>
    obtain ⟨z, e5, e6⟩ := h4.look e4
    subst h2
    refine ⟨_, z, rfl, ?_, vp R2 e6 hP⟩
    rw [RD.key r2 e3, ← e5]
    exact DGet.k (R2.aft.sub _ _ h1)
/-! ### a dict of the module -/
/-- the module's name x is a dict with text keys -/
def KdAt (X : Cx) (x : Str) : Prop := ∃ d es n, X.mg x = some (.ref d) ∧ KDict X.K X.w d es n
def kdSays (X : Cx) (x z : Str) (r : Option D) : Prop := ∃ d, X.mg x = some (.ref d) ∧ match r with
  | none => PySem.W.nsIn X.K d z = some none
  | some e => ∃ u, PySem.W.nsIn X.K d z = some (some u) ∧ ∀ F : Hp, ∃ v, RelV v u ∧ RD X.K X.mg F e v
theorem wt_inK {a b : Expr} {x : Str} {pos : Pos} {P : Pb} (D : KdAt X x) (hm : behindInMarks .In b = false) (h : WE X a ρ Y fun u ρ1 => WE X b ρ1 Y fun y ρ2 => ∃ z r, u = .val (.str z) ∧ y = .val (.fn x) ∧ kdSays X x z r ∧ P r.isSome ρ2) : WT X (.Compare a [.In] [b] pos) ρ Y P := fun c F H σ R L => by
  obtain ⟨d, es, n, m1, kd⟩ := D
  refine bstT (pt_cmpR (op_in_kd kd) pe_best pe_best hm) ?_
  refine (h.run R L).imp fun v H1 ⟨F1, ρ1, w, _, R1, r1, hb⟩ => (hb.run R1 L).imp fun u H2 ⟨F2, ρ2, w2, _, R2, r2, z, r, e1, e2, ⟨d', m2, hk⟩, hP⟩ => ?_
  subst e1 e2
  rw [m1] at m2
  cases m2
  have r2' : RD X.K X.mg F2 (.fn x) u := r2
  cases r2' with
  | fn m3 =>
    rw [m1] at m3
    cases m3
    cases r with
    | none => exact ⟨z, none, RD.str_inv r1, rfl, hk, false, rfl, F2, ρ2, R2, hP⟩
    | some e =>
      obtain ⟨u0, hk, _⟩ := hk
      exact ⟨z, some u0, RD.str_inv r1, rfl, hk, true, rfl, F2, ρ2, R2, hP⟩
theorem we_itemK {a b : Expr} {x : Str} {pos : Pos} (D : KdAt X x) (h : WE X a ρ Y fun y ρ1 => WE X b ρ1 Y fun u ρ2 => ∃ z e, u = .val (.str z) ∧ y = .val (.fn x) ∧ kdSays X x z (some e) ∧ P (.val e) ρ2) (hs : PlainIx b := by exact fun _ _ => rfl) : WE X (.Subscript a b pos) ρ Y P := fun c F H σ R L => by
  obtain ⟨d, es, n, m1, kd⟩ := D
  refine bst (pe_ix ix_kdict pe_best pe_best hs) ?_
  refine (h.run R L).imp fun v H1 ⟨F1, ρ1, w, _, R1, r1, hb⟩ => (hb.run R1 L).imp fun u H2 ⟨F2, ρ2, w2, _, R2, r2, z, e, e1, e2, ⟨d', m2, hk⟩, hP⟩ => ?_
  subst e1 e2
  rw [m1] at m2
  cases m2
  have r1' : RD X.K X.mg F1 (.fn x) v := r1
  cases r1' with
  | fn m3 =>
    rw [m1] at m3
    cases m3
    obtain ⟨u0, hk, hv⟩ := hk
    obtain ⟨v0, rv, rd⟩ := hv F2
    exact ⟨d, z, v0, rfl, RD.str_inv r2, ⟨es, n, u0, kd.at_, kd.lit, hk, rv⟩, vp R2 rd hP⟩
end
end PL

namespace PL
open PySem PySem.Spec PyProof.Rows L2 LamX
variable [Hand]
/-- the slots without the lists of one's own -/
def dataOnly (ρ : Store) : Store := ρ.map fun w => match w with
  | some (.own _) => none
  | some (.zip _ _) => none
  | some (.hown _) => none
  | w => w
section
variable {K : PySem.W.Frag} {mg : Str → Option Value} {c : Cfg} {F H H1 : Hp} {σ : L2.St} {ρ : Store}
theorem Rel.extN (R : Rel K mg c F H σ ρ) (e : ExtN H H1) (t : Tabs Hand.T H1) : Rel K mg c F H1 σ ρ := by
  refine R.mono (hb := true) ⟨fun a o h => e a o (R.aft.sub a o h) (R.aft.tb.nF a o h), R.aft.f0, fun a o h => e a o (R.aft.pr a o h) (R.aft.tb.nP a o h), R.aft.pr0, R.aft.new, fun a o h => ?_, R.aft.nb, fun p hp => ?_, ⟨R.aft.tb.nF, R.aft.tb.nP, t⟩⟩ ⟨.refl F, fun p o h1 hn h2 _ _ => ⟨e p o h1 hn, h2⟩, fun _ p o hp h1 => e p o h1 ?_⟩ (.inl rfl)
  · obtain ⟨o', q, n⟩ := R.aft.nn a o h
    exact ⟨o', e a o' q n, n⟩
  · obtain ⟨h1, h2, o, h3, h4⟩ := R.aft.hand p hp
    exact ⟨h1, h2, o, e p o h3 (Hand.nt F o h4), h4⟩
  · obtain ⟨_, _, o', h3, h4⟩ := R.aft.hand p hp
    rw [h1] at h3
    cases h3
    exact Hand.nt F o h4
theorem dataOnly_get {i : Nat} {w : W} (h : (dataOnly ρ)[i]? = some (some w)) : ρ[i]? = some (some w) ∧ (∀ ds, w ≠ .own ds) ∧ (∀ ds es, w ≠ .zip ds es) ∧ ∀ ds, w ≠ .hown ds := by
  unfold dataOnly at h
  rw [List.getElem?_map] at h
  cases e : ρ[i]? with
  | none =>
    rw [e] at h
    cases h
  | some o =>
    rw [e] at h
    cases o with
    | none => cases h
    | some u =>
      cases u with
      | own ds => cases h
      | zip ds es => cases h
      | hown ds => cases h
      | val d =>
        cases h
        exact ⟨rfl, (fun _ q => nomatch q), (fun _ _ q => nomatch q), fun _ q => nomatch q⟩
      | loc j =>
        cases h
        exact ⟨rfl, (fun _ q => nomatch q), (fun _ _ q => nomatch q), fun _ q => nomatch q⟩
      | hnd =>
        cases h
        exact ⟨rfl, (fun _ q => nomatch q), (fun _ _ q => nomatch q), fun _ q => nomatch q⟩
/-- as a callee sees it -/
theorem Rel.callee {W' : WX} {n0 : Nat} {fs : List Addr} (R : Rel K mg c F H σ ρ) : Rel K mg (cfg0 c.hd F H W' n0 fs) F H σ (dataOnly ρ) := by
  refine ⟨⟨R.aft.sub, .refl F, fun a o e => (hide_some.mp e).2.1, fun a o e hn => hide_some.mpr ⟨hn, noTb_some.mp e⟩, fun a o e => .inl e, fun a o e => ⟨o, noTb_some.mp e⟩, fun _ => rfl, fun p hp => ?_, ⟨R.aft.tb.nF, fun a o e => (hide_some.mp e).2.2, R.aft.tb.tabs⟩⟩, fun i w hi => ?_, fun i j ds es v _ hi _ _ _ => ?_⟩
  · obtain ⟨h1, _, o, h2, h3⟩ := R.aft.hand p hp
    refine ⟨h1, ?_, o, h2, h3⟩
    cases e : hide H c.hd p with
    | none => exact e
    | some o' => exact absurd hp (hide_some.mp e).1
  · obtain ⟨h1, h2⟩ := dataOnly_get hi
    obtain ⟨a1, v, a2, a3⟩ := R.slot i w h1
    refine ⟨a1, v, a2, ?_⟩
    cases w with
    | own ds => exact absurd rfl (h2.1 ds)
    | zip ds es => exact absurd rfl (h2.2.1 ds es)
    | hown ds => exact absurd rfl (h2.2.2 ds)
    | _ => exact a3
  · exact absurd rfl ((dataOnly_get hi).2.1 ds)
theorem Aft'.grow {F' H' H'' : Hp} {W' : WX} (A : Aft' (cfg0 c.hd F H W') F' H') (e : Ext H' H'') : Aft' (cfg0 c.hd F H W') F' H'' :=
  ⟨fun a o h => e a o (A.sub a o h), A.f0, fun a o h hn => e a o (A.h0 a o h hn), A.new, fun a o h => by
    obtain ⟨o', q, n⟩ := A.nn a o h
    exact ⟨o', e a o' q, n⟩, fun p hp => by
    obtain ⟨h1, o, h2, h3⟩ := A.hand p hp
    exact ⟨h1, o, e p o h2, h3⟩, A.nF, A.tabs.ext e⟩
end
/-- a def that calls what it got, and tells by a word: w0 for no error, wd of the error's class -/
def TTw (mg : Str → Option Value) (wd : Str → Option Str) (w0 : Str) : (XK → Hp → VK → Prop) → Hp → VK → Prop := fun tl H Q =>
  ∃ E' : XK, tl E' H (fun _ H' => Q (.str w0) H') ∧
    ∀ cls d H', E' cls d H' → d = none ∧ ∃ y C r, cls = .ref C ∧ mg y = some (.ref C) ∧ wd y = some r ∧ ∀ H'', Ext H' H'' → Q (.str r) H''
section
variable {X : Cx} {ρ : Store} {Y : Str → Store → Prop} {P : Po}
theorem we_lam {wd : Str → Option Str} {w0 : Str} {x a : Str} {g c P0 : Addr} {k : Nat} {pg : Arguments} {bg : List Stmt} {sg : Scope} {dV kV doc pm cdv ct oc : Value} {an od : Option Addr} {osl : Array (Option Value)} {Ng : List Str}
    {params : Arguments} {body : Expr} {scope : Scope} {p lpos pos : Pos} (hm : X.mg x = some (.ref g)) (hk : PySem.W.keepIn X.K (.ref g) = true)
    (lk : X.K.lookup g = some ⟨oc, od, .func (PySem.W.fnOf x x pg bg sg dV kV doc pm an cdv ct), osl⟩) (hcg : PySem.W.codeIn X.K cdv x = true) (hb : L2.Binds X.K (PySem.W.fnOf x x pg bg sg dV kV doc pm an cdv ct) [a] []) (Sg : FnScope Ng [a] sg) (hNg : Ng[0]? = some a) (hva : Vis sg a)
    (hG : GivesTo X Ng x sg g cdv bg a (X.env.qual ++ "<lambda>") (TTw X.mg wd w0))
    (TB : TabB X.base X.mg c P0) (hcode : X.env.code = .ref c) (hmT : (P0, X.env.qual ++ "<lambda>") ∈ Hand.T) (hu : ∀ p ∈ Hand.T, p.1 = P0 → p.2 = X.env.qual ++ "<lambda>") (hr : Room (k + 2) X.A)
    (hcl : clean ρ = true) (hg : Gl X x) (L : LamS X.env.scope scope) (hdef : defaultsOf params X.env = ([], []))
    (hbind : ∀ (q : Str) (cl : List (Str × Addr)) (pm cv ctv : Value), bindArgs (PySem.W.kla_fn "<lambda>" q params body scope cl pm cv ctv) ⟨[], []⟩ = pure [])
    (h : ∀ (A : Around) (outer : List Env) (s : Shared) (H : Hp) (E : XK) (f c' : Addr), Room k (A.deeper (lamEnv X scope s.heap.objs.size f c')) → WE (lamCx X A outer s H E scope f c') body (dataOnly ρ) (fun y _ => ∃ r, wd y = some r ∧ P (.val (.str r)) ρ) (fun _ _ => P (.val (.str w0)) ρ))
    (hdb : (x == ("__debug__" : Str)) = false := by decide) (hd : (a == ("__debug__" : Str)) = false := by decide) (hcd : (a == ("__classdict__" : Str)) = false := by decide) :
    WE X (.Call (.Name x p) [.Lambda params body scope lpos] [] pos) ρ Y P := fun cf F H σ R Lk0 => by
  refine bst (pe_lamcall (T := Hand.T) (TT := TTw X.mg wd w0) (k := k)
    (t := fun E σ H Q => ∀ (A : Around) (outer : List Env) (s : Shared) (H0 : Hp) (f c' : Addr), Room k (A.deeper (lamEnv X scope s.heap.objs.size f c')) → bE (lamCx X A outer s H0 E scope f c') body σ H Q)
    hg hm hk lk hcg hb Sg hNg hva hG TB hcode hmT hu hr L hdef hbind (fun A outer s H E f c' hr2 => ⟨fun pins s' σ' H' Q I h => h A outer s H f c' hr2 pins s' I⟩) hdb hd hcd) ?_
  refine ⟨R.aft.tb.tabs, fun H1 eN T1 => ?_⟩
  have R1 := R.extN eN T1
  refine ⟨fun cls d H' => d = none ∧ ∃ y C r F', cls = .ref C ∧ X.mg y = some (.ref C) ∧ wd y = some r ∧ Aft' (cfg0 cf.hd F H1 fun _ _ _ _ => False) F' H' ∧ P (.val (.str r)) ρ, fun A outer s H0 f c' hr2 => ?_, fun cls d H' ⟨hd, y, C, r, F', e1, e2, e3, A', hP⟩ => ⟨hd, y, C, r, e1, e2, e3, fun H'' e => ?_⟩⟩
  · have Lk1 : Lk (lamCx X A outer s H0 (fun cls d H' => d = none ∧ ∃ y C r F', cls = .ref C ∧ X.mg y = some (.ref C) ∧ wd y = some r ∧ Aft' (cfg0 cf.hd F H1 fun _ _ _ _ => False) F' H' ∧ P (.val (.str r)) ρ) scope f c') (cfg0 cf.hd F H1 (fun cls d _ H' => d = none ∧ ∃ y C r F', cls = .ref C ∧ X.mg y = some (.ref C) ∧ wd y = some r ∧ Aft' (cfg0 cf.hd F H1 fun _ _ _ _ => False) F' H' ∧ P (.val (.str r)) ρ) s.heap.objs.size (frs outer)) (fun y _ => ∃ r, wd y = some r ∧ P (.val (.str r)) ρ) :=
      ⟨⟨takes_of rfl rfl rfl rfl, passes_of rfl, fun _ => ⟨rfl, rfl⟩⟩, fun y C F' H' σ' ρ' ⟨r, e3, hP⟩ hm' R' => ⟨rfl, y, C, r, F', rfl, hm', e3, R'.aft.to', hP⟩⟩
    exact bE.imp (h A outer s H0 _ f c' hr2 _ F H1 σ R1.callee Lk1) fun v H' ⟨F', ρ', w, R', r', hP⟩ => vp (R1.after (W := fun _ _ _ _ => False) R'.aft.to' hcl) (.str w0) hP
  · exact vp (R1.after (W := fun _ _ _ _ => False) (A'.grow e) hcl) (.str r) hP
end
end PL

namespace PL
open PySem PySem.Spec PyProof.Rows L2
variable [Hand]
/-! ### things that are tracked by their object -/
section
variable {X : Cx} {pins : List (Addr × Obj)} {σ : L2.St} {H : Hp} {s : Shared} {a : Addr} {φ : Heap → Prop}
theorem inv_track (I : Inv X pins σ H s) (f : FpOk X pins H a) (h0 : X.s_0.heap.objs.size ≤ a) (hφ : φ s.heap) (ho : ∃ o, s.heap.get? a = some o) (st : ∀ h1 h2 : Heap, φ h1 → (∀ o, h1.get? a = some o → h2.get? a = some o) → φ h2) : Inv X pins σ (upd H a (.ext φ)) s := by
  obtain ⟨f1, f2, f3, f4, f5, f6⟩ := f
  have ne : ∀ b u, H b = some u → b ≠ a := fun b u e => ne_of_none e f1
  have lt0 : ∀ b o, X.s_0.heap.get? b = some o → b ≠ a := fun b o e z => by
    subst z
    exact absurd (Nat.lt_of_lt_of_le (Heap.lt_size e) h0) (Nat.lt_irrefl _)
  refine ⟨I.ok, I.os, I.bare, ⟨I.base.keep, I.base.slot, fun b o e n x => ?_, I.base.there, fun b xs e => ?_, fun b o u e => ?_, fun b ps e => ?_⟩, I.loc, I.cell, ?_, fun y c e => ?_, fun p hp => ?_, fun b u e => ?_, I.len⟩
  · rw [upd_ne (lt0 b o e)]
    exact I.base.free b o e n x
  · have := I.base.tups b xs e
    rw [upd_ne (ne b _ this)]
    exact this
  · have := I.base.frzs b o u e
    rw [upd_ne (ne b _ this)]
    exact this
  · obtain ⟨more, this⟩ := I.base.tbls b ps e
    exact ⟨more, by rw [upd_ne (ne b _ this)]; exact this⟩
  · rw [upd_ne (Ne.symm f2)]
    exact I.free
  · rw [upd_ne (f5 y c e)]
    exact I.freeC y c e
  · obtain ⟨q1, q2, q3, q4, q5⟩ := I.pin p hp
    exact ⟨q1, by rw [upd_ne (f6 p hp)]; exact q2, q3, q4, q5⟩
  · by_cases hb : b = a
    · subst hb
      rw [upd_same] at e
      cases e
      exact ⟨hφ, ho, st⟩
    · rw [upd_ne hb] at e
      exact (I.hok b u e).stay (fun d v hd q => q) (fun d q => by rw [upd_ne (ne d _ q)]; exact q) fun d xs q => by rw [upd_ne (ne d _ q)]; exact q
theorem inv_forget (I : Inv X pins σ H s) (ha : H a = some (.ext φ)) : Inv X pins σ (delH H a) s := by
  have at_ : ∀ b, b ≠ a → delH H a b = H b := fun b h => by
    unfold delH
    rw [if_neg h]
  have ne : ∀ b u, H b = some u → (∀ φ, u ≠ .ext φ) → b ≠ a := fun b u e n z => by
    subst z
    rw [ha] at e
    exact n φ (Option.some.inj e).symm
  have non : ∀ b, H b = none → delH H a b = none := fun b e => by
    by_cases hb : b = a
    · subst hb
      unfold delH
      rw [if_pos rfl]
    · rw [at_ b hb]
      exact e
  refine ⟨I.ok, I.os, I.bare, ⟨I.base.keep, I.base.slot, fun b o e n x => non b (I.base.free b o e n x), I.base.there, fun b xs e => ?_, fun b o u e => ?_, fun b ps e => ?_⟩, I.loc, I.cell, non _ I.free, fun y c e => non _ (I.freeC y c e), fun p hp => ?_, fun b u e => ?_, I.len⟩
  · have := I.base.tups b xs e
    rw [at_ b (ne b _ this fun _ q => nomatch q)]
    exact this
  · have := I.base.frzs b o u e
    rw [at_ b (ne b _ this fun _ q => nomatch q)]
    exact this
  · obtain ⟨more, this⟩ := I.base.tbls b ps e
    exact ⟨more, by rw [at_ b (ne b _ this fun _ q => nomatch q)]; exact this⟩
  · obtain ⟨q1, q2, q3, q4, q5⟩ := I.pin p hp
    exact ⟨q1, non _ q2, q3, q4, q5⟩
  · by_cases hb : b = a
    · subst hb
      unfold delH at e
      rw [if_pos rfl] at e
      cases e
    · rw [at_ b hb] at e
      exact (I.hok b u e).stay (fun d v hd q => q) (fun d q => by rw [at_ d (ne d _ q fun _ q => nomatch q)]; exact q) fun d xs q => by rw [at_ d (ne d _ q fun _ q => nomatch q)]; exact q
end
/-- the object's look, with what is known of the place -/
def XF (X : Cx) (p : Addr) (φ : Heap → Prop) : Heap → Prop := fun h => φ h ∧ X.s_0.heap.objs.size ≤ p ∧ p ∉ X.fs
def u5 (X : Cx) (H : Hp) (z TI TO i1 i2 a b : Addr) : Hp :=
  upd (upd (upd (upd (upd H z (.ext (XF X z fun h => IsZip h z TI TO .none))) TI (.ext (XF X TI fun h => IsPair h TI (.ref i1) (.ref i2)))) TO (.ext (XF X TO fun h => ∃ x y, IsPair h TO x y))) i1 (.ext (XF X i1 fun h => h.IsListIter i1 a 0))) i2 (.ext (XF X i2 fun h => h.IsListIter i2 b 0))
def d5 (H : Hp) (z TI TO i1 i2 : Addr) : Hp := delH (delH (delH (delH (delH H z) TI) TO) i1) i2
structure Z5 (X : Cx) (H : Hp) (z TI TO i1 i2 a b : Addr) : Prop where
  ap : ZipApart z TI TO i1 i2 a b
  z : H z = some (.ext (XF X z fun h => IsZip h z TI TO .none))
  TI : H TI = some (.ext (XF X TI fun h => IsPair h TI (.ref i1) (.ref i2)))
  TO : H TO = some (.ext (XF X TO fun h => ∃ x y, IsPair h TO x y))
  i1 : H i1 = some (.ext (XF X i1 fun h => h.IsListIter i1 a 0))
  i2 : H i2 = some (.ext (XF X i2 fun h => h.IsListIter i2 b 0))
theorem d5_at {H : Hp} {z TI TO i1 i2 p : Addr} (h : p ≠ z ∧ p ≠ TI ∧ p ≠ TO ∧ p ≠ i1 ∧ p ≠ i2) : d5 H z TI TO i1 i2 p = H p := by
  obtain ⟨h1, h2, h3, h4, h5⟩ := h
  unfold d5 delH
  rw [if_neg h5, if_neg h4, if_neg h3, if_neg h2, if_neg h1]
theorem d5_none {H : Hp} {z TI TO i1 i2 p : Addr} (h : p = z ∨ p = TI ∨ p = TO ∨ p = i1 ∨ p = i2) : d5 H z TI TO i1 i2 p = none := by
  unfold d5 delH
  rcases h with h | h | h | h | h <;> simp [h]
section
variable {X : Cx} {pos p : Pos} {e e2 : Expr} {ta : TA}
theorem pe_zip (hg : Gl X "zip") (hm : X.mg "zip" = none) (ha : PA X [e, e2] ta) (hs : starEach [e, e2] X.env = (false, eval e X.env) :: starEach [e2] X.env := by rfl) (hpl : (backTo pos (starEach [e2] X.env)).any (·.1) = false := by rfl) :
    PE X (.Call (.Name "zip" p) [e, e2] [] pos) (fun σ H Q => ta σ H fun vs H1 => ∃ a b xs ys, vs = [.ref a, .ref b] ∧ SqL X.K H1 a xs ∧ SqL X.K H1 b ys ∧ ∀ z TI TO i1 i2, Z5 X (u5 X H1 z TI TO i1 i2 a b) z TI TO i1 i2 a b → H1 z = none → H1 TI = none → H1 TO = none → H1 i1 = none → H1 i2 = none → Q (.ref z) (u5 X H1 z TI TO i1 i2 a b)) := by
  refine ⟨fun pins s σ H Q I h => ?_⟩
  refine Call_ (ld_blt I hg hm PyProof.Rows.boot_zip (PyProof.Rows.callWith_type1 (thn (ha.run pos pins s σ H _ I h) fun us s1 ⟨vs, H1, I1, r1, q1⟩ => ?_) hs hpl))
  obtain ⟨a, b, xs, ys, ex, hqx, hqy, q⟩ := q1
  subst ex
  cases r1 with
  | cons r rr =>
    cases rr with
    | cons r' rr =>
      cases rr
      cases r
      cases r'
      obtain ⟨its, rv, p1, _⟩ := I1.list hqx
      obtain ⟨its2, rv2, p2, _⟩ := I1.list hqy
      refine call_zip_2 p1.isList p2.isList fun h' hz hTI hTO h1 h2 hsz hk => ?_
      have I2 : Inv X pins σ H1 { s1 with heap := h' } := I1.kept (t' := s1.toks) hk
      have ap := PySem.W.ktu_apart s1.heap.objs.size a b p1.lt p2.lt
      have fr : ∀ b, s1.heap.objs.size ≤ b → FpOk X pins H1 b ∧ X.s_0.heap.objs.size ≤ b ∧ b ∉ X.fs := fun b hb => ⟨I1.fpOk hb (I1.hok.fresh hb), Nat.le_trans I1.sz hb, I1.nofs hb⟩
      have up : ∀ {H : Hp} {b c : Addr} {o : HO}, FpOk X pins H c → c ≠ b → FpOk X pins (upd H b o) c := fun {H b c o} f hne => ⟨by rw [upd_ne hne]; exact f.1, f.2⟩
      obtain ⟨fz, nz, mz⟩ := fr (s1.heap.objs.size + 4) (by omega)
      obtain ⟨fTI, nTI, mTI⟩ := fr (s1.heap.objs.size + 2) (by omega)
      obtain ⟨fTO, nTO, mTO⟩ := fr (s1.heap.objs.size + 3) (by omega)
      obtain ⟨f1, n1, m1⟩ := fr s1.heap.objs.size (by omega)
      obtain ⟨f2, n2, m2⟩ := fr (s1.heap.objs.size + 1) (by omega)
      have J1 := inv_track (φ := XF X (s1.heap.objs.size + 4) fun h => IsZip h (s1.heap.objs.size + 4) (s1.heap.objs.size + 2) (s1.heap.objs.size + 3) .none) I2 fz nz ⟨hz, nz, mz⟩ ⟨_, hz⟩ fun g1 g2 ⟨q1, q2⟩ k => ⟨k _ q1, q2⟩
      have J2 := inv_track (φ := XF X (s1.heap.objs.size + 2) fun h => IsPair h (s1.heap.objs.size + 2) (.ref s1.heap.objs.size) (.ref (s1.heap.objs.size + 1))) J1 (up fTI ap.TIz) nTI ⟨hTI, nTI, mTI⟩ ⟨_, hTI⟩ fun g1 g2 ⟨q1, q2⟩ k => ⟨k _ q1, q2⟩
      have J3 := inv_track (φ := XF X (s1.heap.objs.size + 3) fun h => ∃ x y, IsPair h (s1.heap.objs.size + 3) x y) J2 (up (up fTO ap.TOz) (Ne.symm ap.TITO)) nTO ⟨⟨_, _, hTO⟩, nTO, mTO⟩ ⟨_, hTO⟩ fun g1 g2 ⟨⟨x, y, q1⟩, q2⟩ k => ⟨⟨x, y, k _ q1⟩, q2⟩
      have J4 := inv_track (φ := XF X s1.heap.objs.size fun h => h.IsListIter s1.heap.objs.size a 0) J3 (up (up (up f1 ap.i1z) (Ne.symm ap.TIi1)) (Ne.symm ap.TOi1)) n1 ⟨h1, n1, m1⟩ (by obtain ⟨o, ho, _⟩ := h1; exact ⟨o, ho⟩) fun g1 g2 ⟨⟨o, q1, q3⟩, q2⟩ k => ⟨⟨o, k _ q1, q3⟩, q2⟩
      have J5 := inv_track (φ := XF X (s1.heap.objs.size + 1) fun h => h.IsListIter (s1.heap.objs.size + 1) b 0) J4 (up (up (up (up f2 ap.i2z) (Ne.symm ap.TIi2)) (Ne.symm ap.TOi2)) (Ne.symm ap.i12)) n2 ⟨h2, n2, m2⟩ (by obtain ⟨o, ho, _⟩ := h2; exact ⟨o, ho⟩) fun g1 g2 ⟨⟨o, q1, q3⟩, q2⟩ k => ⟨⟨o, k _ q1, q3⟩, q2⟩
      refine ⟨.ref (s1.heap.objs.size + 4), _, J5, rfl, q _ _ _ _ _ ⟨ap, ?_, ?_, ?_, ?_, upd_same⟩ fz.1 fTI.1 fTO.1 f1.1 f2.1⟩
      · unfold u5
        rw [upd_ne (Ne.symm ap.i2z), upd_ne (Ne.symm ap.i1z), upd_ne (Ne.symm ap.TOz), upd_ne (Ne.symm ap.TIz), upd_same]
      · unfold u5
        rw [upd_ne ap.TIi2, upd_ne ap.TIi1, upd_ne ap.TITO, upd_same]
      · unfold u5
        rw [upd_ne ap.TOi2, upd_ne ap.TOi1, upd_same]
      · unfold u5
        rw [upd_ne ap.i12, upd_same]
theorem pi_zipN {i kk : Nat} {x : Str} {elts : List Expr} {tpos : Pos} (hN : X.N[i]? = some x) (hv : Vis X.env.scope x) (hd : (x == ("__debug__" : Str)) = false := by decide) (hcd : (x == ("__classdict__" : Str)) = false := by decide) :
    PI X (.Tuple elts kk tpos) (.Name x pos) (fun σ H R => ∃ z TI TO i1 i2 a b, σ[i]? = some (some (.ref z)) ∧ Z5 X H z TI TO i1 i2 a b ∧ R (Itz X.K a b) (d5 H z TI TO i1 i2)) := by
  refine ⟨fun pins s σ H R I h => ?_⟩
  obtain ⟨z, TI, TO, i1, i2, a, b, hs, Z, q⟩ := h
  refine thn ((pe_var (pos := pos) hN hv hd hcd).run pins s σ H (fun v H1 => v = .ref z ∧ H1 = H) I ⟨.ref z, hs, rfl, rfl⟩) fun u s1 ⟨v, H1, I1, r1, q1⟩ => ?_
  obtain ⟨rfl, rfl⟩ := q1
  cases r1
  obtain ⟨⟨pz, nz, mz⟩, _⟩ := I1.hok _ _ Z.z
  obtain ⟨⟨pTI, nTI, mTI⟩, _⟩ := I1.hok _ _ Z.TI
  obtain ⟨⟨pTO, nTO, mTO⟩, _⟩ := I1.hok _ _ Z.TO
  obtain ⟨⟨p1, n1, m1⟩, _⟩ := I1.hok _ _ Z.i1
  obtain ⟨⟨p2, n2, m2⟩, _⟩ := I1.hok _ _ Z.i2
  have D := Z.ap
  refine wpAny_pyIter_zip pz ?_
  have dn : ∀ {H : Hp} {b c : Addr} {o : HO}, c ≠ b → H c = some o → delH H b c = some o := fun {H b c o} hne e => by
    unfold delH
    rw [if_neg hne]
    exact e
  have J1 := inv_forget I1 Z.z
  have J2 := inv_forget J1 (dn D.TIz Z.TI)
  have J3 := inv_forget J2 (dn (Ne.symm D.TITO) (dn D.TOz Z.TO))
  have J4 := inv_forget J3 (dn (Ne.symm D.TOi1) (dn (Ne.symm D.TIi1) (dn D.i1z Z.i1)))
  have J5 := inv_forget J4 (dn (Ne.symm D.i12) (dn (Ne.symm D.TOi2) (dn (Ne.symm D.TIi2) (dn D.i2z Z.i2))))
  refine ⟨z, [z, TI, TO, i1, i2], _, _, _, rfl, J5, turn_zip D, ⟨pz, pTI, pTO, p1, p2⟩, fun c hc => ?_, q⟩
  have hc' : c = z ∨ c = TI ∨ c = TO ∨ c = i1 ∨ c = i2 := by simpa using hc
  have key : ∀ {φ : Heap → Prop}, H1 c = some (.ext φ) → X.s_0.heap.objs.size ≤ c → c ∉ X.fs → FpOk X pins (delH (delH (delH (delH (delH H1 z) TI) TO) i1) i2) c := fun {φ} e n m => by
    refine ⟨d5_none hc', fun q => ?_, m, .inr n, fun y cc e' q => ?_, fun p hp q => ?_⟩
    · rw [q, I1.free] at e
      cases e
    · have := I1.freeC y cc e'
      rw [q, e] at this
      cases this
    · have := (I1.pin p hp).2.1
      rw [q, e] at this
      cases this
  rcases hc' with rfl | rfl | rfl | rfl | rfl
  · exact key Z.z nz mz
  · exact key Z.TI nTI mTI
  · exact key Z.TO nTO mTO
  · exact key Z.i1 n1 m1
  · exact key Z.i2 n2 m2
end
end PL

namespace PL
open PySem PySem.Spec PyProof.Rows L2
variable [Hand]
section
variable {K : PySem.W.Frag} {mg : Str → Option Value} {c : Cfg} {F H : Hp} {σ : L2.St} {ρ : Store}
/-- a slot gets what isn't a list of one's own -/
theorem Rel.setGen {i : Nat} {w : W} {v : V} (R : Rel K mg c F H σ ρ) (hi : i < σ.length) (hl : ∀ j, w ≠ .loc j) (ho : ∀ ds, w ≠ .own ds) (r : ∀ σ, RW K mg c F H σ w v) : Rel K mg c F H (σ.set i (some v)) (ρ.set i (some w)) := by
  have no : ∀ {j : Nat} {ds : List D}, (ρ.set i (some w))[j]? = some (some (.own ds)) → j ≠ i ∧ ρ[j]? = some (some (.own ds)) := fun {j ds} h => by
    have hne : j ≠ i := fun q => by
      subst q
      rw [List.getElem?_set] at h
      split at h
      · split at h
        · exact ho ds (Option.some.inj (Option.some.inj h))
        · cases h
      · rename_i q
        exact absurd rfl q
    rw [List.getElem?_set_ne (Ne.symm hne)] at h
    exact ⟨hne, h⟩
  refine ⟨R.aft, fun j u hu => ?_, fun j k ds es u hjk h1 h2 h3 h4 => ?_⟩
  · by_cases hj : j = i
    · subst hj
      rw [List.getElem?_set] at hu
      split at hu
      · split at hu
        · cases hu
          exact ⟨hl, v, by rw [List.getElem?_set_self hi], r _⟩
        · cases hu
      · rename_i q
        exact absurd rfl q
    · rw [List.getElem?_set_ne (Ne.symm hj)] at hu
      obtain ⟨h1, z, h2, h3⟩ := R.slot j u hu
      refine ⟨h1, z, by rw [List.getElem?_set_ne (Ne.symm hj)]; exact h2, ?_⟩
      cases u with
      | loc k => exact absurd rfl (h1 k)
      | _ => exact h3
  · obtain ⟨n1, k1⟩ := no h1
    obtain ⟨n2, k2⟩ := no h2
    rw [List.getElem?_set_ne (Ne.symm n1)] at h3
    rw [List.getElem?_set_ne (Ne.symm n2)] at h4
    exact R.apart j k ds es u hjk k1 k2 h3 h4
theorem Aft.writeH (A : Aft c F H) {p : Addr} {xs ys : List V} (hd : c.hd = some p) (hp : H p = some (.lst xs)) (hi : Hand.HI F (.lst ys)) : Aft c F (upd H p (.lst ys)) := by
  obtain ⟨f1, f2, _⟩ := A.hand p hd
  refine ⟨fun a u e => ?_, A.f0, fun a u e => ?_, A.pr0, A.new, fun a u e => ?_, A.nb, fun q hq => ?_, A.tb.write hp (plain_lst _)⟩
  · rw [upd_ne (ne_of_none e f1)]
    exact A.sub a u e
  · rw [upd_ne (ne_of_none e f2)]
    exact A.pr a u e
  · by_cases h : a = p
    · subst h
      exact ⟨_, upd_same, noT_lst _⟩
    · rw [upd_ne h]
      exact A.nn a u e
  · have e : q = p := Option.some.inj (hq.symm.trans hd)
    subst e
    exact ⟨f1, f2, _, upd_same, hi⟩
theorem XO.updH {p q : Addr} {o : HO} {φ : Heap → Prop} (x : XO c F H q φ) (hd : c.hd = some p) : XO c F (upd H p o) q φ := by
  obtain ⟨h1, h2, h3, h4, h5⟩ := x
  have hne : q ≠ p := fun e => h4 (by rw [e]; exact hd)
  exact ⟨by rw [upd_ne hne]; exact h1, h2, h3, h4, h5⟩
theorem Rel.writeH {i : Nat} {p : Addr} {ds : List D} {xs ys : List V} (R : Rel K mg c F H σ ρ) (hd : c.hd = some p) (hp : H p = some (.lst xs)) (hv : σ[i]? = some (some (.ref p))) (hi : Hand.HI F (.lst ys)) (r : RDs K mg F ds ys) (hcl : clean (ρ.set i none) = true) (hl : i < ρ.length) :
    Rel K mg c F (upd H p (.lst ys)) σ (ρ.set i (some (.hown ds))) := by
  have no : ∀ {j : Nat} {es : List D}, (ρ.set i (some (.hown ds)))[j]? = some (some (.own es)) → ρ[j]? = some (some (.own es)) := fun {j es} h => by
    by_cases hj : j = i
    · subst hj
      rw [List.getElem?_set_self hl] at h
      cases h
    · rw [List.getElem?_set_ne (Ne.symm hj)] at h
      exact h
  refine ⟨R.aft.writeH hd hp hi, fun j w hw => ?_, fun j k ds' es' u hjk k1 k2 k3 k4 => R.apart j k ds' es' u hjk (no k1) (no k2) k3 k4⟩
  by_cases hj : j = i
  · subst hj
    rw [List.getElem?_set_self hl] at hw
    cases hw
    exact ⟨(fun _ q => nomatch q), _, hv, p, ys, hd, rfl, upd_same, r⟩
  · rw [List.getElem?_set_ne (Ne.symm hj)] at hw
    obtain ⟨a1, u, a2, a3⟩ := R.slot j w hw
    refine ⟨a1, u, a2, ?_⟩
    have hcj := clean_at (i := j) (w := w) hcl (by rw [List.getElem?_set_ne (Ne.symm hj)]; exact hw)
    cases w with
    | own ds' =>
      obtain ⟨p', xs', e', b1, b2, b3, b4, b5⟩ := a3
      have hne : p' ≠ p := fun e => b4 (by rw [e]; exact hd)
      exact ⟨p', xs', e', by rw [upd_ne hne]; exact b1, b2, b3, b4, b5⟩
    | zip ds es => exact absurd rfl (hcj.1 ds es)
    | hown ds' => exact absurd rfl (hcj.2 ds')
    | _ => exact a3
theorem RDs.set {d : D} {v : V} (h : RD K mg F d v) : ∀ {ds : List D} {vs : List V} (i : Nat), RDs K mg F ds vs → RDs K mg F (ds.set i d) (vs.set i v)
  | _, _, _, .nil => .nil
  | _, _, 0, .cons _ k => .cons h k
  | _, _, i + 1, .cons q k => .cons q (RDs.set h i k)
end
section
variable {X : Cx} {ρ : Store} {Y : Str → Store → Prop} {P : Po} {T : Pst}
/-- x = zip(a, b) -/
theorem ws_zip (i : Nat) {x : Str} {e e2 : Expr} {p pos' pos2 pos : Pos} (hg : Gl X "zip") (hm : X.mg "zip" = none) (hN : X.N.Nodup) (hi : X.N[i]? = some x) (hx : Loc X.env.scope x) (h : WA X [e, e2] ρ Y fun ws ρ1 => ∃ ds es, ws = [.val (.lst ds), .val (.lst es)] ∧ T.nx (ρ1.set i (some (.zip ds es))))
    (hs1 : starEach [e, e2] X.env = (false, eval e X.env) :: starEach [e2] X.env := by rfl) (hpl : (backTo pos2 (starEach [e2] X.env)).any (·.1) = false := by rfl)
    (hs : swapsWith (.Call (.Name "zip" p) [e, e2] [] pos2) (some (.Name x pos')) pos.line X.env = pure false := by rfl) (hf : X.fn x = true ∨ X.env.scope.names.lookup x = some .local := by first | exact .inl rfl | exact .inr rfl | assumption) :
    WS X (.Assign [.Name x pos'] (.Call (.Name "zip" p) [e, e2] [] pos2) pos) ρ Y T := fun c F H σ nb R L => bS.inv fun hl => by
  refine bstS (ps_set hN hi hx (pe_zip hg hm pa_best hs1 hpl) hs hf) ?_
  refine (h c F H σ R L).imp fun vs H1 ⟨F1, ρ1, ws, E1, R1, r1, ds, es, e1, hP⟩ => ?_
  subst e1
  obtain ⟨u1, u2, rfl, q1, q2⟩ := r1.two
  obtain ⟨a, xs, rfl, a1, a2⟩ := RD.lst_inv q1
  obtain ⟨b, ys, rfl, b1, b2⟩ := RD.lst_inv q2
  refine ⟨a, b, xs, ys, rfl, .inl (.inl (R1.aft.sub _ _ a1)), .inl (.inl (R1.aft.sub _ _ b1)), fun z TI TO i1 i2 Z nz nTI nTO n1 n2 => ?_⟩
  have D := Z.ap
  have up : ∀ {H : Hp} {b c : Addr} {o : HO}, H c = none → c ≠ b → upd H b o c = none := fun {H b c o} f hne => by rw [upd_ne hne]; exact f
  have f0 : ∀ q, H1 q = none → F1 q = none ∧ c.Pr q = none ∧ c.hd ≠ some q ∧ c.N q = none ∧ c.zs = true := fun q hq => by
    obtain ⟨k1, k2, k3, k4⟩ := R1.aft.fresh0 hq
    exact ⟨k3, k4, k2, k1, nb.2⟩
  have S1 := R1.growH (o := .ext (XF X z fun h => IsZip h z TI TO .none)) nz
  have S2 := S1.growH (o := .ext (XF X TI fun h => IsPair h TI (.ref i1) (.ref i2))) (up nTI D.TIz)
  have S3 := S2.growH (o := .ext (XF X TO fun h => ∃ x y, IsPair h TO x y)) (up (up nTO D.TOz) (Ne.symm D.TITO))
  have S4 := S3.growH (o := .ext (XF X i1 fun h => h.IsListIter i1 a 0)) (up (up (up n1 D.i1z) (Ne.symm D.TIi1)) (Ne.symm D.TOi1))
  have S5 := S4.growH (o := .ext (XF X i2 fun h => h.IsListIter i2 b 0)) (up (up (up (up n2 D.i2z) (Ne.symm D.TIi2)) (Ne.symm D.TOi2)) (Ne.symm D.i12))
  obtain ⟨en, ef⟩ := L.1.2.2 nb.2
  have xo : ∀ (q : Addr) (φ : Heap → Prop), (u5 X H1 z TI TO i1 i2 a b) q = some (.ext (XF X q φ)) → H1 q = none → XO c F1 (u5 X H1 z TI TO i1 i2 a b) q φ := fun q φ hq hn => by
    refine ⟨?_, f0 q hn⟩
    rw [hq, en, ef]
    rfl
  refine ⟨F1, _, S5.setGen (w := .zip ds es) (by rw [hl]; exact lt_of_ix hi) (fun _ q => nomatch q) (fun _ q => nomatch q) fun _ => ⟨z, TI, TO, i1, i2, a, b, xs, ys, rfl, D, ⟨xo _ _ Z.z nz, xo _ _ Z.TI nTI, xo _ _ Z.TO nTO, xo _ _ Z.i1 n1, xo _ _ Z.i2 n2⟩, .inl (.inl a1), a2, .inl (.inl b1), b2⟩, hP⟩
theorem heapOf (a : Addr) (q : Str) : ∃ h : Heap, h.get? a = some { cls := .none, data := .fields #[.none, .str q 0] } := by
  refine ⟨⟨Array.replicate (a + 1) { cls := .none, data := .fields #[.none, .str q 0] }, {}⟩, ?_⟩
  have e : (Array.replicate (a + 1) ({ cls := .none, data := .fields #[.none, .str q 0] } : Obj))[a]? = some { cls := .none, data := .fields #[.none, .str q 0] } := by
    rw [Array.getElem?_replicate, if_pos (Nat.lt_succ_self a)]
  unfold Heap.get?
  show (match (Array.replicate (a + 1) ({ cls := .none, data := .fields #[.none, .str q 0] } : Obj))[a]? with
    | some ⟨_, _, .freed, _⟩ => none
    | o => o) = _
  rw [e]
/-- for .. in x, x a zip object: it is gone behind it -/
theorem wi_zipN (i : Nat) {x : Str} {elts : List Expr} {kk : Nat} {tpos pos : Pos} {P : List D → Store → Prop} {ds es : List D} (hN : X.N[i]? = some x) (hv : Vis X.env.scope x) (hρ : ρ[i]? = some (some (.zip ds es))) (hcl : clean (ρ.set i none) = true) (h : P (List.zipWith (fun x y => D.tup [x, y]) ds es) (ρ.set i none))
    (hd : (x == ("__debug__" : Str)) = false := by decide) (hcd : (x == ("__classdict__" : Str)) = false := by decide) : WI X (.Tuple elts kk tpos) (.Name x pos) ρ Y P := fun c F H σ R L => by
  refine bstI (pi_zipN hN hv hd hcd) ?_
  obtain ⟨_, v, hs, z, TI, TO, i1, i2, a, b, xs, ys, e1, D, ⟨x1, x2, x3, x4, x5⟩, a1, a2, b1, b2⟩ := R.slot i _ hρ
  subst e1
  obtain ⟨en, ef⟩ := L.1.2.2 x1.2.2.2.2.2
  have k : ∀ {q : Addr} {φ : Heap → Prop}, XO c F H q φ → H q = some (.ext (XF X q φ)) := fun {q φ} x => by
    rw [x.1, en, ef]
    rfl
  refine ⟨z, TI, TO, i1, i2, a, b, hs, ⟨D, k x1, k x2, k x3, k x4, k x5⟩, F, ρ.set i none, _, .refl F, ?_, isIt_zip a1 a2 b1 b2, h⟩
  have five : ∀ q, H q = none ∨ (∃ o, H q = some o ∧ ∀ φ, o ≠ .ext φ) ∨ F q ≠ none ∨ c.Pr q ≠ none ∨ c.hd = some q ∨ c.N q ≠ none → q ≠ z ∧ q ≠ TI ∧ q ≠ TO ∧ q ≠ i1 ∧ q ≠ i2 := fun q hq => by
    have no : ∀ {r : Addr} {φ : Heap → Prop}, XO c F H r φ → q ≠ r := fun {r φ} x e => by
      subst e
      obtain ⟨y1, y2, y3, y4, y5, y6⟩ := x
      rcases hq with g | ⟨o, g, n⟩ | g | g | g | g
      · rw [g] at y1
        cases y1
      · rw [g] at y1
        exact n _ (Option.some.inj y1)
      · exact g y2
      · exact g y3
      · exact y4 g
      · exact g y5
    exact ⟨no x1, no x2, no x3, no x4, no x5⟩
  have A : Aft c F (d5 H z TI TO i1 i2) := by
    refine ⟨fun q o e => ?_, R.aft.f0, fun q o e => ?_, R.aft.pr0, R.aft.new, fun q o e => ?_, R.aft.nb, fun q hq => ?_, ⟨R.aft.tb.nF, R.aft.tb.nP, fun q hq => ?_⟩⟩
    · rw [d5_at (five q (.inr (.inr (.inl (by rw [e]; exact fun z => nomatch z)))))]
      exact R.aft.sub q o e
    · rw [d5_at (five q (.inr (.inr (.inr (.inl (by rw [e]; exact fun z => nomatch z))))))]
      exact R.aft.pr q o e
    · rw [d5_at (five q (.inr (.inr (.inr (.inr (.inr (by rw [e]; exact fun z => nomatch z)))))))]
      exact R.aft.nn q o e
    · rw [d5_at (five q (.inr (.inr (.inr (.inr (.inl hq))))))]
      exact R.aft.hand q hq
    · obtain ⟨ps, h1, h2, h3⟩ := R.aft.tb.tabs q hq
      refine ⟨ps, by rw [d5_at (five q.1 (.inr (.inl ⟨_, h1, fun _ z => nomatch z⟩)))]; exact h1, h2, fun pos cv hc => ?_⟩
      obtain ⟨cc, e1, e2⟩ := h3 pos cv hc
      refine ⟨cc, e1, ?_⟩
      have nc : ∀ {r : Addr} {φ : Heap → Prop}, XO c F H r φ → (∀ h : Heap, h.get? r = some { cls := .none, data := .fields #[.none, .str q.2 0] } → ¬ φ h) → cc ≠ r := fun {r φ} x nn e => by
        subst e
        rw [x.1] at e2
        have e3 := HO.ext.inj (Option.some.inj e2)
        obtain ⟨h, hh⟩ := heapOf cc q.2
        have e4 : (φ h ∧ c.n0 ≤ cc ∧ cc ∉ c.fs) = _ := congrFun e3 h
        have e5 : φ h ∧ c.n0 ≤ cc ∧ cc ∉ c.fs := by
          rw [e4]
          exact ⟨_, _, 0, hh, rfl, rfl⟩
        exact nn h hh e5.1
      have g1 : ∀ h : Heap, h.get? z = some { cls := .none, data := .fields #[.none, .str q.2 0] } → ¬ IsZip h z TI TO .none := fun h hh p => by
        rw [show h.get? z = _ from p] at hh
        cases hh
      have g2 : ∀ h : Heap, h.get? TI = some { cls := .none, data := .fields #[.none, .str q.2 0] } → ¬ IsPair h TI (.ref i1) (.ref i2) := fun h hh p => by
        rw [show h.get? TI = _ from p] at hh
        cases hh
      have g3 : ∀ h : Heap, h.get? TO = some { cls := .none, data := .fields #[.none, .str q.2 0] } → ¬ (∃ x y, IsPair h TO x y) := fun h hh p => by
        obtain ⟨_, _, p⟩ := p
        rw [show h.get? TO = _ from p] at hh
        cases hh
      have g4 : ∀ (r l : Addr) (h : Heap), h.get? r = some { cls := .none, data := .fields #[.none, .str q.2 0] } → ¬ h.IsListIter r l 0 := fun r l h hh p => by
        obtain ⟨o, p, pc, _⟩ := p
        rw [p] at hh
        cases hh
        cases pc
      have ce : (d5 H z TI TO i1 i2) cc = H cc := d5_at ⟨nc x1 g1, nc x2 g2, nc x3 g3, nc x4 (g4 i1 a), nc x5 (g4 i2 b)⟩
      rw [ce]
      exact e2
  have key : ∀ (j : Nat) (w : W), (ρ.set i none)[j]? = some (some w) → j ≠ i ∧ ρ[j]? = some (some w) := fun j w hj => by
    have hne : j ≠ i := fun e => by
      subst e
      rw [List.getElem?_set] at hj
      split at hj
      · split at hj <;> cases hj
      · rename_i q
        exact absurd rfl q
    rw [List.getElem?_set_ne (Ne.symm hne)] at hj
    exact ⟨hne, hj⟩
  refine ⟨A, fun j w hw => ?_, fun j k' ds' es' u hjk k1 k2 k3 k4 => R.apart j k' ds' es' u hjk (key j _ k1).2 (key k' _ k2).2 k3 k4⟩
  obtain ⟨a0, u, a2, a3⟩ := R.slot j w (key j w hw).2
  refine ⟨a0, u, a2, ?_⟩
  cases w with
  | own ds' =>
    obtain ⟨p', xs', e', g1, g2, g3, g4, g5⟩ := a3
    exact ⟨p', xs', e', by rw [d5_at (five p' (.inr (.inl ⟨_, g1, fun _ z => nomatch z⟩)))]; exact g1, g2, g3, g4, g5⟩
  | zip ds es => exact absurd rfl ((clean_at hcl hw).1 ds es)
  | hown ds => exact absurd rfl ((clean_at hcl hw).2 ds)
  | _ => exact a3
/-- the hand is opened -/
theorem wb_open (i : Nat) {body : List Stmt} {G : List D → Prop} (hρ : ρ[i]? = some (some .hnd)) (ho : ∀ F o, Hand.HI F o → ∃ ds xs, o = .lst xs ∧ RDs X.K X.mg F ds xs ∧ G ds) (h : ∀ ds, G ds → WB X body (ρ.set i (some (.hown ds))) Y T) : WB X body ρ Y T := fun c F H σ nb R L => by
  obtain ⟨_, v, hs, p, hd, rfl⟩ := R.slot i _ hρ
  obtain ⟨f1, f2, o, f3, f4⟩ := R.aft.hand p hd
  obtain ⟨ds, xs, rfl, r, g⟩ := ho F o f4
  have hi : i < σ.length := (List.getElem?_eq_some_iff.mp hs).1
  have e : σ.set i (some (.ref p)) = σ := by
    apply List.ext_getElem?
    intro j
    by_cases hj : j = i
    · subst hj
      rw [List.getElem?_set_self hi, hs]
    · rw [List.getElem?_set_ne (Ne.symm hj)]
  have R2 := R.setGen (i := i) (w := .hown ds) (v := .ref p) hi (fun _ q => nomatch q) (fun _ q => nomatch q) fun _ => ⟨p, xs, hd, rfl, f3, r⟩
  rw [e] at R2
  exact h ds g c F H σ nb R2 L
/-- hand[k] = e -/
theorem ws_hset {o ix e : Expr} {pos' pos : Pos} (h : WE X e ρ Y fun v ρ1 => ∃ d, v = .val d ∧ WE X o ρ1 Y fun x ρ2 => WE X ix ρ2 Y fun y ρ3 => ∃ i ds k j, x = .loc i ∧ ρ3[i]? = some (some (.hown ds)) ∧ clean (ρ3.set i none) = true ∧ y = .val (.int k) ∧ ixN ds.length k = some j ∧ (∀ F xs, RDs X.K X.mg F (ds.set j d) xs → Hand.HI F (.lst xs)) ∧ T.nx (ρ3.set i (some (.hown (ds.set j d)))))
    (ha : ∀ v, assign (.Subscript o ix pos') X.env v = (do
      let ov ← holding [v] (eval o X.env)
      let iv ← holding [v, ov] (eval ix X.env)
      standAt pos'
      holding [v, ov, iv] (setItem ov iv v)
      release [v, ov, iv] []) := by intro _; rfl)
    (hs : swapsWithSole [.Subscript o ix pos'] e pos.line X.env = pure false := by rfl) (hw : swappedStores [.Subscript o ix pos'] e X.env = pure none := by rfl) (h1 : (assignEach [.Subscript o ix pos'] X.env).map (·.2) = [assign (.Subscript o ix pos') X.env] := by rfl) :
    WS X (.Assign [.Subscript o ix pos'] e pos) ρ Y T := fun c F H σ nb R L => by
  refine bstS (ps_asg pe_best (pg_sub pe_best pe_best set_list ha) hs hw h1) ?_
  refine (h.run R L).imp fun v H1 ⟨F1, ρ1, w, E1, R1, r1, d, e1, ho⟩ => (ho.run R1 L).imp fun x H2 ⟨F2, ρ2, w2, E2, R2, r2, hi⟩ => (hi.run R2 L).imp fun y H3 ⟨F3, ρ3, w3, E3, R3, r3, i, ds, k, j, e2, q1, q2, e3, q3, q4, q5⟩ => ?_
  subst e1 e2 e3
  obtain ⟨_, z, hz, p, xs, hd, rfl, hp, rr⟩ := R3.slot i _ q1
  have r2' : σ[i]? = some (some x) := r2
  rw [hz] at r2'
  cases r2'
  have r4 := rr.set (RD.ext (E2.trans E3) r1) j
  refine ⟨p, xs, k, j, rfl, RD.int_inv r3, hp, by rw [rr.len]; exact q3, F3, _, R3.writeH hd hp hz (q4 _ _ r4) r4 q2 (List.getElem?_eq_some_iff.mp q1).1, q5⟩
end
end PL

namespace PL
open PySem PySem.Spec PyProof.Rows L2
variable [Hand]
/-! ### cases -/
theorem iteI {k : Bool} {A B : Prop} (a : k = true → A) (b : k = false → B) : if k = true then A else B := by
  cases k with
  | true => exact a rfl
  | false => exact b rfl
theorem iteT {k : Bool} {A B : Prop} (h : k = true) (a : A) : if k = true then A else B := by
  rw [if_pos h]
  exact a
theorem iteF {k : Bool} {A B : Prop} (h : k = false) (b : B) : if k = true then A else B := by
  rw [if_neg (by rw [h]; decide)]
  exact b
/-! ### data through and through -/
mutual
def D.ok : D → Bool
  | .tup xs => D.oks xs
  | .lst xs => D.oks xs
  | .ro xs => D.oks xs
  | .dct _ ds => D.oks ds
  | .fn _ => false
  | _ => true
def D.oks : List D → Bool
  | [] => true
  | d :: ds => D.ok d && D.oks ds
end
theorem D.ok_plain {d : D} (h : d.ok = true) : d.plain = true := by
  cases d <;> first | rfl | (unfold D.ok at h; cases h)
theorem D.oks_at {ds : List D} (h : D.oks ds = true) : ∀ d ∈ ds, d.ok = true := by
  induction ds with
  | nil => intro d hd; cases hd
  | cons x xs ih =>
    unfold D.oks at h
    rw [Bool.and_eq_true] at h
    intro d hd
    rcases List.mem_cons.mp hd with rfl | hd
    · exact h.1
    · exact ih h.2 d hd
theorem D.oks_of {ds : List D} (h : ∀ d ∈ ds, d.ok = true) : D.oks ds = true := by
  induction ds with
  | nil => rfl
  | cons x xs ih =>
    unfold D.oks
    rw [Bool.and_eq_true]
    exact ⟨h x List.mem_cons_self, ih fun d hd => h d (List.mem_cons_of_mem _ hd)⟩
/-! ### sizes of ints -/
def Bd (n : Nat) (i : Int) : Prop := i.natAbs < 2 ^ n
theorem Bd.mono {m n : Nat} {i : Int} (h : Bd m i) (e : m ≤ n) : Bd n i := Nat.lt_of_lt_of_le h (Nat.pow_le_pow_right (by decide) e)
theorem Bd.mul {m n : Nat} {i j : Int} (h : Bd m i) (k : Bd n j) : Bd (m + n) (i * j) := by
  unfold Bd at *
  rw [Int.natAbs_mul, Nat.pow_add]
  exact Nat.mul_lt_mul'' h k
theorem Bd.add {n : Nat} {i j : Int} (h : Bd n i) (k : Bd n j) : Bd (n + 1) (i + j) := by
  unfold Bd at *
  have := Int.natAbs_add_le i j
  rw [Nat.pow_succ]
  omega
theorem Bd.neg {n : Nat} {i : Int} (h : Bd n i) : Bd n (-i) := by
  unfold Bd at *
  rw [Int.natAbs_neg]
  exact h
theorem Bd.sub {n : Nat} {i j : Int} (h : Bd n i) (k : Bd n j) : Bd (n + 1) (i - j) := by
  rw [Int.sub_eq_add_neg]
  exact h.add k.neg
theorem Bd.log {n : Nat} {i : Int} (h : Bd n i) (hn : 0 < n) : i.natAbs.log2 < n := by
  by_cases e : i.natAbs = 0
  · rw [e]
    exact hn
  · exact (Nat.log2_lt e).mpr h
theorem Bd.cmul {m n : Nat} {i j : Int} (h : Bd m i) (k : Bd n j) (e : m + n ≤ 1000000) (hm : 0 < m) (hn : 0 < n) : CMulW i j := by
  have h1 := h.log hm
  have h2 := k.log hn
  unfold CMulW
  omega
theorem Bd.cdiv {n : Nat} {j : Int} (i : Int) (h : Bd n j) (h0 : j ≠ 0) (hn : 0 < n) (e : n ≤ 9000) : CDivG i j := ⟨h0, Nat.lt_of_lt_of_le (h.log hn) e⟩
/-! ### calls -/
section
variable {P : Program} {w : World} {K : PySem.W.Frag} {mg : Str → Option Value} {base : Heap} {k : Nat} {x : Str} {n : Nat} {S : Sem1}
theorem Cal.mono {j : Nat} (C : Cal P w K mg base k x n S) (h : k ≤ j) : Cal P w K mg base j x n S := by
  obtain ⟨f, fd, ps, F, r⟩ := C.ex
  exact ⟨f, fd, ps, F.mono h, r⟩
theorem cal_of {st : Stmt} {f : Addr} {fd : FuncData} {ps : List Str} (F : FunD K x x (defArgs st) (defBody st) (defScope st) [] [] f fd) (hm : mg x = some (.ref f)) (hb : Binds K fd ps []) (ok : FnOk P w K mg base (L2.CX P w) k f fd ps (spS K mg n S)) : Cal P w K mg base k x n S :=
  ⟨f, fd, ps, ok, hm, F.kp, hb⟩
end
section
variable {X : Cx} {ρ : Store} {Y : Str → Store → Prop} {P : Po} {T : Pst}
theorem we_gstr {x z : Str} {pos : Pos} (hg : Gl X x) (hm : ∃ t, X.mg x = some (.str z t)) (h : P (.val (.str z)) ρ) (hd : (x == ("__debug__" : Str)) = false := by decide) : WE X (.Name x pos) ρ Y P := by
  obtain ⟨t, hm⟩ := hm
  exact we_glob hg hm (fun F => ⟨.str z, ⟨t, rfl⟩, .str z⟩) h hd
theorem we_gint {x : Str} {i : Int} {pos : Pos} (hg : Gl X x) (hm : ∃ t, X.mg x = some (.int i t)) (h : P (.val (.int i)) ρ) (hd : (x == ("__debug__" : Str)) = false := by decide) : WE X (.Name x pos) ρ Y P := by
  obtain ⟨t, hm⟩ := hm
  exact we_glob hg hm (fun F => ⟨.int i, ⟨t, rfl⟩, .int i⟩) h hd
theorem we_gfn {x : Str} {a : Addr} {pos : Pos} (hg : Gl X x) (hm : X.mg x = some (.ref a)) (h : P (.val (.fn x)) ρ) (hd : (x == ("__debug__" : Str)) = false := by decide) : WE X (.Name x pos) ρ Y P :=
  we_glob hg hm (fun F => ⟨.ref a, rfl, .fn hm⟩) h hd
/-- a tuple of the module -/
theorem we_gtup {x : Str} {a : Addr} {ds : List D} {vs : List V} {pos : Pos} (hg : Gl X x) (hm : X.mg x = some (.ref a)) (hs : ∀ F : Hp, SqT X.K F a vs) (hr : ∀ F : Hp, RDs X.K X.mg F ds vs) (h : P (.val (.tup ds)) ρ) (hd : (x == ("__debug__" : Str)) = false := by decide) : WE X (.Name x pos) ρ Y P :=
  we_glob hg hm (fun F => ⟨.ref a, rfl, .tup (hs F) (hr F)⟩) h hd
end
end PL
namespace PL
open PySem PySem.Spec PyProof.Rows L2
variable [Hand]
section
variable {X : Cx} {ρ : Store} {Y : Str → Store → Prop} {P : Po} {T : Pst}
theorem we_inK {a b : Expr} {x : Str} {pos : Pos} (D : KdAt X x) (hm : behindInMarks .In b = false) (h : WE X a ρ Y fun u ρ1 => WE X b ρ1 Y fun y ρ2 => ∃ z r, u = .val (.str z) ∧ y = .val (.fn x) ∧ kdSays X x z r ∧ P (.val (.bl r.isSome)) ρ2) : WE X (.Compare a [.In] [b] pos) ρ Y P := fun c F H σ R L => by
  obtain ⟨d, es, n, m1, kd⟩ := D
  refine bst (pe_cmpR (op_in_kd kd) pe_best pe_best hm) ?_
  refine (h.run R L).imp fun v H1 ⟨F1, ρ1, w, _, R1, r1, hb⟩ => (hb.run R1 L).imp fun u H2 ⟨F2, ρ2, w2, _, R2, r2, z, r, e1, e2, ⟨d', m2, hk⟩, hP⟩ => ?_
  subst e1 e2
  rw [m1] at m2
  cases m2
  have r2' : RD X.K X.mg F2 (.fn x) u := r2
  cases r2' with
  | fn m3 =>
    rw [m1] at m3
    cases m3
    cases r with
    | none => exact ⟨z, none, RD.str_inv r1, rfl, hk, vp R2 (.bl _) hP⟩
    | some e =>
      obtain ⟨u0, hk, _⟩ := hk
      exact ⟨z, some u0, RD.str_inv r1, rfl, hk, vp R2 (.bl _) hP⟩
/-- a statement, what is known behind it, the rest -/
theorem wb_join (J : Store → Prop) {st : Stmt} {rest : List Stmt} (h : WS X st ρ Y { T with nx := J }) (k : ∀ ρ1, J ρ1 → WB X rest ρ1 Y T) : WB X (st :: rest) ρ Y T := fun c F H σ nb R L => by
  refine bstB (pss_cons ps_best pss_best) ?_
  refine bS.imp (h c F H σ nb R L) (fun σ1 H1 ⟨F1, ρ1, R1, q⟩ => k ρ1 q c F1 H1 σ1 nb R1 L) (fun _ _ q => q) (fun _ _ q => q) fun _ _ q => q
end
end PL

namespace PL
open PySem PySem.Spec PyProof.Rows L2
variable [Hand]
/-! ### == of data, deep -/
mutual
def D.py : D → Option PyData
  | .non => some .none
  | .bl b => some (.bool b)
  | .int i => some (.int i)
  | .str x => some (.str x)
  | .tup xs => match D.pys xs with
    | some ps => some (.tuple ps)
    | none => none
  | .lst xs => match D.pys xs with
    | some ps => some (.list ps)
    | none => none
  | .ro xs => match D.pys xs with
    | some ps => some (.list ps)
    | none => none
  | _ => none
def D.pys : List D → Option (List PyData)
  | [] => some []
  | d :: ds => match D.py d, D.pys ds with
    | some p, some ps => some (p :: ps)
    | _, _ => none
end
section
variable {K : PySem.W.Frag} {mg : Str → Option Value} {F : Hp}
mutual
theorem RD.dp : ∀ {d : D} {v : V} {p : PyData}, RD K mg F d v → D.py d = some p → Dp K F v p
  | _, _, _, .non, e => by
    unfold D.py at e
    cases e
    exact .non
  | _, _, _, .bl b, e => by
    unfold D.py at e
    cases e
    exact .bl b
  | _, _, _, .int i, e => by
    unfold D.py at e
    cases e
    exact .int i
  | _, _, _, .str x, e => by
    unfold D.py at e
    cases e
    exact .str x
  | _, _, _, .tup h k, e => by
    unfold D.py at e
    split at e
    · rename_i ps q
      cases e
      exact .tup h (RDs.dp k q)
    · cases e
  | _, _, _, .lst h k, e => by
    unfold D.py at e
    split at e
    · rename_i ps q
      cases e
      exact .lst (.inl (.inl h)) (RDs.dp k q)
    · cases e
  | _, _, _, .ro h k, e => by
    unfold D.py at e
    split at e
    · rename_i ps q
      cases e
      exact .lst h (RDs.dp k q)
    · cases e
  | _, _, _, .dct _ _ _ _, e => by
    unfold D.py at e
    cases e
  | _, _, _, .fn _, e => by
    unfold D.py at e
    cases e
theorem RDs.dp : ∀ {ds : List D} {vs : List V} {ps : List PyData}, RDs K mg F ds vs → D.pys ds = some ps → DpAll K F vs ps
  | _, _, _, .nil, e => by
    unfold D.pys at e
    cases e
    exact .nil
  | _, _, _, .cons h k, e => by
    unfold D.pys at e
    split at e
    · rename_i p ps q1 q2
      cases e
      exact .cons (RD.dp h q1) (RDs.dp k q2)
    · cases e
end
mutual
theorem dp_ext {F' : Hp} (e : Ext F F') : ∀ {v : V} {p : PyData}, Dp K F v p → Dp K F' v p
  | _, _, .non => .non
  | _, _, .bl b => .bl b
  | _, _, .int i => .int i
  | _, _, .str x => .str x
  | _, _, .lst h k => .lst (sqL_ext e h) (dps_ext e k)
  | _, _, .tup h k => .tup (sqT_ext e h) (dps_ext e k)
theorem dps_ext {F' : Hp} (e : Ext F F') : ∀ {vs : List V} {ps : List PyData}, DpAll K F vs ps → DpAll K F' vs ps
  | _, _, .nil => .nil
  | _, _, .cons h k => .cons (dp_ext e h) (dps_ext e k)
end
end
section
variable {X : Cx} {ρ : Store} {Y : Str → Store → Prop} {P : Po} {T : Pst}
theorem we_eqD {j : Nat} {a b : Expr} {pos : Pos} (hr : Room j X.A) (h : WE X a ρ Y fun x ρ1 => WE X b ρ1 Y fun y ρ2 => ∃ d e p q, x = .val d ∧ y = .val e ∧ d.py = some p ∧ e.py = some q ∧ SeqAt.shaped p = true ∧ SeqAt.shaped q = true ∧ P (.val (.bl (PyData.eqv p q))) ρ2) : WE X (.Compare a [.Eq] [b] pos) ρ Y P := fun c F H σ R L => by
  refine bst (pe_cmpR (op_eqD hr.units) pe_best pe_best (nomark _)) ?_
  refine (h.run R L).imp fun v H1 ⟨F1, ρ1, w, _, R1, r1, hb⟩ => (hb.run R1 L).imp fun u H2 ⟨F2, ρ2, w2, E2, R2, r2, d, e, p, q, e1, e2, p1, p2, s1, s2, hP⟩ => ?_
  subst e1 e2
  exact ⟨p, q, dp_ext (E2.trans R2.aft.sub) (RD.dp r1 p1), dp_ext R2.aft.sub (RD.dp r2 p2), s1, s2, vp R2 (.bl _) hP⟩
theorem wt_eqD {j : Nat} {a b : Expr} {pos : Pos} {P : Pb} (hr : Room j X.A) (h : WE X a ρ Y fun x ρ1 => WE X b ρ1 Y fun y ρ2 => ∃ d e p q, x = .val d ∧ y = .val e ∧ d.py = some p ∧ e.py = some q ∧ SeqAt.shaped p = true ∧ SeqAt.shaped q = true ∧ P (PyData.eqv p q) ρ2) : WT X (.Compare a [.Eq] [b] pos) ρ Y P := fun c F H σ R L => by
  refine bstT (pt_cmpR (op_eqD hr.units) pe_best pe_best (nomark _)) ?_
  refine (h.run R L).imp fun v H1 ⟨F1, ρ1, w, _, R1, r1, hb⟩ => (hb.run R1 L).imp fun u H2 ⟨F2, ρ2, w2, E2, R2, r2, d, e, p, q, e1, e2, p1, p2, s1, s2, hP⟩ => ?_
  subst e1 e2
  exact ⟨p, q, dp_ext (E2.trans R2.aft.sub) (RD.dp r1 p1), dp_ext R2.aft.sub (RD.dp r2 p2), s1, s2, _, rfl, F2, ρ2, R2, hP⟩
theorem wt_neD {j : Nat} {a b : Expr} {pos : Pos} {P : Pb} (hr : Room j X.A) (h : WE X a ρ Y fun x ρ1 => WE X b ρ1 Y fun y ρ2 => ∃ d e p q, x = .val d ∧ y = .val e ∧ d.py = some p ∧ e.py = some q ∧ SeqAt.shaped p = true ∧ SeqAt.shaped q = true ∧ P (!PyData.eqv p q) ρ2) : WT X (.Compare a [.NotEq] [b] pos) ρ Y P := fun c F H σ R L => by
  refine bstT (pt_cmpR (op_neD hr.units) pe_best pe_best (nomark _)) ?_
  refine (h.run R L).imp fun v H1 ⟨F1, ρ1, w, _, R1, r1, hb⟩ => (hb.run R1 L).imp fun u H2 ⟨F2, ρ2, w2, E2, R2, r2, d, e, p, q, e1, e2, p1, p2, s1, s2, hP⟩ => ?_
  subst e1 e2
  exact ⟨p, q, dp_ext (E2.trans R2.aft.sub) (RD.dp r1 p1), dp_ext R2.aft.sub (RD.dp r2 p2), s1, s2, _, rfl, F2, ρ2, R2, hP⟩
end
end PL

namespace PL
open PySem PySem.Spec PyProof.Rows L2
variable [Hand]
section
variable {K : PySem.W.Frag} {mg : Str → Option Value} {c : Cfg} {F H : Hp} {σ : L2.St} {ρ : Store}
/-- a list of one's own is frozen -/
theorem Rel.freezeOwn {i : Nat} {ds : List D} (nb : c.blk = false) (R : Rel K mg c F H σ ρ) (hi : ρ[i]? = some (some (.own ds))) : ∃ F', Ext F F' ∧ Rel K mg c F' H σ (ρ.set i (some (.val (.lst ds)))) := by
  obtain ⟨_, v, hv, p, xs, rfl, h1, h2, h3, h4, h5⟩ := R.slot i _ hi
  have hlt : i < ρ.length := (List.getElem?_eq_some_iff.mp hi).1
  have no : ∀ {j : Nat} {es : List D}, (ρ.set i (some (.val (.lst ds))))[j]? = some (some (.own es)) → j ≠ i ∧ ρ[j]? = some (some (.own es)) := fun {j es} h => by
    have hj : j ≠ i := fun q => by
      subst q
      rw [List.getElem?_set_self hlt] at h
      cases h
    rw [List.getElem?_set_ne (Ne.symm hj)] at h
    exact ⟨hj, h⟩
  refine ⟨upd F p (.lst xs), .new h2, R.aft.freeze nb (noT_lst _) h1 h2 h3 h4, fun j w hw => ?_, fun j k ds' es' u hjk k1 k2 k3 k4 => R.apart j k ds' es' u hjk (no k1).2 (no k2).2 k3 k4⟩
  by_cases hj : j = i
  · subst hj
    rw [List.getElem?_set_self hlt] at hw
    cases hw
    exact ⟨(fun _ q => nomatch q), _, hv, .lst upd_same (h5.ext (.new h2))⟩
  · have hw' := hw
    rw [List.getElem?_set_ne (Ne.symm hj)] at hw
    obtain ⟨a1, u, a2, a3⟩ := R.slot j w hw
    refine ⟨a1, u, a2, ?_⟩
    cases w with
    | val d => exact RD.ext (.new h2) a3
    | own ds' =>
      obtain ⟨p', xs', e', b1, b2, b3, b4, b5⟩ := a3
      subst e'
      have hne : p' ≠ p := fun e => by
        subst e
        exact R.apart j i ds' ds _ hj hw hi a2 hv
      exact ⟨p', xs', rfl, b1, by rw [upd_ne hne]; exact b2, b3, b4, b5.ext (.new h2)⟩
    | loc k => exact a3
    | hnd => exact a3
    | zip ds' es' =>
      obtain ⟨z, TI, TO, i1, i2, a, b, ys, zs, e1, e2, ⟨x1, x2, x3, x4, x5⟩, r1, r2, r3, r4⟩ := a3
      have k : ∀ {q : Addr} {φ : Heap → Prop}, XO c F H q φ → XO c (upd F p (.lst xs)) H q φ := fun {q φ} ⟨y1, y2, y3, y4, y5⟩ => by
        have hne : q ≠ p := fun e => by
          rw [e, h1] at y1
          exact nomatch y1
        exact ⟨y1, by rw [upd_ne hne]; exact y2, y3, y4, y5⟩
      exact ⟨z, TI, TO, i1, i2, a, b, ys, zs, e1, e2, ⟨k x1, k x2, k x3, k x4, k x5⟩, sqL_ext (.new h2) r1, r2.ext (.new h2), sqL_ext (.new h2) r3, r4.ext (.new h2)⟩
    | hown ds' =>
      obtain ⟨p', xs', g1, e', b1, b5⟩ := a3
      exact ⟨p', xs', g1, e', b1, b5.ext (.new h2)⟩
end
section
variable {X : Cx} {ρ : Store} {Y : Str → Store → Prop} {T : Pst}
/-- from here on a list of one's own is data -/
theorem wb_freeze (i : Nat) {ds : List D} {body : List Stmt} (hi : ρ[i]? = some (some (.own ds))) (h : WB X body (ρ.set i (some (.val (.lst ds)))) Y T) : WB X body ρ Y T := fun c F H σ nb R L => by
  obtain ⟨F', _, R'⟩ := R.freezeOwn nb.1 hi
  exact h c F' H σ nb R' L
end
end PL

namespace PL
open PySem PySem.Spec PyProof.Rows L2
variable [Hand]
/-- a call of a local name that holds a def of the module -/
theorem pe_callLS {X : Cx} {CX : CXT} {k i : Nat} {f : Addr} {fd : FuncData} {ps : List Str} {sp : Sp} {E : L2.St → XK} {x : Str} {p pos : Pos} {e : Expr} {es : List Expr} {t : TA} (F : FnOk X.prog X.w X.K X.mg X.base CX k f fd ps sp) (hr : Room k X.A) (hN : X.N[i]? = some x) (hv : Vis X.env.scope x) (hk : PySem.W.keepIn X.K (.ref f) = true) (hb : Binds X.K fd ps []) (hx : ∀ σ, PassesAt CX X σ (E σ)) (ha : PA X (e :: es) t)
    (hdb : (x == ("__debug__" : Str)) = false := by decide) (hcd : (x == ("__classdict__" : Str)) = false := by decide)
    (he : starEach (e :: es) X.env = (false, eval e X.env) :: starEach es X.env := by rfl) (hpl : (backTo pos (starEach es X.env)).any (·.1) = false := by rfl) : PE X (.Call (.Name x p) (e :: es) [] pos) (fun σ H Q => σ[i]? = some (some (.ref f)) ∧ t σ H fun vs H1 => sp vs H1 Q (E σ)) := by
  refine ⟨fun pins s σ H Q I h => ?_⟩
  obtain ⟨hs, ht⟩ := h
  refine wpAny_Call_Name_kw (thn ((pe_var (pos := p) hN hv hdb hcd).run pins s σ H (fun v H1 => v = .ref f ∧ H1 = H) I ⟨.ref f, hs, rfl, rfl⟩) fun u s1 ⟨v, H1, I1, r1, q1⟩ => ?_)
  obtain ⟨rfl, rfl⟩ := q1
  cases r1
  refine PySem.W.callWith_K (h₀ := X.base) I.ok.mod.kin hk (thn (ha.run pos pins s1 σ _ _ I1 ht) fun us s2 ⟨vs, H2, I2, r, q⟩ => ⟨I2.kIn, ?_⟩) he hpl
  exact run_fnS F hr hb (hx σ) I2 r q
section
variable {X : Cx} {ρ : Store} {Y : Str → Store → Prop} {P : Po}
theorem we_callF (i : Nat) {k j n : Nat} {x y : Str} {S : Sem1} {e : Expr} {es : List Expr} {p pos : Pos} (C : Cal X.prog X.w X.K X.mg X.base k x n S) (hr : Room j X.A) (hk : k ≤ j) (hN : X.N[i]? = some y) (hv : Vis X.env.scope y) (hρ : ρ[i]? = some (some (.val (.fn x))))
    (h : WA X (e :: es) ρ Y fun ws ρ1 => ws.length = n ∧ (ws.all W.dat && clean ρ1) = true ∧ S ws (fun d => P (.val d) ρ1) (fun x => Y x ρ1)) (hdb : (y == ("__debug__" : Str)) = false := by decide) (hcd : (y == ("__classdict__" : Str)) = false := by decide)
    (he : starEach (e :: es) X.env = (false, eval e X.env) :: starEach es X.env := by rfl) (hpl : (backTo pos (starEach es X.env)).any (·.1) = false := by rfl) : WE X (.Call (.Name y p) (e :: es) [] pos) ρ Y P := fun c F H σ R L => by
  obtain ⟨f, fd, ps, hF, hm, hkp, hb⟩ := C.ex
  obtain ⟨_, v, hs, hv2⟩ := R.slot i _ hρ
  have ev : v = .ref f := by
    have hv2 : RD X.K X.mg F (.fn x) v := hv2
    cases hv2 with
    | fn h =>
      rw [hm] at h
      cases h
      rfl
  subst ev
  refine bst (pe_callLS (i := i) hF (hr.mono hk) hN hv hkp hb (fun σ => passAt L.1.1 σ) pa_best hdb hcd he hpl) ?_
  refine ⟨hs, ?_⟩
  refine (h c F H σ R L).imp fun vs H1 ⟨F1, ρ1, ws, _, R1, r1, hn, hw, hS⟩ => ?_
  rw [Bool.and_eq_true] at hw
  have hcl := hw.2
  have hw' := datas_of hw.1
  refine ⟨c.hd, F1, ws, _, _, by rw [r1.len]; exact hn, R1.aft.sub, R1.aft.tb.nF, R1.aft.tb.tabs, fun p hp => ?_, r1.toCall (.refl _) rfl hw', hw', hS, fun d v F' H' hP A r => ?_, fun x C F' H' hY hm A => ?_⟩
  · obtain ⟨a1, _, o, a3, a4⟩ := R1.aft.hand p hp
    exact ⟨a1, o, a3, a4⟩
  · exact vp (R1.after A hcl) r hP
  · exact L.2 x C F' H' σ ρ1 hY hm (R1.after A hcl)
end
end PL

namespace PL
open PySem PySem.Spec PyProof.Rows L2
variable [Hand]
theorem Rel.weak {K : PySem.W.Frag} {mg : Str → Option Value} {c : Cfg} {F H : Hp} {σ : L2.St} {ρ ρ' : Store} (R : Rel K mg c F H σ ρ) (h : ∀ (i : Nat) (w : W), ρ'[i]? = some (some w) → ρ[i]? = some (some w)) : Rel K mg c F H σ ρ' :=
  ⟨R.aft, fun i w hi => R.slot i w (h i w hi), fun i j ds es v hij h1 h2 => R.apart i j ds es v hij (h i _ h1) (h j _ h2)⟩
/-- slots forgotten -/
theorem wb_weak {X : Cx} {ρ ρ' : Store} {Y : Str → Store → Prop} {T : Pst} {body : List Stmt} (h : ∀ (i : Nat) (w : W), ρ'[i]? = some (some w) → ρ[i]? = some (some w)) (k : WB X body ρ' Y T) : WB X body ρ Y T := fun c F H σ nb R L => k c F H σ nb (R.weak h) L
end PL

namespace PL
open PySem PySem.Spec PyProof.Rows L2
/-! ### defs that are called where no repr is under way -/
structure RoomG (k : Nat) (A : Around) : Prop where
  room : Room k A
  quiet : A.guards = some []
theorem RoomG.mono {j k : Nat} {A : Around} (r : RoomG k A) (h : j ≤ k) : RoomG j A := ⟨r.room.mono h, r.quiet⟩
theorem RoomG.deeper {k : Nat} {A : Around} (r : RoomG (k + 1) A) (env : Env) : RoomG k (A.deeper env) := ⟨r.room.deeper env, r.quiet⟩
structure FnG (P : Program) (w : World) (K : PySem.W.Frag) (mg : Str → Option Value) (base : Heap) (CX : CXT) (k : Nat) (f : Addr) (fd : FuncData) (ps : List Str) (sp : Sp) : Prop where
  many : ∀ vs H Q E, sp vs H Q E → vs.length = ps.length
  go : ∀ (A : Around) (outer : List Env) (s : Shared) (H : Hp) (us : List Value) (vs : List V) (Q : VK) (E : XK), RoomG k A → Env0 P w K mg base A outer s H → BindsTo s fd ⟨us, []⟩ (ps.zip us) → Vals vs us → sp vs H Q E →
    codeAny (model P w) A (.call (.ref f) ⟨us, []⟩) (CR CX outer P w H s Q E) s
section
variable {P : Program} {w : World} {K : PySem.W.Frag} {mg : Str → Option Value} {base : Heap} {CX : CXT} {j k : Nat} {f : Addr} {fd : FuncData} {N ps : List Str} {sp : Sp}
theorem FnG.of (F : FnOk P w K mg base CX k f fd ps sp) : FnG P w K mg base CX k f fd ps sp :=
  ⟨F.len, fun A outer s H us vs Q E hr e0 hb r h => F.run A outer s H ⟨us, []⟩ us vs Q E hr.room e0 hb r h⟩
theorem FnG.mono (F : FnG P w K mg base CX j f fd ps sp) (h : j ≤ k) : FnG P w K mg base CX k f fd ps sp :=
  ⟨F.many, fun A outer s H us vs Q E hr => F.go A outer s H us vs Q E (hr.mono h)⟩
theorem fnG_of {name qual : Str} {params : Arguments} {body : List Stmt} {scope : Scope} {dV kV doc pm cdv ct oc : Value} {an od : Option Addr} {osl : Array (Option Value)} (S : FnScope N ps scope) (hcd : PySem.W.codeIn K cdv qual = true)
    (lk : K.lookup f = some ⟨oc, od, .func (PySem.W.fnOf name qual params body scope dV kV doc pm an cdv ct), osl⟩) (many : ∀ vs H Q E, sp vs H Q E → vs.length = ps.length)
    (step : ∀ (A : Around) (outer : List Env) (s : Shared) (H : Hp) (vs : List V) (Q : VK) (E : XK), RoomG k (A.deeper (envOfC qual scope s.heap.objs.size f cdv)) → sp vs H Q E →
      bB (cxOf CX P w K mg base N qual scope f cdv A outer s H E) body { nx := fun _ H' => Q .non H', rt := Q } (L2.start N vs) H) :
    FnG P w K mg base CX (k + 1) f (PySem.W.fnOf name qual params body scope dV kV doc pm an cdv ct) ps sp := by
  constructor
  · exact many
  · intro A outer s H us vs Q E hr e0 hb r h
    have inH : K.In s.heap := e0.mod.kin.keeps fun b o e => (e0.bs b o e).1
    have seen : ∀ y ∈ ps.zip us, scope.names.lookup y.1 = some .local ∨ (scope.names.lookup y.1 = some .cell ∧ ((cellsFrom (s.heap.objs.size + 1) scope.names []).lookup y.1).isSome = true) := by
      rintro ⟨n, v⟩ hy
      exact (S.par n (List.of_mem_zip hy).1).imp id fun q => ⟨q, PySem.W.cellsFrom_some _ _ _ (.inl q)⟩
    refine codeAny_call_function hr.room.depth (inH _ _ lk) rfl S.co S.gen rfl (PySem.W.codeRec_of inH hcd) (hb _ _ _ _ (wpAny_newFunctionEnv_cells S.kind seen ?_))
    intro env he s1 x
    subst he
    refine ⟨(e0.mod.nolimit.keeps fun b o e => (e0.bs b o e).1).keeps x.toInCall.keep, codeAny_func ?_⟩
    have I : Inv (cxOf CX P w K mg base N qual scope f cdv A outer s H E) [] (L2.start N vs) H s1 := inv_start S hr.room.hd e0 (many _ _ _ _ h) r x
    refine wpAny_mono (step A outer s H vs Q E (hr.deeper _) h [] s1 I) (fun fl s' q => ?_) fun _ _ q => q
    match fl, q with
    | .ret u, ⟨v, σ', H', J, rv, q⟩ => exact ⟨v, H', J.os, J.bare, J.base, J.hok, rv, q⟩
    | .next, ⟨σ', H', J, q⟩ => exact ⟨V.non, H', J.os, J.bare, J.base, J.hok, (rfl : RelV V.non Value.none), q⟩
    | .brk, ⟨_, _, _, q⟩ => exact q.elim
    | .cont, ⟨_, _, _, q⟩ => exact q.elim
end
section
variable {X : Cx} {k : Nat} {f : Addr} {fd : FuncData} {ps : List Str} {sp : Sp} {E : L2.St → XK} {x : Str} {p pos : Pos} {e : Expr} {es : List Expr} {t : TA}
theorem pe_callG {CX : CXT} (F : FnG X.prog X.w X.K X.mg X.base CX k f fd ps sp) (hr : RoomG k X.A) (hg : Gl X x) (hm : X.mg x = some (.ref f)) (hk : PySem.W.keepIn X.K (.ref f) = true) (hb : Binds X.K fd ps []) (hx : ∀ σ, PassesAt CX X σ (E σ)) (ha : PA X (e :: es) t)
    (hdb : (x == ("__debug__" : Str)) = false := by decide) (he : starEach (e :: es) X.env = (false, eval e X.env) :: starEach es X.env := by rfl) (hpl : (backTo pos (starEach es X.env)).any (·.1) = false := by rfl) :
    PE X (.Call (.Name x p) (e :: es) [] pos) (tCallS sp E t) := by
  constructor
  intro pins s σ H Q I h
  refine wpAny_Call_Name_kw (ld_glob I hg hm ?_ hdb)
  refine PySem.W.callWith_K (h₀ := X.base) I.ok.mod.kin hk (thn (ha.run pos pins s σ H _ I h) fun us s1 ⟨vs, H1, I1, r, q⟩ => ⟨I1.kIn, ?_⟩) he hpl
  have bd := hb s1 us I1.kIn (by rw [List.append_nil, ← r.length]; exact F.many _ _ _ _ q)
  rw [List.append_nil] at bd
  refine wpAny_call (codeAny_mono (F.go X.A X.stack s1 H1 us vs Q (E σ) hr I1.env0 bd r q) fun r s' z => ?_)
  match r, z with
  | .error e, z => exact hx σ pins H1 s1 e s' I1 z
  | .ok (.ret u), z => exact I1.after z
  | .ok .next, z => exact z.elim
  | .ok .brk, z => exact z.elim
  | .ok .cont, z => exact z.elim
end
variable [Hand]
structure CalG (P : Program) (w : World) (K : PySem.W.Frag) (mg : Str → Option Value) (base : Heap) (k : Nat) (x : Str) (n : Nat) (S : Sem1) : Prop where
  ex : ∃ f fd ps, FnG P w K mg base (L2.CX P w) k f fd ps (spS K mg n S) ∧ mg x = some (.ref f) ∧ PySem.W.keepIn K (.ref f) = true ∧ Binds K fd ps []
theorem CalG.mono {P : Program} {w : World} {K : PySem.W.Frag} {mg : Str → Option Value} {base : Heap} {j k n : Nat} {x : Str} {S : Sem1} (C : CalG P w K mg base j x n S) (h : j ≤ k) : CalG P w K mg base k x n S := by
  obtain ⟨f, fd, ps, F, r⟩ := C.ex
  exact ⟨f, fd, ps, F.mono h, r⟩
section
variable {X : Cx} {ρ : Store} {Y : Str → Store → Prop} {P : Po}
theorem we_callG {k j n : Nat} {x : Str} {S : Sem1} {e : Expr} {es : List Expr} {p pos : Pos} (C : CalG X.prog X.w X.K X.mg X.base k x n S) (hr : RoomG j X.A) (hk : k ≤ j) (hg : Gl X x)
    (h : WA X (e :: es) ρ Y fun ws ρ1 => ws.length = n ∧ (ws.all W.dat && clean ρ1) = true ∧ S ws (fun d => P (.val d) ρ1) (fun x => Y x ρ1)) (hdb : (x == ("__debug__" : Str)) = false := by decide) (he : starEach (e :: es) X.env = (false, eval e X.env) :: starEach es X.env := by rfl)
    (hpl : (backTo pos (starEach es X.env)).any (·.1) = false := by rfl) : WE X (.Call (.Name x p) (e :: es) [] pos) ρ Y P := by
  intro c F H σ R L
  obtain ⟨f, fd, ps, hF, hm, hkp, hb⟩ := C.ex
  refine bst (pe_callG hF (hr.mono hk) hg hm hkp hb (fun σ => passAt L.1.1 σ) pa_best hdb he hpl) ?_
  refine (h c F H σ R L).imp fun vs H1 ⟨F1, ρ1, ws, _, R1, r1, hn, hw, hS⟩ => ?_
  rw [Bool.and_eq_true] at hw
  have hcl := hw.2
  have hw' := datas_of hw.1
  refine ⟨c.hd, F1, ws, _, _, by rw [r1.len]; exact hn, R1.aft.sub, R1.aft.tb.nF, R1.aft.tb.tabs, fun p hp => ?_, r1.toCall (.refl _) rfl hw', hw', hS, fun d v F' H' hP A r => ?_, fun x C F' H' hY hm A => ?_⟩
  · obtain ⟨a1, _, o, a3, a4⟩ := R1.aft.hand p hp
    exact ⟨a1, o, a3, a4⟩
  · exact vp (R1.after A hcl) r hP
  · exact L.2 x C F' H' σ ρ1 hY hm (R1.after A hcl)
end
/-- THE RULE for such a def -/
theorem fn_okG {P : Program} {w : World} {K : PySem.W.Frag} {mg : Str → Option Value} {base : Heap} {k : Nat} {x : Str} {st : Stmt} {f : Addr} {fd : FuncData} {N ps : List Str} {S : Sem1} (F : FunD K x x (defArgs st) (defBody st) (defScope st) [] [] f fd) (Sc : FnScope N ps (defScope st))
    (hbody : ∀ (cdv : Value) (A : Around) (outer : List Env) (s : Shared) (H : Hp) (E : XK) (ws : List PL.W) (Q : D → Prop) (Y : Str → Prop), RoomG k (A.deeper (envOfC x (defScope st) s.heap.objs.size f cdv)) → S ws Q Y → ws.length = ps.length →
      WB (cxOf (L2.CX P w) P w K mg base N x (defScope st) f cdv A outer s H E) (defBody st) (store0 N ws) (fun x _ => Y x) { nx := fun _ => Q .non, rt := Q }) : FnG P w K mg base (L2.CX P w) (k + 1) f fd ps (spS K mg ps.length S) := by
  obtain ⟨oc, od, dV, kV, doc, pm, an, cdv, ct, osl, rfl, lk, hcd, _, _⟩ := F.ex
  exact fnG_of Sc hcd lk (fun vs H Q E h => spS_len h) fun A outer s H vs Q E hr h => body_ok h fun ws Q Y hS hl => hbody cdv A outer s H E ws Q Y hr hS hl
/-! ### repr -/
section
variable {X : Cx} {ρ : Store} {Y : Str → Store → Prop} {P : Po}
theorem call_reprD {j : Nat} (hr : RoomG j X.A) : CallR X (.builtin "repr") (fun xs H Q => ∃ v d, xs = [v] ∧ Dp X.K H v d ∧ PyData.showable d = true ∧ PyData.hasDict d = false ∧ (PyData.shown d).length ≤ sizeLine ∧ PyData.depth d ≤ 100 ∧ (∀ b, d ≠ .bool b) ∧ (∀ x, d ≠ .str x) ∧ Q (.str (PyData.shown d)) H) := by
  intro pins s σ H xs us Q I r h
  obtain ⟨v, d, rfl, hd, sh, nd, sz, dp, nb, ns, q⟩ := h
  obtain ⟨u, rfl, rv⟩ := vals1 r
  have hu := hr.room.un
  have hu2 : X.A.units + (d.depth + 1) < cLine := by omega
  obtain ⟨as, rd⟩ := Dp.reads I d v u hd rv
  have key : ∀ a, u = .ref a → wpAny (model X.prog X.w) X.A (call (.builtin "repr") [u]) (EP X pins σ Q) X.xe s := fun a ea => by
    subst ea
    exact repr_of_reads' rd sh (PyData.noDict_hsm nd) hr.quiet hu2 (fun _ _ e => e) (fun h' u tk hk => ⟨.str _, H, I.kept hk, ⟨_, rfl⟩, q⟩) sz
  match v, d, hd with
  | _, _, .non =>
    obtain rfl : u = Value.none := rv
    exact PySem.P.repr_of_none ⟨.str _, H, I.tok _, ⟨_, rfl⟩, q⟩
  | _, _, .bl b => exact absurd rfl (nb b)
  | _, _, .int i =>
    obtain ⟨t, rfl⟩ := rv
    exact PySem.P.repr_of_int (by simpa [PyData.showable] using sh) ⟨.str _, H, I.tok _, ⟨_, rfl⟩, q⟩
  | _, _, .str x => exact absurd rfl (ns x)
  | _, _, .lst (a := a) _ _ => exact key a rv
  | _, _, .tup (a := a) _ _ => exact key a rv
def D.rp (d : D) (p : PyData) : Prop := d.py = some p ∧ PyData.showable p = true ∧ PyData.hasDict p = false ∧ (PyData.shown p).length ≤ sizeLine ∧ PyData.depth p ≤ 100 ∧ (∀ b, p ≠ .bool b) ∧ ∀ x, p ≠ .str x
theorem we_repr {j : Nat} {e : Expr} {p pos : Pos} (hr : RoomG j X.A) (hg : Gl X "repr") (hm : X.mg "repr" = none) (h : WE X e ρ Y fun w ρ1 => ∃ d p, w = .val d ∧ D.rp d p ∧ P (.val (.str (PyData.shown p))) ρ1) (he : starEach [e] X.env = (false, eval e X.env) :: starEach [] X.env := by rfl) : WE X (.Call (.Name "repr" p) [e] [] pos) ρ Y P :=
  we_cb1 (he := he) (call_reprD hr) hg hm (by decide +kernel) (h.imp fun w ρ1 ⟨d, q, e1, ⟨h1, h2, h3, h4, h5, h6, h7⟩, hP⟩ c F H σ v R r => by
    subst e1
    exact ⟨v, q, rfl, dp_ext R.aft.sub (RD.dp r h1), h2, h3, h4, h5, h6, h7, vp R (.str _) hP⟩)
end
end PL

/-! zip of three tuples; enumerate of a tuple -/
namespace Z3
open PySem
section
variable {prog : Program} {w : World} {A : Around} {E : Value → Shared → Prop} {s : Shared}
/-- a tuple of three -/
def Tri (h : Heap) (t : Addr) (a b c : Value) : Prop := h.get? t = some { cls := .type "tuple", data := .seq #[a, b, c] }
theorem upd_tri {T : Addr} {a b c x : Value} {k : Nat} {Q : Unit → Shared → Prop} (hT : Tri s.heap T a b c)
    (h : ∀ h', h'.get? T = some { cls := .type "tuple", data := .seq ((#[a, b, c] : Array Value).setIfInBounds k x) } → Heap.SameBut T s.heap h' → Q () { s with heap := h' }) : wpAny (model prog w) A (updateSeq T (·.setIfInBounds k x)) Q E s := by
  refine wpAny_updateSeq hT rfl (h _ ?_ (Heap.SameBut.update ..))
  rw [Heap.get?_update_self _ hT rfl]; simp [Obj.mapSeq]
/-- the six objects of a zip of three, made one behind another from n on, over tuples below n -/
structure St3 (h : Heap) (n l1 l2 l3 : Nat) (k : Nat) (f0 a b c : Value) : Prop where
  z : IsZip h (n + 5) (n + 3) (n + 4) f0
  ti : Tri h (n + 3) (.ref n) (.ref (n + 1)) (.ref (n + 2))
  to : Tri h (n + 4) a b c
  i1 : h.IsTupleIter n l1 k
  i2 : h.IsTupleIter (n + 1) l2 k
  i3 : h.IsTupleIter (n + 2) l3 k
/-- out of the reach of a turn -/
def Out (n c : Nat) : Prop := c < n ∨ n + 6 ≤ c
theorem zip3_item {n l1 l2 l3 : Nat} {k : Nat} {xs ys zs : Array Value} {x y u a b c : Value} {Q : Value → Shared → Prop} (b1 : l1 < n) (b2 : l2 < n) (b3 : l3 < n) (S : St3 s.heap n l1 l2 l3 k .none a b c)
    (t1 : s.heap.IsTuple l1 xs) (t2 : s.heap.IsTuple l2 ys) (t3 : s.heap.IsTuple l3 zs) (hx : xs[k]? = some x) (hy : ys[k]? = some y) (hu : zs[k]? = some u)
    (hQ : ∀ h', St3 h' n l1 l2 l3 (k + 1) (rawInt s.heap.objs.size) x y u → Tri h' s.heap.objs.size x y u → h'.objs.size = s.heap.objs.size + 1 → (∀ (c : Nat) o, Out n c → s.heap.get? c = some o → h'.get? c = some o) → Q (.ref s.heap.objs.size) { s with heap := h' }) :
    wpAny (model prog w) A (Builtin.«zip.__next__» ⟨[.ref (n + 5)], []⟩) (fun fin s' => ∃ v, fin = .done (.ret v) ∧ Q v s') E s := by
  obtain ⟨hz, hI, hO, h1, h2, h3⟩ := S
  have N : ∀ {p q : Nat}, (p < q ∨ q < p) → p ≠ q := fun {p q} h e => by subst e; omega
  show wpAny _ _ (field (.ref (n + 5)) 2 >>= _) _ _ _; refine wpAny_bind (wpAny_field hz rfl (x := .bool false) rfl ?_)
  show wpAny _ _ (field (.ref (n + 5)) 3 >>= _) _ _ _; refine wpAny_bind (wpAny_field hz rfl (x := .ref (n + 3)) rfl (wpAny_bind (wpAny_seqItems hI rfl ?_)))
  show wpAny _ _ (Builtin.SmallTypes.ownedTupleIsFree (.ref (n + 5)) >>= _) _ _ _; refine wpAny_bind ?_; unfold Builtin.SmallTypes.ownedTupleIsFree
  refine wpAny_bind (wpAny_field hz rfl (x := .none) rfl (wpAny_pure ?_)); simp only [if_true]
  refine wpAny_bind (wpAny_rule (wpAny_bind (wpAny_field hz rfl (x := .ref (n + 4)) rfl (wpAny_bind (wpAny_setField_rec hz (by simp) fun g1 z1 s1 => ?_)))))
  replace z1 : IsZip g1 (n + 5) (n + 3) (n + 4) .ellipsis := z1
  refine wpAny_bind ?_; simp only [List.zipIdx_cons, List.zipIdx_nil, List.forIn_cons, List.forIn_nil]
  have e1 := s1.extBut
  -- the first
  refine wpAny_bind (wpAny_bind (wpAny_onRaise ?_)); show wpAny _ _ (Builtin.SmallTypes.nextOf (.ref n) >>= _) _ _ _
  refine wpAny_bind (RZ.nextOf_tuple_item (h1.extBut e1 (N (.inl (by omega)))) (t1.extBut e1 (N (.inl (by omega)))) hx fun g2 i1 s2 => wpAny_pure ?_)
  have e2 := s2.extBut
  have O2 : Tri g2 (n + 4) a b c := e2 _ _ (N (.inr (by omega))) (e1 _ _ (N (.inl (by omega))) hO)
  refine wpAny_bind (wpAny_seqItems O2 rfl (wpAny_bind (upd_tri O2 fun g3 O3 s3 => ?_)))
  replace O3 : Tri g3 (n + 4) x b c := O3
  have e3 := s3.extBut
  refine wpAny_bind (wpAny_letGo (wpAny_pure ?_))
  -- the second
  refine wpAny_bind (wpAny_bind (wpAny_onRaise ?_)); show wpAny _ _ (Builtin.SmallTypes.nextOf (.ref (n + 1)) >>= _) _ _ _
  refine wpAny_bind (RZ.nextOf_tuple_item (((h2.extBut e1 (N (.inl (by omega)))).extBut e2 (N (.inr (by omega)))).extBut e3 (N (.inl (by omega)))) (((t2.extBut e1 (N (.inl (by omega)))).extBut e2 (N (.inl (by omega)))).extBut e3 (N (.inl (by omega)))) hy fun g4 i2 s4 => wpAny_pure ?_)
  have e4 := s4.extBut
  have O4 : Tri g4 (n + 4) x b c := e4 _ _ (N (.inr (by omega))) O3
  refine wpAny_bind (wpAny_seqItems O4 rfl (wpAny_bind (upd_tri O4 fun g5 O5 s5 => ?_)))
  replace O5 : Tri g5 (n + 4) x y c := O5
  have e5 := s5.extBut
  refine wpAny_bind (wpAny_letGo (wpAny_pure ?_))
  -- the third
  refine wpAny_bind (wpAny_bind (wpAny_onRaise ?_)); show wpAny _ _ (Builtin.SmallTypes.nextOf (.ref (n + 2)) >>= _) _ _ _
  refine wpAny_bind (RZ.nextOf_tuple_item (((((h3.extBut e1 (N (.inl (by omega)))).extBut e2 (N (.inr (by omega)))).extBut e3 (N (.inl (by omega)))).extBut e4 (N (.inr (by omega)))).extBut e5 (N (.inl (by omega))))
    (((((t3.extBut e1 (N (.inl (by omega)))).extBut e2 (N (.inl (by omega)))).extBut e3 (N (.inl (by omega)))).extBut e4 (N (.inl (by omega)))).extBut e5 (N (.inl (by omega)))) hu fun g6 i3 s6 => wpAny_pure ?_)
  have e6 := s6.extBut
  have O6 : Tri g6 (n + 4) x y c := e6 _ _ (N (.inr (by omega))) O5
  refine wpAny_bind (wpAny_seqItems O6 rfl (wpAny_bind (upd_tri O6 fun g7 O7 s7 => ?_)))
  replace O7 : Tri g7 (n + 4) x y u := O7
  have e7 := s7.extBut
  refine wpAny_bind (wpAny_letGo (wpAny_pure (wpAny_pure ?_)))
  refine wpAny_bind (wpAny_seqItems O7 rfl (wpAny_bind (wpAny_newTuple ?_)))
  have hsz : g7.objs.size = s.heap.objs.size := by rw [s7.1, s6.1, s5.1, s4.1, s3.1, s2.1, s1.1]
  have z7 : IsZip g7 (n + 5) (n + 3) (n + 4) .ellipsis := e7 _ _ (N (.inr (by omega))) (e6 _ _ (N (.inr (by omega))) (e5 _ _ (N (.inr (by omega))) (e4 _ _ (N (.inr (by omega))) (e3 _ _ (N (.inr (by omega))) (e2 _ _ (N (.inr (by omega))) z1)))))
  have k7 : ∀ (c : Nat) o, (Out n c ∨ c = n + 3) → s.heap.get? c = some o → g7.get? c = some o := fun c o q e => by
    have q : (c < n ∨ n + 6 ≤ c) ∨ c = n + 3 := q
    exact e7 c o (N (by omega)) (e6 c o (N (by omega)) (e5 c o (N (by omega)) (e4 c o (N (by omega)) (e3 c o (N (by omega)) (e2 c o (N (by omega)) (e1 c o (N (by omega)) e))))))
  have j1 : g7.IsTupleIter n l1 (k + 1) := ((((i1.extBut e3 (N (.inl (by omega)))).extBut e4 (N (.inl (by omega)))).extBut e5 (N (.inl (by omega)))).extBut e6 (N (.inl (by omega)))).extBut e7 (N (.inl (by omega)))
  have j2 : g7.IsTupleIter (n + 1) l2 (k + 1) := ((i2.extBut e5 (N (.inl (by omega)))).extBut e6 (N (.inl (by omega)))).extBut e7 (N (.inl (by omega)))
  have j3 : g7.IsTupleIter (n + 2) l3 (k + 1) := i3.extBut e7 (N (.inl (by omega)))
  have zl : n + 5 < g7.objs.size := Heap.lt_size z7
  show wpAny _ _ (Builtin.SmallTypes.ownedTupleHandOut (.ref (n + 5)) (.ref g7.objs.size) >>= _) _ _ _
  refine wpAny_bind ?_; unfold Builtin.SmallTypes.ownedTupleHandOut
  have z8 : IsZip (g7.push { cls := .type "tuple", data := .seq #[x, y, u] }) (n + 5) (n + 3) (n + 4) .ellipsis := Heap.get?_push_of_some _ z7
  refine wpAny_bind (wpAny_setField_rec z8 (by simp) fun g9 z9 s9 => ?_)
  replace z9 : IsZip g9 (n + 5) (n + 3) (n + 4) (rawInt g7.objs.size) := z9
  refine wpAny_setField_rec z9 (by simp) fun g10 z10 s10 => ?_
  replace z10 : IsZip g10 (n + 5) (n + 3) (n + 4) (rawInt g7.objs.size) := z10
  have up : ∀ (c : Nat) o, c ≠ n + 5 → g7.get? c = some o → g10.get? c = some o := fun c o c1 e => s10.extBut _ _ c1 (s9.extBut _ _ c1 (Heap.get?_push_of_some _ e))
  have T10 : Tri g10 g7.objs.size x y u := s10.extBut _ _ (N (.inr zl)) (s9.extBut _ _ (N (.inr zl)) (Heap.get?_push_size _ rfl))
  have sz10 : g10.objs.size = g7.objs.size + 1 := by rw [s10.1, s9.1, Heap.size_push]
  have I7 : Tri g7 (n + 3) (.ref n) (.ref (n + 1)) (.ref (n + 2)) := k7 _ _ (.inr rfl) hI
  rw [hsz] at z10 T10 sz10
  refine wpAny_pure ⟨_, rfl, ?_⟩
  show Q (.ref g7.objs.size) _
  rw [hsz]
  refine hQ g10 ⟨z10, up _ _ (N (.inl (by omega))) I7, up _ _ (N (.inl (by omega))) O7, j1.at fun o e => up _ o (N (.inl (by omega))) e, j2.at fun o e => up _ o (N (.inl (by omega))) e, j3.at fun o e => up _ o (N (.inl (by omega))) e⟩ T10 sz10 fun c o q e => up c o (N ?_) (k7 c o (.inl q) e)
  have q : c < n ∨ n + 6 ≤ c := q
  omega
/-- at the end, the tuples as long -/
theorem zip3_end {n l1 l2 l3 : Nat} {k : Nat} {xs ys zs : Array Value} {a b c : Value} {Q : Fin → Shared → Prop} (hh : A.handled = none) (b1 : l1 < n) (b2 : l2 < n) (b3 : l3 < n) (S : St3 s.heap n l1 l2 l3 k .none a b c)
    (t1 : s.heap.IsTuple l1 xs) (t2 : s.heap.IsTuple l2 ys) (t3 : s.heap.IsTuple l3 zs) (hx : xs[k]? = none)
    (hE : ∀ h' e, (∀ (c : Nat) o, Out n c → s.heap.get? c = some o → h'.get? c = some o) → (∃ o, h'.get? e = some o ∧ o.cls = .type "StopIteration") → E (.ref e) { s with heap := h' }) :
    wpAny (model prog w) A (Builtin.«zip.__next__» ⟨[.ref (n + 5)], []⟩) Q E s := by
  obtain ⟨hz, hI, hO, h1, h2, h3⟩ := S
  have N : ∀ {p q : Nat}, (p < q ∨ q < p) → p ≠ q := fun {p q} h e => by subst e; omega
  show wpAny _ _ (field (.ref (n + 5)) 2 >>= _) _ _ _; refine wpAny_bind (wpAny_field hz rfl (x := .bool false) rfl ?_)
  show wpAny _ _ (field (.ref (n + 5)) 3 >>= _) _ _ _; refine wpAny_bind (wpAny_field hz rfl (x := .ref (n + 3)) rfl (wpAny_bind (wpAny_seqItems hI rfl ?_)))
  show wpAny _ _ (Builtin.SmallTypes.ownedTupleIsFree (.ref (n + 5)) >>= _) _ _ _; refine wpAny_bind ?_; unfold Builtin.SmallTypes.ownedTupleIsFree
  refine wpAny_bind (wpAny_field hz rfl (x := .none) rfl (wpAny_pure ?_)); simp only [if_true]
  refine wpAny_bind (wpAny_rule (wpAny_bind (wpAny_field hz rfl (x := .ref (n + 4)) rfl (wpAny_bind (wpAny_setField_rec hz (by simp) fun g1 z1 s1 => ?_)))))
  replace z1 : IsZip g1 (n + 5) (n + 3) (n + 4) .ellipsis := z1
  refine wpAny_bind ?_; simp only [List.zipIdx_cons, List.zipIdx_nil, List.forIn_cons, List.forIn_nil]
  refine wpAny_bind (wpAny_bind (wpAny_onRaise ?_)); show wpAny _ _ (Builtin.SmallTypes.nextOf (.ref n) >>= _) _ _ _
  refine wpAny_bind (RZ.nextOf_tuple_end hh (h1.extBut s1.extBut (N (.inl (by omega)))) (t1.extBut s1.extBut (N (.inl (by omega)))) hx fun g2 e s2 he => ?_)
  obtain ⟨oe, hoe, hce⟩ := he
  have z2 : IsZip g2 (n + 5) (n + 3) (n + 4) .ellipsis := s2 _ _ (N (.inr (by omega))) z1
  have hez : e ≠ n + 5 := fun x => by subst x; rw [z2] at hoe; cases hoe; simp at hce
  refine wpAny_setField_rec z2 (by simp) fun g3 _ s3 => hE g3 e (fun c o q x => ?_) ⟨oe, s3.extBut _ _ hez hoe, hce⟩
  have q : c < n ∨ n + 6 ≤ c := q
  exact s3.extBut _ _ (N (by omega)) (s2 _ _ (N (by omega)) (s1.extBut _ _ (N (by omega)) x))
theorem next3_item {n l1 l2 l3 : Nat} {k : Nat} {xs ys zs : Array Value} {x y u a b c : Value} {Q : Option Value → Shared → Prop} (b1 : l1 < n) (b2 : l2 < n) (b3 : l3 < n) (S : St3 s.heap n l1 l2 l3 k .none a b c)
    (t1 : s.heap.IsTuple l1 xs) (t2 : s.heap.IsTuple l2 ys) (t3 : s.heap.IsTuple l3 zs) (hx : xs[k]? = some x) (hy : ys[k]? = some y) (hu : zs[k]? = some u)
    (hQ : ∀ h', St3 h' n l1 l2 l3 (k + 1) (rawInt s.heap.objs.size) x y u → Tri h' s.heap.objs.size x y u → h'.objs.size = s.heap.objs.size + 1 → (∀ (c : Nat) o, Out n c → s.heap.get? c = some o → h'.get? c = some o) → Q (some (.ref s.heap.objs.size)) { s with heap := h' }) :
    wpAny (model prog w) A (pyNext (.ref (n + 5))) Q E s := by
  have hT : s.TypeIs (.ref (n + 5)) "zip" := ⟨_, S.z, rfl⟩
  unfold pyNext
  exact wpAny_bind (wpAny_attempt (wpAny_callSpecial?_slot (name := Str.ofString "__next__") hT F.slot_zip_next (wpAny_call_entry F.slot_zip_next hT F.entry_zip_next
    (zip3_item b1 b2 b3 S t1 t2 t3 hx hy hu fun h' q1 q2 q3 q4 => wpAny_pure (hQ h' q1 q2 q3 q4)) (F.args_zip_next_1 _))))
theorem next3_end {n l1 l2 l3 : Nat} {k : Nat} {xs ys zs : Array Value} {a b c : Value} {Q : Option Value → Shared → Prop} (hh : A.handled = none) (b1 : l1 < n) (b2 : l2 < n) (b3 : l3 < n) (S : St3 s.heap n l1 l2 l3 k .none a b c)
    (t1 : s.heap.IsTuple l1 xs) (t2 : s.heap.IsTuple l2 ys) (t3 : s.heap.IsTuple l3 zs) (hx : xs[k]? = none)
    (hQ : ∀ h', (∀ (c : Nat) o, Out n c → s.heap.get? c = some o → h'.get? c = some o) → Q none { s with heap := h' }) : wpAny (model prog w) A (pyNext (.ref (n + 5))) Q E s := by
  have hT : s.TypeIs (.ref (n + 5)) "zip" := ⟨_, S.z, rfl⟩
  unfold pyNext
  refine wpAny_bind (wpAny_attempt (wpAny_callSpecial?_slot (name := Str.ofString "__next__") hT F.slot_zip_next (wpAny_call_entry F.slot_zip_next hT F.entry_zip_next
    (zip3_end hh b1 b2 b3 S t1 t2 t3 hx fun h' e hk he => ?_) (F.args_zip_next_1 _))))
  obtain ⟨o, ho, hc⟩ := he
  exact wpAny_bind (wpAny_isInstance (T := "StopIteration") (b := true) ⟨o, ho, hc⟩ isSubtype_stop (wpAny_pure (hQ _ hk)))
end
abbrev hp1 (h : Heap) (l1 : Addr) : Heap := h.push { cls := .type "tuple_iterator", data := .fields #[.ref l1, .int 0 0] }
abbrev hp4 (h : Heap) (l1 l2 l3 : Addr) : Heap := (hp1 (hp1 (hp1 h l1) l2) l3).push { cls := .type "tuple", data := .seq #[.ref h.objs.size, .ref (hp1 h l1).objs.size, .ref (hp1 (hp1 h l1) l2).objs.size] }
abbrev hp5 (h : Heap) (l1 l2 l3 : Addr) : Heap := (hp4 h l1 l2 l3).push { cls := .type "tuple", data := .seq #[.none, .none, .none] }
abbrev hp6 (h : Heap) (l1 l2 l3 : Addr) : Heap := (hp5 h l1 l2 l3).push { cls := .type "zip", data := .fields #[.none, .bool false, .bool false, .ref (hp1 (hp1 (hp1 h l1) l2) l3).objs.size, .ref (hp4 h l1 l2 l3).objs.size] }
theorem new3 (l1 l2 l3 : Addr) (xs ys zs : Array Value) :
    Meets (Builtin.«zip.__new__» ⟨[.type "zip", .ref l1, .ref l2, .ref l3], []⟩) (fun _ R s => s.heap.IsTuple l1 xs ∧ s.heap.IsTuple l2 ys ∧ s.heap.IsTuple l3 zs ∧ R (.ok (.ret (.ref (hp5 s.heap l1 l2 l3).objs.size))) { s with heap := hp6 s.heap l1 l2 l3 }) :=
  .of_wp fun prog w A R s h => by
    obtain ⟨hp, g, d, tk, os⟩ := s; obtain ⟨t1, t2, t3, h⟩ := h
    have hsub := sub_zip
    have q1 : Heap.IsTuple (Shared.heap ⟨hp, g, d, tk, os⟩) l1 xs := t1
    have q2 : Heap.IsTuple (Shared.heap ⟨hp1 hp l1, g, d, tk, os⟩) l2 ys := Heap.IsTuple.push t2 _
    have q3 : Heap.IsTuple (Shared.heap ⟨hp1 (hp1 hp l1) l2, g, d, tk, os⟩) l3 zs := Heap.IsTuple.push (Heap.IsTuple.push t3 _) _
    wp_walk using wpAny_pyIter_tuple q1, wpAny_pyIter_tuple q2, wpAny_pyIter_tuple q3
    exact ⟨_, rfl, h⟩
end Z3

namespace Z3
open PySem PySem.Spec PyProof.Rows L2
/-! ### zip(a, b, c), tuples as long -/
def ItQ (K : PySem.W.Frag) (a b c : Addr) : It where
  go := fun i H => ∃ (xs ys zs : List V) (x y z : V), (SqT K H a xs ∧ SqT K H b ys ∧ SqT K H c zs) ∧ xs[i]? = some x ∧ ys[i]? = some y ∧ zs[i]? = some z
  yld := fun i H v H' => ∃ T x y z, v = .ref T ∧ H T = none ∧ H' = upd H T (.tup [x, y, z]) ∧ (∀ xs, SqT K H a xs → xs[i]? = some x) ∧ (∀ ys, SqT K H b ys → ys[i]? = some y) ∧ ∀ zs, SqT K H c zs → zs[i]? = some z
  stop := fun i H => ∃ xs ys zs : List V, (SqT K H a xs ∧ SqT K H b ys ∧ SqT K H c zs) ∧ xs.length ≤ i
theorem le6 {n c : Nat} (h : c ∈ [n + 5, n + 3, n + 4, n, n + 1, n + 2]) : c ≤ n + 5 ∧ n ≤ c := by
  simp only [List.mem_cons, List.not_mem_nil, or_false] at h
  omega
theorem out6 {n c : Nat} (h : c ∉ [n + 5, n + 3, n + 4, n, n + 1, n + 2]) : Out n c := by
  simp only [List.mem_cons, List.not_mem_nil, or_false, not_or] at h
  show c < n ∨ n + 6 ≤ c
  omega
theorem turnQ {P : Program} {w : World} {K : PySem.W.Frag} {elts : List Expr} {kk : Nat} {tpos : Pos} {l1 l2 l3 n : Nat} (b1 : l1 < n) (b2 : l2 < n) (b3 : l3 < n) :
    Turn P w K (.Tuple elts kk tpos) (ItQ K l1 l2 l3) [n + 5, n + 3, n + 4, n, n + 1, n + 2] (n + 5) (fun i h => ∃ a b c, St3 h n l1 l2 l3 i .none a b c) where
  mem := by simp
  obj := fun i h st q hq => by
    obtain ⟨a, b, c, hz, hI, hO, ⟨o1, e1, _, d1⟩, ⟨o2, e2, _, d2⟩, ⟨o3, e3, _, d3⟩⟩ := st
    simp only [List.mem_cons, List.not_mem_nil, or_false] at hq
    rcases hq with rfl | rfl | rfl | rfl | rfl | rfl
    · exact ⟨_, hz, fun v q => nomatch q⟩
    · exact ⟨_, hI, fun v q => nomatch q⟩
    · exact ⟨_, hO, fun v q => nomatch q⟩
    · exact ⟨o1, e1, fun v q => by rw [d1] at q; cases q⟩
    · exact ⟨o2, e2, fun v q => by rw [d2] at q; cases q⟩
    · exact ⟨o3, e3, fun v q => by rw [d3] at q; cases q⟩
  keep := fun i h h' st k => by
    obtain ⟨a, b, c, hz, hI, hO, h1, h2, h3⟩ := st
    exact ⟨a, b, c, k _ (by simp) _ hz, k _ (by simp) _ hI, k _ (by simp) _ hO, h1.at fun o q => k _ (by simp) o q, h2.at fun o q => k _ (by simp) o q, h3.at fun o q => k _ (by simp) o q⟩
  item := by
    intro X hP hw hK hc i pins s σ H E I hf st hg
    subst hP hw hK
    obtain ⟨a, b, c, S⟩ := st
    obtain ⟨xs, ys, zs, x, y, z, ⟨qx, qy, qz⟩, hx, hy, hz⟩ := hg
    obtain ⟨ix, rx, px, _⟩ := I.tuple qx
    obtain ⟨iy, ry, py, _⟩ := I.tuple qy
    obtain ⟨iz, rz, pz, _⟩ := I.tuple qz
    obtain ⟨u1, hu1, ru1⟩ := rx.get hx
    obtain ⟨u2, hu2, ru2⟩ := ry.get hy
    obtain ⟨u3, hu3, ru3⟩ := rz.get hz
    have zl : n + 5 < s.heap.objs.size := Heap.lt_size S.z
    refine next3_item b1 b2 b3 S px py pz (x := u1) (y := u2) (u := u3) (by simpa using hu1) (by simpa using hu2) (by simpa using hu3) fun h' S' hT hsz hk => ?_
    obtain ⟨z', I', O', j1, j2, j3⟩ := S'
    refine ⟨_, rfl, wpAny_letOwnedTupleGo_zip (s := { s with heap := h' }) z' fun h'' z'' sb => ?_⟩
    have hT2 : Tri h'' s.heap.objs.size u1 u2 u3 := (sb.2 _ (Nat.ne_of_gt zl)).trans hT
    have new : ObjOk X.prog X.w (upd H s.heap.objs.size (.tup [x, y, z])) h'' s.heap.objs.size (.tup [x, y, z]) :=
      ⟨by show 3 ≤ sizeLine; decide, [u1, u2, u3], .cons ru1 (.cons ru2 (.cons ru3 .nil)), ⟨_, hT2, rfl, _, rfl⟩⟩
    have ne5 : ∀ c : Nat, c < n + 5 → c ≠ n + 5 := fun c h e => by subst e; omega
    have I1 : Inv X pins σ (upd H s.heap.objs.size (.tup [x, y, z])) { s with heap := h'' } :=
      I.turnedNew (t' := s.toks) (ch := [n + 5, n + 3, n + 4, n, n + 1, n + 2]) (fun c o hb q => (sb.2 c (fun q' => hb (by simp [q']))).trans (hk c o (out6 hb) q)) hf (Nat.le_refl _) new
    refine ⟨.ref s.heap.objs.size, _, I1, rfl, ⟨_, x, y, z, rfl, I.hok.fresh (Nat.le_refl _), rfl, fun l hl => by rw [I.tuple_inj hl qx]; exact hx, fun l hl => by rw [I.tuple_inj hl qy]; exact hy, fun l hl => by rw [I.tuple_inj hl qz]; exact hz⟩, ⟨u1, u2, u3, z'', ?_, ?_, ?_, ?_, ?_⟩, fun c hcm => ?_⟩
    · exact (sb.2 _ (ne5 _ (by omega))).trans I'
    · exact (sb.2 _ (ne5 _ (by omega))).trans O'
    · exact j1.at fun o q => (sb.2 _ (ne5 _ (by omega))).trans q
    · exact j2.at fun o q => (sb.2 _ (ne5 _ (by omega))).trans q
    · exact j3.at fun o q => (sb.2 _ (ne5 _ (by omega))).trans q
    · have hlt : c < s.heap.objs.size := Nat.lt_of_le_of_lt (le6 hcm).1 zl
      rw [upd_ne (Nat.ne_of_lt hlt)]
      exact (hf c hcm).1
  done := by
    intro X hP hw hK hc i pins s σ H E I hf st hg
    subst hP hw hK
    obtain ⟨a, b, c, S⟩ := st
    obtain ⟨xs, ys, zs, ⟨qx, qy, qz⟩, he⟩ := hg
    obtain ⟨ix, rx, px, _⟩ := I.tuple qx
    obtain ⟨iy, ry, py, _⟩ := I.tuple qy
    obtain ⟨iz, rz, pz, _⟩ := I.tuple qz
    have lx := rx.length
    refine next3_end (I.ok.hd hc) b1 b2 b3 S px py pz (by simp; omega) fun h' hk => ⟨rfl, I.turnedL (t' := s.toks) (ch := [n + 5, n + 3, n + 4, n, n + 1, n + 2]) (fun c o hb q => hk c o (out6 hb) q) hf⟩
  self := fun A i s Q E st h => by
    obtain ⟨a, b, c, S⟩ := st
    exact wpAny_pyIter_zip S.z h
def iQ (K : PySem.W.Frag) (ta : TA) : TI := fun σ H R => ta σ H fun vs H1 => ∃ a b c xs ys zs, vs = [.ref a, .ref b, .ref c] ∧ (SqT K H1 a xs ∧ SqT K H1 b ys ∧ SqT K H1 c zs) ∧ R (ItQ K a b c) H1
theorem pi_zip3 {X : Cx} {e e2 e3 : Expr} {ta : TA} {p pos tpos : Pos} {elts : List Expr} {kk : Nat} (hg : Gl X "zip") (hm : X.mg "zip" = none) (ha : PA X [e, e2, e3] ta)
    (hs : starEach [e, e2, e3] X.env = (false, eval e X.env) :: starEach [e2, e3] X.env := by rfl) (hpl : (backTo pos (starEach [e2, e3] X.env)).any (·.1) = false := by rfl) :
    PI X (.Tuple elts kk tpos) (.Call (.Name "zip" p) [e, e2, e3] [] pos) (iQ X.K ta) := by
  constructor
  intro pins s σ H R I h
  refine Call_ (ld_blt I hg hm PyProof.Rows.boot_zip (PyProof.Rows.callWith_type1 (thn (ha.run pos pins s σ H _ I h) fun us s1 ⟨vs, H1, I1, r1, q1⟩ => ?_) hs hpl))
  obtain ⟨a, b, c, xs, ys, zs, rfl, ⟨qx, qy, qz⟩, q⟩ := q1
  cases r1 with
  | cons r rr =>
  cases rr with
  | cons r' rr =>
  cases rr with
  | cons r'' rr =>
  cases rr
  cases r
  cases r'
  cases r''
  obtain ⟨ix, rx, px, _⟩ := I1.tuple qx
  obtain ⟨iy, ry, py, _⟩ := I1.tuple qy
  obtain ⟨iz, rz, pz, _⟩ := I1.tuple qz
  have lt : ∀ {t : Addr} {its : Array Value}, s1.heap.IsTuple t its → t < s1.heap.objs.size := fun {t its} ⟨o, ho, _⟩ => Heap.lt_size ho
  refine zip_begins3 (begins_tuple a ix.toArray) (begins_tuple b iy.toArray) (begins_tuple c iz.toArray) px py pz fun h' hz hI hO g1 g2 g3 hsz hk => wpAny_pyIter_zip hz ?_
  have I2 : Inv X pins σ H1 { s1 with heap := h' } := I1.kept (t' := s1.toks) hk
  have T : Turn X.prog X.w X.K (.Tuple elts kk tpos) (ItQ X.K a b c) _ _ _ := turnQ (n := s1.heap.objs.size) (lt px) (lt py) (lt pz)
  refine ⟨s1.heap.objs.size + 5, _, _, _, H1, rfl, I2, T, ⟨.none, .none, .none, hz, hI, hO, ⟨_, g1, rfl, rfl⟩, ⟨_, g2, rfl, rfl⟩, ⟨_, g3, rfl, rfl⟩⟩, fun d hd => ?_, q⟩
  have hle : s1.heap.objs.size ≤ d := (le6 hd).2
  exact I1.fpOk hle (I1.hok.fresh hle)
end Z3

namespace Z3
open PySem PySem.Spec PyProof.Rows L2
/-! ### enumerate(t), a tuple -/
abbrev hpT (h : Heap) (l : Addr) : Heap := h.push { cls := .type "tuple_iterator", data := .fields #[.ref l, .int 0 0] }
theorem newEnumT (l : Addr) (items : Array Value) :
    Meets (Builtin.«enumerate.__new__» ⟨[.type "enumerate", .ref l], []⟩) (fun _ R s => s.heap.IsTuple l items ∧
      R (.ok (.ret (.ref (hpT s.heap l).objs.size))) { s with heap := (hpT s.heap l).push { cls := .type "enumerate", data := .fields #[.none, .bool false, .ref s.heap.objs.size, rawInt 0, .none, .none] } }) :=
  .of_wp fun prog w A R s h => by
    obtain ⟨hp, g, d, tk, os⟩ := s; obtain ⟨hl, h⟩ := h
    have hsub := sub_enumerate
    have hL : Heap.IsTuple (Shared.heap ⟨hp, g, d, tk, os⟩) l items := hl
    obtain ⟨⟨cl, dc, dt, sl⟩, ho, hc, n, hd⟩ := id hl
    replace hc : cl = .type "tuple" := hc
    replace hd : dt = .seq items n := hd
    subst hc hd
    wp_walk using AutoSeq1.wpAny_loadPart' ho
    refine wpAny_stack_any fun st => wpAny_pure ?_
    split
    · rename_i c _ _ _ _ _
      cases (c == Value.type "enumerate") <;> (wp_walk using AutoSeq1.wpAny_loadPart' ho, wpAny_pyIter_tuple hL; exact ⟨_, rfl, h⟩)
    · wp_walk using AutoSeq1.wpAny_loadPart' ho, wpAny_pyIter_tuple hL
      exact ⟨_, rfl, h⟩
end Z3

namespace Z3
open PySem PySem.Spec PyProof.Rows L2
section
variable {prog : Program} {w : World} {A : Around} {E : Value → Shared → Prop} {s : Shared}
theorem call_enumT {l : Addr} {items : Array Value} {Q : Value → Shared → Prop} (hl : s.heap.IsTuple l items)
    (h : ∀ h', IsEnum h' (s.heap.objs.size + 1) s.heap.objs.size 0 .none → h'.IsTupleIter s.heap.objs.size l 0 → (∀ b o, s.heap.get? b = some o → h'.get? b = some o) → Q (.ref (s.heap.objs.size + 1)) { s with heap := h' }) : wpAny (model prog w) A (call (.type "enumerate") [.ref l]) Q E s := by
  refine callType_new F.called_enumerate (by decide) (F.typeCall_enumerate_1 _) (F.newCall_enumerate_1 _) (fun obj => F.args_object_init_2 obj _) F.entry_enumerate_new (newEnumT l items) ⟨hl, ?_⟩
  have hz : (hpT s.heap l).objs.size = s.heap.objs.size + 1 := Heap.size_push ..
  show _ ∧ _
  rw [hz]
  have he : IsEnum ((hpT s.heap l).push { cls := .type "enumerate", data := .fields #[.none, .bool false, .ref s.heap.objs.size, rawInt 0, .none, .none] }) (s.heap.objs.size + 1) s.heap.objs.size 0 .none := by
    have := Heap.get?_push_size (hpT s.heap l) (o := { cls := .type "enumerate", data := .fields #[.none, .bool false, .ref s.heap.objs.size, rawInt 0, .none, .none] }) rfl
    rw [hz] at this
    exact this
  exact ⟨⟨_, he, rfl⟩, h _ he ⟨_, Heap.get?_push_of_some _ (Heap.get?_push_size _ rfl), rfl, rfl⟩ fun b o x => Heap.get?_push_of_some _ (Heap.get?_push_of_some _ x)⟩
end
def ItE (K : PySem.W.Frag) (a : Addr) : It where
  go := fun i H => ∃ (xs : List V) (x : V), SqT K H a xs ∧ xs[i]? = some x
  yld := fun i H v H' => ∃ T x, v = .ref T ∧ H T = none ∧ H' = upd H T (.tup [.int (i : Nat), x]) ∧ ∀ xs, SqT K H a xs → xs[i]? = some x
  stop := fun i H => ∃ xs : List V, SqT K H a xs ∧ i = xs.length
theorem turnE {P : Program} {w : World} {K : PySem.W.Frag} {elts : List Expr} {kk : Nat} {tpos : Pos} {a n : Nat} (hlt : a < n) :
    Turn P w K (.Tuple elts kk tpos) (ItE K a) [n + 1, n] (n + 1) (fun i h => (∃ old, IsEnum h (n + 1) n ((i : Nat) : Int) old) ∧ h.IsTupleIter n a i) where
  mem := by simp
  obj := fun i h st b hb => by
    obtain ⟨⟨old, he⟩, ⟨o, ho, hc, hd⟩⟩ := st
    simp only [List.mem_cons, List.not_mem_nil, or_false] at hb
    rcases hb with rfl | rfl
    · exact ⟨_, he, fun v q => nomatch q⟩
    · exact ⟨o, ho, fun v q => by rw [hd] at q; cases q⟩
  keep := fun i h h' st k => by
    obtain ⟨⟨old, he⟩, hi⟩ := st
    exact ⟨⟨old, k _ (by simp) _ he⟩, hi.at fun o q => k _ (by simp) o q⟩
  item := by
    intro X hP hw hK hc i pins s σ H E I hf st hg
    subst hP hw hK
    obtain ⟨⟨old, he⟩, hit⟩ := st
    obtain ⟨xs, x, hq, hx⟩ := hg
    obtain ⟨its, rv, p, hz⟩ := I.tuple hq
    obtain ⟨u, hu, ru⟩ := rv.get hx
    have hel : (n : Nat) + 1 < s.heap.objs.size := Heap.lt_size he
    have hne : ∀ {p q : Nat}, p < q → q ≠ p := fun {p q} h e => by subst e; omega
    have hu2 : its.toArray[i]? = some u := by simpa using hu
    have hilt : i < its.toArray.size := by
      rw [List.size_toArray]
      exact (List.getElem?_eq_some_iff.mp hu).1
    have h0 : X.A.in1.handled = none := I.ok.hd hc
    refine wpAny_pyNext_enum_itemD (Draws.tuple h0 n a (Nat.ne_of_lt hlt) its.toArray) he ⟨hit, p⟩ hilt (hne (by omega)) (fun z => ?_) fun y h' tk hy ho hst hT hsz hk => ?_
    · simp only [List.mem_cons, List.not_mem_nil, or_false] at z
      have hlt' : (a : Nat) < n := hlt
      rcases z with z | z
      · exact absurd z (hne (Nat.lt_succ_self n))
      · exact absurd z (hne (Nat.lt_succ_of_lt hlt'))
    · rw [hu2] at hy
      cases hy
      refine ⟨_, rfl, wpAny_letOwnedTupleGo_enum (s := { s with heap := h', toks := tk + 1 }) ho fun h'' he' sb => ?_⟩
      have hT2 : h''.get? s.heap.objs.size = some { cls := .type "tuple", data := .seq #[.int i tk, u] } := (sb.2 _ (Nat.ne_of_gt hel)).trans hT
      have new : ObjOk X.prog X.w (upd H s.heap.objs.size (.tup [.int (i : Nat), x])) h'' s.heap.objs.size (.tup [.int (i : Nat), x]) :=
        ⟨by show 2 ≤ sizeLine; decide, [.int i tk, u], .cons ⟨_, rfl⟩ (.cons ru .nil), ⟨_, hT2, rfl, _, rfl⟩⟩
      have I1 : Inv X pins σ (upd H s.heap.objs.size (.tup [.int (i : Nat), x])) { s with heap := h'', toks := tk + 1 } :=
        I.turnedNew (ch := [n + 1, n]) (fun b ob hb q => (sb.2 b (fun z => hb (by simp [z]))).trans (hk b ob (fun z => hb (by simp [z])) (fun z => hb (by simp [z])) q)) hf (Nat.le_refl _) new
      refine ⟨.ref s.heap.objs.size, _, I1, rfl, ⟨_, x, rfl, I.hok.fresh (Nat.le_refl _), rfl, fun ys hy => by rw [I.tuple_inj hy hq]; exact hx⟩, ⟨⟨u, ?_⟩, hst.1.at fun o q => (sb.2 n (Nat.ne_of_lt (Nat.lt_succ_self n))).trans q⟩, fun b hb => ?_⟩
      · have e1 : ((i + 1 : Nat) : Int) = (i : Int) + 1 := by omega
        rw [e1]
        exact he'
      · have hb' : b < s.heap.objs.size := by
          simp only [List.mem_cons, List.not_mem_nil, or_false] at hb
          rcases hb with rfl | rfl
          · exact hel
          · exact Nat.lt_of_succ_lt hel
        rw [upd_ne (Nat.ne_of_lt hb')]
        exact (hf b hb).1
  done := by
    intro X hP hw hK hc i pins s σ H E I hf st hg
    subst hP hw hK
    obtain ⟨⟨old, he⟩, hit⟩ := st
    obtain ⟨xs, hq, hx⟩ := hg
    obtain ⟨its, rv, p, hz⟩ := I.tuple hq
    obtain ⟨f0, f1, f2, f3, f4, f5⟩ := hf n (by simp)
    have hl := rv.length
    have h0 : X.A.in1.handled = none := I.ok.hd hc
    have e : i = its.toArray.size := by rw [List.size_toArray]; omega
    refine wpAny_pyNext_enum_endD (Draws.tuple h0 n a (Nat.ne_of_lt hlt) its.toArray) he (by rw [← e]; exact ⟨hit, p⟩) fun h' eb => ⟨rfl, I.turned (t' := s.toks) (fun b o hb q => eb b o hb q) f0 f1 f3 f4 f5⟩
  self := fun A i s Q E st h => by
    obtain ⟨⟨_, he⟩, _⟩ := st
    exact wpAny_pyIter_enum he h
def iE (K : PySem.W.Frag) (ta : TA) : TI := fun σ H R => ta σ H fun vs H1 => ∃ a xs, vs = [.ref a] ∧ SqT K H1 a xs ∧ R (ItE K a) H1
theorem pi_enumT {X : Cx} {e : Expr} {ta : TA} {p pos tpos : Pos} {elts : List Expr} {kk : Nat} (hg : Gl X "enumerate") (hm : X.mg "enumerate" = none) (ha : PA X [e] ta) (hs : starEach [e] X.env = [(false, eval e X.env)] := by rfl) :
    PI X (.Tuple elts kk tpos) (.Call (.Name "enumerate" p) [e] [] pos) (iE X.K ta) := by
  constructor
  intro pins s σ H R I h
  refine Call_ (ld_blt I hg hm boot_enumerate (PyProof.Rows.callWith_type1 (thn (ha.run pos pins s σ H _ I h) fun us s1 ⟨vs, H1, I1, r1, q1⟩ => ?_) hs rfl))
  obtain ⟨a, xs, rfl, hq, q⟩ := q1
  cases r1 with
  | cons r rr =>
  cases rr
  cases r
  obtain ⟨its, rv, p', hz⟩ := I1.tuple hq
  have hlt : a < s1.heap.objs.size := by
    obtain ⟨o, ho, _⟩ := id p'
    exact Heap.lt_size ho
  refine call_enumT (items := its.toArray) p' fun h' he hit hk => wpAny_pyIter_enum he ?_
  have I2 : Inv X pins σ H1 { s1 with heap := h' } := I1.kept (t' := s1.toks) hk
  have T : Turn X.prog X.w X.K (.Tuple elts kk tpos) (ItE X.K a) _ _ _ := turnE (n := s1.heap.objs.size) hlt
  refine ⟨s1.heap.objs.size + 1, _, _, _, H1, rfl, I2, T, ⟨⟨.none, he⟩, hit⟩, fun b hb => ?_, q⟩
  have hle : s1.heap.objs.size ≤ b := by
    simp only [List.mem_cons, List.not_mem_nil, or_false] at hb
    rcases hb with rfl | rfl
    · exact Nat.le_succ _
    · exact Nat.le_refl _
  exact I1.fpOk hle (I1.hok.fresh hle)
end Z3

namespace PL
open PySem PySem.Spec PyProof.Rows L2
variable [Hand]
/-! ### three targets; zip of three tuples; enumerate of a tuple -/
def un3 : D → Option (List D)
  | .tup [a, b, c] => some [a, b, c]
  | _ => none
theorem tgt3 {K : PySem.W.Frag} {mg : Str → Option Value} {i j k : Nat} : Tgt K mg (gTup K 3 (gCons (gName i) (gCons (gName j) (gCons (gName k) gNil)))) [i, j, k] un3 := fun F H d ds v σ Q e r h kk => by
  unfold un3 at h
  split at h
  · cases h
    obtain ⟨a, x, y, z, rfl, q1, q2, q3, q4⟩ := RD.tup3 r
    exact ⟨a, [x, y, z], rfl, sqT_ext e q1, rfl, x, [y, z], rfl, y, [z], rfl, z, [], rfl, rfl, kk [x, y, z] (.cons q2 (.cons q3 (.cons q4 .nil)))⟩
  · cases h
def zip3D : List D → List D → List D → List D
  | d :: ds, e :: es, f :: fs => .tup [d, e, f] :: zip3D ds es fs
  | _, _, _ => []
theorem zip3D_len : ∀ {ds es fs : List D}, ds.length ≤ es.length → ds.length ≤ fs.length → (zip3D ds es fs).length = ds.length
  | [], _, _, _, _ => by
    unfold zip3D
    rfl
  | d :: ds, e :: es, f :: fs, h1, h2 => by
    unfold zip3D
    rw [List.length_cons, List.length_cons, zip3D_len (by simpa using h1) (by simpa using h2)]
theorem zip3D_get : ∀ {ds es fs : List D} {i : Nat} {d : D}, (zip3D ds es fs)[i]? = some d → ∃ x y z, ds[i]? = some x ∧ es[i]? = some y ∧ fs[i]? = some z ∧ d = .tup [x, y, z]
  | [], _, _, i, d, h => by
    unfold zip3D at h
    simp at h
  | _ :: _, [], _, i, d, h => by
    unfold zip3D at h
    simp at h
  | _ :: _, _ :: _, [], i, d, h => by
    unfold zip3D at h
    simp at h
  | x :: ds, y :: es, z :: fs, 0, d, h => by
    unfold zip3D at h
    simp at h
    exact ⟨x, y, z, rfl, rfl, rfl, h.symm⟩
  | x :: ds, y :: es, z :: fs, i + 1, d, h => by
    unfold zip3D at h
    simp only [List.getElem?_cons_succ] at h ⊢
    exact zip3D_get h
def enumD (ds : List D) : List D := ds.mapIdx fun i d => .tup [.int (i : Nat), d]
section
variable {K : PySem.W.Frag} {mg : Str → Option Value} {c : Cfg} {F0 : Hp}
theorem isIt_zip3 {a b e : Addr} {xs ys zs : List V} {ds es fs : List D} (h1 : SqT K F0 a xs) (r1 : RDs K mg F0 ds xs) (h2 : SqT K F0 b ys) (r2 : RDs K mg F0 es ys) (h3 : SqT K F0 e zs) (r3 : RDs K mg F0 fs zs) (l1 : ds.length ≤ es.length) (l2 : ds.length ≤ fs.length) :
    IsIt K mg c F0 (Z3.ItQ K a b e) (zip3D ds es fs) where
  go := fun i d F H q hx A => by
    obtain ⟨x, y, z, e1, e2, e3, _⟩ := zip3D_get q
    obtain ⟨v, q1, _⟩ := r1.get e1
    obtain ⟨u, q2, _⟩ := r2.get e2
    obtain ⟨t, q3, _⟩ := r3.get e3
    exact ⟨xs, ys, zs, v, u, t, ⟨sqT_ext A.sub (sqT_ext hx h1), sqT_ext A.sub (sqT_ext hx h2), sqT_ext A.sub (sqT_ext hx h3)⟩, q1, q2, q3⟩
  yld := fun i d F H v H' q hx A y => by
    obtain ⟨x, y', z, e1, e2, e3, rfl⟩ := zip3D_get q
    obtain ⟨T, z1, z2, z3, rfl, hT, rfl, k1, k2, k3⟩ := y
    obtain ⟨v1, q1, p1⟩ := r1.get e1
    obtain ⟨v2, q2, p2⟩ := r2.get e2
    obtain ⟨v3, q3, p3⟩ := r3.get e3
    have w1 := k1 xs (sqT_ext A.sub (sqT_ext hx h1))
    rw [q1] at w1
    cases w1
    have w2 := k2 ys (sqT_ext A.sub (sqT_ext hx h2))
    rw [q2] at w2
    cases w2
    have w3 := k3 zs (sqT_ext A.sub (sqT_ext hx h3))
    rw [q3] at w3
    cases w3
    have hF := (A.fresh0 hT).2.2.1
    have hx2 : Ext F0 (upd F T (.tup [z1, z2, z3])) := hx.trans (.new hF)
    exact .inr ⟨T, _, hT, rfl, noT_tup _, .tup (.inl (.inl upd_same)) (.cons (p1.ext hx2) (.cons (p2.ext hx2) (.cons (p3.ext hx2) .nil)))⟩
  stop := fun F H hx A => ⟨xs, ys, zs, ⟨sqT_ext A.sub (sqT_ext hx h1), sqT_ext A.sub (sqT_ext hx h2), sqT_ext A.sub (sqT_ext hx h3)⟩, by
    rw [zip3D_len l1 l2, r1.len]
    exact Nat.le_refl _⟩
theorem enumD_get {ds : List D} {i : Nat} {d : D} (h : (enumD ds)[i]? = some d) : ∃ x, ds[i]? = some x ∧ d = .tup [.int (i : Nat), x] := by
  unfold enumD at h
  rw [List.getElem?_mapIdx] at h
  cases e : ds[i]? with
  | none =>
    rw [e] at h
    cases h
  | some x =>
    rw [e] at h
    cases h
    exact ⟨x, rfl, rfl⟩
theorem isIt_enumT {a : Addr} {xs : List V} {ds : List D} (h : SqT K F0 a xs) (r : RDs K mg F0 ds xs) : IsIt K mg c F0 (Z3.ItE K a) (enumD ds) where
  go := fun i d F H q hx A => by
    obtain ⟨x, e1, _⟩ := enumD_get q
    obtain ⟨v, q1, _⟩ := r.get e1
    exact ⟨xs, v, sqT_ext A.sub (sqT_ext hx h), q1⟩
  yld := fun i d F H v H' q hx A y => by
    obtain ⟨x, e1, rfl⟩ := enumD_get q
    obtain ⟨T, z, rfl, hT, rfl, k⟩ := y
    obtain ⟨v1, q1, p1⟩ := r.get e1
    have w1 := k xs (sqT_ext A.sub (sqT_ext hx h))
    rw [q1] at w1
    cases w1
    have hF := (A.fresh0 hT).2.2.1
    exact .inr ⟨T, _, hT, rfl, noT_tup _, .tup (.inl (.inl upd_same)) (.cons (.int _) (.cons (p1.ext (hx.trans (.new hF))) .nil))⟩
  stop := fun F H hx A => ⟨xs, sqT_ext A.sub (sqT_ext hx h), by
    unfold enumD
    rw [List.length_mapIdx, r.len]⟩
end
theorem RWs.one1 {K : PySem.W.Frag} {mg : Str → Option Value} {c : Cfg} {F H : Hp} {σ : L2.St} {d : D} {vs : List V} (h : RWs K mg c F H σ [.val d] vs) : ∃ x, vs = [x] ∧ RD K mg F d x := by
  cases h with
  | cons p q =>
    cases q
    exact ⟨_, rfl, p⟩
theorem RWs.three {K : PySem.W.Frag} {mg : Str → Option Value} {c : Cfg} {F H : Hp} {σ : L2.St} {d e f : D} {vs : List V} (h : RWs K mg c F H σ [.val d, .val e, .val f] vs) : ∃ x y z, vs = [x, y, z] ∧ RD K mg F d x ∧ RD K mg F e y ∧ RD K mg F f z := by
  cases h with
  | cons p q =>
    cases q with
    | cons p2 q =>
      cases q with
      | cons p3 q =>
        cases q
        exact ⟨_, _, _, rfl, p, p2, p3⟩
section
variable {X : Cx} {ρ : Store} {Y : Str → Store → Prop}
theorem wi_zip3T {e e2 e3 : Expr} {P : List D → Store → Prop} {p pos tpos : Pos} {elts : List Expr} {kk : Nat} (hg : Gl X "zip") (hm : X.mg "zip" = none)
    (h : WA X [e, e2, e3] ρ Y fun ws ρ1 => ∃ ds es fs, ws = [.val (.tup ds), .val (.tup es), .val (.tup fs)] ∧ ds.length ≤ es.length ∧ ds.length ≤ fs.length ∧ P (zip3D ds es fs) ρ1)
    (hs : starEach [e, e2, e3] X.env = (false, eval e X.env) :: starEach [e2, e3] X.env := by rfl) (hpl : (backTo pos (starEach [e2, e3] X.env)).any (·.1) = false := by rfl) : WI X (.Tuple elts kk tpos) (.Call (.Name "zip" p) [e, e2, e3] [] pos) ρ Y P := fun c F H σ R L => by
  refine bstI (Z3.pi_zip3 hg hm pa_best hs hpl) ?_
  refine (h c F H σ R L).imp fun vs H1 ⟨F1, ρ1, ws, E1, R1, r1, ds, es, fs, e1, l1, l2, hP⟩ => ?_
  subst e1
  obtain ⟨x, y, z, rfl, q1, q2, q3⟩ := r1.three
  obtain ⟨a, xs, rfl, a1, a2⟩ := RD.tup_inv q1
  obtain ⟨b, ys, rfl, b1, b2⟩ := RD.tup_inv q2
  obtain ⟨c', zs, rfl, c1, c2⟩ := RD.tup_inv q3
  exact ⟨a, b, c', xs, ys, zs, rfl, ⟨sqT_ext R1.aft.sub a1, sqT_ext R1.aft.sub b1, sqT_ext R1.aft.sub c1⟩, F1, ρ1, _, E1, R1, isIt_zip3 a1 a2 b1 b2 c1 c2 l1 l2, hP⟩
theorem wi_enumT {e : Expr} {P : List D → Store → Prop} {p pos tpos : Pos} {elts : List Expr} {kk : Nat} (hg : Gl X "enumerate") (hm : X.mg "enumerate" = none) (h : WE X e ρ Y fun w ρ1 => ∃ ds, w = .val (.tup ds) ∧ P (enumD ds) ρ1)
    (hs : starEach [e] X.env = [(false, eval e X.env)] := by rfl) : WI X (.Tuple elts kk tpos) (.Call (.Name "enumerate" p) [e] [] pos) ρ Y P := fun c F H σ R L => by
  refine bstI (Z3.pi_enumT hg hm (pa_cons pe_best pa_nil (by rw [hs]; rfl)) hs) ?_
  refine (h.run R L).imp fun v H1 ⟨F1, ρ1, w, E1, R1, r1, ds, e1, hP⟩ => ?_
  subst e1
  obtain ⟨a, xs, rfl, a1, a2⟩ := RD.tup_inv r1
  exact ⟨a, xs, rfl, sqT_ext R1.aft.sub a1, F1, ρ1, _, E1, R1, isIt_enumT a1 a2, hP⟩
end
/-! ### is True, is False -/
section
variable {X : Cx} {ρ : Store} {Y : Str → Store → Prop} {P : Po}
theorem op_isB : OpR X (compareOp .Is) (fun x y H Q => ∃ a b, x = .bl a ∧ y = .bl b ∧ Q (.bl (decide (a = b))) H) := by
  intro pins s σ H x y v u Q I rx ry h
  obtain ⟨a, b, rfl, rfl, q⟩ := h
  cases rx
  cases ry
  refine wpAny_is_plain rfl (fin_bl I q ?_)
  cases a <;> cases b <;> rfl
theorem op_notB : OpR X (compareOp .IsNot) (fun x y H Q => ∃ a b, x = .bl a ∧ y = .bl b ∧ Q (.bl (!decide (a = b))) H) := by
  intro pins s σ H x y v u Q I rx ry h
  obtain ⟨a, b, rfl, rfl, q⟩ := h
  cases rx
  cases ry
  refine wpAny_isNot_plain rfl (fin_bl I q ?_)
  cases a <;> cases b <;> rfl
theorem wt_isB {a b : Expr} {pos : Pos} {P : Pb} (h : WE X a ρ Y fun x ρ1 => WE X b ρ1 Y fun y ρ2 => ∃ i j, x = .val (.bl i) ∧ y = .val (.bl j) ∧ P (decide (i = j)) ρ2) (hm : behindInMarks .Is b = false := by rfl) : WT X (.Compare a [.Is] [b] pos) ρ Y P := fun c F H σ R L => by
  refine bstT (pt_cmpR op_isB pe_best pe_best hm) ?_
  refine (h.run R L).imp fun v H1 ⟨F1, ρ1, w, _, R1, r1, hb⟩ => (hb.run R1 L).imp fun u H2 ⟨F2, ρ2, w2, _, R2, r2, i, j, e1, e2, hP⟩ => ?_
  subst e1 e2
  exact ⟨i, j, RD.bl_inv r1, RD.bl_inv r2, _, rfl, F2, ρ2, R2, hP⟩
theorem wt_notB {a b : Expr} {pos : Pos} {P : Pb} (h : WE X a ρ Y fun x ρ1 => WE X b ρ1 Y fun y ρ2 => ∃ i j, x = .val (.bl i) ∧ y = .val (.bl j) ∧ P (!decide (i = j)) ρ2) (hm : behindInMarks .IsNot b = false := by rfl) : WT X (.Compare a [.IsNot] [b] pos) ρ Y P := fun c F H σ R L => by
  refine bstT (pt_cmpR op_notB pe_best pe_best hm) ?_
  refine (h.run R L).imp fun v H1 ⟨F1, ρ1, w, _, R1, r1, hb⟩ => (hb.run R1 L).imp fun u H2 ⟨F2, ρ2, w2, _, R2, r2, i, j, e1, e2, hP⟩ => ?_
  subst e1 e2
  exact ⟨i, j, RD.bl_inv r1, RD.bl_inv r2, _, rfl, F2, ρ2, R2, hP⟩
/-! ### sum, max, min -/
def D.ints : List D → Option (List Int)
  | [] => some []
  | .int i :: ds => match D.ints ds with
    | some is => some (i :: is)
    | none => none
  | _ :: _ => none
theorem RDs.ints {K : PySem.W.Frag} {mg : Str → Option Value} {F : Hp} : ∀ {ds : List D} {vs : List V} {is : List Int}, RDs K mg F ds vs → D.ints ds = some is → vs = is.map V.int
  | _, _, _, .nil, e => by
    cases e
    rfl
  | _, _, _, .cons (d := .int i) h k, e => by
    unfold D.ints at e
    split at e
    · rename_i is q
      cases e
      rw [RD.int_inv h, RDs.ints k q]
      rfl
    · cases e
  | _, _, _, .cons (d := .non) h k, e => by cases e
  | _, _, _, .cons (d := .bl _) h k, e => by cases e
  | _, _, _, .cons (d := .str _) h k, e => by cases e
  | _, _, _, .cons (d := .tup _) h k, e => by cases e
  | _, _, _, .cons (d := .lst _) h k, e => by cases e
  | _, _, _, .cons (d := .ro _) h k, e => by cases e
  | _, _, _, .cons (d := .dct _ _) h k, e => by cases e
  | _, _, _, .cons (d := .fn _) h k, e => by cases e
theorem we_sum {e : Expr} {p pos : Pos} (hc : X.calm = true) (hg : Gl X "sum") (hm : X.mg "sum" = none) (h : WE X e ρ Y fun w ρ1 => ∃ ds is, w = .val (.lst ds) ∧ D.ints ds = some is ∧ P (.val (.int is.sum)) ρ1) (he : starEach [e] X.env = (false, eval e X.env) :: starEach [] X.env := by rfl) : WE X (.Call (.Name "sum" p) [e] [] pos) ρ Y P :=
  we_cb1 (he := he) (cr_sum hc) hg hm (by decide +kernel) (h.imp fun w ρ1 ⟨ds, is, e1, e2, hP⟩ c F H σ v R r => by
    subst e1
    obtain ⟨a, xs, rfl, h1, k⟩ := RD.lst_inv r
    refine ⟨a, is, rfl, ?_, vp R (.int _) hP⟩
    rw [← k.ints e2]
    exact .inl (.inl (R.aft.sub _ _ h1)))
theorem we_minL {e : Expr} {p pos : Pos} (hc : X.calm = true) (hg : Gl X "min") (hm : X.mg "min" = none) (h : WE X e ρ Y fun w ρ1 => ∃ i j, w = .val (.lst [.int i, .int j]) ∧ P (.val (.int (min i j))) ρ1) (he : starEach [e] X.env = (false, eval e X.env) :: starEach [] X.env := by rfl) : WE X (.Call (.Name "min" p) [e] [] pos) ρ Y P :=
  we_cb1 (he := he) (cr_min hc) hg hm (by decide +kernel) (h.imp fun w ρ1 ⟨i, j, e1, hP⟩ c F H σ v R r => by
    subst e1
    obtain ⟨a, xs, rfl, h1, k⟩ := RD.lst_inv r
    refine ⟨a, [i, j], rfl, ?_, by simp, fun m hm hle => ?_⟩
    · rw [← k.ints (is := [i, j]) rfl]
      exact .inl (.inl (R.aft.sub _ _ h1))
    · have e : m = min i j := by
        simp only [List.mem_cons, List.not_mem_nil, or_false] at hm hle
        have := hle i (.inl rfl)
        have := hle j (.inr rfl)
        omega
      subst e
      exact vp R (.int _) hP)
theorem we_max2 {a b : Expr} {p pos : Pos} (hc : X.calm = true) (hg : Gl X "max") (hm : X.mg "max" = none) (h : WA X [a, b] ρ Y fun ws ρ1 => ∃ i j, ws = [.val (.int i), .val (.int j)] ∧ P (.val (.int (max i j))) ρ1)
    (he : starEach [a, b] X.env = (false, eval a X.env) :: starEach [b] X.env := by rfl) (hpl : (backTo pos (starEach [b] X.env)).any (·.1) = false := by rfl) : WE X (.Call (.Name "max" p) [a, b] [] pos) ρ Y P := fun c F H σ R L => by
  refine bst (pe_callB (call_max2 hc) hg hm (by decide +kernel) pa_best (by decide) (by decide) he hpl) ?_
  refine (h c F H σ R L).imp fun vs H1 ⟨F1, ρ1, ws, _, R1, r1, i, j, e1, hP⟩ => ?_
  subst e1
  obtain ⟨x, y, rfl, q1, q2⟩ := r1.two
  refine ⟨i, j, by rw [RD.int_inv q1, RD.int_inv q2], ?_⟩
  have e : (if j > i then j else i) = max i j := by
    split <;> omega
  rw [e]
  exact vp R1 (.int _) hP
theorem we_max3 {a b d : Expr} {p pos : Pos} (hc : X.calm = true) (hg : Gl X "max") (hm : X.mg "max" = none) (h : WA X [a, b, d] ρ Y fun ws ρ1 => ∃ i j k, ws = [.val (.int i), .val (.int j), .val (.int k)] ∧ P (.val (.int (max (max i j) k))) ρ1)
    (he : starEach [a, b, d] X.env = (false, eval a X.env) :: starEach [b, d] X.env := by rfl) (hpl : (backTo pos (starEach [b, d] X.env)).any (·.1) = false := by rfl) : WE X (.Call (.Name "max" p) [a, b, d] [] pos) ρ Y P := fun c F H σ R L => by
  refine bst (pe_callB (call_max3Nu hc) hg hm (by decide +kernel) pa_best (by decide) (by decide) he hpl) ?_
  refine (h c F H σ R L).imp fun vs H1 ⟨F1, ρ1, ws, _, R1, r1, i, j, k, e1, hP⟩ => ?_
  subst e1
  obtain ⟨x, y, z, rfl, q1, q2, q3⟩ := r1.three
  refine ⟨.int i, .int j, .int k, .int (max (max i j) k), by rw [RD.int_inv q1, RD.int_inv q2, RD.int_inv q3], ?_, vp R1 (.int _) hP⟩
  have e1 : ∀ a b : Int, nuMax2 (.int a) (.int b) = some (.int (max a b)) := fun a b => by
    show ((some (decide (a < b))).map fun c => if c = true then V.int b else V.int a) = _
    by_cases h : a < b
    · rw [decide_eq_true h]
      show some (V.int b) = _
      rw [Int.max_eq_right (by omega)]
    · rw [decide_eq_false h]
      show some (V.int a) = _
      rw [Int.max_eq_left (by omega)]
  show (nuMax2 (.int i) (.int j)).bind (fun m => nuMax2 m (.int k)) = _
  rw [e1]
  exact e1 _ _
/-- a tuple, so many times -/
theorem RDs.repT {K : PySem.W.Frag} {mg : Str → Option Value} {F : Hp} {ds : List D} {vs : List V} (n : Nat) (h : RDs K mg F ds vs) : RDs K mg F (List.replicate n ds).flatten (List.replicate n vs).flatten := by
  induction n with
  | zero => exact .nil
  | succ n ih =>
    rw [List.replicate_succ, List.replicate_succ, List.flatten_cons, List.flatten_cons]
    exact h.append ih
theorem we_repT {a b : Expr} {pos : Pos} (h : WE X a ρ Y fun x ρ1 => WE X b ρ1 Y fun y ρ2 => ∃ ds k, x = .val (.tup ds) ∧ y = .val (.int k) ∧ ds ≠ [] ∧ 2 ≤ k ∧ k ≤ 1000 ∧ ds.length ≤ 1000 ∧ P (.val (.tup (List.replicate k.toNat ds).flatten)) ρ2) : WE X (.BinOp a .Mult b pos) ρ Y P := fun c F H σ R L => by
  refine bst (pe_op op_repT pe_best pe_best) ?_
  refine (h.run R L).imp fun v H1 ⟨F1, ρ1, w, _, R1, r1, hb⟩ => (hb.run R1 L).imp fun u H2 ⟨F2, ρ2, w2, E2, R2, r2, ds, k, e1, e2, n0, k1, k2, hz, hP⟩ => ?_
  subst e1 e2
  obtain ⟨p, xs, rfl, h1, q1⟩ := RD.tup_inv (RD.ext E2 r1)
  have hl := q1.len
  refine ⟨p, k, xs, rfl, by rw [RD.int_inv r2], sqT_ext R2.aft.sub h1, fun e => n0 ?_, k1, k2, by omega, fun q hq => ?_⟩
  · subst e
    cases ds with
    | nil => rfl
    | cons _ _ => simp at hl
  · obtain ⟨R4, r4⟩ := R2.tupNew hq (RDs.repT k.toNat q1)
    exact ⟨_, ρ2, .val (.tup _), R4, r4, hP⟩
end
/-! ### x, y = a list of two -/
section
variable {X : Cx} {ρ : Store} {Y : Str → Store → Prop} {T : Pst}
theorem ws_asgL (i j : Nat) {x y : Str} {e : Expr} {px py pt pos : Pos} {kt} (hc : X.calm = true) (hN : X.N.Nodup) (hi : X.N[i]? = some x) (hj : X.N[j]? = some y) (hx : Loc X.env.scope x) (hy : Loc X.env.scope y)
    (h : WE X e ρ Y fun u ρ1 => ∃ d d', u = .val (.lst [d, d']) ∧ T.nx ((ρ1.set i (some (.val d))).set j (some (.val d'))))
    (hs : swapsWithSole [.Tuple [.Name x px, .Name y py] kt pt] e pos.line X.env = pure false := by rfl) (hw : swappedStores [.Tuple [.Name x px, .Name y py] kt pt] e X.env = pure none := by rfl)
    (hf1 : X.fn x = true ∨ X.env.scope.names.lookup x = some .local := by first | exact .inl rfl | exact .inr rfl | assumption) (hf2 : X.fn y = true ∨ X.env.scope.names.lookup y = some .local := by first | exact .inl rfl | exact .inr rfl | assumption) :
    WS X (.Assign [.Tuple [.Name x px, .Name y py] kt pt] e pos) ρ Y T := fun c F H σ nb R L => bS.inv fun hl => by
  refine bstS (ps_asg pe_best (pg_lst hc (pgs_cons (pg_name hN hi hx hf1) (pgs_cons (pg_name hN hj hy hf2) pgs_nil))) hs hw) ?_
  refine (h.run R L).imp fun u H1 ⟨F1, ρ1, w, _, R1, r1, d, d', e1, hP⟩ => ?_
  subst e1
  obtain ⟨a, xs, rfl, q1, k⟩ := RD.lst_inv r1
  cases k with
  | cons q2 k =>
  cases k with
  | cons q3 k =>
  cases k
  refine ⟨a, _, rfl, .inl (.inl (R1.aft.sub _ _ q1)), rfl, _, _, rfl, _, [], rfl, rfl, F1, _, ?_, hP⟩
  exact (R1.setVal (by rw [hl]; exact lt_of_ix hi) q2).setVal (by rw [List.length_set, hl]; exact lt_of_ix hj) q3
end
end PL

/-! meanings of the parts of a text as predicate transformers, and that the rules meet them -/
namespace PL
open PySem PySem.Spec PyProof.Rows L2
abbrev Yp := Str → Store → Prop
abbrev ME := Store → Yp → Po → Prop
abbrev MT := Store → Yp → Pb → Prop
abbrev MA := Store → Yp → (List W → Store → Prop) → Prop
abbrev ML := Store → Yp → (List D → Store → Prop) → Prop
abbrev MD := Store → Yp → (List Key → List D → Store → Prop) → Prop
abbrev MO := Store → Yp → (Option Int → Store → Prop) → Prop
abbrev MS := Store → Yp → Pst → Prop
/-! ### what is asked of values -/
def int1 (x : W) (K : Int → Prop) : Prop := match x with
  | .val (.int i) => K i
  | _ => False
def int2 (x y : W) (K : Int → Int → Prop) : Prop := match x, y with
  | .val (.int i), .val (.int j) => K i j
  | _, _ => False
def bl1 (x : W) (K : Bool → Prop) : Prop := match x with
  | .val (.bl b) => K b
  | _ => False
def bl2 (x y : W) (K : Bool → Bool → Prop) : Prop := match x, y with
  | .val (.bl i), .val (.bl j) => K i j
  | _, _ => False
def dat1 (x : W) (K : D → Prop) : Prop := match x with
  | .val d => K d
  | _ => False
def dat2 (x y : W) (K : D → D → Prop) : Prop := match x, y with
  | .val d, .val e => K d e
  | _, _ => False
def tup1 (x : W) (K : List D → Prop) : Prop := match x with
  | .val (.tup ds) => K ds
  | _ => False
def lst1 (x : W) (K : List D → Prop) : Prop := match x with
  | .val (.lst ds) => K ds
  | _ => False
def lr1 (x : W) (K : List D → Prop) : Prop := match x with
  | .val (.lst ds) => K ds
  | .val (.ro ds) => K ds
  | _ => False
def opt1 {α : Type} (x : Option α) (K : α → Prop) : Prop := match x with
  | some a => K a
  | none => False
theorem int1_e {x : W} {K : Int → Prop} (h : int1 x K) : ∃ i, x = .val (.int i) ∧ K i := by
  unfold int1 at h
  split at h
  · exact ⟨_, rfl, h⟩
  · exact h.elim
theorem int2_e {x y : W} {K : Int → Int → Prop} (h : int2 x y K) : ∃ i j, x = .val (.int i) ∧ y = .val (.int j) ∧ K i j := by
  unfold int2 at h
  split at h
  · exact ⟨_, _, rfl, rfl, h⟩
  · exact h.elim
theorem bl1_e {x : W} {K : Bool → Prop} (h : bl1 x K) : ∃ i, x = .val (.bl i) ∧ K i := by
  unfold bl1 at h
  split at h
  · exact ⟨_, rfl, h⟩
  · exact h.elim
theorem bl2_e {x y : W} {K : Bool → Bool → Prop} (h : bl2 x y K) : ∃ i j, x = .val (.bl i) ∧ y = .val (.bl j) ∧ K i j := by
  unfold bl2 at h
  split at h
  · exact ⟨_, _, rfl, rfl, h⟩
  · exact h.elim
theorem dat1_e {x : W} {K : D → Prop} (h : dat1 x K) : ∃ i, x = .val i ∧ K i := by
  unfold dat1 at h
  split at h
  · exact ⟨_, rfl, h⟩
  · exact h.elim
theorem dat2_e {x y : W} {K : D → D → Prop} (h : dat2 x y K) : ∃ i j, x = .val i ∧ y = .val j ∧ K i j := by
  unfold dat2 at h
  split at h
  · exact ⟨_, _, rfl, rfl, h⟩
  · exact h.elim
theorem tup1_e {x : W} {K : List D → Prop} (h : tup1 x K) : ∃ i, x = .val (.tup i) ∧ K i := by
  unfold tup1 at h
  split at h
  · exact ⟨_, rfl, h⟩
  · exact h.elim
theorem lst1_e {x : W} {K : List D → Prop} (h : lst1 x K) : ∃ i, x = .val (.lst i) ∧ K i := by
  unfold lst1 at h
  split at h
  · exact ⟨_, rfl, h⟩
  · exact h.elim
theorem lr1_e {x : W} {K : List D → Prop} (h : lr1 x K) : ∃ i, (x = .val (.lst i) ∨ x = .val (.ro i)) ∧ K i := by
  unfold lr1 at h
  split at h
  · exact ⟨_, .inl rfl, h⟩
  · exact ⟨_, .inr rfl, h⟩
  · exact h.elim
theorem opt1_e {α : Type} {x : Option α} {K : α → Prop} (h : opt1 x K) : ∃ a, x = some a ∧ K a := by
  unfold opt1 at h
  split at h
  · exact ⟨_, rfl, h⟩
  · exact h.elim
/-! ### expressions -/
def xVal (d : D) : ME := fun ρ _ P => P (.val d) ρ
def slW (i : Nat) (w : W) : W := match w with
  | .own _ => .loc i
  | .hown _ => .loc i
  | w => w
def xSlot (i : Nat) : ME := fun ρ _ P => match ρ[i]? with
  | some (some w) => P (slW i w) ρ
  | _ => False
def xBin (f : W → W → Store → (D → Prop) → Prop) (a b : ME) : ME := fun ρ Y P => a ρ Y fun x ρ1 => b ρ1 Y fun y ρ2 => f x y ρ2 fun d => P (.val d) ρ2
def fAdd (x y : W) (_ : Store) (K : D → Prop) : Prop := int2 x y fun i j => K (.int (i + j))
def fSub (x y : W) (_ : Store) (K : D → Prop) : Prop := int2 x y fun i j => K (.int (i - j))
def fMul (x y : W) (_ : Store) (K : D → Prop) : Prop := int2 x y fun i j => CMulW i j ∧ K (.int (i * j))
def fDiv (x y : W) (_ : Store) (K : D → Prop) : Prop := int2 x y fun i j => CDivG i j ∧ K (.int (i.fdiv j))
def fMod (x y : W) (_ : Store) (K : D → Prop) : Prop := int2 x y fun i j => j ≠ 0 ∧ K (.int (i.fmod j))
def fPow (x y : W) (_ : Store) (K : D → Prop) : Prop := int2 x y fun i j => CPow i j ∧ K (.int (i ^ j.toNat))
def fCat (x y : W) (ρ : Store) (K : D → Prop) : Prop := opt1 (lstW ρ x) fun ds => opt1 (lstW ρ y) fun es => ds.length + es.length ≤ 100000 ∧ K (.lst (ds ++ es))
def fCatT (x y : W) (_ : Store) (K : D → Prop) : Prop := tup1 x fun ds => tup1 y fun es => ds.length + es.length ≤ 100000 ∧ K (.tup (ds ++ es))
def fRepT (x y : W) (_ : Store) (K : D → Prop) : Prop := tup1 x fun ds => int1 y fun k => ds ≠ [] ∧ 2 ≤ k ∧ k ≤ 1000 ∧ ds.length ≤ 1000 ∧ K (.tup (List.replicate k.toNat ds).flatten)
def fLt (x y : W) (_ : Store) (K : D → Prop) : Prop := int2 x y fun i j => K (.bl (decide (i < j)))
def fLe (x y : W) (_ : Store) (K : D → Prop) : Prop := int2 x y fun i j => K (.bl (decide (i ≤ j)))
def fGt (x y : W) (_ : Store) (K : D → Prop) : Prop := int2 x y fun i j => K (.bl (decide (i > j)))
def fGe (x y : W) (_ : Store) (K : D → Prop) : Prop := int2 x y fun i j => K (.bl (decide (i ≥ j)))
def eqS (x y : W) (K : Bool → Prop) : Prop := dat2 x y fun d e => opt1 d.sc fun u => opt1 e.sc fun v => scal u v = true ∧ K (decide (u = v))
def eqD (x y : W) (K : Bool → Prop) : Prop := dat2 x y fun d e => opt1 d.py fun p => opt1 e.py fun q => SeqAt.shaped p = true ∧ SeqAt.shaped q = true ∧ K (PyData.eqv p q)
def fEqS (x y : W) (_ : Store) (K : D → Prop) : Prop := eqS x y fun b => K (.bl b)
def fNeS (x y : W) (_ : Store) (K : D → Prop) : Prop := eqS x y fun b => K (.bl (!b))
def fEqD (x y : W) (_ : Store) (K : D → Prop) : Prop := eqD x y fun b => K (.bl b)
def fIx (x y : W) (ρ : Store) (K : D → Prop) : Prop := opt1 (seqW ρ x) fun ds => int1 y fun i => opt1 (atI ds i) K
def fDget (x y : W) (_ : Store) (K : D → Prop) : Prop := match x with
  | .val (.dct ks ds) => dat1 y fun d => opt1 d.key fun k => opt1 (lookD ks ds k) K
  | _ => False
def xNeg (a : ME) : ME := fun ρ Y P => a ρ Y fun x ρ1 => int1 x fun i => P (.val (.int (-i))) ρ1
def xNot (a : ME) : ME := fun ρ Y P => a ρ Y fun x ρ1 => bl1 x fun k => P (.val (.bl (!k))) ρ1
def xAnd (a b : ME) : ME := fun ρ Y P => a ρ Y fun x ρ1 => bl1 x fun k => if k = true then b ρ1 Y P else P (.val (.bl false)) ρ1
def xOr (a b : ME) : ME := fun ρ Y P => a ρ Y fun x ρ1 => bl1 x fun k => if k = true then P (.val (.bl true)) ρ1 else b ρ1 Y P
def xIf (t : MT) (a b : ME) : ME := fun ρ Y P => t ρ Y fun k ρ1 => if k = true then a ρ1 Y P else b ρ1 Y P
def aNil : MA := fun ρ _ P => P [] ρ
def aCons (e : ME) (r : MA) : MA := fun ρ Y P => e ρ Y fun w ρ1 => w.st = true ∧ r ρ1 Y fun ws ρ2 => P (w :: ws) ρ2
def xTup (as : MA) : ME := fun ρ Y P => as ρ Y fun ws ρ1 => opt1 (vals ws) fun ds => ds.length ≤ 100000 ∧ P (.val (.tup ds)) ρ1
def xLst (as : MA) : ME := fun ρ Y P => as ρ Y fun ws ρ1 => opt1 (vals ws) fun ds => ds.length ≤ 100000 ∧ P (.val (.lst ds)) ρ1
def xCall (S : Sem1) (n : Nat) (as : MA) : ME := fun ρ Y P => as ρ Y fun ws ρ1 => ws.length = n ∧ (ws.all W.dat && clean ρ1) = true ∧ S ws (fun d => P (.val d) ρ1) (fun x => Y x ρ1)
def xUn (f : W → Store → (D → Prop) → Prop) (a : ME) : ME := fun ρ Y P => a ρ Y fun x ρ1 => f x ρ1 fun d => P (.val d) ρ1
def gLen (x : W) (ρ : Store) (K : D → Prop) : Prop := opt1 (seqW ρ x) fun ds => K (.int ds.length)
def gAbs (x : W) (_ : Store) (K : D → Prop) : Prop := int1 x fun i => K (.int (i.natAbs : Int))
def gInt (x : W) (_ : Store) (K : D → Prop) : Prop := int1 x fun i => K (.int i)
def gList (x : W) (ρ : Store) (K : D → Prop) : Prop := opt1 (seqW ρ x) fun ds => K (.lst ds)
def gTuple (x : W) (ρ : Store) (K : D → Prop) : Prop := opt1 (seqW ρ x) fun ds => K (.tup ds)
def gAll (x : W) (_ : Store) (K : D → Prop) : Prop := lst1 x fun ds => opt1 (D.bools ds) fun bs => K (.bl (bs.all id))
def gAny (x : W) (_ : Store) (K : D → Prop) : Prop := lst1 x fun ds => opt1 (D.bools ds) fun bs => K (.bl (bs.any id))
def gSum (x : W) (_ : Store) (K : D → Prop) : Prop := lst1 x fun ds => opt1 (D.ints ds) fun is => K (.int is.sum)
def gMin (x : W) (_ : Store) (K : D → Prop) : Prop := match x with
  | .val (.lst [.int i, .int j]) => K (.int (min i j))
  | _ => False
def gRepr (x : W) (_ : Store) (K : D → Prop) : Prop := dat1 x fun d => opt1 d.py fun p => D.rp d p ∧ K (.str (PyData.shown p))
def gIs (g : D → Bool) (x : W) (_ : Store) (K : D → Prop) : Prop := dat1 x fun d => d.plain = true ∧ K (.bl (g d))
def xMax2 (as : MA) : ME := fun ρ Y P => as ρ Y fun ws ρ1 => match ws with
  | [x, y] => int2 x y fun i j => P (.val (.int (max i j))) ρ1
  | _ => False
def xMax3 (as : MA) : ME := fun ρ Y P => as ρ Y fun ws ρ1 => match ws with
  | [x, y, z] => int2 x y fun i j => int1 z fun k => P (.val (.int (max (max i j) k))) ρ1
  | _ => False
def oNone : MO := fun ρ _ P => P none ρ
def oSome (e : ME) : MO := fun ρ Y P => e ρ Y fun w ρ1 => int1 w fun i => P (some i) ρ1
def xSlT (e : ME) (l u : MO) : ME := fun ρ Y P => e ρ Y fun x ρ1 => l ρ1 Y fun lo ρ2 => u ρ2 Y fun hi ρ3 => tup1 x fun ds => P (.val (.tup (cutD ds lo hi))) ρ3
def xSlL (e : ME) (l u : MO) : ME := fun ρ Y P => e ρ Y fun x ρ1 => l ρ1 Y fun lo ρ2 => u ρ2 Y fun hi ρ3 => lr1 x fun ds => P (.val (.lst (cutD ds lo hi))) ρ3
def dNil : MD := fun ρ _ P => P [] [] ρ
def dCons (k v : ME) (r : MD) : MD := fun ρ Y P => k ρ Y fun x ρ1 => dat1 x fun d => opt1 d.key fun kk => v ρ1 Y fun y ρ2 => dat1 y fun e => r ρ2 Y fun kks ds ρ3 => P (kk :: kks) (e :: ds) ρ3
def xDisp (r : MD) : ME := fun ρ Y P => clean ρ = true ∧ r ρ Y fun kk ds ρ1 => kk.Nodup ∧ kk.length ≤ 15 ∧ P (.val (.dct kk ds)) ρ1
/-- in, item of a module's dict by what it says of some keys -/
def xInK (r : List (Str × Option D)) (a : ME) : ME := fun ρ Y P => a ρ Y fun u ρ1 => match u with
  | .val (.str z) => opt1 (r.lookup z) fun e => P (.val (.bl e.isSome)) ρ1
  | _ => False
def xItK (r : List (Str × Option D)) (b : ME) : ME := fun ρ Y P => b ρ Y fun u ρ1 => match u with
  | .val (.str z) => opt1 (r.lookup z) fun e => opt1 e fun d => P (.val d) ρ1
  | _ => False
/-! ### tests -/
def tVal (e : ME) : MT := fun ρ Y P => e ρ Y fun w ρ1 => bl1 w fun b => P b ρ1
def tNot (t : MT) : MT := fun ρ Y P => t ρ Y fun k ρ1 => P (!k) ρ1
def tAnd (a b : MT) : MT := fun ρ Y P => a ρ Y fun k ρ1 => if k = true then b ρ1 Y P else P false ρ1
def tOr (a b : MT) : MT := fun ρ Y P => a ρ Y fun k ρ1 => if k = true then P true ρ1 else b ρ1 Y P
def tCmp (f : W → W → Store → (Bool → Prop) → Prop) (a b : ME) : MT := fun ρ Y P => a ρ Y fun x ρ1 => b ρ1 Y fun y ρ2 => f x y ρ2 fun k => P k ρ2
def cLt (x y : W) (_ : Store) (K : Bool → Prop) : Prop := int2 x y fun i j => K (decide (i < j))
def cLe (x y : W) (_ : Store) (K : Bool → Prop) : Prop := int2 x y fun i j => K (decide (i ≤ j))
def cGt (x y : W) (_ : Store) (K : Bool → Prop) : Prop := int2 x y fun i j => K (decide (i > j))
def cGe (x y : W) (_ : Store) (K : Bool → Prop) : Prop := int2 x y fun i j => K (decide (i ≥ j))
def cEqS (x y : W) (_ : Store) (K : Bool → Prop) : Prop := eqS x y K
def cNeS (x y : W) (_ : Store) (K : Bool → Prop) : Prop := eqS x y fun b => K (!b)
def cEqD (x y : W) (_ : Store) (K : Bool → Prop) : Prop := eqD x y K
def cNeD (x y : W) (_ : Store) (K : Bool → Prop) : Prop := eqD x y fun b => K (!b)
def cIsB (x y : W) (_ : Store) (K : Bool → Prop) : Prop := bl2 x y fun i j => K (decide (i = j))
def cNotB (x y : W) (_ : Store) (K : Bool → Prop) : Prop := bl2 x y fun i j => K (!decide (i = j))
def cIn (x y : W) (ρ : Store) (K : Bool → Prop) : Prop := dat1 x fun d => opt1 d.sc fun u => opt1 (seqW ρ y) fun ds => opt1 (scs ds) fun us => K (inV u us)
def cNotIn (x y : W) (ρ : Store) (K : Bool → Prop) : Prop := cIn x y ρ fun b => K (!b)
def tIsN (a : ME) : MT := fun ρ Y P => a ρ Y fun x ρ1 => dat1 x fun d => P d.isNon ρ1
def tNotN (a : ME) : MT := fun ρ Y P => a ρ Y fun x ρ1 => dat1 x fun d => P (!d.isNon) ρ1
/-! ### what is walked; lists made -/
def iTup (e : ME) : ML := fun ρ Y P => e ρ Y fun w ρ1 => tup1 w fun ds => P ds ρ1
def iLst (e : ME) : ML := fun ρ Y P => e ρ Y fun w ρ1 => lr1 w fun ds => P ds ρ1
def iRng (e : ME) : ML := fun ρ Y P => e ρ Y fun w ρ1 => int1 w fun j => -(2 ^ 62) ≤ j ∧ j < 2 ^ 62 ∧ P ((List.range j.toNat).map fun (k : Nat) => D.int (0 + k)) ρ1
def iZipT (as : MA) : ML := fun ρ Y P => as ρ Y fun ws ρ1 => match ws with
  | [x, y] => tup1 x fun ds => tup1 y fun es => P (List.zipWith (fun x y => D.tup [x, y]) ds es) ρ1
  | _ => False
def iZipL (as : MA) : ML := fun ρ Y P => as ρ Y fun ws ρ1 => match ws with
  | [x, y] => lst1 x fun ds => lst1 y fun es => P (List.zipWith (fun x y => D.tup [x, y]) ds es) ρ1
  | _ => False
def iZip3 (as : MA) : ML := fun ρ Y P => as ρ Y fun ws ρ1 => match ws with
  | [x, y, z] => tup1 x fun ds => tup1 y fun es => tup1 z fun fs => ds.length ≤ es.length ∧ ds.length ≤ fs.length ∧ P (zip3D ds es fs) ρ1
  | _ => False
def iEnum (e : ME) : ML := fun ρ Y P => e ρ Y fun w ρ1 => tup1 w fun ds => P (enumD ds) ρ1
def iZipN (i : Nat) : ML := fun ρ _ P => match ρ[i]? with
  | some (some (.zip ds es)) => clean (ρ.set i none) = true ∧ P (List.zipWith (fun x y => D.tup [x, y]) ds es) (ρ.set i none)
  | _ => False
/-- a comprehension: the list's items -/
def mLc (un : D → Option (List D)) (js vs : List Nat) (it : ML) (elt : ME) : ML := fun ρ Y P => it ρ Y fun items ρ1 => items.length ≤ 40000 ∧ freeOwn ρ1 vs ∧
  LcW un (fun _ K => K true) (fun ds K => elt (setW (wipeW ρ1 vs) js ds) (fun _ _ => False) fun w ρ2 => ρ2 = setW (wipeW ρ1 vs) js ds ∧ dat1 w K) items [] fun ds => P ds ρ1
def mLcIf (un : D → Option (List D)) (js vs : List Nat) (it : ML) (t : MT) (elt : ME) : ML := fun ρ Y P => it ρ Y fun items ρ1 => items.length ≤ 40000 ∧ freeOwn ρ1 vs ∧
  LcW un (fun ds K => t (setW (wipeW ρ1 vs) js ds) (fun _ _ => False) fun b ρ2 => ρ2 = setW (wipeW ρ1 vs) js ds ∧ K b) (fun ds K => elt (setW (wipeW ρ1 vs) js ds) (fun _ _ => False) fun w ρ2 => ρ2 = setW (wipeW ρ1 vs) js ds ∧ dat1 w K) items [] fun ds => P ds ρ1
def xOf (m : ML) : ME := fun ρ Y P => m ρ Y fun ds ρ1 => P (.val (.lst ds)) ρ1
def lDisp (as : MA) : ML := fun ρ Y P => as ρ Y fun ws ρ1 => opt1 (vals ws) fun ds => ds.length ≤ 100000 ∧ P ds ρ1
/-! ### lists of a slot's own, changed -/
def xPop (i : Nat) : ME := fun ρ _ P => match ρ[i]? with
  | some (some (.own ds)) => opt1 ds.getLast? fun d => P (.val d) (ρ.set i (some (.own ds.dropLast)))
  | _ => False
def xApp (i : Nat) (e : ME) : ME := fun ρ Y P => e ρ Y fun u ρ2 => dat1 u fun d => match ρ2[i]? with
  | some (some (.own ds)) => ds.length < 100000 ∧ P (.val .non) (ρ2.set i (some (.own (ds ++ [d]))))
  | _ => False
def xExt (i : Nat) (e : ME) : ME := fun ρ Y P => e ρ Y fun u ρ2 => lst1 u fun es => match ρ2[i]? with
  | some (some (.own ds)) => ds.length + es.length ≤ 100000 ∧ P (.val .non) (ρ2.set i (some (.own (ds ++ es))))
  | _ => False
def isOwn (ρ : Store) (i : Nat) : Prop := match ρ[i]? with
  | some (some (.own _)) => True
  | _ => False
def xAppS (i : Nat) (e : ME) : ME := fun ρ Y P => isOwn ρ i ∧ xApp i e ρ Y P
def xExtS (i : Nat) (e : ME) : ME := fun ρ Y P => isOwn ρ i ∧ xExt i e ρ Y P
/-! ### statements -/
def sNil : MS := fun ρ _ T => T.nx ρ
def sCons (s r : MS) : MS := fun ρ Y T => s ρ Y { T with nx := fun ρ1 => r ρ1 Y T }
def sRet (e : ME) : MS := fun ρ Y T => e ρ Y fun w ρ1 => opt1 (retW ρ1 w) T.rt
def sIf (t : MT) (a b : MS) : MS := fun ρ Y T => t ρ Y fun k ρ1 => if k = true then a ρ1 Y T else b ρ1 Y T
def sAsg (i : Nat) (e : ME) : MS := fun ρ Y T => e ρ Y fun w ρ1 => dat1 w fun d => T.nx (ρ1.set i (some (.val d)))
def sOwn (i : Nat) (m : ML) : MS := fun ρ Y T => m ρ Y fun ds ρ1 => T.nx (ρ1.set i (some (.own ds)))
def sLc (i : Nat) (m : ML) : MS := fun ρ Y T => m ρ Y fun ds ρ1 => T.nx (ρ1.set i (some (.val (.lst ds))))
def sAug (i : Nat) (e : ME) : MS := fun ρ Y T => match ρ[i]? with
  | some (some (.val (.int a))) => e ρ Y fun w ρ1 => int1 w fun b => T.nx (ρ1.set i (some (.val (.int (a + b)))))
  | _ => False
def sPar (i j : Nat) (a b : ME) : MS := fun ρ Y T => a ρ Y fun u ρ1 => dat1 u fun d => b ρ1 Y fun v ρ2 => dat1 v fun e => T.nx ((ρ2.set i (some (.val d))).set j (some (.val e)))
def sParO (i j : Nat) (a : ME) (b : ML) : MS := fun ρ Y T => (match ρ[i]? with | some (some (.own _)) => False | _ => True) ∧ a ρ Y fun u ρ1 => dat1 u fun d => b ρ1 Y fun ds ρ2 => T.nx ((ρ2.set i (some (.val d))).set j (some (.own ds)))
def sTwoT (i j : Nat) (e : ME) : MS := fun ρ Y T => e ρ Y fun u ρ1 => match u with
  | .val (.tup [d, d']) => T.nx ((ρ1.set i (some (.val d))).set j (some (.val d')))
  | _ => False
def sTwoL (i j : Nat) (e : ME) : MS := fun ρ Y T => e ρ Y fun u ρ1 => match u with
  | .val (.lst [d, d']) => T.nx ((ρ1.set i (some (.val d))).set j (some (.val d')))
  | _ => False
def sZip (i : Nat) (as : MA) : MS := fun ρ Y T => as ρ Y fun ws ρ1 => match ws with
  | [x, y] => lst1 x fun ds => lst1 y fun es => T.nx (ρ1.set i (some (.zip ds es)))
  | _ => False
def sExpr (e : ME) : MS := fun ρ Y T => e ρ Y fun _ ρ1 => T.nx ρ1
def sRaise (x : Str) : MS := fun ρ Y _ => Y x ρ
def sWhile (t : MT) (b : MS) : MS := fun ρ Y T => ∃ (I : Nat → Store → Prop) (m0 : Nat), I m0 ρ ∧ ∀ m ρ1, I m ρ1 → t ρ1 Y fun k ρ2 => if k = true then b ρ2 Y { T with nx := fun ρ3 => ∃ m', m' < m ∧ I m' ρ3, ct := fun ρ3 => ∃ m', m' < m ∧ I m' ρ3, bk := T.nx } else T.nx ρ2
def sFor (un : D → Option (List D)) (js : List Nat) (it : ML) (b : MS) : MS := fun ρ Y T => it ρ Y fun items ρ1 => ∃ J : Nat → Store → Prop, J 0 ρ1 ∧
  (∀ i d ρ2, items[i]? = some d → J i ρ2 → opt1 (un d) fun ds => b (setW ρ2 js ds) Y { T with nx := J (i + 1), ct := J (i + 1), bk := T.nx }) ∧ (∀ ρ2, J items.length ρ2 → T.nx ρ2)
end PL

namespace PL
open PySem PySem.Spec PyProof.Rows L2
variable [Hand]
section
variable {X : Cx} {ρ : Store} {Y : Yp}
theorem WT.imp {e : Expr} {P Q : Pb} (h : WT X e ρ Y P) (k : ∀ b ρ', P b ρ' → Q b ρ') : WT X e ρ Y Q := fun c F H σ R L => bT.imp (h c F H σ R L) fun b H' ⟨F', ρ', R', q⟩ => ⟨F', ρ', R', k b ρ' q⟩
theorem bW.imp {e : Expr} {σ : L2.St} {H : Hp} {Q Q' : Bool → Hp → Prop} (h : bW X e σ H Q) (k : ∀ v H', Q v H' → Q' v H') : bW X e σ H Q' := fun whole pins s I => thn (h whole pins s I) fun u s1 ⟨H1, I1, q⟩ => ⟨H1, I1, k u H1 q⟩
theorem WW.imp {e : Expr} {P Q : Pb} (h : WW X e ρ Y P) (k : ∀ b ρ', P b ρ' → Q b ρ') : WW X e ρ Y Q := fun c F H σ R L => bW.imp (h c F H σ R L) fun b H' ⟨F', ρ', R', q⟩ => ⟨F', ρ', R', k b ρ' q⟩
theorem WA.imp {es : List Expr} {P Q : List W → Store → Prop} (h : WA X es ρ Y P) (k : ∀ b ρ', P b ρ' → Q b ρ') : WA X es ρ Y Q := fun c F H σ R L => bA.imp (h c F H σ R L) fun b H' ⟨F', ρ', ws, E', R', r', q⟩ => ⟨F', ρ', ws, E', R', r', k ws ρ' q⟩
theorem WI.imp {tg e : Expr} {P Q : List D → Store → Prop} (h : WI X tg e ρ Y P) (k : ∀ b ρ', P b ρ' → Q b ρ') : WI X tg e ρ Y Q := fun c F H σ R L => bI.imp (h c F H σ R L) fun b H' ⟨F', ρ', ws, E', R', r', q⟩ => ⟨F', ρ', ws, E', R', r', k ws ρ' q⟩
theorem WO.imp {e : Expr} {P Q : List D → Store → Prop} (h : WO X e ρ Y P) (k : ∀ b ρ', P b ρ' → Q b ρ') : WO X e ρ Y Q := fun c F H σ R L => bE.imp (h c F H σ R L) fun b H' ⟨F', ρ', p, xs, ds, e1, e2, e3, e4, e5, e6, q⟩ => ⟨F', ρ', p, xs, ds, e1, e2, e3, e4, e5, e6, k ds ρ' q⟩
theorem WD.imp {ks : List (Option Expr)} {vs : List Expr} {P Q : List Key → List D → Store → Prop} (h : WD X ks vs ρ Y P) (k : ∀ kk ds ρ', P kk ds ρ' → Q kk ds ρ') : WD X ks vs ρ Y Q := fun c F H σ R L => bPs_imp (h c F H σ R L) fun b H' ⟨F', ρ', kk, us, ds, e1, e2, e3, e4, e5, q⟩ => ⟨F', ρ', kk, us, ds, e1, e2, e3, e4, e5, k kk ds ρ' q⟩
theorem WPt.imp {e : Option Expr} {P Q : Option Int → Store → Prop} (h : WPt X e ρ Y P) (k : ∀ b ρ', P b ρ' → Q b ρ') : WPt X e ρ Y Q := by
  cases e with
  | none => exact k _ _ h
  | some e => exact WE.imp h fun w ρ' ⟨i, e1, q⟩ => ⟨i, e1, k _ _ q⟩
theorem LcW.imp {un : D → Option (List D)} {c c' : List D → (Bool → Prop) → Prop} {e e' : List D → (D → Prop) → Prop} (hc : ∀ ds K K', c ds K → (∀ b, K b → K' b) → c' ds K') (he : ∀ ds K K', e ds K → (∀ d, K d → K' d) → e' ds K') :
    ∀ {items acc : List D} {K : List D → Prop}, LcW un c e items acc K → LcW un c' e' items acc K
  | [], _, _, h => h
  | it :: r, acc, K, ⟨ds, h1, h2⟩ => ⟨ds, h1, hc ds _ _ h2 fun b hb => by
    cases b with
    | true => exact he ds _ _ hb fun d hd => LcW.imp hc he hd
    | false => exact LcW.imp (items := r) hc he hb⟩
end
section
variable {X : Cx}
def Snd (X : Cx) (e : Expr) (m : ME) : Prop := ∀ ρ Y P, m ρ Y P → WE X e ρ Y P
def SndT (X : Cx) (e : Expr) (m : MT) : Prop := ∀ ρ Y P, m ρ Y P → WT X e ρ Y P
def SndW (X : Cx) (e : Expr) (m : MT) : Prop := ∀ ρ Y P, m ρ Y P → WW X e ρ Y P
def SndA (X : Cx) (es : List Expr) (m : MA) : Prop := ∀ ρ Y P, m ρ Y P → WA X es ρ Y P
def SndI (X : Cx) (tg e : Expr) (m : ML) : Prop := ∀ ρ Y P, m ρ Y P → WI X tg e ρ Y P
def SndO (X : Cx) (e : Expr) (m : ML) : Prop := ∀ ρ Y P, m ρ Y P → WO X e ρ Y P
def SndD (X : Cx) (ks : List (Option Expr)) (vs : List Expr) (m : MD) : Prop := ∀ ρ Y P, m ρ Y P → WD X ks vs ρ Y P
def SndP (X : Cx) (e : Option Expr) (m : MO) : Prop := ∀ ρ Y P, m ρ Y P → WPt X e ρ Y P
def SndS (X : Cx) (s : Stmt) (m : MS) : Prop := ∀ ρ Y T, m ρ Y T → WS X s ρ Y T
def SndB (X : Cx) (b : List Stmt) (m : MS) : Prop := ∀ ρ Y T, m ρ Y T → WB X b ρ Y T
variable {a b o e t : Expr} {es : List Expr} {pos apos cpos p p2 : Pos} {ma mb me : ME} {mt mu : MT} {as : MA}
/-! ### expressions -/
theorem s_int {i : Int} {j} : Snd X (.Constant (.int i) j pos) (xVal (.int i)) := fun _ _ _ h => we_int h
theorem s_str {x : Str} {j} : Snd X (.Constant (.str x) j pos) (xVal (.str x)) := fun _ _ _ h => we_str h
theorem s_bl {x : Bool} {j} : Snd X (.Constant (.bool x) j pos) (xVal (.bl x)) := fun _ _ _ h => we_bl h
theorem s_non {j} : Snd X (.Constant .none j pos) (xVal .non) := fun _ _ _ h => we_non h
theorem s_slot (i : Nat) {x : Str} (hN : X.N[i]? = some x) (hv : Vis X.env.scope x) (hd : (x == ("__debug__" : Str)) = false := by decide) (hcd : (x == ("__classdict__" : Str)) = false := by decide) : Snd X (.Name x pos) (xSlot i) := fun ρ Y P h => by
  unfold xSlot at h
  split at h
  · rename_i w hw
    refine we_slot i hN hv hw (w' := slW i w) ?_ h hd hcd
    cases w <;> rfl
  · exact h.elim
theorem s_gstr {x z : Str} (hg : Gl X x) (hm : ∃ t, X.mg x = some (.str z t)) (hd : (x == ("__debug__" : Str)) = false := by decide) : Snd X (.Name x pos) (xVal (.str z)) := fun _ _ _ h => we_gstr hg hm h hd
theorem s_gint {x : Str} {i : Int} (hg : Gl X x) (hm : ∃ t, X.mg x = some (.int i t)) (hd : (x == ("__debug__" : Str)) = false := by decide) : Snd X (.Name x pos) (xVal (.int i)) := fun _ _ _ h => we_gint hg hm h hd
theorem s_gtup {x : Str} {ds : List D} (hg : Gl X x) (hm : ∃ a vs, X.mg x = some (.ref a) ∧ (∀ F : Hp, SqT X.K F a vs) ∧ ∀ F : Hp, RDs X.K X.mg F ds vs) (hd : (x == ("__debug__" : Str)) = false := by decide) : Snd X (.Name x pos) (xVal (.tup ds)) := fun _ _ _ h => by
  obtain ⟨a, vs, h1, h2, h3⟩ := hm
  exact we_gtup hg h1 h2 h3 h hd
theorem s_add (ha : Snd X a ma) (hb : Snd X b mb) : Snd X (.BinOp a .Add b pos) (xBin fAdd ma mb) := fun _ _ _ h => we_add ((ha _ _ _ h).imp fun _ _ h1 => (hb _ _ _ h1).imp fun _ _ h2 => int2_e h2)
theorem s_sub (ha : Snd X a ma) (hb : Snd X b mb) : Snd X (.BinOp a .Sub b pos) (xBin fSub ma mb) := fun _ _ _ h => we_sub ((ha _ _ _ h).imp fun _ _ h1 => (hb _ _ _ h1).imp fun _ _ h2 => int2_e h2)
theorem s_mul (ha : Snd X a ma) (hb : Snd X b mb) : Snd X (.BinOp a .Mult b pos) (xBin fMul ma mb) := fun _ _ _ h => we_mul ((ha _ _ _ h).imp fun _ _ h1 => (hb _ _ _ h1).imp fun _ _ h2 => int2_e h2)
theorem s_fdiv (ha : Snd X a ma) (hb : Snd X b mb) : Snd X (.BinOp a .FloorDiv b pos) (xBin fDiv ma mb) := fun _ _ _ h => we_fdiv ((ha _ _ _ h).imp fun _ _ h1 => (hb _ _ _ h1).imp fun _ _ h2 => int2_e h2)
theorem s_mod (ha : Snd X a ma) (hb : Snd X b mb) : Snd X (.BinOp a .Mod b pos) (xBin fMod ma mb) := fun _ _ _ h => we_mod ((ha _ _ _ h).imp fun _ _ h1 => (hb _ _ _ h1).imp fun _ _ h2 => int2_e h2)
theorem s_pow (ha : Snd X a ma) (hb : Snd X b mb) : Snd X (.BinOp a .Pow b pos) (xBin fPow ma mb) := fun _ _ _ h => we_pow ((ha _ _ _ h).imp fun _ _ h1 => (hb _ _ _ h1).imp fun _ _ h2 => int2_e h2)
theorem s_cat (ha : Snd X a ma) (hb : Snd X b mb) : Snd X (.BinOp a .Add b pos) (xBin fCat ma mb) := fun _ _ _ h => we_cat ((ha _ _ _ h).imp fun _ _ h1 => (hb _ _ _ h1).imp fun _ _ h2 => by
  obtain ⟨ds, e1, h2⟩ := opt1_e h2
  obtain ⟨es, e2, h3, h4⟩ := opt1_e h2
  exact ⟨ds, es, e1, e2, h3, h4⟩)
theorem s_catT (ha : Snd X a ma) (hb : Snd X b mb) : Snd X (.BinOp a .Add b pos) (xBin fCatT ma mb) := fun _ _ _ h => we_catT ((ha _ _ _ h).imp fun _ _ h1 => (hb _ _ _ h1).imp fun _ _ h2 => by
  obtain ⟨ds, e1, h2⟩ := tup1_e h2
  obtain ⟨es, e2, h3, h4⟩ := tup1_e h2
  exact ⟨ds, es, e1, e2, h3, h4⟩)
theorem s_repT (ha : Snd X a ma) (hb : Snd X b mb) : Snd X (.BinOp a .Mult b pos) (xBin fRepT ma mb) := fun _ _ _ h => we_repT ((ha _ _ _ h).imp fun _ _ h1 => (hb _ _ _ h1).imp fun _ _ h2 => by
  obtain ⟨ds, e1, h2⟩ := tup1_e h2
  obtain ⟨k, e2, h3⟩ := int1_e h2
  exact ⟨ds, k, e1, e2, h3⟩)
theorem s_lt (ha : Snd X a ma) (hb : Snd X b mb) : Snd X (.Compare a [.Lt] [b] pos) (xBin fLt ma mb) := fun _ _ _ h => we_cmpI op_lt (nomark _) ((ha _ _ _ h).imp fun _ _ h1 => (hb _ _ _ h1).imp fun _ _ h2 => int2_e h2)
theorem s_le (ha : Snd X a ma) (hb : Snd X b mb) : Snd X (.Compare a [.LtE] [b] pos) (xBin fLe ma mb) := fun _ _ _ h => we_cmpI op_le (nomark _) ((ha _ _ _ h).imp fun _ _ h1 => (hb _ _ _ h1).imp fun _ _ h2 => int2_e h2)
theorem s_gt (ha : Snd X a ma) (hb : Snd X b mb) : Snd X (.Compare a [.Gt] [b] pos) (xBin fGt ma mb) := fun _ _ _ h => we_cmpI op_gt (nomark _) ((ha _ _ _ h).imp fun _ _ h1 => (hb _ _ _ h1).imp fun _ _ h2 => int2_e h2)
theorem s_ge (ha : Snd X a ma) (hb : Snd X b mb) : Snd X (.Compare a [.GtE] [b] pos) (xBin fGe ma mb) := fun _ _ _ h => we_cmpI op_ge (nomark _) ((ha _ _ _ h).imp fun _ _ h1 => (hb _ _ _ h1).imp fun _ _ h2 => int2_e h2)
theorem eqS_e {x y : W} {K : Bool → Prop} (h : eqS x y K) : ∃ d e u v, x = .val d ∧ y = .val e ∧ d.sc = some u ∧ e.sc = some v ∧ scal u v = true ∧ K (decide (u = v)) := by
  obtain ⟨d, e, e1, e2, h⟩ := dat2_e h
  obtain ⟨u, e3, h⟩ := opt1_e h
  obtain ⟨v, e4, h⟩ := opt1_e h
  exact ⟨d, e, u, v, e1, e2, e3, e4, h⟩
theorem eqD_e {x y : W} {K : Bool → Prop} (h : eqD x y K) : ∃ d e p q, x = .val d ∧ y = .val e ∧ d.py = some p ∧ e.py = some q ∧ SeqAt.shaped p = true ∧ SeqAt.shaped q = true ∧ K (PyData.eqv p q) := by
  obtain ⟨d, e, e1, e2, h⟩ := dat2_e h
  obtain ⟨u, e3, h⟩ := opt1_e h
  obtain ⟨v, e4, h⟩ := opt1_e h
  exact ⟨d, e, u, v, e1, e2, e3, e4, h⟩
theorem s_eqS (ha : Snd X a ma) (hb : Snd X b mb) : Snd X (.Compare a [.Eq] [b] pos) (xBin fEqS ma mb) := fun _ _ _ h => we_eqS ((ha _ _ _ h).imp fun _ _ h1 => (hb _ _ _ h1).imp fun _ _ h2 => eqS_e h2)
theorem s_neS (ha : Snd X a ma) (hb : Snd X b mb) : Snd X (.Compare a [.NotEq] [b] pos) (xBin fNeS ma mb) := fun _ _ _ h => we_neS ((ha _ _ _ h).imp fun _ _ h1 => (hb _ _ _ h1).imp fun _ _ h2 => eqS_e (K := fun b => _) h2)
theorem s_eqD {j : Nat} (hr : Room j X.A) (ha : Snd X a ma) (hb : Snd X b mb) : Snd X (.Compare a [.Eq] [b] pos) (xBin fEqD ma mb) := fun _ _ _ h => we_eqD hr ((ha _ _ _ h).imp fun _ _ h1 => (hb _ _ _ h1).imp fun _ _ h2 => eqD_e h2)
theorem s_ix (ha : Snd X a ma) (hb : Snd X b mb) (hs : PlainIx b := by exact fun _ _ => rfl) : Snd X (.Subscript a b pos) (xBin fIx ma mb) := fun _ _ _ h => we_ix ((ha _ _ _ h).imp fun _ _ h1 => (hb _ _ _ h1).imp fun _ _ h2 => by
  obtain ⟨ds, e1, h2⟩ := opt1_e h2
  obtain ⟨i, e2, h2⟩ := int1_e h2
  obtain ⟨d, e3, h2⟩ := opt1_e h2
  exact ⟨ds, i, d, e1, e2, e3, h2⟩) hs
theorem s_dget {j : Nat} (hr : Room j X.A) (ha : Snd X a ma) (hb : Snd X b mb) (hs : NoSl b := by exact fun _ _ => rfl) : Snd X (.Subscript a b pos) (xBin fDget ma mb) := fun _ _ _ h => we_dget hr ((ha _ _ _ h).imp fun x _ h1 => (hb _ _ _ h1).imp fun _ _ h2 => by
  unfold fDget at h2
  split at h2
  · obtain ⟨d, e1, h2⟩ := dat1_e h2
    obtain ⟨k, e2, h2⟩ := opt1_e h2
    obtain ⟨e, e3, h2⟩ := opt1_e h2
    exact ⟨_, _, d, k, e, rfl, e1, e2, e3, h2⟩
  · exact h2.elim) hs
theorem s_neg (ha : Snd X a ma) : Snd X (.UnaryOp .USub a pos) (xNeg ma) := fun _ _ _ h => we_neg ((ha _ _ _ h).imp fun _ _ h1 => int1_e h1)
theorem s_not (ha : Snd X a ma) : Snd X (.UnaryOp .Not a pos) (xNot ma) := fun _ _ _ h => we_not ((ha _ _ _ h).imp fun _ _ h1 => bl1_e h1)
theorem s_and1 {op : BoolOp} (ha : Snd X a ma) : Snd X (.BoolOp op [a] pos) ma := fun _ _ _ h => we_and1 (ha _ _ _ h)
theorem s_and (ha : Snd X a ma) (hb : Snd X (.BoolOp .And (b :: es) pos) mb) : Snd X (.BoolOp .And (a :: b :: es) pos) (xAnd ma mb) := fun _ _ _ h => we_and ((ha _ _ _ h).imp fun _ _ h1 => by
  obtain ⟨k, e1, h1⟩ := bl1_e h1
  refine ⟨k, e1, ?_⟩
  cases k with
  | true => exact hb _ _ _ h1
  | false => exact h1)
theorem s_or (ha : Snd X a ma) (hb : Snd X (.BoolOp .Or (b :: es) pos) mb) : Snd X (.BoolOp .Or (a :: b :: es) pos) (xOr ma mb) := fun _ _ _ h => we_or ((ha _ _ _ h).imp fun _ _ h1 => by
  obtain ⟨k, e1, h1⟩ := bl1_e h1
  refine ⟨k, e1, ?_⟩
  cases k with
  | true => exact h1
  | false => exact hb _ _ _ h1)
theorem s_if (ht : SndT X t mt) (ha : Snd X a ma) (hb : Snd X b mb) : Snd X (.IfExp t a b pos) (xIf mt ma mb) := fun _ _ _ h => we_if ((ht _ _ _ h).imp fun k _ h1 => by
  cases k with
  | true => exact ha _ _ _ h1
  | false => exact hb _ _ _ h1)
theorem s_anil : SndA X [] aNil := fun _ _ _ h => wa_nil h
theorem s_acons (ha : Snd X a ma) (hb : SndA X es as) (hs : starEach (a :: es) X.env = (false, eval a X.env) :: starEach es X.env := by rfl) : SndA X (a :: es) (aCons ma as) := fun _ _ _ h => wa_cons ((ha _ _ _ h).imp fun _ _ h1 => ⟨h1.1, hb _ _ _ h1.2⟩) hs
theorem s_tup {x1 : Nat} (ha : SndA X es as) : Snd X (.Tuple es x1 pos) (xTup as) := fun _ _ _ h => we_tup ((ha _ _ _ h).imp fun _ _ h1 => opt1_e h1)
theorem s_lst (ha : SndA X es as) : Snd X (.List es pos) (xLst as) := fun _ _ _ h => we_lst ((ha _ _ _ h).imp fun _ _ h1 => opt1_e h1)
theorem s_call {k j n : Nat} {x : Str} {S : Sem1} (C : Cal X.prog X.w X.K X.mg X.base k x n S) (hr : Room j X.A) (hk : k ≤ j) (hg : Gl X x) (ha : SndA X (e :: es) as) (hdb : (x == ("__debug__" : Str)) = false := by decide)
    (he : starEach (e :: es) X.env = (false, eval e X.env) :: starEach es X.env := by rfl) (hpl : (backTo pos (starEach es X.env)).any (·.1) = false := by rfl) : Snd X (.Call (.Name x p) (e :: es) [] pos) (xCall S n as) := fun _ _ _ h => we_call C hr hk hg (ha _ _ _ h) hdb he hpl
theorem s_callG {k j n : Nat} {x : Str} {S : Sem1} (C : CalG X.prog X.w X.K X.mg X.base k x n S) (hr : RoomG j X.A) (hk : k ≤ j) (hg : Gl X x) (ha : SndA X (e :: es) as) (hdb : (x == ("__debug__" : Str)) = false := by decide)
    (he : starEach (e :: es) X.env = (false, eval e X.env) :: starEach es X.env := by rfl) (hpl : (backTo pos (starEach es X.env)).any (·.1) = false := by rfl) : Snd X (.Call (.Name x p) (e :: es) [] pos) (xCall S n as) := fun _ _ _ h => we_callG C hr hk hg (ha _ _ _ h) hdb he hpl
variable (he1 : starEach [e] X.env = (false, eval e X.env) :: starEach [] X.env := by rfl)
theorem s_len (hg : Gl X "len") (hm : X.mg "len" = none) (ha : Snd X e me) (he : starEach [e] X.env = (false, eval e X.env) :: starEach [] X.env := by rfl) : Snd X (.Call (.Name "len" p) [e] [] pos) (xUn gLen me) := fun _ _ _ h => we_len hg hm ((ha _ _ _ h).imp fun _ _ h1 => opt1_e h1) he
theorem s_abs (hg : Gl X "abs") (hm : X.mg "abs" = none) (ha : Snd X e me) (he : starEach [e] X.env = (false, eval e X.env) :: starEach [] X.env := by rfl) : Snd X (.Call (.Name "abs" p) [e] [] pos) (xUn gAbs me) := fun _ _ _ h => we_abs hg hm ((ha _ _ _ h).imp fun _ _ h1 => int1_e h1) he
theorem s_intI (hg : Gl X "int") (hm : X.mg "int" = none) (ha : Snd X e me) (he : starEach [e] X.env = (false, eval e X.env) :: starEach [] X.env := by rfl) : Snd X (.Call (.Name "int" p) [e] [] pos) (xUn gInt me) := fun _ _ _ h => we_intI hg hm ((ha _ _ _ h).imp fun _ _ h1 => int1_e h1) he
theorem s_list (hg : Gl X "list") (hm : X.mg "list" = none) (ha : Snd X e me) (he : starEach [e] X.env = (false, eval e X.env) :: starEach [] X.env := by rfl) : Snd X (.Call (.Name "list" p) [e] [] pos) (xUn gList me) := fun _ _ _ h => we_listOf hg hm ((ha _ _ _ h).imp fun _ _ h1 => opt1_e h1) he
theorem s_tuple (hg : Gl X "tuple") (hm : X.mg "tuple" = none) (ha : Snd X e me) (he : starEach [e] X.env = (false, eval e X.env) :: starEach [] X.env := by rfl) : Snd X (.Call (.Name "tuple" p) [e] [] pos) (xUn gTuple me) := fun _ _ _ h => we_tupleOf hg hm ((ha _ _ _ h).imp fun _ _ h1 => opt1_e h1) he
theorem bools_e {x : W} {g : List Bool → Bool} {K : D → Prop} (h : lst1 x fun ds => opt1 (D.bools ds) fun bs => K (.bl (g bs))) : ∃ ds bs, x = .val (.lst ds) ∧ D.bools ds = some bs ∧ K (.bl (g bs)) := by
  obtain ⟨ds, e1, h⟩ := lst1_e h
  obtain ⟨bs, e2, h⟩ := opt1_e h
  exact ⟨ds, bs, e1, e2, h⟩
theorem s_all (hc : X.calm = true) (hg : Gl X "all") (hm : X.mg "all" = none) (ha : Snd X e me) (he : starEach [e] X.env = (false, eval e X.env) :: starEach [] X.env := by rfl) : Snd X (.Call (.Name "all" p) [e] [] pos) (xUn gAll me) := fun _ _ P h => we_all hc hg hm ((ha _ _ _ h).imp fun _ ρ1 h1 => bools_e (K := fun d => P (.val d) ρ1) h1) he
theorem s_any (hc : X.calm = true) (hg : Gl X "any") (hm : X.mg "any" = none) (ha : Snd X e me) (he : starEach [e] X.env = (false, eval e X.env) :: starEach [] X.env := by rfl) : Snd X (.Call (.Name "any" p) [e] [] pos) (xUn gAny me) := fun _ _ P h => we_any hc hg hm ((ha _ _ _ h).imp fun _ ρ1 h1 => bools_e (K := fun d => P (.val d) ρ1) h1) he
theorem s_sum (hc : X.calm = true) (hg : Gl X "sum") (hm : X.mg "sum" = none) (ha : Snd X e me) (he : starEach [e] X.env = (false, eval e X.env) :: starEach [] X.env := by rfl) : Snd X (.Call (.Name "sum" p) [e] [] pos) (xUn gSum me) := fun _ _ _ h => we_sum hc hg hm ((ha _ _ _ h).imp fun _ _ h1 => by
  obtain ⟨ds, e1, h1⟩ := lst1_e h1
  obtain ⟨bs, e2, h1⟩ := opt1_e h1
  exact ⟨ds, bs, e1, e2, h1⟩) he
theorem s_min (hc : X.calm = true) (hg : Gl X "min") (hm : X.mg "min" = none) (ha : Snd X e me) (he : starEach [e] X.env = (false, eval e X.env) :: starEach [] X.env := by rfl) : Snd X (.Call (.Name "min" p) [e] [] pos) (xUn gMin me) := fun _ _ _ h => we_minL hc hg hm ((ha _ _ _ h).imp fun _ _ h1 => by
  unfold gMin at h1
  split at h1
  · exact ⟨_, _, rfl, h1⟩
  · exact h1.elim) he
theorem s_repr {j : Nat} (hr : RoomG j X.A) (hg : Gl X "repr") (hm : X.mg "repr" = none) (ha : Snd X e me) (he : starEach [e] X.env = (false, eval e X.env) :: starEach [] X.env := by rfl) : Snd X (.Call (.Name "repr" p) [e] [] pos) (xUn gRepr me) := fun _ _ _ h => we_repr hr hg hm ((ha _ _ _ h).imp fun _ _ h1 => by
  obtain ⟨d, e1, h1⟩ := dat1_e h1
  obtain ⟨q, e2, h1, h2⟩ := opt1_e h1
  exact ⟨d, q, e1, h1, h2⟩) he
theorem gIs_e {x : W} {g : D → Bool} {ρ : Store} {K : D → Prop} (h : gIs g x ρ K) : ∃ d, x = .val d ∧ d.plain = true ∧ K (.bl (g d)) := dat1_e h
theorem s_isTup (hg : Gl X "isinstance") (hm : X.mg "isinstance" = none) (hg2 : Gl X "tuple") (hm2 : X.mg "tuple" = none) (ha : Snd X e me) (he : starEach (e :: [.Name "tuple" p2]) X.env = (false, eval e X.env) :: starEach [.Name "tuple" p2] X.env := by rfl) : Snd X (.Call (.Name "isinstance" p) [e, .Name "tuple" p2] [] pos) (xUn (gIs D.isTup) me) := fun _ _ _ h => we_isTup hg hm hg2 hm2 ((ha _ _ _ h).imp fun _ _ h1 => gIs_e h1) he
theorem s_isLst (hg : Gl X "isinstance") (hm : X.mg "isinstance" = none) (hg2 : Gl X "list") (hm2 : X.mg "list" = none) (ha : Snd X e me) (he : starEach (e :: [.Name "list" p2]) X.env = (false, eval e X.env) :: starEach [.Name "list" p2] X.env := by rfl) : Snd X (.Call (.Name "isinstance" p) [e, .Name "list" p2] [] pos) (xUn (gIs D.isLst) me) := fun _ _ _ h => we_isLst hg hm hg2 hm2 ((ha _ _ _ h).imp fun _ _ h1 => gIs_e h1) he
theorem s_isStr (hg : Gl X "isinstance") (hm : X.mg "isinstance" = none) (hg2 : Gl X "str") (hm2 : X.mg "str" = none) (ha : Snd X e me) (he : starEach (e :: [.Name "str" p2]) X.env = (false, eval e X.env) :: starEach [.Name "str" p2] X.env := by rfl) : Snd X (.Call (.Name "isinstance" p) [e, .Name "str" p2] [] pos) (xUn (gIs D.isStr) me) := fun _ _ _ h => we_isStr hg hm hg2 hm2 ((ha _ _ _ h).imp fun _ _ h1 => gIs_e h1) he
theorem s_isBl (hg : Gl X "isinstance") (hm : X.mg "isinstance" = none) (hg2 : Gl X "bool") (hm2 : X.mg "bool" = none) (ha : Snd X e me) (he : starEach (e :: [.Name "bool" p2]) X.env = (false, eval e X.env) :: starEach [.Name "bool" p2] X.env := by rfl) : Snd X (.Call (.Name "isinstance" p) [e, .Name "bool" p2] [] pos) (xUn (gIs D.isBl) me) := fun _ _ _ h => we_isBl hg hm hg2 hm2 ((ha _ _ _ h).imp fun _ _ h1 => gIs_e h1) he
theorem s_isInt (hg : Gl X "isinstance") (hm : X.mg "isinstance" = none) (hg2 : Gl X "int") (hm2 : X.mg "int" = none) (ha : Snd X e me) (he : starEach (e :: [.Name "int" p2]) X.env = (false, eval e X.env) :: starEach [.Name "int" p2] X.env := by rfl) : Snd X (.Call (.Name "isinstance" p) [e, .Name "int" p2] [] pos) (xUn (gIs D.isInt) me) := fun _ _ _ h => we_isInt hg hm hg2 hm2 ((ha _ _ _ h).imp fun _ _ h1 => gIs_e h1) he
theorem s_max2 (hc : X.calm = true) (hg : Gl X "max") (hm : X.mg "max" = none) (ha : SndA X [a, b] as) (he : starEach [a, b] X.env = (false, eval a X.env) :: starEach [b] X.env := by rfl) (hpl : (backTo pos (starEach [b] X.env)).any (·.1) = false := by rfl) : Snd X (.Call (.Name "max" p) [a, b] [] pos) (xMax2 as) := fun _ _ _ h => we_max2 hc hg hm ((ha _ _ _ h).imp fun _ _ h1 => by
  split at h1
  · obtain ⟨i, j, rfl, rfl, h1⟩ := int2_e h1
    exact ⟨i, j, rfl, h1⟩
  · exact h1.elim) he hpl
theorem s_max3 {d : Expr} (hc : X.calm = true) (hg : Gl X "max") (hm : X.mg "max" = none) (ha : SndA X [a, b, d] as) (he : starEach [a, b, d] X.env = (false, eval a X.env) :: starEach [b, d] X.env := by rfl) (hpl : (backTo pos (starEach [b, d] X.env)).any (·.1) = false := by rfl) : Snd X (.Call (.Name "max" p) [a, b, d] [] pos) (xMax3 as) := fun _ _ _ h => we_max3 hc hg hm ((ha _ _ _ h).imp fun _ _ h1 => by
  split at h1
  · obtain ⟨i, j, rfl, rfl, h1⟩ := int2_e h1
    obtain ⟨k, rfl, h1⟩ := int1_e h1
    exact ⟨i, j, k, rfl, h1⟩
  · exact h1.elim) he hpl
theorem s_onone : SndP X none oNone := fun _ _ _ h => h
theorem s_osome (ha : Snd X e me) : SndP X (some e) (oSome me) := fun _ _ _ h => (ha _ _ _ h).imp fun _ _ h1 => int1_e h1
theorem s_slT {lo hi : Option Expr} {l u : MO} (ha : Snd X e me) (hl : SndP X lo l) (hh : SndP X hi u) : Snd X (.Subscript e (.Slice lo hi none p2) pos) (xSlT me l u) := fun _ _ _ h => we_slT ((ha _ _ _ h).imp fun _ _ h1 => (hl _ _ _ h1).imp fun _ _ h2 => (hh _ _ _ h2).imp fun _ _ h3 => tup1_e h3)
theorem s_slL {lo hi : Option Expr} {l u : MO} (ha : Snd X e me) (hl : SndP X lo l) (hh : SndP X hi u) : Snd X (.Subscript e (.Slice lo hi none p2) pos) (xSlL me l u) := fun _ _ _ h => we_slL ((ha _ _ _ h).imp fun _ _ h1 => (hl _ _ _ h1).imp fun _ _ h2 => (hh _ _ _ h2).imp fun _ _ h3 => lr1_e h3)
theorem s_dnil : SndD X [] [] dNil := fun _ _ _ h => wd_nil h
theorem s_dcons {ks : List (Option Expr)} {vs : List Expr} {r : MD} (ha : Snd X a ma) (hb : Snd X b mb) (hr : SndD X ks vs r) : SndD X (some a :: ks) (b :: vs) (dCons ma mb r) := fun _ _ _ h => wd_cons ((ha _ _ _ h).imp fun _ _ h1 => by
  obtain ⟨d, e1, h1⟩ := dat1_e h1
  obtain ⟨kk, e2, h1⟩ := opt1_e h1
  refine ⟨d, kk, e1, e2, (hb _ _ _ h1).imp fun _ _ h2 => ?_⟩
  obtain ⟨e, e3, h2⟩ := dat1_e h2
  exact ⟨e, e3, hr _ _ _ h2⟩)
theorem s_disp {ks : List (Option Expr)} {vs : List Expr} {r : MD} (hr : SndD X ks vs r) (hall : ks.all (·.isSome) = true := by rfl) (hl : ks.length = vs.length := by rfl) (h0 : ks ≠ [] := by exact fun q => nomatch q) (h15 : ks.length ≤ 15 := by exact Nat.le_of_ble_eq_true rfl) : Snd X (.Dict ks vs pos) (xDisp r) := fun _ _ _ h => we_disp hall hl h0 h15 h.1 (hr _ _ _ h.2)
theorem s_inK {x : Str} {r : List (Str × Option D)} (hx : Gl X x) (D : KdAt X x) (hr : ∀ p ∈ r, kdSays X x p.1 p.2) (ha : Snd X a ma) (hd : (x == ("__debug__" : Str)) = false := by decide) : Snd X (.Compare a [.In] [.Name x p] pos) (xInK r ma) := fun _ _ _ h => we_inK D rfl ((ha _ _ _ h).imp fun u _ h1 => by
  split at h1
  · rename_i z
    obtain ⟨e, e1, h1⟩ := opt1_e h1
    obtain ⟨dd, es, n, hm, _⟩ := id D
    exact we_gfn hx hm ⟨_, _, rfl, rfl, hr (z, e) (PySem.mem_of_lookup e1), h1⟩ hd
  · exact h1.elim)
theorem s_itK {x : Str} {r : List (Str × Option D)} (hx : Gl X x) (D : KdAt X x) (hr : ∀ p ∈ r, kdSays X x p.1 p.2) (hb : Snd X b mb) (hs : PlainIx b := by exact fun _ _ => rfl) (hd : (x == ("__debug__" : Str)) = false := by decide) : Snd X (.Subscript (.Name x p) b pos) (xItK r mb) := fun _ _ _ h => by
  obtain ⟨dd, es, n, hm, _⟩ := id D
  refine we_itemK D (we_gfn hx hm ((hb _ _ _ h).imp fun u _ h1 => ?_) hd) hs
  split at h1
  · rename_i z
    obtain ⟨e, e1, h1⟩ := opt1_e h1
    obtain ⟨d, e2, h1⟩ := opt1_e h1
    subst e2
    exact ⟨z, d, rfl, rfl, hr (z, some d) (PySem.mem_of_lookup e1), h1⟩
  · exact h1.elim
end
end PL

namespace PL
open PySem PySem.Spec PyProof.Rows L2
variable [Hand]
section
variable {X : Cx} {a b o e t : Expr} {es : List Expr} {pos apos cpos p p2 : Pos} {ma mb me : ME} {mt mu : MT} {as : MA} {ml : ML}
/-! ### tests -/
theorem st_val (ha : Snd X e me) (he : ∀ whole, isTrue e X.env whole = (do let v ← whole; standAt e.pos; holding [v] (truthy v)) := by intro _; rfl) : SndT X e (tVal me) := fun _ _ _ h => wt_val ((ha _ _ _ h).imp fun _ _ h1 => bl1_e h1) he
theorem st_of (h : SndW X e mt) : SndT X e mt := fun _ _ _ q => wt_of (h _ _ _ q)
theorem st_not (ht : SndT X t mt) : SndT X (.UnaryOp .Not t pos) (tNot mt) := fun _ _ _ h => wt_not (ht _ _ _ h)
theorem sw_and1 (h : SndT X a mt) : SndW X (.BoolOp .And [a] pos) mt := fun _ _ _ q => ww_and1 (h _ _ _ q)
theorem sw_or1 (h : SndT X a mt) : SndW X (.BoolOp .Or [a] pos) mt := fun _ _ _ q => ww_or1 (h _ _ _ q)
theorem sw_and (h : SndT X a mt) (k : SndW X (.BoolOp .And (b :: es) pos) mu) : SndW X (.BoolOp .And (a :: b :: es) pos) (tAnd mt mu) := fun _ _ _ q => ww_and ((h _ _ _ q).imp fun v _ q1 => by
  cases v with
  | true => exact k _ _ _ q1
  | false => exact q1)
theorem sw_or (h : SndT X a mt) (k : SndW X (.BoolOp .Or (b :: es) pos) mu) : SndW X (.BoolOp .Or (a :: b :: es) pos) (tOr mt mu) := fun _ _ _ q => ww_or ((h _ _ _ q).imp fun v _ q1 => by
  cases v with
  | true => exact q1
  | false => exact k _ _ _ q1)
theorem st_lt (ha : Snd X a ma) (hb : Snd X b mb) : SndT X (.Compare a [.Lt] [b] pos) (tCmp cLt ma mb) := fun _ _ _ h => wt_cmpI op_lt (nomark _) ((ha _ _ _ h).imp fun _ _ h1 => (hb _ _ _ h1).imp fun _ _ h2 => int2_e h2)
theorem st_le (ha : Snd X a ma) (hb : Snd X b mb) : SndT X (.Compare a [.LtE] [b] pos) (tCmp cLe ma mb) := fun _ _ _ h => wt_cmpI op_le (nomark _) ((ha _ _ _ h).imp fun _ _ h1 => (hb _ _ _ h1).imp fun _ _ h2 => int2_e h2)
theorem st_gt (ha : Snd X a ma) (hb : Snd X b mb) : SndT X (.Compare a [.Gt] [b] pos) (tCmp cGt ma mb) := fun _ _ _ h => wt_cmpI op_gt (nomark _) ((ha _ _ _ h).imp fun _ _ h1 => (hb _ _ _ h1).imp fun _ _ h2 => int2_e h2)
theorem st_ge (ha : Snd X a ma) (hb : Snd X b mb) : SndT X (.Compare a [.GtE] [b] pos) (tCmp cGe ma mb) := fun _ _ _ h => wt_cmpI op_ge (nomark _) ((ha _ _ _ h).imp fun _ _ h1 => (hb _ _ _ h1).imp fun _ _ h2 => int2_e h2)
theorem st_eqS (ha : Snd X a ma) (hb : Snd X b mb) : SndT X (.Compare a [.Eq] [b] pos) (tCmp cEqS ma mb) := fun _ _ _ h => wt_eqS ((ha _ _ _ h).imp fun _ _ h1 => (hb _ _ _ h1).imp fun _ _ h2 => eqS_e h2)
theorem st_neS (ha : Snd X a ma) (hb : Snd X b mb) : SndT X (.Compare a [.NotEq] [b] pos) (tCmp cNeS ma mb) := fun _ _ _ h => wt_neS ((ha _ _ _ h).imp fun _ _ h1 => (hb _ _ _ h1).imp fun _ _ h2 => eqS_e (K := fun b => _) h2)
theorem st_eqD {j : Nat} (hr : Room j X.A) (ha : Snd X a ma) (hb : Snd X b mb) : SndT X (.Compare a [.Eq] [b] pos) (tCmp cEqD ma mb) := fun _ _ _ h => wt_eqD hr ((ha _ _ _ h).imp fun _ _ h1 => (hb _ _ _ h1).imp fun _ _ h2 => eqD_e h2)
theorem st_neD {j : Nat} (hr : Room j X.A) (ha : Snd X a ma) (hb : Snd X b mb) : SndT X (.Compare a [.NotEq] [b] pos) (tCmp cNeD ma mb) := fun _ _ _ h => wt_neD hr ((ha _ _ _ h).imp fun _ _ h1 => (hb _ _ _ h1).imp fun _ _ h2 => eqD_e (K := fun b => _) h2)
theorem st_isB (ha : Snd X a ma) (hb : Snd X b mb) (hm : behindInMarks .Is b = false := by rfl) : SndT X (.Compare a [.Is] [b] pos) (tCmp cIsB ma mb) := fun _ _ _ h => wt_isB ((ha _ _ _ h).imp fun _ _ h1 => (hb _ _ _ h1).imp fun _ _ h2 => bl2_e h2) hm
theorem st_notB (ha : Snd X a ma) (hb : Snd X b mb) (hm : behindInMarks .IsNot b = false := by rfl) : SndT X (.Compare a [.IsNot] [b] pos) (tCmp cNotB ma mb) := fun _ _ _ h => wt_notB ((ha _ _ _ h).imp fun _ _ h1 => (hb _ _ _ h1).imp fun _ _ h2 => bl2_e h2) hm
theorem st_isN {pos' : Pos} {j} (ha : Snd X a ma) : SndT X (.Compare a [.Is] [.Constant .none j pos'] pos) (tIsN ma) := fun _ _ _ h => wt_isN ((ha _ _ _ h).imp fun _ _ h1 => dat1_e h1)
theorem st_notN {pos' : Pos} {j} (ha : Snd X a ma) : SndT X (.Compare a [.IsNot] [.Constant .none j pos'] pos) (tNotN ma) := fun _ _ _ h => wt_notN ((ha _ _ _ h).imp fun _ _ h1 => dat1_e h1)
theorem cIn_e {x y : W} {ρ : Store} {K : Bool → Prop} (h : cIn x y ρ K) : ∃ d u ds us, x = .val d ∧ d.sc = some u ∧ seqW ρ y = some ds ∧ scs ds = some us ∧ K (inV u us) := by
  obtain ⟨d, e1, h⟩ := dat1_e h
  obtain ⟨u, e2, h⟩ := opt1_e h
  obtain ⟨ds, e3, h⟩ := opt1_e h
  obtain ⟨us, e4, h⟩ := opt1_e h
  exact ⟨d, u, ds, us, e1, e2, e3, e4, h⟩
theorem st_notIn (ha : Snd X a ma) (hb : Snd X b mb) (hm : behindInMarks .NotIn b = false := by rfl) : SndT X (.Compare a [.NotIn] [b] pos) (tCmp cNotIn ma mb) := fun _ _ _ h => wt_notIn hm ((ha _ _ _ h).imp fun _ _ h1 => (hb _ _ _ h1).imp fun _ _ h2 => cIn_e (K := fun b => _) h2)
theorem wt_inQ {ρ : Store} {Y : Yp} {P : Pb} (hm : behindInMarks .In b = false) (h : WE X a ρ Y fun x ρ1 => WE X b ρ1 Y fun y ρ2 => ∃ d u ds us, x = .val d ∧ d.sc = some u ∧ seqW ρ2 y = some ds ∧ scs ds = some us ∧ P (inV u us) ρ2) : WT X (.Compare a [.In] [b] pos) ρ Y P := fun c F H σ R L => by
  refine bstT (pt_cmpR op_in_seq pe_best pe_best hm) ?_
  refine (h.run R L).imp fun v H1 ⟨F1, ρ1, w, _, R1, r1, hb⟩ => (hb.run R1 L).imp fun u H2 ⟨F2, ρ2, w2, _, R2, r2, d, z, ds, us, e1, s1, e2, s2, hP⟩ => ?_
  subst e1
  have k1 := RD.sc r1 s1
  subst k1
  obtain ⟨p, xs, rfl, hq, hr⟩ := seqW_sq R2 r2 e2
  have k2 := hr.scs s2
  subst k2
  exact ⟨p, xs, rfl, hq, sc_flat s1, scs_flat s2, _, rfl, F2, ρ2, R2, hP⟩
theorem st_in (ha : Snd X a ma) (hb : Snd X b mb) (hm : behindInMarks .In b = false := by rfl) : SndT X (.Compare a [.In] [b] pos) (tCmp cIn ma mb) := fun _ _ _ h => wt_inQ hm ((ha _ _ _ h).imp fun _ _ h1 => (hb _ _ _ h1).imp fun _ _ h2 => cIn_e h2)
theorem we_inQ {ρ : Store} {Y : Yp} {P : Po} (hm : behindInMarks .In b = false) (h : WE X a ρ Y fun x ρ1 => WE X b ρ1 Y fun y ρ2 => ∃ d u ds us, x = .val d ∧ d.sc = some u ∧ seqW ρ2 y = some ds ∧ scs ds = some us ∧ P (.val (.bl (inV u us))) ρ2) : WE X (.Compare a [.In] [b] pos) ρ Y P := fun c F H σ R L => by
  refine bst (pe_cmpR op_in_seq pe_best pe_best hm) ?_
  refine (h.run R L).imp fun v H1 ⟨F1, ρ1, w, _, R1, r1, hb⟩ => (hb.run R1 L).imp fun u H2 ⟨F2, ρ2, w2, _, R2, r2, d, z, ds, us, e1, s1, e2, s2, hP⟩ => ?_
  subst e1
  have k1 := RD.sc r1 s1
  subst k1
  obtain ⟨p, xs, rfl, hq, hr⟩ := seqW_sq R2 r2 e2
  have k2 := hr.scs s2
  subst k2
  exact ⟨p, xs, rfl, hq, sc_flat s1, scs_flat s2, vp R2 (.bl _) hP⟩
def fIn (x y : W) (ρ : Store) (K : D → Prop) : Prop := cIn x y ρ fun b => K (.bl b)
theorem s_in (ha : Snd X a ma) (hb : Snd X b mb) (hm : behindInMarks .In b = false := by rfl) : Snd X (.Compare a [.In] [b] pos) (xBin fIn ma mb) := fun _ _ _ h => we_inQ hm ((ha _ _ _ h).imp fun _ _ h1 => (hb _ _ _ h1).imp fun _ _ h2 => cIn_e (K := fun b => _) h2)
/-! ### what is walked -/
variable {tg : Expr} {elts : List Expr} {kk : Nat} {tpos : Pos}
theorem si_tup (hc : X.calm = true) (ha : Snd X e me) (hpi : ∀ te, PE X e te → PI X tg e (L2.iTup X.K te)) : SndI X tg e (PL.iTup me) := fun _ _ _ h => wi_tup hc ((ha _ _ _ h).imp fun _ _ h1 => tup1_e h1) hpi
theorem si_lst (hc : X.calm = true) (ha : Snd X e me) (hpi : ∀ te, PE X e te → PI X tg e (iList X.K te)) : SndI X tg e (iLst me) := fun _ _ _ h => wi_lst hc ((ha _ _ _ h).imp fun _ _ h1 => lr1_e h1) hpi
theorem si_rng (hg : Gl X "range") (hm : X.mg "range" = none) (ha : Snd X a ma) (hs : starEach [a] X.env = [(false, eval a X.env)] := by rfl) : SndI X tg (.Call (.Name "range" p) [a] [] pos) (iRng ma) := fun _ _ _ h => wi_range1 hg hm ((ha _ _ _ h).imp fun _ _ h1 => int1_e h1) hs
theorem si_zipT (hg : Gl X "zip") (hm : X.mg "zip" = none) (ha : SndA X [a, b] as) (hs : starEach [a, b] X.env = (false, eval a X.env) :: starEach [b] X.env := by rfl) (hpl : (backTo pos (starEach [b] X.env)).any (·.1) = false := by rfl) : SndI X (.Tuple elts kk tpos) (.Call (.Name "zip" p) [a, b] [] pos) (iZipT as) := fun _ _ _ h => wi_zipT hg hm ((ha _ _ _ h).imp fun _ _ h1 => by
  split at h1
  · obtain ⟨ds, e1, h2⟩ := tup1_e h1
    obtain ⟨es, e2, h3⟩ := tup1_e h2
    subst e1 e2
    exact ⟨ds, es, rfl, h3⟩
  · exact h1.elim) hs hpl
theorem si_zipL (hg : Gl X "zip") (hm : X.mg "zip" = none) (ha : SndA X [a, b] as) (hs : starEach [a, b] X.env = (false, eval a X.env) :: starEach [b] X.env := by rfl) (hpl : (backTo pos (starEach [b] X.env)).any (·.1) = false := by rfl) : SndI X (.Tuple elts kk tpos) (.Call (.Name "zip" p) [a, b] [] pos) (iZipL as) := fun _ _ _ h => wi_zipL hg hm ((ha _ _ _ h).imp fun _ _ h1 => by
  split at h1
  · obtain ⟨ds, e1, h2⟩ := lst1_e h1
    obtain ⟨es, e2, h3⟩ := lst1_e h2
    subst e1 e2
    exact ⟨ds, es, rfl, h3⟩
  · exact h1.elim) hs hpl
theorem si_zip3 {d : Expr} (hg : Gl X "zip") (hm : X.mg "zip" = none) (ha : SndA X [a, b, d] as) (hs : starEach [a, b, d] X.env = (false, eval a X.env) :: starEach [b, d] X.env := by rfl) (hpl : (backTo pos (starEach [b, d] X.env)).any (·.1) = false := by rfl) : SndI X (.Tuple elts kk tpos) (.Call (.Name "zip" p) [a, b, d] [] pos) (iZip3 as) := fun _ _ _ h => wi_zip3T hg hm ((ha _ _ _ h).imp fun _ _ h1 => by
  split at h1
  · obtain ⟨ds, e1, h2⟩ := tup1_e h1
    obtain ⟨es, e2, h3⟩ := tup1_e h2
    obtain ⟨fs, e3, h4⟩ := tup1_e h3
    subst e1 e2 e3
    exact ⟨ds, es, fs, rfl, h4⟩
  · exact h1.elim) hs hpl
theorem si_enum (hg : Gl X "enumerate") (hm : X.mg "enumerate" = none) (ha : Snd X e me) (hs : starEach [e] X.env = [(false, eval e X.env)] := by rfl) : SndI X (.Tuple elts kk tpos) (.Call (.Name "enumerate" p) [e] [] pos) (PL.iEnum me) := fun _ _ _ h => wi_enumT hg hm ((ha _ _ _ h).imp fun _ _ h1 => tup1_e h1) hs
theorem si_zipN (i : Nat) {x : Str} (hN : X.N[i]? = some x) (hv : Vis X.env.scope x) (hd : (x == ("__debug__" : Str)) = false := by decide) (hcd : (x == ("__classdict__" : Str)) = false := by decide) : SndI X (.Tuple elts kk tpos) (.Name x pos) (iZipN i) := fun ρ _ _ h => by
  unfold iZipN at h
  split at h
  · rename_i hρ
    exact wi_zipN i hN hv hρ h.1 h.2 hd hcd
  · exact h.elim
/-! ### comprehensions, lists made -/
theorem freeOwn_ok {ρ : Store} {vs : List Nat} (h : freeOwn ρ vs) : freeOwn ρ vs := h
variable {scope : Scope} {own : List (Str × Nat)} {js : List Nat} {g : TG} {un : D → Option (List D)} {iter elt : Expr}
theorem lcN {ρ1 : Store} {vs : List Nat} {items : List D} {K : List D → Prop} (he : ∀ (s : Shared) (H : Hp) (C : Addr) (cl : List (Str × Addr)) (fp : List Addr), Snd (Blk X s H scope C cl fp) elt me)
    (h : LcW un (fun _ K => K true) (fun ds K => me (setW (wipeW ρ1 vs) js ds) (fun _ _ => False) fun w ρ2 => ρ2 = setW (wipeW ρ1 vs) js ds ∧ dat1 w K) items [] K) :
    LcW un (condN (fun ds => setW (wipeW ρ1 vs) js ds)) (eltE X scope (fun ds => setW (wipeW ρ1 vs) js ds) elt) items [] K :=
  LcW.imp (fun ds K K' h k => k true h) (fun ds K K' h k s H C cl fp => ((he s H C cl fp) _ _ _ h).imp fun w ρ2 ⟨e1, h2⟩ => by
    obtain ⟨d, e2, h3⟩ := dat1_e h2
    exact ⟨e1, d, e2, k d h3⟩) h
theorem lcC {ρ1 : Store} {vs : List Nat} {items : List D} {K : List D → Prop} (ht : ∀ (s : Shared) (H : Hp) (C : Addr) (cl : List (Str × Addr)) (fp : List Addr), SndT (Blk X s H scope C cl fp) t mt) (he : ∀ (s : Shared) (H : Hp) (C : Addr) (cl : List (Str × Addr)) (fp : List Addr), Snd (Blk X s H scope C cl fp) elt me)
    (h : LcW un (fun ds K => mt (setW (wipeW ρ1 vs) js ds) (fun _ _ => False) fun b ρ2 => ρ2 = setW (wipeW ρ1 vs) js ds ∧ K b) (fun ds K => me (setW (wipeW ρ1 vs) js ds) (fun _ _ => False) fun w ρ2 => ρ2 = setW (wipeW ρ1 vs) js ds ∧ dat1 w K) items [] K) :
    LcW un (condC X scope (fun ds => setW (wipeW ρ1 vs) js ds) t) (eltE X scope (fun ds => setW (wipeW ρ1 vs) js ds) elt) items [] K :=
  LcW.imp (fun ds K K' h k s H C cl fp => ((ht s H C cl fp) _ _ _ h).imp fun b ρ2 ⟨e1, h2⟩ => ⟨e1, k b h2⟩) (fun ds K K' h k s H C cl fp => ((he s H C cl fp) _ _ _ h).imp fun w ρ2 ⟨e1, h2⟩ => by
    obtain ⟨d, e2, h3⟩ := dat1_e h2
    exact ⟨e1, d, e2, k d h3⟩) h
theorem s_lc (hc : X.calm = true) (hN : X.N.Nodup) (ok : BlkOk X.N X.env.scope scope own) (hpg : ∀ (s : Shared) (H : Hp) (C : Addr) (cl : List (Str × Addr)) (fp : List Addr), PG (X.blk s H scope (compEnvC scope cl C X.env) fp) tg g) (hg : Tgt X.K X.mg g js un) (hj : ∀ j ∈ js, j ∈ own.map (·.2)) (hl : ∀ j ∈ js, j < X.N.length)
    (hi : SndI X tg iter ml) (he : ∀ (s : Shared) (H : Hp) (C : Addr) (cl : List (Str × Addr)) (fp : List Addr), Snd (Blk X s H scope C cl fp) elt me) (hs : ∀ x, foldedSetIterable iter X.env x = pure x := by intro _; rfl) :
    Snd X (.ListComp elt [⟨tg, iter, [], 0⟩] scope pos) (xOf (mLc un js (own.map (·.2)) ml me)) := fun ρ Y P h =>
  we_lc hc hN ok hpg hg hj hl ((hi _ _ _ h).imp fun items ρ1 ⟨h1, h2, h3⟩ => ⟨h1, h2, lcN he h3⟩) hs
theorem s_lcIf (hc : X.calm = true) (hN : X.N.Nodup) (ok : BlkOk X.N X.env.scope scope own) (hpg : ∀ (s : Shared) (H : Hp) (C : Addr) (cl : List (Str × Addr)) (fp : List Addr), PG (X.blk s H scope (compEnvC scope cl C X.env) fp) tg g) (hg : Tgt X.K X.mg g js un) (hj : ∀ j ∈ js, j ∈ own.map (·.2)) (hl : ∀ j ∈ js, j < X.N.length)
    (hi : SndI X tg iter ml) (ht : ∀ (s : Shared) (H : Hp) (C : Addr) (cl : List (Str × Addr)) (fp : List Addr), SndT (Blk X s H scope C cl fp) t mt) (he : ∀ (s : Shared) (H : Hp) (C : Addr) (cl : List (Str × Addr)) (fp : List Addr), Snd (Blk X s H scope C cl fp) elt me) (hs : ∀ x, foldedSetIterable iter X.env x = pure x := by intro _; rfl) :
    Snd X (.ListComp elt [⟨tg, iter, [t], 0⟩] scope pos) (xOf (mLcIf un js (own.map (·.2)) ml mt me)) := fun ρ Y P h =>
  we_lcIf hc hN ok hpg hg hj hl ((hi _ _ _ h).imp fun items ρ1 ⟨h1, h2, h3⟩ => ⟨h1, h2, lcC ht he h3⟩) hs
theorem so_list (ha : SndA X es as) : SndO X (.List es pos) (lDisp as) := fun _ _ _ h => wo_list ((ha _ _ _ h).imp fun _ _ h1 => opt1_e h1)
theorem so_listOf (hg : Gl X "list") (hm : X.mg "list" = none) (ha : Snd X e me) (he : starEach [e] X.env = (false, eval e X.env) :: starEach [] X.env := by rfl) : SndO X (.Call (.Name "list" p) [e] [] pos) (fun ρ Y P => me ρ Y fun w ρ1 => opt1 (seqW ρ1 w) fun ds => P ds ρ1) := fun _ _ _ h => wo_listOf hg hm ((ha _ _ _ h).imp fun _ _ h1 => opt1_e h1) he
theorem dl_last {ds : List D} {d : D} (h : ds.getLast? = some d) : ds = ds.dropLast ++ [d] := by
  rcases List.eq_nil_or_concat ds with rfl | ⟨es, x, rfl⟩
  · cases h
  · rw [List.concat_eq_append] at h ⊢
    rw [List.getLast?_concat] at h
    cases h
    rw [List.dropLast_concat]
theorem s_pop (i : Nat) {x : Str} (hN : X.N[i]? = some x) (hv : Vis X.env.scope x) (hd : (x == ("__debug__" : Str)) = false := by decide) (hcd : (x == ("__classdict__" : Str)) = false := by decide) (hp : PE X (.Call (.Attribute (.Name x p) "pop" apos) [] [] cpos) (tBM0 X.K "list" rPop (bE X (.Name x p))) := by exact pe_bm0 PySem.F.plainAttrs_list PySem.F.slot_list_pop PySem.F.type_list_pop mt_pop pe_best) : Snd X (.Call (.Attribute (.Name x p) "pop" apos) [] [] cpos) (xPop i) := fun ρ Y P h => by
  unfold xPop at h
  split at h
  · rename_i ds hρ
    obtain ⟨d, e1, h⟩ := opt1_e h
    refine we_pop (we_slot i hN hv hρ rfl ⟨i, ds.dropLast, d, rfl, ?_, h⟩ hd hcd) hp
    rw [← dl_last e1]
    exact hρ
  · exact h.elim
end
section
variable {X : Cx} {a b o e t : Expr} {es : List Expr} {pos apos cpos spos p p2 : Pos} {ma mb me : ME} {mt mu : MT} {as : MA} {ml : ML} {s : Stmt} {st : List Stmt} {ms mr : MS}
/-! ### statements -/
theorem sb_nil : SndB X [] sNil := fun _ _ _ h => wb_nil h
theorem sb_one (hs : SndS X s ms) : SndB X [s] ms := fun _ _ _ h => wb_one (hs _ _ _ h)
theorem WB.to {X : Cx} {st : List Stmt} {ρ : Store} {Y : Yp} {T T' : Pst} (h : WB X st ρ Y T) (h1 : ∀ ρ, T.nx ρ → T'.nx ρ) (h2 : ∀ d, T.rt d → T'.rt d) (h3 : ∀ ρ, T.bk ρ → T'.bk ρ) (h4 : ∀ ρ, T.ct ρ → T'.ct ρ) : WB X st ρ Y T' := fun c F H σ nb R L =>
  bB.impI (h c F H σ nb R L) (fun σ H _ ⟨F', ρ', R', q⟩ => ⟨F', ρ', R', h1 _ q⟩) (fun v H ⟨F', d, A, r, q⟩ => ⟨F', d, A, r, h2 _ q⟩) (fun σ H ⟨F', ρ', R', q⟩ => ⟨F', ρ', R', h3 _ q⟩) (fun σ H _ ⟨F', ρ', R', q⟩ => ⟨F', ρ', R', h4 _ q⟩)
theorem WS.to {X : Cx} {st : Stmt} {ρ : Store} {Y : Yp} {T T' : Pst} (h : WS X st ρ Y T) (h1 : ∀ ρ, T.nx ρ → T'.nx ρ) (h2 : ∀ d, T.rt d → T'.rt d) (h3 : ∀ ρ, T.bk ρ → T'.bk ρ) (h4 : ∀ ρ, T.ct ρ → T'.ct ρ) : WS X st ρ Y T' := fun c F H σ nb R L =>
  bS.imp (h c F H σ nb R L) (fun σ H ⟨F', ρ', R', q⟩ => ⟨F', ρ', R', h1 _ q⟩) (fun v H ⟨F', d, A, r, q⟩ => ⟨F', d, A, r, h2 _ q⟩) (fun σ H ⟨F', ρ', R', q⟩ => ⟨F', ρ', R', h3 _ q⟩) (fun σ H ⟨F', ρ', R', q⟩ => ⟨F', ρ', R', h4 _ q⟩)
theorem sb_cons (hs : SndS X s ms) (hr : SndB X st mr) : SndB X (s :: st) (sCons ms mr) := fun _ _ _ h => wb_cons ((hs _ _ _ h).to (fun _ q => hr _ _ _ q) (fun _ q => q) (fun _ q => q) fun _ q => q)
theorem ss_ret (ha : Snd X e me) : SndS X (.Return (some e) pos) (sRet me) := fun _ _ _ h => ws_ret ((ha _ _ _ h).imp fun _ _ h1 => opt1_e h1)
theorem ss_if (ht : SndT X t mt) (ha : SndB X st ms) {st2 : List Stmt} (hb : SndB X st2 mr) : SndS X (.If t st st2 pos) (sIf mt ms mr) := fun _ _ _ h => ws_if ((ht _ _ _ h).imp fun k _ h1 => by
  cases k with
  | true => exact ha _ _ _ h1
  | false => exact hb _ _ _ h1)
theorem ss_asg (i : Nat) {x : Str} (hN : X.N.Nodup) (hi : X.N[i]? = some x) (hx : Loc X.env.scope x) (ha : Snd X e me) (hs : swapsWith e (some (.Name x p)) pos.line X.env = pure false := by rfl) (hf : X.fn x = true ∨ X.env.scope.names.lookup x = some .local := by first | exact .inl rfl | exact .inr rfl | assumption) :
    SndS X (.Assign [.Name x p] e pos) (sAsg i me) := fun _ _ _ h => ws_asg i hN hi hx ((ha _ _ _ h).imp fun _ _ h1 => dat1_e h1) hs hf
theorem ss_own (i : Nat) {x : Str} (hN : X.N.Nodup) (hi : X.N[i]? = some x) (hx : Loc X.env.scope x) (ha : SndO X e ml) (hs : swapsWith e (some (.Name x p)) pos.line X.env = pure false := by rfl) (hf : X.fn x = true ∨ X.env.scope.names.lookup x = some .local := by first | exact .inl rfl | exact .inr rfl | assumption) : SndS X (.Assign [.Name x p] e pos) (sOwn i ml) := fun _ _ _ h => ws_asgO i hN hi hx (ha _ _ _ h) hs hf
theorem ss_aug (i : Nat) {x : Str} (hN : X.N.Nodup) (hi : X.N[i]? = some x) (hx : Loc X.env.scope x) (ha : Snd X e me) (hf : X.fn x = true ∨ X.env.scope.names.lookup x = some .local := by first | exact .inl rfl | exact .inr rfl | assumption) : SndS X (.AugAssign (.Name x p) .Add e pos) (sAug i me) := fun ρ Y T h => by
  unfold sAug at h
  split at h
  · rename_i a hρ
    exact ws_aug i hN hi hx hρ ((ha _ _ _ h).imp fun _ _ h1 => int1_e h1) hf
  · exact h.elim
theorem ss_expr (ha : Snd X e me) (hs : swapsWith e none pos.line X.env = pure false := by rfl) : SndS X (.Expr e pos) (sExpr me) := fun _ _ _ h => ws_expr (ha _ _ _ h) hs
theorem ss_raise {x : Str} {pos' : Pos} (hc : X.calm = true) (E : Exc1 X.K X.mg x) (hg : Gl X x) (hdb : (x == ("__debug__" : Str)) = false := by decide) : SndS X (.Raise (some (.Call (.Name x p) [] [] pos)) none pos') (sRaise x) := fun _ _ _ h => ws_raise hc E hg h hdb
theorem ss_while (ht : SndT X t mt) (hb : SndB X st ms) : SndS X (.While t st [] pos) (sWhile mt ms) := fun ρ Y T ⟨I, m0, h0, h⟩ => ws_while I m0 h0 fun m ρ1 hI => (ht _ _ _ (h m ρ1 hI)).imp fun k _ h1 => by
  cases k with
  | true => exact hb _ _ _ h1
  | false => exact h1
theorem ss_for {tg iter : Expr} {js : List Nat} {g : TG} {un : D → Option (List D)} (hc : X.calm = true) (hpg : PG X tg g) (hg : Tgt X.K X.mg g js un) (hl : ∀ j ∈ js, j < X.N.length) (hi : SndI X tg iter ml) (hb : SndB X st ms) (hs : ∀ x, foldedSetIterable iter X.env x = pure x := by intro _; rfl) :
    SndS X (.For tg iter st [] pos) (sFor un js ml ms) := fun ρ Y T h => ws_for hc hpg hg hl ((hi _ _ _ h).imp fun items ρ1 ⟨J, h0, h1, h2⟩ => ⟨J, h0, fun i d ρ2 e1 hJ => by
  obtain ⟨ds, e2, h3⟩ := opt1_e (h1 i d ρ2 e1 hJ)
  exact ⟨ds, e2, hb _ _ _ h3⟩, h2⟩) hs
theorem ss_par (i j : Nat) {x y : Str} {px py pt : Pos} {kt k2 pt2} (hc : X.calm = true) (hN : X.N.Nodup) (hi : X.N[i]? = some x) (hj : X.N[j]? = some y) (hij : i ≠ j) (hx : X.env.scope.names.lookup x = some .local) (hy : X.env.scope.names.lookup y = some .local) (ha : Snd X a ma) (hb : Snd X b mb)
    (hw : swappedStores [.Tuple [.Name x px, .Name y py] kt pt] (.Tuple [a, b] k2 pt2) X.env = pure (some [x, y]) := by rfl) (hs : swapsWithSole [.Tuple [.Name x px, .Name y py] kt pt] (.Tuple [a, b] k2 pt2) pos.line X.env = pure false := by rfl) (h1 : starEach (a :: [b]) X.env = (false, eval a X.env) :: starEach [b] X.env := by rfl) (h2 : starEach (b :: []) X.env = (false, eval b X.env) :: starEach [] X.env := by rfl) : SndS X (.Assign [.Tuple [.Name x px, .Name y py] kt pt] (.Tuple [a, b] k2 pt2) pos) (sPar i j ma mb) := fun _ _ _ h =>
  ws_par i j hc hN hi hj hij hx hy ((ha _ _ _ h).imp fun _ _ h1 => by
    obtain ⟨d, e1, h1⟩ := dat1_e h1
    exact ⟨d, e1, (hb _ _ _ h1).imp fun _ _ h2 => dat1_e h2⟩) hw hs h1 h2
theorem ss_parO (i j : Nat) {x y : Str} {px py pt : Pos} {kt k2 pt2} (hc : X.calm = true) (hN : X.N.Nodup) (hi : X.N[i]? = some x) (hj : X.N[j]? = some y) (hij : i ≠ j) (hx : X.env.scope.names.lookup x = some .local) (hy : X.env.scope.names.lookup y = some .local) (ha : Snd X a ma) (hb : SndO X b ml)
    (hw : swappedStores [.Tuple [.Name x px, .Name y py] kt pt] (.Tuple [a, b] k2 pt2) X.env = pure (some [x, y]) := by rfl) (hs : swapsWithSole [.Tuple [.Name x px, .Name y py] kt pt] (.Tuple [a, b] k2 pt2) pos.line X.env = pure false := by rfl) (h1 : starEach (a :: [b]) X.env = (false, eval a X.env) :: starEach [b] X.env := by rfl) (h2 : starEach (b :: []) X.env = (false, eval b X.env) :: starEach [] X.env := by rfl) : SndS X (.Assign [.Tuple [.Name x px, .Name y py] kt pt] (.Tuple [a, b] k2 pt2) pos) (sParO i j ma ml) := fun ρ _ _ h =>
  ws_parO i j hc hN hi hj hij hx hy ((ha _ _ _ h.2).imp fun _ _ h1 => by
    obtain ⟨d, e1, h1⟩ := dat1_e h1
    exact ⟨d, e1, hb _ _ _ h1⟩) (fun ds q => by
    have := h.1
    rw [q] at this
    exact this) hw hs h1 h2
theorem ss_twoT (i j : Nat) {x y : Str} {px py pt : Pos} {kt} (hc : X.calm = true) (hN : X.N.Nodup) (hi : X.N[i]? = some x) (hj : X.N[j]? = some y) (hx : Loc X.env.scope x) (hy : Loc X.env.scope y) (ha : Snd X e me)
    (hs : swapsWithSole [.Tuple [.Name x px, .Name y py] kt pt] e pos.line X.env = pure false := by rfl) (hw : swappedStores [.Tuple [.Name x px, .Name y py] kt pt] e X.env = pure none := by rfl)
    (hf1 : X.fn x = true ∨ X.env.scope.names.lookup x = some .local := by first | exact .inl rfl | exact .inr rfl | assumption) (hf2 : X.fn y = true ∨ X.env.scope.names.lookup y = some .local := by first | exact .inl rfl | exact .inr rfl | assumption) :
    SndS X (.Assign [.Tuple [.Name x px, .Name y py] kt pt] e pos) (sTwoT i j me) := fun _ _ _ h => ws_asgT i j hc hN hi hj hx hy ((ha _ _ _ h).imp fun _ _ h1 => by
  split at h1
  · exact ⟨_, _, rfl, h1⟩
  · exact h1.elim) hs hw hf1 hf2
theorem ss_twoL (i j : Nat) {x y : Str} {px py pt : Pos} {kt} (hc : X.calm = true) (hN : X.N.Nodup) (hi : X.N[i]? = some x) (hj : X.N[j]? = some y) (hx : Loc X.env.scope x) (hy : Loc X.env.scope y) (ha : Snd X e me)
    (hs : swapsWithSole [.Tuple [.Name x px, .Name y py] kt pt] e pos.line X.env = pure false := by rfl) (hw : swappedStores [.Tuple [.Name x px, .Name y py] kt pt] e X.env = pure none := by rfl)
    (hf1 : X.fn x = true ∨ X.env.scope.names.lookup x = some .local := by first | exact .inl rfl | exact .inr rfl | assumption) (hf2 : X.fn y = true ∨ X.env.scope.names.lookup y = some .local := by first | exact .inl rfl | exact .inr rfl | assumption) :
    SndS X (.Assign [.Tuple [.Name x px, .Name y py] kt pt] e pos) (sTwoL i j me) := fun _ _ _ h => ws_asgL i j hc hN hi hj hx hy ((ha _ _ _ h).imp fun _ _ h1 => by
  split at h1
  · exact ⟨_, _, rfl, h1⟩
  · exact h1.elim) hs hw hf1 hf2
theorem ss_zip (i : Nat) {x : Str} {pos' pos2 : Pos} (hg : Gl X "zip") (hm : X.mg "zip" = none) (hN : X.N.Nodup) (hi : X.N[i]? = some x) (hx : Loc X.env.scope x) (ha : SndA X [a, b] as) (hs1 : starEach [a, b] X.env = (false, eval a X.env) :: starEach [b] X.env := by rfl) (hpl : (backTo pos2 (starEach [b] X.env)).any (·.1) = false := by rfl) (hs : swapsWith (.Call (.Name "zip" p) [a, b] [] pos2) (some (.Name x pos')) pos.line X.env = pure false := by rfl) (hf : X.fn x = true ∨ X.env.scope.names.lookup x = some .local := by first | exact .inl rfl | exact .inr rfl | assumption) :
    SndS X (.Assign [.Name x pos'] (.Call (.Name "zip" p) [a, b] [] pos2) pos) (sZip i as) := fun _ _ _ h => ws_zip i hg hm hN hi hx ((ha _ _ _ h).imp fun _ _ h1 => by
  split at h1
  · obtain ⟨ds, e1, h2⟩ := lst1_e h1
    obtain ⟨es, e2, h3⟩ := lst1_e h2
    subst e1 e2
    exact ⟨ds, es, rfl, h3⟩
  · exact h1.elim) hs1 hpl hs hf
theorem ss_app (i : Nat) {x : Str} (hN : X.N[i]? = some x) (hv : Vis X.env.scope x) (ha : Snd X e me) (hd : (x == ("__debug__" : Str)) = false := by decide) (hcd : (x == ("__classdict__" : Str)) = false := by decide) (hp : PE X (.Call (.Attribute (.Name x p) "append" apos) [e] [] cpos) (tBM X.K "list" rAppend (bE X (.Name x p)) (tCons (bE X e) tNil)) := by exact pe_bm PySem.F.plainAttrs_list PySem.F.slot_list_append PySem.F.type_list_append mt_append pe_best (pa_cons pe_best pa_nil)) (hsw : swapsWith (.Call (.Attribute (.Name x p) "append" apos) [e] [] cpos) none pos.line X.env = pure false := by rfl) : SndS X (.Expr (.Call (.Attribute (.Name x p) "append" apos) [e] [] cpos) pos) (sExpr (xAppS i me)) := fun ρ _ T h => by
  obtain ⟨h0, h⟩ := h
  unfold isOwn at h0
  split at h0
  · rename_i zs hρ
    refine ws_expr (we_append (we_slot i hN hv hρ rfl ⟨i, zs, rfl, hρ, (ha _ _ _ h).imp fun u ρ2 h1 => ?_⟩ hd hcd) hp) hsw
    obtain ⟨d, e1, h1⟩ := dat1_e h1
    split at h1
    · rename_i ds hρ2
      exact ⟨d, ds, e1, hρ2, h1⟩
    · exact h1.elim
  · exact h0.elim
theorem ss_ext (i : Nat) {x : Str} (hN : X.N[i]? = some x) (hv : Vis X.env.scope x) (ha : Snd X e me) (hd : (x == ("__debug__" : Str)) = false := by decide) (hcd : (x == ("__classdict__" : Str)) = false := by decide) (hp : PE X (.Call (.Attribute (.Name x p) "extend" apos) [e] [] cpos) (tBM X.K "list" rExtend (bE X (.Name x p)) (tCons (bE X e) tNil)) := by exact pe_bm PySem.F.plainAttrs_list PySem.F.slot_list_extend PySem.F.type_list_extend mt_extend pe_best (pa_cons pe_best pa_nil)) (hsw : swapsWith (.Call (.Attribute (.Name x p) "extend" apos) [e] [] cpos) none pos.line X.env = pure false := by rfl) : SndS X (.Expr (.Call (.Attribute (.Name x p) "extend" apos) [e] [] cpos) pos) (sExpr (xExtS i me)) := fun ρ _ T h => by
  obtain ⟨h0, h⟩ := h
  unfold isOwn at h0
  split at h0
  · rename_i zs hρ
    refine ws_expr (we_extend (we_slot i hN hv hρ rfl ⟨i, zs, rfl, hρ, (ha _ _ _ h).imp fun u ρ2 h1 => ?_⟩ hd hcd) hp) hsw
    obtain ⟨es, e1, h1⟩ := lst1_e h1
    split at h1
    · rename_i ds hρ2
      exact ⟨es, ds, e1, hρ2, h1⟩
    · exact h1.elim
  · exact h0.elim
variable {scope : Scope} {own : List (Str × Nat)} {js : List Nat} {g : TG} {un : D → Option (List D)} {tg iter elt : Expr}
theorem ss_lc (i : Nat) {y : Str} {py : Pos} (hy : X.N[i]? = some y) (hyl : X.env.scope.names.lookup y = some .local) (hc : X.calm = true) (hN : X.N.Nodup) (ok : BlkOk X.N X.env.scope scope own) (hpg : ∀ (s : Shared) (H : Hp) (C : Addr) (cl : List (Str × Addr)) (fp : List Addr), PG (X.blk s H scope (compEnvC scope cl C X.env) fp) tg g) (hg : Tgt X.K X.mg g js un) (hj : ∀ j ∈ js, j ∈ own.map (·.2)) (hl : ∀ j ∈ js, j < X.N.length)
    (hi : SndI X tg iter ml) (he : ∀ (s : Shared) (H : Hp) (C : Addr) (cl : List (Str × Addr)) (fp : List Addr), Snd (Blk X s H scope C cl fp) elt me) (hsw : swapsWith (.ListComp elt [⟨tg, iter, [], 0⟩] scope pos) (some (.Name y py)) spos.line X.env = pure true) (hs : ∀ x, foldedSetIterable iter X.env x = pure x := by intro _; rfl) :
    SndS X (.Assign [.Name y py] (.ListComp elt [⟨tg, iter, [], 0⟩] scope pos) spos) (sLc i (mLc un js (own.map (·.2)) ml me)) := fun ρ Y P h =>
  ws_lc i hy hyl hc hN ok hpg hg hj hl ((hi _ _ _ h).imp fun items ρ1 ⟨h1, h2, h3⟩ => ⟨h1, h2, lcN he h3⟩) hsw hs
theorem ss_lcIf (i : Nat) {y : Str} {py : Pos} (hy : X.N[i]? = some y) (hyl : X.env.scope.names.lookup y = some .local) (hc : X.calm = true) (hN : X.N.Nodup) (ok : BlkOk X.N X.env.scope scope own) (hpg : ∀ (s : Shared) (H : Hp) (C : Addr) (cl : List (Str × Addr)) (fp : List Addr), PG (X.blk s H scope (compEnvC scope cl C X.env) fp) tg g) (hg : Tgt X.K X.mg g js un) (hj : ∀ j ∈ js, j ∈ own.map (·.2)) (hl : ∀ j ∈ js, j < X.N.length)
    (hi : SndI X tg iter ml) (ht : ∀ (s : Shared) (H : Hp) (C : Addr) (cl : List (Str × Addr)) (fp : List Addr), SndT (Blk X s H scope C cl fp) t mt) (he : ∀ (s : Shared) (H : Hp) (C : Addr) (cl : List (Str × Addr)) (fp : List Addr), Snd (Blk X s H scope C cl fp) elt me)
    (hsw : swapsWith (.ListComp elt [⟨tg, iter, [t], 0⟩] scope pos) (some (.Name y py)) spos.line X.env = pure true) (hs : ∀ x, foldedSetIterable iter X.env x = pure x := by intro _; rfl) :
    SndS X (.Assign [.Name y py] (.ListComp elt [⟨tg, iter, [t], 0⟩] scope pos) spos) (sLc i (mLcIf un js (own.map (·.2)) ml mt me)) := fun ρ Y P h =>
  ws_lcIf i hy hyl hc hN ok hpg hg hj hl ((hi _ _ _ h).imp fun items ρ1 ⟨h1, h2, h3⟩ => ⟨h1, h2, lcC ht he h3⟩) hsw hs
end
end PL

namespace PL
open PySem PySem.Spec PyProof.Rows L2
variable [Hand]
theorem blk_by {N : List Str} {sc scope : Scope} {own : List (Str × Nat)} (h : (decide (scope.kind = .function) && (scope.names.all fun y => decide (scope.names.lookup y.1 = some y.2)) && (own.all fun p => decide (N[p.2]? = some p.1)) &&
    (scope.names.all fun y => !decide (y.2 = .free) || decide (sc.names.lookup y.1 = some .cell) || decide (sc.names.lookup y.1 = some .free)) && (scope.names.all fun y => !(decide (y.2 = .local) || decide (y.2 = .cell)) || decide (y.1 ∈ own.map (·.1)) || !decide (y.1 ∈ N))) = true) : BlkOk N sc scope own := by
  simp only [Bool.and_eq_true, List.all_eq_true, decide_eq_true_eq, Bool.or_eq_true, Bool.not_eq_true', decide_eq_false_iff_not, Bool.or_eq_false_iff] at h
  obtain ⟨⟨⟨⟨h1, h2⟩, h3⟩, h4⟩, h5⟩ := h
  refine ⟨h1, h2, h3, fun y hy e => ?_, fun y hy e => ?_⟩
  · rcases h4 y hy with (h | h) | h
    · exact absurd e h
    · exact .inl h
    · exact .inr h
  · rcases h5 y hy with (h | h) | h
    · rcases e with e | e
      · exact absurd e h.1
      · exact absurd e h.2
    · exact .inl h
    · exact .inr h
/-- a comprehension's turns, each item told -/
theorem lc_map {un : D → Option (List D)} {elt : List D → (D → Prop) → Prop} {g : D → D} : ∀ {items acc : List D} {K : List D → Prop}, (∀ it ∈ items, ∀ K : D → Prop, K (g it) → ∃ ds, un it = some ds ∧ elt ds K) → K (acc ++ items.map g) → LcW un (fun _ K => K true) elt items acc K
  | [], acc, K, _, hk => by
    rw [List.map_nil, List.append_nil] at hk
    exact hk
  | it :: r, acc, K, h, hk => by
    have hk2 : K ((acc ++ [g it]) ++ r.map g) := by
      rw [List.append_assoc]
      exact hk
    obtain ⟨ds, h1, h2⟩ := h it List.mem_cons_self (fun d => LcW un (fun _ K => K true) elt r (acc ++ [d]) K) (lc_map (un := un) (elt := elt) (items := r) (acc := acc ++ [g it]) (K := K) (fun x hx => h x (List.mem_cons_of_mem _ hx)) hk2)
    exact ⟨ds, h1, (if_pos rfl).mpr h2⟩
theorem lc_nil {un : D → Option (List D)} {c : List D → (Bool → Prop) → Prop} {elt : List D → (D → Prop) → Prop} {acc : List D} {K : List D → Prop} (h : K acc) : LcW un c elt [] acc K := h
theorem lc_cons {un : D → Option (List D)} {elt : List D → (D → Prop) → Prop} {it : D} {r acc ds : List D} {K : List D → Prop} (h1 : un it = some ds) (h2 : elt ds fun d => LcW un (fun _ K => K true) elt r (acc ++ [d]) K) : LcW un (fun _ K => K true) elt (it :: r) acc K :=
  ⟨ds, h1, (if_pos rfl).mpr h2⟩
/-- from a state that grows with the items told: what each item gives is chosen freely, so -/
theorem lc_any {un : D → Option (List D)} {elt : List D → (D → Prop) → Prop} {I : D → Prop} : ∀ {items acc : List D} {K : List D → Prop}, (∀ it ∈ items, ∀ K : D → Prop, (∀ d, I d → K d) → ∃ ds, un it = some ds ∧ elt ds K) → (∀ ds : List D, ds.length = items.length → (∀ d ∈ ds, I d) → K (acc ++ ds)) → LcW un (fun _ K => K true) elt items acc K
  | [], acc, K, _, hk => by
    have := hk [] rfl (fun _ h => nomatch h)
    rw [List.append_nil] at this
    exact this
  | it :: r, acc, K, h, hk => by
    obtain ⟨ds, h1, h2⟩ := h it List.mem_cons_self (fun d => LcW un (fun _ K => K true) elt r (acc ++ [d]) K) (fun d hd => lc_any (un := un) (elt := elt) (I := I) (items := r) (acc := acc ++ [d]) (K := K) (fun x hx => h x (List.mem_cons_of_mem _ hx)) fun es hl hes => by
      rw [List.append_assoc]
      exact hk (d :: es) (by simp [hl]) fun x hx => by
        rcases List.mem_cons.mp hx with rfl | hx
        · exact hd
        · exact hes x hx)
    exact ⟨ds, h1, (if_pos rfl).mpr h2⟩
/-- a def without a promise -/
theorem cal_none {P : Program} {w : World} {K : PySem.W.Frag} {mg : Str → Option Value} {base : Heap} {k n : Nat} {x : Str} {f : Addr} {fd : FuncData} {ps : List Str} (hm : mg x = some (.ref f)) (hk : PySem.W.keepIn K (.ref f) = true) (hb : Binds K fd ps []) : Cal P w K mg base k x n (fun _ _ _ => False) :=
  ⟨f, fd, ps, ⟨fun vs H Q E ⟨_, _, _, _, _, _, _, _, _, _, _, _, q, _⟩ => q.elim, fun A outer s H args us vs Q E _ _ _ _ ⟨_, _, _, _, _, _, _, _, _, _, _, _, q, _⟩ => q.elim⟩, hm, hk, hb⟩
end PL

namespace PL
open PySem PySem.Spec PyProof.Rows L2
/-- x in a tuple, by == -/
theorem op_inDT {X : Cx} (hu : X.A.units + 65 < cLine) : OpR X (compareOp .In) (fun x y H Q => ∃ d ds, Dp X.K H x d ∧ Dp X.K H y (.tuple ds) ∧ SeqAt.shaped d = true ∧ SeqAt.shaped (.tuple ds) = true ∧ Q (.bl (ds.any fun z => PyData.eqv z d)) H) := by
  intro pins s σ H x y v u Q I rx ry ⟨d, ds, hd, he, sd, se, q⟩
  obtain ⟨as, r1⟩ := Dp.reads I d x v hd rx
  obtain ⟨bs, r2⟩ := Dp.reads I (.tuple ds) y u he ry
  refine SeqAt.in_tuple_reads r2 r1 ?_ (SeqAt.canLay_of_shaped sd) (PyProof.Rows.room_in_shaped sd hu) ⟨.bl _, H, I, rfl, q⟩
  have := SeqAt.canLay_of_shaped se
  exact this
variable [Hand]
def cInD (x y : W) (_ : Store) (K : Bool → Prop) : Prop := dat2 x y fun d e => opt1 d.py fun p => match e.py with
  | some (.tuple qs) => SeqAt.shaped p = true ∧ SeqAt.shaped (.tuple qs) = true ∧ K (qs.any fun z => PyData.eqv z p)
  | _ => False
theorem st_inD {X : Cx} {j : Nat} {a b : Expr} {pos : Pos} {ma mb : ME} (hr : Room j X.A) (ha : Snd X a ma) (hb : Snd X b mb) (hm : behindInMarks .In b = false := by rfl) : SndT X (.Compare a [.In] [b] pos) (tCmp cInD ma mb) := fun ρ Y P h c F H σ R L => by
  refine bstT (pt_cmpR (op_inDT (by have := hr.un; omega)) pe_best pe_best hm) ?_
  have h' : WE X a ρ Y fun x ρ1 => WE X b ρ1 Y fun y ρ2 => cInD x y ρ2 fun k => P k ρ2 := (ha _ _ _ h).imp fun _ _ h1 => hb _ _ _ h1
  refine (h'.run R L).imp fun v H1 ⟨F1, ρ1, w, _, R1, r1, hb⟩ => (hb.run R1 L).imp fun u H2 ⟨F2, ρ2, w2, E2, R2, r2, hP⟩ => ?_
  obtain ⟨d, e, e1, e2, hP⟩ := dat2_e hP
  subst e1 e2
  obtain ⟨p, p1, hP⟩ := opt1_e hP
  split at hP
  · rename_i qs p2
    obtain ⟨s1, s2, hP⟩ := hP
    exact ⟨p, qs, dp_ext (E2.trans R2.aft.sub) (RD.dp r1 p1), dp_ext R2.aft.sub (RD.dp r2 p2), s1, s2, _, rfl, F2, ρ2, R2, hP⟩
  · exact hP.elim
/-- a product, one factor small -/
def fMulS (x y : W) (_ : Store) (K : D → Prop) : Prop := int2 x y fun i j => CMul i j ∧ K (.int (i * j))
theorem s_mulS {X : Cx} {a b : Expr} {pos : Pos} {ma mb : ME} (ha : Snd X a ma) (hb : Snd X b mb) : Snd X (.BinOp a .Mult b pos) (xBin fMulS ma mb) := fun _ _ _ h => we_mulS ((ha _ _ _ h).imp fun _ _ h1 => (hb _ _ _ h1).imp fun _ _ h2 => int2_e h2)
/-- the open hand, written at an index -/
def isHown (ρ : Store) (i : Nat) : Prop := match ρ[i]? with
  | some (some (.hown _)) => True
  | _ => False
def sHset (G : List D → Prop) (i : Nat) (ix e : ME) : MS := fun ρ Y T => e ρ Y fun u ρ1 => dat1 u fun d => isHown ρ1 i ∧ ix ρ1 Y fun y ρ3 => match ρ3[i]? with
  | some (some (.hown ds)) => clean (ρ3.set i none) = true ∧ int1 y fun k => opt1 (ixN ds.length k) fun j => G (ds.set j d) ∧ T.nx (ρ3.set i (some (.hown (ds.set j d))))
  | _ => False
theorem ss_hset {X : Cx} {G : List D → Prop} (HG : ∀ (F : Hp) (ds : List D) (xs : List V), RDs X.K X.mg F ds xs → G ds → Hand.HI F (.lst xs)) (i : Nat) {x : Str} {kk : Int} {jj} {pp : Pos} {e : Expr} {p pos' pos : Pos} {me : ME} (hN : X.N[i]? = some x) (hv : Vis X.env.scope x) (he : Snd X e me)
    (hs : swapsWithSole [.Subscript (.Name x p) (.Constant (.int kk) jj pp) pos'] e pos.line X.env = pure false := by rfl) (hd : (x == ("__debug__" : Str)) = false := by decide) (hcd : (x == ("__classdict__" : Str)) = false := by decide) :
    SndS X (.Assign [.Subscript (.Name x p) (.Constant (.int kk) jj pp) pos'] e pos) (sHset G i (xVal (.int kk)) me) := fun ρ Y T h => by
  refine ws_hset ((he _ _ _ h).imp fun u ρ1 h1 => ?_) (fun v => rfl) hs
  obtain ⟨d, e1, h1, h2⟩ := dat1_e h1
  refine ⟨d, e1, ?_⟩
  unfold isHown at h1
  split at h1
  · rename_i ds hρ
    refine we_slot i hN hv hρ rfl (we_int ?_) hd hcd
    have h3 : (match ρ1[i]? with
      | some (some (.hown ds)) => clean (ρ1.set i none) = true ∧ int1 (.val (.int kk)) fun k => opt1 (ixN ds.length k) fun j => G (ds.set j d) ∧ T.nx (ρ1.set i (some (.hown (ds.set j d))))
      | _ => False) := h2
    rw [hρ] at h3
    obtain ⟨h4, h5⟩ := h3
    obtain ⟨k, e2, h5⟩ := int1_e h5
    obtain ⟨j, e3, h6, h7⟩ := opt1_e h5
    exact ⟨i, ds, k, j, rfl, hρ, h4, e2, e3, fun F xs r => HG F _ xs r h6, h7⟩
  · exact h1.elim
end PL

namespace K48
open PySem PySem.Spec PyProof.Rows L2 PL
variable [Hand]
def top (i : Nat) : Stmt := PySem.Challenge.pw_forepaid_k48_whole_cards_compared.main.body.getD i (.Pass ⟨0, 0, 0, 0⟩)
abbrev s_is_integer : Stmt := top 9
abbrev s_divisor : Stmt := top 10
abbrev s_is_fraction : Stmt := top 11
abbrev s_is_amount : Stmt := top 12
abbrev s_made : Stmt := top 13
abbrev s_raw_plus : Stmt := top 14
abbrev s_raw_less : Stmt := top 15
abbrev s_raw_at_most : Stmt := top 16
abbrev s_raw_lesser : Stmt := top 17
abbrev s_raw_greater : Stmt := top 18
abbrev s_has_kind_form : Stmt := top 28
abbrev s_is_kind : Stmt := top 29
abbrev s_check_kind : Stmt := top 30
abbrev s_raw_is_rich : Stmt := top 32
abbrev s_check_rich : Stmt := top 33
abbrev s_raw_amounts : Stmt := top 34
abbrev s_raw_many : Stmt := top 35
abbrev s_raw_rich : Stmt := top 36
abbrev s_amounts_of : Stmt := top 37
abbrev s_raw_covers : Stmt := top 38
abbrev s_check_both : Stmt := top 39
abbrev s_covers : Stmt := top 40
abbrev s_joined : Stmt := top 41
abbrev s_met : Stmt := top 42
abbrev s_are_kinds : Stmt := top 46
abbrev s_is_card_by : Stmt := top 48
abbrev s_are_cards_by : Stmt := top 49
abbrev s_check_kinds : Stmt := top 50
abbrev s_check_pair : Stmt := top 51
abbrev s_are_riches_so : Stmt := top 52
abbrev s_raw_shortfall : Stmt := top 53
abbrev s_raw_serves : Stmt := top 54
abbrev s_serves : Stmt := top 55
abbrev s_shortfall : Stmt := top 56
abbrev s_both_serve : Stmt := top 57
abbrev s_raw_serving : Stmt := top 58
abbrev s_serving : Stmt := top 59
abbrev s__law_hand : Stmt := top 61
abbrev s__law_draw : Stmt := top 62
abbrev s__law_any : Stmt := top 63
abbrev s__law_is : Stmt := top 64
abbrev s__law_amount : Stmt := top 65
abbrev s__law_halves : Stmt := top 66
abbrev s__law_word : Stmt := top 67
abbrev s__law_kind : Stmt := top 68
abbrev s__law_rich : Stmt := top 69
abbrev s__law_flat : Stmt := top 70
abbrev s__law_drawn : Stmt := top 71
abbrev s__law_near : Stmt := top 72
abbrev s__law_fits : Stmt := top 73
abbrev s__law_lack : Stmt := top 74
abbrev s__law_raised : Stmt := top 75
abbrev s__law_both : Stmt := top 76
abbrev s__law_pair_right : Stmt := top 77
abbrev s__law_refused_right : Stmt := top 78
abbrev s__law_all : Stmt := top 79
abbrev s_law : Stmt := top 80
abbrev FnP (K : PySem.W.Frag) (x : Str) (st : Stmt) (f : Addr) (fd : FuncData) : Prop := FunD K x x (defArgs st) (defBody st) (defScope st) [] [] f fd
/-- the names of the module -/
structure Env (K : PySem.W.Frag) (mg : Str → Option Value) : Prop where
  isinstance : mg "isinstance" = none
  int : mg "int" = none
  bool : mg "bool" = none
  abs : mg "abs" = none
  len : mg "len" = none
  tuple : mg "tuple" = none
  list : mg "list" = none
  str : mg "str" = none
  range : mg "range" = none
  zip : mg "zip" = none
  all : mg "all" = none
  sum : mg "sum" = none
  enumerate : mg "enumerate" = none
  max : mg "max" = none
  min : mg "min" = none
  repr : mg "repr" = none
  X_NoKind : Exc1 K mg "NoKind"
  X_NoRich : Exc1 K mg "NoRich"
  X_NoCard : Exc1 K mg "NoCard"
  X_NoCards : Exc1 K mg "NoCards"
  INT : ∃ t, mg "INT" = some (.str "int" t)
  FLAG : ∃ t, mg "FLAG" = some (.str "flag" t)
  PAIR : ∃ t, mg "PAIR" = some (.str "pair" t)
  EITHER : ∃ t, mg "EITHER" = some (.str "either" t)
  LIST : ∃ t, mg "LIST" = some (.str "list" t)
  TREE : ∃ t, mg "TREE" = some (.str "tree" t)
  MOST_PARTS : ∃ t, mg "MOST_PARTS" = some (.int 8 t)
  MOST_CARDS : ∃ t, mg "MOST_CARDS" = some (.int 4 t)
  MOST_PARAMS : ∃ t, mg "MOST_PARAMS" = some (.int 8 t)
  NOUGHT : ∃ a vs, mg "NOUGHT" = some (.ref a) ∧ (∀ F : Hp, SqT K F a vs) ∧ ∀ F : Hp, RDs K mg F [.int 0, .int 1] vs
/-- the dict SIZES, of some keys -/
def SIZES_says : List (Str × Option D) := [("pair", some (.int 2)), ("either", some (.int 2)), ("list", some (.int 1)), ("tree", some (.int 1)), ("int", none)]
structure Siz (w : World) (K : PySem.W.Frag) (mg : Str → Option Value) : Prop where
  at_ : ∃ d es n, mg "SIZES" = some (.ref d) ∧ KDict K w d es n
  says_ : ∀ p ∈ SIZES_says, ∃ d, mg "SIZES" = some (.ref d) ∧ match p.2 with
    | none => PySem.W.nsIn K d p.1 = some none
    | some e => ∃ u, PySem.W.nsIn K d p.1 = some (some u) ∧ ∀ F : Hp, ∃ v, RelV v u ∧ RD K mg F e v
theorem Siz.at {X : Cx} (S : Siz X.w X.K X.mg) : KdAt X "SIZES" := S.at_
theorem Siz.says {X : Cx} (S : Siz X.w X.K X.mg) : ∀ p ∈ SIZES_says, kdSays X "SIZES" p.1 p.2 := S.says_
/-! ### meanings -/
def isI : D → Bool
  | .int _ => true
  | _ => false
def gcdI (x y : Int) : Int := (Int.gcd x y : Nat)
def fr (a b : Int) : D := .tup [.int a, .int b]
def isFr : D → Bool
  | .tup [.int a, .int b] => decide (b > 0) && decide (gcdI a b = 1)
  | _ => false
def isAm : D → Bool
  | .tup [.int a, .int b] => (decide (b > 0) && decide (gcdI a b = 1)) && decide (a ≥ 0)
  | _ => false
def low (a b : Int) : D := if b < 0 then fr (a.fdiv (-gcdI a b)) (b.fdiv (-gcdI a b)) else fr (a.fdiv (gcdI a b)) (b.fdiv (gcdI a b))
def S_is_integer : Sem1 := fun ws P Y => ∃ d, ws = [.val d] ∧ d.ok = true ∧ P (.bl (isI d))
def S_divisor : Sem1 := fun ws P Y => ∃ x y : Int, ws = [.val (.int x), .val (.int y)] ∧ 0 ≤ x ∧ 0 ≤ y ∧ P (.int (gcdI x y))
def S_is_fraction : Sem1 := fun ws P Y => ∃ d, ws = [.val d] ∧ d.ok = true ∧ P (.bl (isFr d))
def S_is_amount : Sem1 := fun ws P Y => ∃ d, ws = [.val d] ∧ d.ok = true ∧ P (.bl (isAm d))
def S_made : Sem1 := fun ws P Y => ∃ a b : Int, ws = [.val (.int a), .val (.int b)] ∧ b ≠ 0 ∧ Bd 8000 b ∧ P (low a b)
def S_check_fraction : Sem1 := fun ws P Y => ∃ d, ws = [.val d] ∧ d.ok = true ∧ if isFr d = true then P .non else Y "NoFraction"
def S_fraction : Sem1 := fun ws P Y => ∃ d e, ws = [.val d, .val e] ∧ d.ok = true ∧ e.ok = true ∧ ((∃ a b, d = .int a ∧ e = .int b ∧ b ≠ 0 ∧ Bd 8000 b ∧ P (low a b)) ∨ ((isI d = false ∨ isI e = false ∨ e = .int 0) ∧ Y "NoFraction"))
/-- what an operation asks of two fractions, and what it gives -/
def S_raw (op : Int → Int → Int → Int → D) (ok : Int → Int → Int → Int → Prop) : Sem1 := fun ws P Y => ∃ a b c d : Int, ws = [.val (fr a b), .val (fr c d)] ∧ Bd 2000 a ∧ Bd 2000 b ∧ Bd 2000 c ∧ Bd 2000 d ∧ ok a b c d ∧ P (op a b c d)
def opPlus (a b c d : Int) : D := low (a * d + c * b) (b * d)
def opLess (a b c d : Int) : D := low (a * d - c * b) (b * d)
def opTimes (a b c d : Int) : D := low (a * c) (b * d)
def opBy (a b c d : Int) : D := low (a * d) (b * c)
def opAtMost (a b c d : Int) : D := .bl (decide (a * d ≤ c * b))
def okBot (_ b _ d : Int) : Prop := b ≠ 0 ∧ d ≠ 0
def okBy (_ b c _ : Int) : Prop := b ≠ 0 ∧ c ≠ 0
def okAny (_ _ _ _ : Int) : Prop := True
def S_raw_plus : Sem1 := S_raw opPlus okBot
def S_raw_less : Sem1 := S_raw opLess okBot
def S_raw_times : Sem1 := S_raw opTimes okBot
def S_raw_by : Sem1 := S_raw opBy okBy
def S_raw_at_most : Sem1 := S_raw opAtMost okAny

section
variable {P : Program} {w : World} {K : PySem.W.Frag} {mg : Str → Option Value} {base : Heap} {f : Addr} {fd : FuncData} {k : Nat}

theorem sc_is_integer : FnScope ["thing"] ["thing"] (defScope s_is_integer) := ⟨rfl, rfl, rfl, by decide +kernel, rfl, by decide +kernel, by decide +kernel⟩
theorem ok_is_integer (Z : Env K mg)  (F : FnP K "is_integer" s_is_integer f fd) : FnOk P w K mg base (L2.CX P w) (k + 1) f fd ["thing"] (spS K mg 1 S_is_integer) := fn_ok F sc_is_integer fun cdv A outer s H E ws Q Y hr hS hl => by
  obtain ⟨d, rfl, hp, hQ⟩ := hS
  have hp := D.ok_plain hp
  refine wb_one (ws_ret ?_)
  refine we_and ?_
  refine we_isInt rfl Z.isinstance rfl Z.int ?_
  refine we_slot 0 rfl (.inl rfl) rfl rfl ?_
  refine ⟨_, rfl, hp, _, rfl, ?_⟩
  by_cases h : d.isInt = true
  · rw [if_pos h]
    refine we_and1 (we_not (we_isBl rfl Z.isinstance rfl Z.bool ?_))
    refine we_slot 0 rfl (.inl rfl) rfl rfl ?_
    refine ⟨_, rfl, hp, _, rfl, _, rfl, ?_⟩
    have e : (!d.isBl) = isI d := by cases d <;> first | rfl | cases h
    rw [e]
    exact hQ
  · rw [if_neg h]
    refine ⟨_, rfl, ?_⟩
    have e : isI d = false := by cases d <;> first | rfl | exact absurd rfl h
    rw [e] at hQ
    exact hQ
theorem gcd_step (a b : Int) (ha : 0 ≤ a) (hb : 0 < b) : gcdI b (a.fmod b) = gcdI a b := by
  unfold gcdI
  rw [Int.fmod_eq_emod_of_nonneg _ (by omega)]
  obtain ⟨m, rfl⟩ := Int.eq_ofNat_of_zero_le ha
  obtain ⟨n, rfl⟩ := Int.eq_ofNat_of_zero_le (Int.le_of_lt hb)
  rw [← Int.natCast_emod]
  unfold Int.gcd
  simp only [Int.natAbs_natCast]
  rw [Nat.gcd_comm n, ← Nat.gcd_rec, Nat.gcd_comm]
theorem sc_divisor : FnScope ["x", "y"] ["x", "y"] (defScope s_divisor) := ⟨rfl, rfl, rfl, by decide +kernel, rfl, by decide +kernel, by decide +kernel⟩
theorem ok_divisor (Z : Env K mg)  (F : FnP K "divisor" s_divisor f fd) : FnOk P w K mg base (L2.CX P w) (k + 1) f fd ["x", "y"] (spS K mg 2 S_divisor) := fn_ok F sc_divisor fun cdv A outer s H E ws Q Y hr hS hl => by
  obtain ⟨x, y, rfl, hx, hy, hQ⟩ := hS
  refine wb_cons (ws_while (fun m ρ => ∃ a b : Int, ρ = [some (.val (.int a)), some (.val (.int b))] ∧ 0 ≤ a ∧ 0 ≤ b ∧ m = b.toNat ∧ gcdI a b = gcdI x y) y.toNat ⟨x, y, rfl, hx, hy, rfl, rfl⟩ ?_)
  rintro m ρ1 ⟨a, b, rfl, ha, hb, rfl, hg⟩
  refine wt_neS ?_
  refine we_slot 1 rfl (.inl rfl) rfl rfl ?_
  refine we_int ?_
  refine ⟨_, _, _, _, rfl, rfl, rfl, rfl, rfl, ?_⟩
  by_cases h : b = 0
  · subst h
    rw [if_neg (by decide)]
    refine wb_one (ws_ret (we_slot 0 rfl (.inl rfl) rfl rfl ?_))
    refine ⟨_, rfl, ?_⟩
    have e : gcdI a 0 = a := by
      unfold gcdI
      rw [Int.gcd_zero_right]
      omega
    rw [← hg, e] at hQ
    exact hQ
  · rw [if_pos (by simp [h])]
    refine wb_one (ws_par 0 1 rfl sc_divisor.nd rfl rfl (by decide) rfl rfl ?_)
    refine we_slot 1 rfl (.inl rfl) rfl rfl ?_
    refine ⟨_, rfl, ?_⟩
    refine we_mod (we_intI rfl Z.int (we_slot 0 rfl (.inl rfl) rfl rfl ⟨_, rfl, ?_⟩))
    refine we_slot 1 rfl (.inl rfl) rfl rfl ?_
    refine ⟨_, _, rfl, rfl, h, _, rfl, ?_⟩
    have hp : 0 ≤ a.fmod b := Int.fmod_nonneg_of_pos _ (by omega)
    have hlt : a.fmod b < b := Int.fmod_lt_of_pos _ (by omega)
    exact ⟨(a.fmod b).toNat, by omega, b, a.fmod b, rfl, hb, hp, rfl, by rw [← hg, gcd_step a b ha (by omega)]⟩
theorem tup_or (d : D) : (∃ xs, d = .tup xs) ∨ (d.isTup = false ∧ isFr d = false ∧ isAm d = false) := by
  cases d <;> first | exact .inl ⟨_, rfl⟩ | exact .inr ⟨rfl, rfl, rfl⟩
theorem isI_or (d : D) : (∃ i, d = .int i) ∨ isI d = false := by
  cases d <;> first | exact .inl ⟨_, rfl⟩ | exact .inr rfl
theorem isFr_two {xs : List D} (h : xs.length ≠ 2) : isFr (.tup xs) = false := by
  match xs with
  | [] => rfl
  | [_] => cases ‹D› <;> rfl
  | [_, _] => exact absurd rfl h
  | _ :: _ :: _ :: _ =>
    unfold isFr
    split
    · rename_i q
      cases q
    · rfl
theorem isFr_l {x y : D} (h : isI x = false) : isFr (.tup [x, y]) = false := by
  cases x <;> first | rfl | cases h
theorem isFr_r {x y : D} (h : isI y = false) : isFr (.tup [x, y]) = false := by
  cases y <;> first | (cases x <;> rfl) | cases h
theorem isFr_fr {a b : Int} : isFr (fr a b) = (decide (b > 0) && decide (gcdI a b = 1)) := rfl
theorem gcdI_abs (a b : Int) : gcdI (a.natAbs : Int) b = gcdI a b := by
  unfold gcdI Int.gcd
  simp
theorem sc_is_fraction : FnScope ["thing"] ["thing"] (defScope s_is_fraction) := ⟨rfl, rfl, rfl, by decide +kernel, rfl, by decide +kernel, by decide +kernel⟩
theorem ok_is_fraction (Z : Env K mg) (C_divisor : Cal P w K mg base k "divisor" 2 S_divisor) (C_is_integer : Cal P w K mg base k "is_integer" 1 S_is_integer) (F : FnP K "is_fraction" s_is_fraction f fd) : FnOk P w K mg base (L2.CX P w) (k + 1) f fd ["thing"] (spS K mg 1 S_is_fraction) := fn_ok F sc_is_fraction fun cdv A outer s H E ws Q Y hr hS hl => by
  obtain ⟨d, rfl, hp, hQ⟩ := hS
  refine wb_cons (ws_if (wt_of (ww_or (wt_not (wt_val ?_)))))
  refine we_isTup rfl Z.isinstance rfl Z.tuple ?_
  refine we_slot 0 rfl (.inl rfl) rfl rfl ?_
  refine ⟨_, rfl, D.ok_plain hp, _, rfl, ?_⟩
  rcases tup_or d with ⟨xs, rfl⟩ | ⟨ht, hf, _⟩
  · refine iteF rfl ?_
    refine ww_or ?_
    refine wt_neS ?_
    refine we_len rfl Z.len ?_
    refine we_slot 0 rfl (.inl rfl) rfl rfl ?_
    refine ⟨_, rfl, ?_⟩
    refine we_int ?_
    refine ⟨_, _, _, _, rfl, rfl, rfl, rfl, rfl, ?_⟩
    by_cases h2 : xs.length = 2
    · refine iteF (by rw [h2]; rfl) ?_
      match xs, h2 with
      | [x, y], _ =>
      have hx : x.ok = true ∧ y.ok = true := by
        unfold D.ok D.oks D.oks D.oks at hp
        simpa using hp
      refine ww_or ?_
      refine wt_not ?_
      refine wt_val ?_
      refine we_call C_is_integer hr (Nat.le_refl _) rfl ?_
      refine wa_cons ?_
      refine we_ix ?_
      refine we_slot 0 rfl (.inl rfl) rfl rfl ?_
      refine we_int ?_
      refine ⟨_, _, _, rfl, rfl, rfl, ?_⟩
      refine ⟨rfl, ?_⟩
      refine wa_nil ?_
      refine ⟨rfl, rfl, ?_⟩
      -- contract of is_integer
      refine ⟨_, rfl, ?_⟩
      refine ⟨hx.1, _, rfl, ?_⟩
      rcases isI_or x with ⟨a, rfl⟩ | hf
      · refine iteF rfl ?_
        refine ww_or1 ?_
        refine wt_not ?_
        refine wt_val ?_
        refine we_call C_is_integer hr (Nat.le_refl _) rfl ?_
        refine wa_cons ?_
        refine we_ix ?_
        refine we_slot 0 rfl (.inl rfl) rfl rfl ?_
        refine we_int ?_
        refine ⟨_, _, _, rfl, rfl, rfl, ?_⟩
        refine ⟨rfl, ?_⟩
        refine wa_nil ?_
        refine ⟨rfl, rfl, ?_⟩
        -- contract of is_integer
        refine ⟨_, rfl, ?_⟩
        refine ⟨hx.2, _, rfl, ?_⟩
        rcases isI_or y with ⟨b, rfl⟩ | hf
        · refine iteF rfl ?_
          refine wb_nil ?_
          refine wb_one (ws_ret ?_)
          refine we_and ?_
          refine we_cmpI op_gt (nomark _) ?_
          refine we_ix ?_
          refine we_slot 0 rfl (.inl rfl) rfl rfl ?_
          refine we_int ?_
          refine ⟨_, _, _, rfl, rfl, rfl, ?_⟩
          refine we_int ?_
          refine ⟨_, _, rfl, rfl, ?_⟩
          refine ⟨_, rfl, ?_⟩
          by_cases hb : b > 0
          · refine iteT (by simpa using hb) ?_
            refine we_and1 ?_
            refine we_eqS ?_
            refine we_call C_divisor hr (Nat.le_refl _) rfl ?_
            refine wa_cons ?_
            refine we_abs rfl Z.abs ?_
            refine we_ix ?_
            refine we_slot 0 rfl (.inl rfl) rfl rfl ?_
            refine we_int ?_
            refine ⟨_, _, _, rfl, rfl, rfl, ?_⟩
            refine ⟨_, rfl, ?_⟩
            refine ⟨rfl, ?_⟩
            refine wa_cons ?_
            refine we_ix ?_
            refine we_slot 0 rfl (.inl rfl) rfl rfl ?_
            refine we_int ?_
            refine ⟨_, _, _, rfl, rfl, rfl, ?_⟩
            refine ⟨rfl, ?_⟩
            refine wa_nil ?_
            refine ⟨rfl, rfl, ?_⟩
            -- contract of divisor
            refine ⟨_, _, rfl, by omega, by omega, ?_⟩
            refine we_int ?_
            refine ⟨_, _, _, _, rfl, rfl, rfl, rfl, rfl, _, rfl, ?_⟩
            have e : isFr (.tup [.int a, .int b]) = decide (V.int (gcdI (a.natAbs : Int) b) = V.int 1) := by
              show (decide (b > 0) && decide (gcdI a b = 1)) = _
              rw [gcdI_abs]
              simp [hb]
            rw [← e]
            exact hQ
          · refine iteF (by simpa using hb) ?_
            refine ⟨_, rfl, ?_⟩
            have e : isFr (.tup [.int a, .int b]) = false := by
              show (decide (b > 0) && decide (gcdI a b = 1)) = _
              simp [hb]
            rw [e] at hQ
            exact hQ
        · refine iteT (by rw [hf]; rfl) ?_
          refine wb_one (ws_ret (we_bl ⟨_, rfl, ?_⟩))
          rw [isFr_r hf] at hQ
          exact hQ
      · refine iteT (by rw [hf]; rfl) ?_
        refine iteT rfl ?_
        refine wb_one (ws_ret (we_bl ⟨_, rfl, ?_⟩))
        rw [isFr_l hf] at hQ
        exact hQ
    · refine iteT (by simp; omega) ?_
      refine iteT rfl ?_
      refine wb_one (ws_ret (we_bl ⟨_, rfl, ?_⟩))
      rw [isFr_two h2] at hQ
      exact hQ
  · refine iteT (by rw [ht]; rfl) ?_
    refine iteT rfl ?_
    refine wb_one (ws_ret (we_bl ⟨_, rfl, ?_⟩))
    rw [hf] at hQ
    exact hQ
theorem isFr_shape {d : D} (h : isFr d = true) : ∃ a b, d = fr a b ∧ 0 < b ∧ gcdI a b = 1 := by
  unfold isFr at h
  split at h
  · rw [Bool.and_eq_true] at h
    exact ⟨_, _, rfl, by simpa using h.1, by simpa using h.2⟩
  · cases h
theorem isAm_of {d : D} (h : isFr d = false) : isAm d = false := by
  unfold isAm
  split
  · rename_i a b
    have h : (decide (b > 0) && decide (gcdI a b = 1)) = false := h
    rw [h]
    rfl
  · rfl
theorem sc_is_amount : FnScope ["thing"] ["thing"] (defScope s_is_amount) := ⟨rfl, rfl, rfl, by decide +kernel, rfl, by decide +kernel, by decide +kernel⟩
theorem ok_is_amount (Z : Env K mg) (C_is_fraction : Cal P w K mg base k "is_fraction" 1 S_is_fraction) (F : FnP K "is_amount" s_is_amount f fd) : FnOk P w K mg base (L2.CX P w) (k + 1) f fd ["thing"] (spS K mg 1 S_is_amount) := fn_ok F sc_is_amount fun cdv A outer s H E ws Q Y hr hS hl => by
  obtain ⟨d, rfl, hp, hQ⟩ := hS
  refine wb_one (ws_ret ?_)
  refine we_and ?_
  refine we_call C_is_fraction hr (Nat.le_refl _) rfl ?_
  refine wa_cons ?_
  refine we_slot 0 rfl (.inl rfl) rfl rfl ?_
  refine ⟨rfl, ?_⟩
  refine wa_nil ?_
  refine ⟨rfl, rfl, ?_⟩
  -- contract of is_fraction
  refine ⟨d, rfl, hp, _, rfl, ?_⟩
  cases hf : isFr d with
  | true =>
    obtain ⟨a, b, rfl, hb, hg⟩ := isFr_shape hf
    refine iteT rfl ?_
    refine we_and1 ?_
    refine we_cmpI op_ge (nomark _) ?_
    refine we_ix ?_
    refine we_slot 0 rfl (.inl rfl) rfl rfl ?_
    refine we_int ?_
    refine ⟨_, _, _, rfl, rfl, rfl, ?_⟩
    refine we_int ?_
    refine ⟨_, _, rfl, rfl, ?_⟩
    refine ⟨_, rfl, ?_⟩
    have e : isAm (fr a b) = decide (a ≥ 0) := by
      show ((decide (b > 0) && decide (gcdI a b = 1)) && decide (a ≥ 0)) = _
      simp [hb, hg]
    rw [e] at hQ
    exact hQ
  | false =>
    refine iteF rfl ⟨_, rfl, ?_⟩
    rw [isAm_of hf] at hQ
    exact hQ
theorem sc_made : FnScope ["top", "bottom", "by"] ["top", "bottom"] (defScope s_made) := ⟨rfl, rfl, rfl, by decide +kernel, rfl, by decide +kernel, by decide +kernel⟩
theorem ok_made (Z : Env K mg) (C_divisor : Cal P w K mg base k "divisor" 2 S_divisor) (F : FnP K "made" s_made f fd) : FnOk P w K mg base (L2.CX P w) (k + 1) f fd ["top", "bottom"] (spS K mg 2 S_made) := fn_ok F sc_made fun cdv A outer s H E ws Q Y hr hS hl => by
  obtain ⟨a, b, rfl, hb, hB, hQ⟩ := hS
  refine wb_cons (ws_asg 2 sc_made.nd rfl (.inl rfl) ?_)
  refine we_call C_divisor hr (Nat.le_refl _) rfl ?_
  refine wa_cons ?_
  refine we_abs rfl Z.abs ?_
  refine we_slot 0 rfl (.inl rfl) rfl rfl ?_
  refine ⟨_, rfl, ?_⟩
  refine ⟨rfl, ?_⟩
  refine wa_cons ?_
  refine we_abs rfl Z.abs ?_
  refine we_slot 1 rfl (.inl rfl) rfl rfl ?_
  refine ⟨_, rfl, ?_⟩
  refine ⟨rfl, ?_⟩
  refine wa_nil ?_
  refine ⟨rfl, rfl, ?_⟩
  -- contract of divisor
  refine ⟨_, _, rfl, by omega, by omega, ?_⟩
  refine ⟨_, rfl, ?_⟩
  have eg : gcdI (a.natAbs : Int) (b.natAbs : Int) = gcdI a b := by
    unfold gcdI Int.gcd
    simp
  rw [eg]
  have g0 : gcdI a b ≠ 0 := by
    unfold gcdI
    intro q
    have := Int.gcd_eq_zero_iff.mp (Int.ofNat.inj q)
    exact hb this.2
  have gB : Bd 8000 (gcdI a b) := by
    unfold Bd gcdI at *
    have : Int.gcd a b ≤ b.natAbs := Nat.gcd_le_right _ (Int.natAbs_pos.mpr hb)
    simp only [Int.natAbs_natCast]
    omega
  refine wb_cons (ws_if ?_)
  refine wt_cmpI op_lt (nomark _) ?_
  refine we_slot 1 rfl (.inl rfl) rfl rfl ?_
  refine we_int ?_
  refine ⟨_, _, rfl, rfl, ?_⟩
  refine iteI (fun h => ?_) (fun h => ?_)
  · have h : b < 0 := by simpa using h
    refine wb_one (ws_asg 2 sc_made.nd rfl (.inl rfl) ?_)
    refine we_neg ?_
    refine we_slot 2 rfl (.inl rfl) rfl rfl ?_
    refine ⟨_, rfl, _, rfl, ?_⟩
    refine wb_one (ws_ret ?_)
    refine we_tup ?_
    refine wa_cons ?_
    refine we_fdiv ?_
    refine we_slot 0 rfl (.inl rfl) rfl rfl ?_
    refine we_slot 2 rfl (.inl rfl) rfl rfl ?_
    refine ⟨_, _, rfl, rfl, gB.neg.cdiv _ (by omega) (by decide) (by decide), ?_⟩
    refine ⟨rfl, ?_⟩
    refine wa_cons ?_
    refine we_fdiv ?_
    refine we_slot 1 rfl (.inl rfl) rfl rfl ?_
    refine we_slot 2 rfl (.inl rfl) rfl rfl ?_
    refine ⟨_, _, rfl, rfl, gB.neg.cdiv _ (by omega) (by decide) (by decide), ?_⟩
    refine ⟨rfl, ?_⟩
    refine wa_nil ?_
    refine ⟨_, rfl, by simp, ?_⟩
    refine ⟨_, rfl, ?_⟩
    unfold low at hQ
    rw [if_pos h] at hQ
    exact hQ
  · have h : ¬ b < 0 := by simpa using h
    refine wb_nil ?_
    refine wb_one (ws_ret ?_)
    refine we_tup ?_
    refine wa_cons ?_
    refine we_fdiv ?_
    refine we_slot 0 rfl (.inl rfl) rfl rfl ?_
    refine we_slot 2 rfl (.inl rfl) rfl rfl ?_
    refine ⟨_, _, rfl, rfl, gB.cdiv _ g0 (by decide) (by decide), ?_⟩
    refine ⟨rfl, ?_⟩
    refine wa_cons ?_
    refine we_fdiv ?_
    refine we_slot 1 rfl (.inl rfl) rfl rfl ?_
    refine we_slot 2 rfl (.inl rfl) rfl rfl ?_
    refine ⟨_, _, rfl, rfl, gB.cdiv _ g0 (by decide) (by decide), ?_⟩
    refine ⟨rfl, ?_⟩
    refine wa_nil ?_
    refine ⟨_, rfl, by simp, ?_⟩
    refine ⟨_, rfl, ?_⟩
    unfold low at hQ
    rw [if_neg h] at hQ
    exact hQ
theorem sc_raw_plus : FnScope ["x", "y"] ["x", "y"] (defScope s_raw_plus) := ⟨rfl, rfl, rfl, by decide +kernel, rfl, by decide +kernel, by decide +kernel⟩
theorem ok_raw_plus (Z : Env K mg) (C_made : Cal P w K mg base k "made" 2 S_made) (F : FnP K "raw_plus" s_raw_plus f fd) : FnOk P w K mg base (L2.CX P w) (k + 1) f fd ["x", "y"] (spS K mg 2 S_raw_plus) := fn_ok F sc_raw_plus fun cdv A outer s H E ws Q Y hr hS hl => by
  obtain ⟨a, b, c, d, rfl, ha, hb, hc, hd, hok, hQ⟩ := hS
  refine wb_one (ws_ret ?_)
  refine we_call C_made hr (Nat.le_refl _) rfl ?_
  refine wa_cons ?_
  refine we_add ?_
  refine we_mul ?_
  refine we_ix ?_
  refine we_slot 0 rfl (.inl rfl) rfl rfl ?_
  refine we_int ?_
  refine ⟨_, _, _, rfl, rfl, rfl, ?_⟩
  refine we_ix ?_
  refine we_slot 1 rfl (.inl rfl) rfl rfl ?_
  refine we_int ?_
  refine ⟨_, _, _, rfl, rfl, rfl, ?_⟩
  refine ⟨_, _, rfl, rfl, Bd.cmul (m := 2000) (n := 2000) (by assumption) (by assumption) (by decide) (by decide) (by decide), ?_⟩
  refine we_mul ?_
  refine we_ix ?_
  refine we_slot 1 rfl (.inl rfl) rfl rfl ?_
  refine we_int ?_
  refine ⟨_, _, _, rfl, rfl, rfl, ?_⟩
  refine we_ix ?_
  refine we_slot 0 rfl (.inl rfl) rfl rfl ?_
  refine we_int ?_
  refine ⟨_, _, _, rfl, rfl, rfl, ?_⟩
  refine ⟨_, _, rfl, rfl, Bd.cmul (m := 2000) (n := 2000) (by assumption) (by assumption) (by decide) (by decide) (by decide), ?_⟩
  refine ⟨_, _, rfl, rfl, ?_⟩
  refine ⟨rfl, ?_⟩
  refine wa_cons ?_
  refine we_mul ?_
  refine we_ix ?_
  refine we_slot 0 rfl (.inl rfl) rfl rfl ?_
  refine we_int ?_
  refine ⟨_, _, _, rfl, rfl, rfl, ?_⟩
  refine we_ix ?_
  refine we_slot 1 rfl (.inl rfl) rfl rfl ?_
  refine we_int ?_
  refine ⟨_, _, _, rfl, rfl, rfl, ?_⟩
  refine ⟨_, _, rfl, rfl, Bd.cmul (m := 2000) (n := 2000) (by assumption) (by assumption) (by decide) (by decide) (by decide), ?_⟩
  refine ⟨rfl, ?_⟩
  refine wa_nil ?_
  refine ⟨rfl, rfl, ?_⟩
  -- contract of made
  exact ⟨_, _, rfl, Int.mul_ne_zero hok.1 hok.2, (hb.mul hd).mono (by decide), _, rfl, hQ⟩
theorem sc_raw_less : FnScope ["x", "y"] ["x", "y"] (defScope s_raw_less) := ⟨rfl, rfl, rfl, by decide +kernel, rfl, by decide +kernel, by decide +kernel⟩
theorem ok_raw_less (Z : Env K mg) (C_made : Cal P w K mg base k "made" 2 S_made) (F : FnP K "raw_less" s_raw_less f fd) : FnOk P w K mg base (L2.CX P w) (k + 1) f fd ["x", "y"] (spS K mg 2 S_raw_less) := fn_ok F sc_raw_less fun cdv A outer s H E ws Q Y hr hS hl => by
  obtain ⟨a, b, c, d, rfl, ha, hb, hc, hd, hok, hQ⟩ := hS
  refine wb_one (ws_ret ?_)
  refine we_call C_made hr (Nat.le_refl _) rfl ?_
  refine wa_cons ?_
  refine we_sub ?_
  refine we_mul ?_
  refine we_ix ?_
  refine we_slot 0 rfl (.inl rfl) rfl rfl ?_
  refine we_int ?_
  refine ⟨_, _, _, rfl, rfl, rfl, ?_⟩
  refine we_ix ?_
  refine we_slot 1 rfl (.inl rfl) rfl rfl ?_
  refine we_int ?_
  refine ⟨_, _, _, rfl, rfl, rfl, ?_⟩
  refine ⟨_, _, rfl, rfl, Bd.cmul (m := 2000) (n := 2000) (by assumption) (by assumption) (by decide) (by decide) (by decide), ?_⟩
  refine we_mul ?_
  refine we_ix ?_
  refine we_slot 1 rfl (.inl rfl) rfl rfl ?_
  refine we_int ?_
  refine ⟨_, _, _, rfl, rfl, rfl, ?_⟩
  refine we_ix ?_
  refine we_slot 0 rfl (.inl rfl) rfl rfl ?_
  refine we_int ?_
  refine ⟨_, _, _, rfl, rfl, rfl, ?_⟩
  refine ⟨_, _, rfl, rfl, Bd.cmul (m := 2000) (n := 2000) (by assumption) (by assumption) (by decide) (by decide) (by decide), ?_⟩
  refine ⟨_, _, rfl, rfl, ?_⟩
  refine ⟨rfl, ?_⟩
  refine wa_cons ?_
  refine we_mul ?_
  refine we_ix ?_
  refine we_slot 0 rfl (.inl rfl) rfl rfl ?_
  refine we_int ?_
  refine ⟨_, _, _, rfl, rfl, rfl, ?_⟩
  refine we_ix ?_
  refine we_slot 1 rfl (.inl rfl) rfl rfl ?_
  refine we_int ?_
  refine ⟨_, _, _, rfl, rfl, rfl, ?_⟩
  refine ⟨_, _, rfl, rfl, Bd.cmul (m := 2000) (n := 2000) (by assumption) (by assumption) (by decide) (by decide) (by decide), ?_⟩
  refine ⟨rfl, ?_⟩
  refine wa_nil ?_
  refine ⟨rfl, rfl, ?_⟩
  -- contract of made
  exact ⟨_, _, rfl, Int.mul_ne_zero hok.1 hok.2, (hb.mul hd).mono (by decide), _, rfl, hQ⟩
theorem sc_raw_at_most : FnScope ["x", "y"] ["x", "y"] (defScope s_raw_at_most) := ⟨rfl, rfl, rfl, by decide +kernel, rfl, by decide +kernel, by decide +kernel⟩
theorem ok_raw_at_most (Z : Env K mg)  (F : FnP K "raw_at_most" s_raw_at_most f fd) : FnOk P w K mg base (L2.CX P w) (k + 1) f fd ["x", "y"] (spS K mg 2 S_raw_at_most) := fn_ok F sc_raw_at_most fun cdv A outer s H E ws Q Y hr hS hl => by
  obtain ⟨a, b, c, d, rfl, ha, hb, hc, hd, hok, hQ⟩ := hS
  refine wb_one (ws_ret ?_)
  refine we_cmpI op_le (nomark _) ?_
  refine we_mul ?_
  refine we_ix ?_
  refine we_slot 0 rfl (.inl rfl) rfl rfl ?_
  refine we_int ?_
  refine ⟨_, _, _, rfl, rfl, rfl, ?_⟩
  refine we_ix ?_
  refine we_slot 1 rfl (.inl rfl) rfl rfl ?_
  refine we_int ?_
  refine ⟨_, _, _, rfl, rfl, rfl, ?_⟩
  refine ⟨_, _, rfl, rfl, Bd.cmul (m := 2000) (n := 2000) (by assumption) (by assumption) (by decide) (by decide) (by decide), ?_⟩
  refine we_mul ?_
  refine we_ix ?_
  refine we_slot 1 rfl (.inl rfl) rfl rfl ?_
  refine we_int ?_
  refine ⟨_, _, _, rfl, rfl, rfl, ?_⟩
  refine we_ix ?_
  refine we_slot 0 rfl (.inl rfl) rfl rfl ?_
  refine we_int ?_
  refine ⟨_, _, _, rfl, rfl, rfl, ?_⟩
  refine ⟨_, _, rfl, rfl, Bd.cmul (m := 2000) (n := 2000) (by assumption) (by assumption) (by decide) (by decide) (by decide), ?_⟩
  refine ⟨_, _, rfl, rfl, ?_⟩
  exact ⟨_, rfl, hQ⟩
theorem fr_inj {a b c d : Int} (h : fr a b = fr c d) : a = c ∧ b = d := by
  unfold fr at h
  injection h with h
  injection h with h1 h2
  injection h2 with h2 _
  injection h1 with h1
  injection h2 with h2
  exact ⟨h1, h2⟩
theorem isFr_pos {a b : Int} (h : isFr (fr a b) = true) : 0 < b := by
  rw [isFr_fr, Bool.and_eq_true] at h
  simpa using h.1
end
theorem low_spec {a b : Int} (hb : b ≠ 0) : ∃ s x y : Int, s ≠ 0 ∧ a = s * x ∧ b = s * y ∧ 0 < y ∧ gcdI x y = 1 ∧ low a b = fr x y ∧ x.natAbs ≤ a.natAbs ∧ y.natAbs ≤ b.natAbs := by
  have g0 : 0 < Int.gcd a b := Nat.pos_of_ne_zero fun q => hb (Int.gcd_eq_zero_iff.mp q).2
  obtain ⟨x0, hx⟩ := Int.gcd_dvd_left a b
  obtain ⟨y0, hy⟩ := Int.gcd_dvd_right a b
  have g1 : ((Int.gcd a b : Nat) : Int) ≠ 0 := by omega
  have hco : Int.gcd x0 y0 = 1 := by
    have h := Int.gcd_ediv_gcd_ediv_gcd (i := a) (j := b) g0
    have e1 : a / (Int.gcd a b : Nat) = x0 := by
      conv => lhs; lhs; rw [hx]
      exact Int.mul_ediv_cancel_left _ g1
    have e2 : b / (Int.gcd a b : Nat) = y0 := by
      conv => lhs; lhs; rw [hy]
      exact Int.mul_ediv_cancel_left _ g1
    rw [e1, e2] at h
    exact h
  have bx : x0.natAbs ≤ a.natAbs := by
    have e : a.natAbs = Int.gcd a b * x0.natAbs := by
      conv => lhs; rw [hx]
      rw [Int.natAbs_mul, Int.natAbs_natCast]
    rw [e]
    exact Nat.le_mul_of_pos_left _ g0
  have by_ : y0.natAbs ≤ b.natAbs := by
    have e : b.natAbs = Int.gcd a b * y0.natAbs := by
      conv => lhs; rw [hy]
      rw [Int.natAbs_mul, Int.natAbs_natCast]
    rw [e]
    exact Nat.le_mul_of_pos_left _ g0
  have y1 : y0 ≠ 0 := fun q => by
    rw [q, Int.mul_zero] at hy
    exact hb hy
  by_cases h : b < 0
  · refine ⟨-gcdI a b, -x0, -y0, ?_, ?_, ?_, ?_, ?_, ?_, by rw [Int.natAbs_neg]; exact bx, by rw [Int.natAbs_neg]; exact by_⟩
    · unfold gcdI
      omega
    · unfold gcdI
      rw [Int.neg_mul_neg]
      exact hx
    · unfold gcdI
      rw [Int.neg_mul_neg]
      exact hy
    · have : ¬ 0 < y0 := fun q => by
        have := Int.mul_pos (show (0 : Int) < (Int.gcd a b : Nat) by omega) q
        omega
      omega
    · unfold gcdI
      rw [Int.gcd_neg, Int.neg_gcd, hco]
      rfl
    · unfold low
      rw [if_pos h]
      have e1 : a.fdiv (-gcdI a b) = -x0 := by
        have e : a = (-gcdI a b) * (-x0) := by
          unfold gcdI
          rw [Int.neg_mul_neg]
          exact hx
        conv => lhs; lhs; rw [e]
        exact Int.mul_fdiv_cancel_left _ (by unfold gcdI; omega)
      have e2 : b.fdiv (-gcdI a b) = -y0 := by
        have e : b = (-gcdI a b) * (-y0) := by
          unfold gcdI
          rw [Int.neg_mul_neg]
          exact hy
        conv => lhs; lhs; rw [e]
        exact Int.mul_fdiv_cancel_left _ (by unfold gcdI; omega)
      rw [e1, e2]
  · refine ⟨gcdI a b, x0, y0, g1, hx, hy, ?_, ?_, ?_, bx, by_⟩
    · have : ¬ y0 < 0 := fun q => by
        have := Int.mul_neg_of_pos_of_neg (show (0 : Int) < (Int.gcd a b : Nat) by omega) q
        omega
      omega
    · unfold gcdI
      rw [hco]
      rfl
    · unfold low
      rw [if_neg h]
      have e1 : a.fdiv (gcdI a b) = x0 := by
        conv => lhs; lhs; rw [hx]
        exact Int.mul_fdiv_cancel_left _ g1
      have e2 : b.fdiv (gcdI a b) = y0 := by
        conv => lhs; lhs; rw [hy]
        exact Int.mul_fdiv_cancel_left _ g1
      rw [e1, e2]
theorem low_uniq {x y c d : Int} (hy : 0 < y) (hd : 0 < d) (h1 : gcdI x y = 1) (h2 : gcdI c d = 1) (h : x * d = c * y) : x = c ∧ y = d := by
  have k1 : Nat.Coprime x.natAbs y.natAbs := by
    unfold gcdI at h1
    exact Int.ofNat.inj h1
  have k2 : Nat.Coprime c.natAbs d.natAbs := by
    unfold gcdI at h2
    exact Int.ofNat.inj h2
  have hn : x.natAbs * d.natAbs = c.natAbs * y.natAbs := by
    rw [← Int.natAbs_mul, h, Int.natAbs_mul]
  have d1 : y.natAbs ∣ d.natAbs := Nat.Coprime.dvd_of_dvd_mul_left k1.symm ⟨c.natAbs, by rw [hn, Nat.mul_comm]⟩
  have d2 : d.natAbs ∣ y.natAbs := Nat.Coprime.dvd_of_dvd_mul_left k2.symm ⟨x.natAbs, by rw [← hn, Nat.mul_comm]⟩
  have e : y.natAbs = d.natAbs := Nat.dvd_antisymm d1 d2
  have e2 : y = d := by omega
  subst e2
  exact ⟨Int.eq_of_mul_eq_mul_right (by omega) h, rfl⟩
/-- equal as quotients: the same in lowest terms -/
theorem low_eq {a b c d : Int} (hb : b ≠ 0) (hd : d ≠ 0) (h : a * d = c * b) : low a b = low c d := by
  obtain ⟨s, x, y, s0, rfl, rfl, hy, hg, e1, _⟩ := low_spec (a := a) hb
  obtain ⟨t, z, u, t0, rfl, rfl, hu, hg2, e2, _⟩ := low_spec (a := c) hd
  have hm : x * u = z * y := by
    have e : (s * t) * (x * u) = (s * t) * (z * y) := by
      calc (s * t) * (x * u) = (s * x) * (t * u) := by ac_rfl
        _ = (t * z) * (s * y) := h
        _ = (s * t) * (z * y) := by ac_rfl
    exact Int.eq_of_mul_eq_mul_left (Int.mul_ne_zero s0 t0) e
  obtain ⟨rfl, rfl⟩ := low_uniq hy hu hg hg2 hm
  rw [e1, e2]
theorem low_of {a b : Int} (hb : 0 < b) (hg : gcdI a b = 1) : low a b = fr a b := by
  unfold low
  rw [if_neg (by omega), hg]
  rw [Int.fdiv_one, Int.fdiv_one]
theorem low_isFr {a b : Int} (hb : b ≠ 0) : ∃ x y, low a b = fr x y ∧ 0 < y ∧ gcdI x y = 1 ∧ x.natAbs ≤ a.natAbs ∧ y.natAbs ≤ b.natAbs ∧ x * b = a * y := by
  obtain ⟨s, x, y, s0, h1, h2, hy, hg, e, b1, b2⟩ := low_spec (a := a) hb
  refine ⟨x, y, e, hy, hg, b1, b2, ?_⟩
  rw [h1, h2]
  ac_rfl

end K48

namespace K48
open PySem PySem.Spec PyProof.Rows L2 PL
/-! ### kinds, riches, cards -/
inductive Kd where
  | int | flag | list (k : Kd) | tree (k : Kd) | pair (a b : Kd) | either (a b : Kd)
def Kd.d : Kd → D
  | .int => .str "int"
  | .flag => .str "flag"
  | .list k => .tup [.str "list", k.d]
  | .tree k => .tup [.str "tree", k.d]
  | .pair a b => .tup [.str "pair", a.d, b.d]
  | .either a b => .tup [.str "either", a.d, b.d]
def Kd.ht : Kd → Nat
  | .int => 0
  | .flag => 0
  | .list k => k.ht + 1
  | .tree k => k.ht + 1
  | .pair a b => max a.ht b.ht + 1
  | .either a b => max a.ht b.ht + 1
def Kd.many : Kd → Nat
  | .int => 0
  | .flag => 0
  | .list k => 1 + k.many
  | .tree k => 1 + k.many
  | .pair a b => a.many + b.many
  | .either a b => 2 + (a.many + b.many)
/-- an amount, by its halves -/
def am (z : Int) : D := low z 2
inductive Rc where
  | leaf | one (n : Int) (r : Rc) | two (a b : Rc) | four (n : Int) (a : Rc) (m : Int) (b : Rc)
def Rc.d : Rc → D
  | .leaf => .tup []
  | .one n r => .tup [am n, r.d]
  | .two a b => .tup [a.d, b.d]
  | .four n a m b => .tup [am n, a.d, am m, b.d]
def Rc.flat : Rc → List Int
  | .leaf => []
  | .one n r => n :: r.flat
  | .two a b => a.flat ++ b.flat
  | .four n a m b => n :: a.flat ++ m :: b.flat
/-- a rich of a kind, its amounts from 0 to 1000 halves -/
def sm (n : Int) : Prop := 0 ≤ n ∧ n ≤ 1000
def Rc.fits : Kd → Rc → Prop
  | .int, .leaf => True
  | .flag, .leaf => True
  | .list k, .one n r => sm n ∧ Rc.fits k r
  | .tree k, .one n r => sm n ∧ Rc.fits k r
  | .pair a b, .two r s => Rc.fits a r ∧ Rc.fits b s
  | .either a b, .four n r m s => (sm n ∧ sm m) ∧ (Rc.fits a r ∧ Rc.fits b s)
  | _, _ => False
def Rc.zip (f : Int → Int → Int) : Rc → Rc → Rc
  | .one n r, .one m s => .one (f n m) (Rc.zip f r s)
  | .two a b, .two c d => .two (Rc.zip f a c) (Rc.zip f b d)
  | .four n a m b, .four n' c m' d => .four (f n n') (Rc.zip f a c) (f m m') (Rc.zip f b d)
  | _, _ => .leaf
/-- the one covers the other -/
def cov (r s : Rc) : Bool := (List.zipWith (fun a b => decide (b ≤ a)) r.flat s.flat).all id
structure Cd where
  ins : List Rc
  paid : Int
  out : Rc
  left : Int
def dTup (ds : List D) : D := .tup ds
def Cd.d (c : Cd) : D := .tup [.tup (c.ins.map Rc.d), am c.paid, c.out.d, am c.left]
def ksD (ks : List Kd) : D := .tup (ks.map Kd.d)
/-- kinds as drawn -/
def kOk (k : Kd) : Prop := k.ht ≤ 2
def ksOk (ks : List Kd) : Prop := ks.length ≤ 4 ∧ ∀ k ∈ ks, kOk k
def sm2 (n : Int) : Prop := 0 ≤ n ∧ n ≤ 100000
def fitAll : List Kd → List Rc → Prop
  | [], [] => True
  | k :: ks, r :: rs => r.fits k ∧ fitAll ks rs
  | _, _ => False
structure Cd.fits (ks : List Kd) (k : Kd) (c : Cd) : Prop where
  ins : fitAll ks c.ins
  paid : sm2 c.paid
  out : c.out.fits k
  left : sm2 c.left
/-- things that are no kind -/
def odd (d : D) : Prop := d = .non ∨ d = .int 0 ∨ d = .tup [.str "list"] ∨ d = .tup [.str "int", .str "int"] ∨ d = .lst [.str "list", .str "int"]
/-- things that are no card -/
def bad (ks : List Kd) (k : Kd) (d : D) : Prop := d = .non ∨ ∃ c : Cd, c.fits ks k ∧
  (d = .tup [.tup (c.ins.map Rc.d), am c.paid, c.out.d] ∨ d = .lst [.tup (c.ins.map Rc.d), am c.paid, c.out.d, am c.left] ∨ d = .tup [.tup (c.ins.map Rc.d ++ [.tup []]), am c.paid, c.out.d, am c.left] ∨
    d = .tup [.tup (c.ins.map Rc.d), fr (-1) 1, c.out.d, am c.left] ∨ d = .tup [.tup (c.ins.map Rc.d), am c.paid, c.out.d, fr 2 2] ∨ d = .tup [.tup (c.ins.map Rc.d), .int 1, c.out.d, am c.left])
def soB (c e : Cd) : Bool := (List.zipWith (fun mine its => cov its mine) c.ins e.ins).all id && cov c.out e.out
def lack (c e : Cd) : Int := max 0 (max (c.paid - e.paid) (c.paid - e.paid + (e.left - c.left)))
def srv (c e : Cd) : Bool := soB c e && decide (lack c e = 0)
def both (c e : Cd) : Cd := ⟨List.zipWith (Rc.zip max) c.ins e.ins, max c.paid e.paid, Rc.zip min c.out e.out, min (c.left + (max c.paid e.paid - c.paid)) (e.left + (max c.paid e.paid - e.paid))⟩
/-! ### what is promised -/
abbrev v (d : D) : W := .val d
def bd9 (z : Int) : Prop := z.natAbs ≤ 10000000
def S_raw_lesser : Sem1 := fun ws P _ => ∃ x y : Int, ws = [v (am x), v (am y)] ∧ bd9 x ∧ bd9 y ∧ P (am (min x y))
def S_raw_greater : Sem1 := fun ws P _ => ∃ x y : Int, ws = [v (am x), v (am y)] ∧ bd9 x ∧ bd9 y ∧ P (am (max x y))
def S_plus2 : Sem1 := fun ws P _ => ∃ x y : Int, ws = [v (am x), v (am y)] ∧ bd9 x ∧ bd9 y ∧ P (am (x + y))
def S_less2 : Sem1 := fun ws P _ => ∃ x y : Int, ws = [v (am x), v (am y)] ∧ bd9 x ∧ bd9 y ∧ P (am (x - y))
def S_most2 : Sem1 := fun ws P _ => ∃ x y : Int, ws = [v (am x), v (am y)] ∧ bd9 x ∧ bd9 y ∧ P (.bl (decide (x ≤ y)))
def S_am2 : Sem1 := fun ws P _ => (∃ x : Int, ws = [v (am x)] ∧ 0 ≤ x ∧ bd9 x ∧ P (.bl true)) ∨ (∃ d, ws = [v d] ∧ (d = fr (-1) 1 ∨ d = fr 2 2 ∨ d = .int 1) ∧ P (.bl false))
def S_has_kind_form : Sem1 := fun ws P _ => (∃ k : Kd, ws = [v k.d] ∧ 0 < k.ht ∧ P (.bl true)) ∨ (∃ d, ws = [v d] ∧ odd d ∧ P (.bl false))
def S_is_kind : Sem1 := fun ws P _ => (∃ k : Kd, ws = [v k.d] ∧ kOk k ∧ P (.bl true)) ∨ (∃ d, ws = [v d] ∧ odd d ∧ P (.bl false))
def S_check_kind : Sem1 := fun ws P _ => ∃ k : Kd, ws = [v k.d] ∧ kOk k ∧ P .non
def S_raw_is_rich (n : Nat) : Sem1 := fun ws P _ => ∃ (k : Kd) (r : Rc), ws = [v k.d, v r.d] ∧ k.ht < n ∧ r.fits k ∧ P (.bl true)
def S_check_rich : Sem1 := fun ws P _ => ∃ (k : Kd) (r : Rc), ws = [v k.d, v r.d] ∧ kOk k ∧ r.fits k ∧ P .non
def ams (zs : List Int) : D := .lst (zs.map am)
def S_raw_amounts (n : Nat) : Sem1 := fun ws P _ => ∃ (k : Kd) (r : Rc), ws = [v k.d, v r.d] ∧ k.ht < n ∧ r.fits k ∧ P (ams r.flat)
def S_raw_many (n : Nat) : Sem1 := fun ws P _ => ∃ k : Kd, ws = [v k.d] ∧ k.ht < n ∧ P (.int k.many)
def S_raw_rich (n : Nat) : Sem1 := fun ws P _ => ∃ (k : Kd) (r : Rc), ws = [v k.d, v (ams r.flat)] ∧ k.ht < n ∧ r.fits k ∧ P r.d
def S_amounts_of : Sem1 := fun ws P _ => ∃ (k : Kd) (r : Rc), ws = [v k.d, v r.d] ∧ kOk k ∧ r.fits k ∧ P (.tup (r.flat.map am))
def S_two (g : Rc → Rc → D) : Sem1 := fun ws P _ => ∃ (k : Kd) (r s : Rc), ws = [v k.d, v r.d, v s.d] ∧ kOk k ∧ r.fits k ∧ s.fits k ∧ P (g r s)
def S_raw_covers : Sem1 := S_two fun r s => .bl (cov r s)
def S_check_both : Sem1 := S_two fun _ _ => .non
def S_covers : Sem1 := S_two fun r s => .bl (cov r s)
def S_joined : Sem1 := S_two fun r s => (Rc.zip max r s).d
def S_met : Sem1 := S_two fun r s => (Rc.zip min r s).d
def S_are_kinds : Sem1 := fun ws P _ => (∃ ks, ws = [v (ksD ks)] ∧ ksOk ks ∧ P (.bl true)) ∨ (∃ d, ws = [v (.tup [d])] ∧ odd d ∧ P (.bl false))
/-- a card, or none -/
def cardOr (ks : List Kd) (k : Kd) (d : D) (P : Bool → Prop) : Prop := (∃ c : Cd, d = c.d ∧ c.fits ks k ∧ P true) ∨ (bad ks k d ∧ P false)
def S_is_card_by : Sem1 := fun ws P _ => ∃ (ks : List Kd) (k : Kd) (d : D), ws = [v (ksD ks), v k.d, v d] ∧ ksOk ks ∧ kOk k ∧ cardOr ks k d fun b => P (.bl b)
def cards (cs : List Cd) : D := .tup (cs.map Cd.d)
def S_are_cards_by : Sem1 := fun ws P _ => ∃ (ks : List Kd) (k : Kd) (ds : List D), ws = [v (ksD ks), v k.d, v (.tup ds)] ∧ ksOk ks ∧ kOk k ∧
  ((∃ cs : List Cd, ds = cs.map Cd.d ∧ cs.length ≤ 4 ∧ (∀ c ∈ cs, c.fits ks k) ∧ P (.bl true)) ∨ (4 < ds.length ∧ P (.bl false)) ∨ (∃ (c : Cd) (x : D), ds = [c.d, x] ∧ c.fits ks k ∧ bad ks k x ∧ P (.bl false)))
def S_check_kinds : Sem1 := fun ws P Y => (∃ ks k, ws = [v (ksD ks), v (Kd.d k)] ∧ ksOk ks ∧ kOk k ∧ P .non) ∨ (∃ ks d, ws = [v (ksD ks), v d] ∧ ksOk ks ∧ odd d ∧ Y "NoKind") ∨ (∃ d k, ws = [v (.tup [d]), v (Kd.d k)] ∧ odd d ∧ kOk k ∧ Y "NoKind")
/-- kinds and two things: refused, or let -/
def pairOr (ws : List W) (R : List Kd → Kd → Cd → Cd → Prop) (Y : Str → Prop) : Prop :=
  (∃ ks k c e, ws = [v (ksD ks), v (Kd.d k), v (Cd.d c), v (Cd.d e)] ∧ ksOk ks ∧ kOk k ∧ Cd.fits ks k c ∧ Cd.fits ks k e ∧ R ks k c e) ∨
  (∃ ks d x y, ws = [v (ksD ks), v d, v x, v y] ∧ ksOk ks ∧ odd d ∧ Y "NoKind") ∨ (∃ d k x y, ws = [v (.tup [d]), v (Kd.d k), v x, v y] ∧ odd d ∧ kOk k ∧ Y "NoKind") ∨
  (∃ ks k c x, ws = [v (ksD ks), v (Kd.d k), v (Cd.d c), v x] ∧ ksOk ks ∧ kOk k ∧ Cd.fits ks k c ∧ bad ks k x ∧ Y "NoCard")
def S_check_pair : Sem1 := fun ws P Y => pairOr ws (fun _ _ _ _ => P .non) Y
def S_pair (g : Cd → Cd → D) : Sem1 := fun ws P _ => ∃ ks k c e, ws = [v (ksD ks), v (Kd.d k), v (Cd.d c), v (Cd.d e)] ∧ ksOk ks ∧ kOk k ∧ Cd.fits ks k c ∧ Cd.fits ks k e ∧ P (g c e)
def S_are_riches_so : Sem1 := S_pair fun c e => .bl (soB c e)
def shortD (c e : Cd) : D := if soB c e = true then am (lack c e) else .non
def S_raw_shortfall : Sem1 := S_pair shortD
def S_raw_serves : Sem1 := S_pair fun c e => .bl (srv c e)
def S_serves : Sem1 := fun ws P Y => pairOr ws (fun _ _ c e => P (.bl (srv c e))) Y
def S_shortfall : Sem1 := fun ws P Y => pairOr ws (fun _ _ c e => P (shortD c e)) Y
def S_both_serve : Sem1 := fun ws P Y => pairOr ws (fun _ _ c e => P (both c e).d) Y
/-- the first that serves -/
def first (e : Cd) : List Cd → Nat → D
  | [], _ => .non
  | c :: cs, i => if srv c e = true then .int i else first e cs (i + 1)
def S_raw_serving : Sem1 := fun ws P _ => ∃ (ks : List Kd) (k : Kd) (cs : List Cd) (e : Cd), ws = [v (ksD ks), v k.d, v (cards cs), v e.d] ∧ ksOk ks ∧ kOk k ∧ cs.length ≤ 4 ∧ (∀ c ∈ cs, c.fits ks k) ∧ e.fits ks k ∧ P (first e cs 0)
def S_serving : Sem1 := fun ws P Y => ∃ (ks : List Kd) (k : Kd) (ds : List D) (x : D), ws = [v (ksD ks), v k.d, v (.tup ds), v x] ∧ ksOk ks ∧ kOk k ∧
  ((∃ (cs : List Cd) (e : Cd), ds = cs.map Cd.d ∧ x = e.d ∧ cs.length ≤ 4 ∧ (∀ c ∈ cs, c.fits ks k) ∧ e.fits ks k ∧ P (first e cs 0)) ∨ (4 < ds.length ∧ Y "NoCards") ∨
    (∃ (c : Cd) (y : D), ds = [c.d, y] ∧ c.fits ks k ∧ bad ks k y ∧ Y "NoCards") ∨ (∃ c : Cd, ds = [c.d] ∧ c.fits ks k ∧ bad ks k x ∧ Y "NoCard"))
/-! .. of the law -/
def GoodH (ds : List D) : Prop := ∃ (cs : List Int) (i r m t : Int), ds = [.lst (cs.map D.int), .int i, .int r, .int m, .int t] ∧ (∀ c ∈ cs, 0 ≤ c) ∧ 0 ≤ i ∧ 0 ≤ r ∧ 0 ≤ m ∧ 0 ≤ t
def S__law_hand : Sem1 := fun ws P _ => ∃ ns : List Int, ws = [v (.ro (ns.map D.int))] ∧ ns.length ≤ 1000 ∧ ∀ (cs : List Int) (m : Int), (∀ c ∈ cs, 0 ≤ c) → 0 ≤ m → P (.lst [.lst (cs.map D.int), .int 0, .int 0, .int m, .int 0])
def S__law_draw : Sem1 := fun ws P _ => ∃ many : Int, ws = [.hnd, v (.int many)] ∧ 0 < many ∧ many ≤ 1000 ∧ ∀ i : Int, 0 ≤ i → i < many → P (.int i)
def S__law_any : Sem1 := fun ws P _ => ∃ ds : List D, ws = [.hnd, v (.lst ds)] ∧ ds ≠ [] ∧ ds.length ≤ 1000 ∧ ∀ d ∈ ds, P d
def S__law_is : Sem1 := fun ws P _ => ∃ d p, ws = [v d, v d] ∧ D.rp d p ∧ P (.bl true)
def S__law_amount : Sem1 := fun ws P _ => ∃ z : Int, ws = [v (.int z)] ∧ bd9 z ∧ P (am z)
def S__law_halves : Sem1 := fun ws P _ => ∃ z : Int, ws = [v (am z)] ∧ bd9 z ∧ P (.int z)
def S__law_kind (n : Nat) : Sem1 := fun ws P _ => ∃ h : Nat, ws = [.hnd, v (.int h)] ∧ h < n ∧ ∀ k : Kd, k.ht ≤ h → P k.d
def S__law_rich (n : Nat) : Sem1 := fun ws P _ => ∃ k : Kd, ws = [.hnd, v k.d] ∧ k.ht < n ∧ ∀ r : Rc, r.fits k → P r.d
def S__law_flat (n : Nat) : Sem1 := fun ws P _ => ∃ (k : Kd) (r : Rc), ws = [v k.d, v r.d] ∧ k.ht < n ∧ r.fits k ∧ P (.lst (r.flat.map D.int))
def S__law_drawn : Sem1 := fun ws P _ => ∃ ks k, ws = [.hnd, v (ksD ks), v (Kd.d k)] ∧ ksOk ks ∧ kOk k ∧ ∀ c : Cd, c.fits ks k → c.paid ≤ 1000 → c.left ≤ 1000 → P c.d
def S__law_near : Sem1 := fun ws P _ => ∃ ks k c, ws = [.hnd, v (ksD ks), v (Kd.d k), v (Cd.d c)] ∧ ksOk ks ∧ kOk k ∧ (Cd.fits ks k c ∧ c.paid ≤ 1000 ∧ c.left ≤ 1000) ∧ ∀ e : Cd, e.fits ks k → e.paid ≤ 1000 → e.left ≤ 1000 → P e.d
def S__law_fits : Sem1 := fun ws P _ => (∃ ks k c e, ws = [v (ksD ks), v (Kd.d k), v (Cd.d c), v (Cd.d e)] ∧ ksOk ks ∧ kOk k ∧ Cd.fits ks k c ∧ Cd.fits ks k e ∧ P (.bl (soB c e))) ∨
  (∃ ks k c e, ws = [v (.tup []), v (Kd.d k), v (Cd.d c), v (Cd.d e)] ∧ ksOk ks ∧ kOk k ∧ Cd.fits ks k c ∧ Cd.fits ks k e ∧ P (.bl (cov c.out e.out)))
def S__law_lack : Sem1 := S_pair2 fun c e => .int (lack c e)
where S_pair2 (g : Cd → Cd → D) : Sem1 := fun ws P _ => ∃ ks k c e, ws = [v (Cd.d c), v (Cd.d e)] ∧ ksOk ks ∧ kOk k ∧ Cd.fits ks k c ∧ Cd.fits ks k e ∧ P (g c e)
def S__law_raised : Sem1 := fun ws P _ => ∃ ks k c, ∃ z : Int, ws = [v (Cd.d c), v (.int z)] ∧ Cd.fits ks k c ∧ 0 ≤ c.paid + z ∧ z.natAbs ≤ 500000 ∧ P (Cd.d { c with paid := c.paid + z })
def S__law_both : Sem1 := S_pair fun c e => (both c e).d
end K48

namespace K48
open PySem PySem.Spec PyProof.Rows L2 PL
variable [Hand]
structure HandOk (K : PySem.W.Frag) (mg : Str → Option Value) : Prop where
  op : ∀ F o, Hand.HI F o → ∃ ds xs, o = .lst xs ∧ RDs K mg F ds xs ∧ GoodH ds
  cl : ∀ (F : Hp) (ds : List D) (xs : List V), RDs K mg F ds xs → GoodH ds → Hand.HI F (.lst xs)
section
variable {P : Program} {w : World} {K : PySem.W.Frag} {mg : Str → Option Value} {base : Heap} {f : Addr} {k : Nat}
theorem sc_raw_lesser : FnScope ["x", "y"] ["x", "y"] (defScope s_raw_lesser) := ⟨rfl, rfl, rfl, by decide +kernel, rfl, by decide +kernel, by decide +kernel⟩
def m_raw_lesser : MS :=
    (sRet (xIf (tVal (xCall S_most2 2 (aCons (xSlot 0) (aCons (xSlot 1) aNil)))) (xSlot 0) (xSlot 1)))
theorem w_raw_lesser (Z : Env K mg) (C_raw_at_most : Cal P w K mg base k "raw_at_most" 2 S_most2) {cdv : Value} {A : Around} {outer : List PySem.Env} {s : Shared} {H : Hp} {E : XK} (hr : Room k (A.deeper (envOfC "raw_lesser" (defScope s_raw_lesser) s.heap.objs.size f cdv))) : SndB (cxOf (L2.CX P w) P w K mg base ["x", "y"] "raw_lesser" (defScope s_raw_lesser) f cdv A outer s H E) (defBody s_raw_lesser) (m_raw_lesser) := by
  refine sb_one ?_
  refine ss_ret ?_
  refine s_if ?_ ?_ ?_
  refine st_val ?_
  refine s_call C_raw_at_most hr (Nat.le_refl _) rfl ?_
  refine s_acons ?_ ?_
  exact s_slot 0 rfl (.inl rfl)
  refine s_acons ?_ ?_
  exact s_slot 1 rfl (.inl rfl)
  exact s_anil
  exact s_slot 0 rfl (.inl rfl)
  exact s_slot 1 rfl (.inl rfl)
theorem sc_raw_greater : FnScope ["x", "y"] ["x", "y"] (defScope s_raw_greater) := ⟨rfl, rfl, rfl, by decide +kernel, rfl, by decide +kernel, by decide +kernel⟩
def m_raw_greater : MS :=
    (sRet (xIf (tVal (xCall S_most2 2 (aCons (xSlot 0) (aCons (xSlot 1) aNil)))) (xSlot 1) (xSlot 0)))
theorem w_raw_greater (Z : Env K mg) (C_raw_at_most : Cal P w K mg base k "raw_at_most" 2 S_most2) {cdv : Value} {A : Around} {outer : List PySem.Env} {s : Shared} {H : Hp} {E : XK} (hr : Room k (A.deeper (envOfC "raw_greater" (defScope s_raw_greater) s.heap.objs.size f cdv))) : SndB (cxOf (L2.CX P w) P w K mg base ["x", "y"] "raw_greater" (defScope s_raw_greater) f cdv A outer s H E) (defBody s_raw_greater) (m_raw_greater) := by
  refine sb_one ?_
  refine ss_ret ?_
  refine s_if ?_ ?_ ?_
  refine st_val ?_
  refine s_call C_raw_at_most hr (Nat.le_refl _) rfl ?_
  refine s_acons ?_ ?_
  exact s_slot 0 rfl (.inl rfl)
  refine s_acons ?_ ?_
  exact s_slot 1 rfl (.inl rfl)
  exact s_anil
  exact s_slot 1 rfl (.inl rfl)
  exact s_slot 0 rfl (.inl rfl)
theorem sc_has_kind_form : FnScope ["thing"] ["thing"] (defScope s_has_kind_form) := ⟨rfl, rfl, rfl, by decide +kernel, rfl, by decide +kernel, by decide +kernel⟩
def m_has_kind_form : MS :=
    (sCons (sIf (tOr (tNot (tVal (xUn (gIs D.isTup) (xSlot 0)))) (tOr (tCmp cEqS (xUn gLen (xSlot 0)) (xVal (.int 0))) (tNot (tVal (xUn (gIs D.isStr) (xBin fIx (xSlot 0) (xVal (.int 0)))))))) (sRet (xVal (.bl false))) sNil)
    (sRet (xAnd (xInK SIZES_says (xBin fIx (xSlot 0) (xVal (.int 0)))) (xBin fEqS (xUn gLen (xSlot 0)) (xBin fAdd (xVal (.int 1)) (xItK SIZES_says (xBin fIx (xSlot 0) (xVal (.int 0)))))))))
theorem w_has_kind_form (Z : Env K mg) (SZ : Siz w K mg)  {cdv : Value} {A : Around} {outer : List PySem.Env} {s : Shared} {H : Hp} {E : XK} (hr : Room k (A.deeper (envOfC "has_kind_form" (defScope s_has_kind_form) s.heap.objs.size f cdv))) : SndB (cxOf (L2.CX P w) P w K mg base ["thing"] "has_kind_form" (defScope s_has_kind_form) f cdv A outer s H E) (defBody s_has_kind_form) (m_has_kind_form) := by
  refine sb_cons ?_ ?_
  refine ss_if ?_ ?_ ?_
  refine st_of ?_
  refine sw_or ?_ ?_
  refine st_not ?_
  refine st_val ?_
  refine s_isTup rfl Z.isinstance rfl Z.tuple ?_
  exact s_slot 0 rfl (.inl rfl)
  refine sw_or ?_ ?_
  refine st_eqS ?_ ?_
  refine s_len rfl Z.len ?_
  exact s_slot 0 rfl (.inl rfl)
  exact s_int
  refine sw_or1 ?_
  refine st_not ?_
  refine st_val ?_
  refine s_isStr rfl Z.isinstance rfl Z.str ?_
  refine s_ix ?_ ?_
  exact s_slot 0 rfl (.inl rfl)
  exact s_int
  refine sb_one ?_
  refine ss_ret ?_
  exact s_bl
  exact sb_nil
  refine sb_one ?_
  refine ss_ret ?_
  refine s_and ?_ ?_
  refine s_inK rfl SZ.at SZ.says ?_
  refine s_ix ?_ ?_
  exact s_slot 0 rfl (.inl rfl)
  exact s_int
  refine s_and1 ?_
  refine s_eqS ?_ ?_
  refine s_len rfl Z.len ?_
  exact s_slot 0 rfl (.inl rfl)
  refine s_add ?_ ?_
  exact s_int
  refine s_itK rfl SZ.at SZ.says ?_
  refine s_ix ?_ ?_
  exact s_slot 0 rfl (.inl rfl)
  exact s_int
theorem sc_is_kind : FnScope ["thing", "many", "waiting", "here"] ["thing"] (defScope s_is_kind) := ⟨rfl, rfl, rfl, by decide +kernel, rfl, by decide +kernel, by decide +kernel⟩
def m_is_kind : MS :=
    (sCons (sParO 1 2 (xVal (.int 0)) (lDisp (aCons (xSlot 0) aNil)))
    (sCons (sWhile (tCmp cGt (xUn gLen (xSlot 2)) (xVal (.int 0))) (sCons (sAsg 3 (xPop 2))
    (sCons (sAug 1 (xVal (.int 1)))
    (sCons (sIf (tCmp cGt (xSlot 1) (xVal (.int 8))) (sRet (xVal (.bl false))) sNil)
    (sIf (tVal (xUn (gIs D.isStr) (xSlot 3))) (sIf (tCmp cNotIn (xSlot 3) (xTup (aCons (xVal (.str "int")) (aCons (xVal (.str "flag")) aNil)))) (sRet (xVal (.bl false))) sNil) (sIf (tVal (xCall S_has_kind_form 1 (aCons (xSlot 3) aNil))) (sExpr (xExtS 2 (xUn gList (xSlT (xSlot 3) (oSome (xVal (.int 1))) oNone)))) (sRet (xVal (.bl false)))))))))
    (sRet (xVal (.bl true)))))
theorem w_is_kind (Z : Env K mg) (C_has_kind_form : Cal P w K mg base k "has_kind_form" 1 S_has_kind_form) {cdv : Value} {A : Around} {outer : List PySem.Env} {s : Shared} {H : Hp} {E : XK} (hr : Room k (A.deeper (envOfC "is_kind" (defScope s_is_kind) s.heap.objs.size f cdv))) : SndB (cxOf (L2.CX P w) P w K mg base ["thing", "many", "waiting", "here"] "is_kind" (defScope s_is_kind) f cdv A outer s H E) (defBody s_is_kind) (m_is_kind) := by
  refine sb_cons ?_ ?_
  refine ss_parO 1 2 rfl sc_is_kind.nd rfl rfl (by decide) rfl rfl ?_ ?_
  exact s_int
  refine so_list ?_
  refine s_acons ?_ ?_
  exact s_slot 0 rfl (.inl rfl)
  exact s_anil
  refine sb_cons ?_ ?_
  refine ss_while ?_ ?_
  refine st_gt ?_ ?_
  refine s_len rfl Z.len ?_
  exact s_slot 2 rfl (.inl rfl)
  exact s_int
  refine sb_cons ?_ ?_
  refine ss_asg 3 sc_is_kind.nd rfl (.inl rfl) ?_
  exact s_pop 2 rfl (.inl rfl)
  refine sb_cons ?_ ?_
  refine ss_aug 1 sc_is_kind.nd rfl (.inl rfl) ?_
  exact s_int
  refine sb_cons ?_ ?_
  refine ss_if ?_ ?_ ?_
  refine st_gt ?_ ?_
  exact s_slot 1 rfl (.inl rfl)
  exact s_gint rfl Z.MOST_PARTS
  refine sb_one ?_
  refine ss_ret ?_
  exact s_bl
  exact sb_nil
  refine sb_one ?_
  refine ss_if ?_ ?_ ?_
  refine st_val ?_
  refine s_isStr rfl Z.isinstance rfl Z.str ?_
  exact s_slot 3 rfl (.inl rfl)
  refine sb_one ?_
  refine ss_if ?_ ?_ ?_
  refine st_notIn ?_ ?_
  exact s_slot 3 rfl (.inl rfl)
  refine s_tup ?_
  refine s_acons ?_ ?_
  exact s_gstr rfl Z.INT
  refine s_acons ?_ ?_
  exact s_gstr rfl Z.FLAG
  exact s_anil
  refine sb_one ?_
  refine ss_ret ?_
  exact s_bl
  exact sb_nil
  refine sb_one ?_
  refine ss_if ?_ ?_ ?_
  refine st_val ?_
  refine s_call C_has_kind_form hr (Nat.le_refl _) rfl ?_
  refine s_acons ?_ ?_
  exact s_slot 3 rfl (.inl rfl)
  exact s_anil
  refine sb_one ?_
  refine ss_ext 2 rfl (.inl rfl) ?_
  refine s_list rfl Z.list ?_
  refine s_slT ?_ ?_ ?_
  exact s_slot 3 rfl (.inl rfl)
  refine s_osome ?_
  exact s_int
  exact s_onone
  refine sb_one ?_
  refine ss_ret ?_
  exact s_bl
  refine sb_one ?_
  refine ss_ret ?_
  exact s_bl
theorem sc_check_kind : FnScope ["kind"] ["kind"] (defScope s_check_kind) := ⟨rfl, rfl, rfl, by decide +kernel, rfl, by decide +kernel, by decide +kernel⟩
def m_check_kind : MS :=
    (sIf (tNot (tVal (xCall S_is_kind 1 (aCons (xSlot 0) aNil)))) (sRaise "NoKind") sNil)
theorem w_check_kind (Z : Env K mg) (C_is_kind : Cal P w K mg base k "is_kind" 1 S_is_kind) {cdv : Value} {A : Around} {outer : List PySem.Env} {s : Shared} {H : Hp} {E : XK} (hr : Room k (A.deeper (envOfC "check_kind" (defScope s_check_kind) s.heap.objs.size f cdv))) : SndB (cxOf (L2.CX P w) P w K mg base ["kind"] "check_kind" (defScope s_check_kind) f cdv A outer s H E) (defBody s_check_kind) (m_check_kind) := by
  refine sb_one ?_
  refine ss_if ?_ ?_ ?_
  refine st_not ?_
  refine st_val ?_
  refine s_call C_is_kind hr (Nat.le_refl _) rfl ?_
  refine s_acons ?_ ?_
  exact s_slot 0 rfl (.inl rfl)
  exact s_anil
  refine sb_one ?_
  exact ss_raise rfl Z.X_NoKind rfl
  exact sb_nil
theorem sc_raw_is_rich : FnScope ["kind", "thing"] ["kind", "thing"] (defScope s_raw_is_rich) := ⟨rfl, rfl, rfl, by decide +kernel, rfl, by decide +kernel, by decide +kernel⟩
def m_raw_is_rich (S : Sem1) : MS :=
    (sCons (sIf (tNot (tVal (xUn (gIs D.isTup) (xSlot 1)))) (sRet (xVal (.bl false))) sNil)
    (sCons (sIf (tVal (xUn (gIs D.isStr) (xSlot 0))) (sRet (xBin fEqS (xUn gLen (xSlot 1)) (xVal (.int 0)))) sNil)
    (sCons (sIf (tCmp cEqS (xBin fIx (xSlot 0) (xVal (.int 0))) (xVal (.str "pair"))) (sRet (xAnd (xBin fEqS (xUn gLen (xSlot 1)) (xVal (.int 2))) (xAnd (xCall S 2 (aCons (xBin fIx (xSlot 0) (xVal (.int 1))) (aCons (xBin fIx (xSlot 1) (xVal (.int 0))) aNil))) (xCall S 2 (aCons (xBin fIx (xSlot 0) (xVal (.int 2))) (aCons (xBin fIx (xSlot 1) (xVal (.int 1))) aNil)))))) sNil)
    (sCons (sIf (tCmp cEqS (xBin fIx (xSlot 0) (xVal (.int 0))) (xVal (.str "either"))) (sCons (sIf (tOr (tCmp cNeS (xUn gLen (xSlot 1)) (xVal (.int 4))) (tOr (tNot (tVal (xCall S_am2 1 (aCons (xBin fIx (xSlot 1) (xVal (.int 0))) aNil)))) (tNot (tVal (xCall S_am2 1 (aCons (xBin fIx (xSlot 1) (xVal (.int 2))) aNil)))))) (sRet (xVal (.bl false))) sNil)
    (sRet (xAnd (xCall S 2 (aCons (xBin fIx (xSlot 0) (xVal (.int 1))) (aCons (xBin fIx (xSlot 1) (xVal (.int 1))) aNil))) (xCall S 2 (aCons (xBin fIx (xSlot 0) (xVal (.int 2))) (aCons (xBin fIx (xSlot 1) (xVal (.int 3))) aNil)))))) sNil)
    (sRet (xAnd (xBin fEqS (xUn gLen (xSlot 1)) (xVal (.int 2))) (xAnd (xCall S_am2 1 (aCons (xBin fIx (xSlot 1) (xVal (.int 0))) aNil)) (xCall S 2 (aCons (xBin fIx (xSlot 0) (xVal (.int 1))) (aCons (xBin fIx (xSlot 1) (xVal (.int 1))) aNil))))))))))
theorem w_raw_is_rich (Z : Env K mg) (S : Sem1) (C_is_amount : Cal P w K mg base k "is_amount" 1 S_am2) (C_raw_is_rich : Cal P w K mg base k "raw_is_rich" 2 S) {cdv : Value} {A : Around} {outer : List PySem.Env} {s : Shared} {H : Hp} {E : XK} (hr : Room k (A.deeper (envOfC "raw_is_rich" (defScope s_raw_is_rich) s.heap.objs.size f cdv))) : SndB (cxOf (L2.CX P w) P w K mg base ["kind", "thing"] "raw_is_rich" (defScope s_raw_is_rich) f cdv A outer s H E) (defBody s_raw_is_rich) (m_raw_is_rich S) := by
  refine sb_cons ?_ ?_
  refine ss_if ?_ ?_ ?_
  refine st_not ?_
  refine st_val ?_
  refine s_isTup rfl Z.isinstance rfl Z.tuple ?_
  exact s_slot 1 rfl (.inl rfl)
  refine sb_one ?_
  refine ss_ret ?_
  exact s_bl
  exact sb_nil
  refine sb_cons ?_ ?_
  refine ss_if ?_ ?_ ?_
  refine st_val ?_
  refine s_isStr rfl Z.isinstance rfl Z.str ?_
  exact s_slot 0 rfl (.inl rfl)
  refine sb_one ?_
  refine ss_ret ?_
  refine s_eqS ?_ ?_
  refine s_len rfl Z.len ?_
  exact s_slot 1 rfl (.inl rfl)
  exact s_int
  exact sb_nil
  refine sb_cons ?_ ?_
  refine ss_if ?_ ?_ ?_
  refine st_eqS ?_ ?_
  refine s_ix ?_ ?_
  exact s_slot 0 rfl (.inl rfl)
  exact s_int
  exact s_gstr rfl Z.PAIR
  refine sb_one ?_
  refine ss_ret ?_
  refine s_and ?_ ?_
  refine s_eqS ?_ ?_
  refine s_len rfl Z.len ?_
  exact s_slot 1 rfl (.inl rfl)
  exact s_int
  refine s_and ?_ ?_
  refine s_call C_raw_is_rich hr (Nat.le_refl _) rfl ?_
  refine s_acons ?_ ?_
  refine s_ix ?_ ?_
  exact s_slot 0 rfl (.inl rfl)
  exact s_int
  refine s_acons ?_ ?_
  refine s_ix ?_ ?_
  exact s_slot 1 rfl (.inl rfl)
  exact s_int
  exact s_anil
  refine s_and1 ?_
  refine s_call C_raw_is_rich hr (Nat.le_refl _) rfl ?_
  refine s_acons ?_ ?_
  refine s_ix ?_ ?_
  exact s_slot 0 rfl (.inl rfl)
  exact s_int
  refine s_acons ?_ ?_
  refine s_ix ?_ ?_
  exact s_slot 1 rfl (.inl rfl)
  exact s_int
  exact s_anil
  exact sb_nil
  refine sb_cons ?_ ?_
  refine ss_if ?_ ?_ ?_
  refine st_eqS ?_ ?_
  refine s_ix ?_ ?_
  exact s_slot 0 rfl (.inl rfl)
  exact s_int
  exact s_gstr rfl Z.EITHER
  refine sb_cons ?_ ?_
  refine ss_if ?_ ?_ ?_
  refine st_of ?_
  refine sw_or ?_ ?_
  refine st_neS ?_ ?_
  refine s_len rfl Z.len ?_
  exact s_slot 1 rfl (.inl rfl)
  exact s_int
  refine sw_or ?_ ?_
  refine st_not ?_
  refine st_val ?_
  refine s_call C_is_amount hr (Nat.le_refl _) rfl ?_
  refine s_acons ?_ ?_
  refine s_ix ?_ ?_
  exact s_slot 1 rfl (.inl rfl)
  exact s_int
  exact s_anil
  refine sw_or1 ?_
  refine st_not ?_
  refine st_val ?_
  refine s_call C_is_amount hr (Nat.le_refl _) rfl ?_
  refine s_acons ?_ ?_
  refine s_ix ?_ ?_
  exact s_slot 1 rfl (.inl rfl)
  exact s_int
  exact s_anil
  refine sb_one ?_
  refine ss_ret ?_
  exact s_bl
  exact sb_nil
  refine sb_one ?_
  refine ss_ret ?_
  refine s_and ?_ ?_
  refine s_call C_raw_is_rich hr (Nat.le_refl _) rfl ?_
  refine s_acons ?_ ?_
  refine s_ix ?_ ?_
  exact s_slot 0 rfl (.inl rfl)
  exact s_int
  refine s_acons ?_ ?_
  refine s_ix ?_ ?_
  exact s_slot 1 rfl (.inl rfl)
  exact s_int
  exact s_anil
  refine s_and1 ?_
  refine s_call C_raw_is_rich hr (Nat.le_refl _) rfl ?_
  refine s_acons ?_ ?_
  refine s_ix ?_ ?_
  exact s_slot 0 rfl (.inl rfl)
  exact s_int
  refine s_acons ?_ ?_
  refine s_ix ?_ ?_
  exact s_slot 1 rfl (.inl rfl)
  exact s_int
  exact s_anil
  exact sb_nil
  refine sb_one ?_
  refine ss_ret ?_
  refine s_and ?_ ?_
  refine s_eqS ?_ ?_
  refine s_len rfl Z.len ?_
  exact s_slot 1 rfl (.inl rfl)
  exact s_int
  refine s_and ?_ ?_
  refine s_call C_is_amount hr (Nat.le_refl _) rfl ?_
  refine s_acons ?_ ?_
  refine s_ix ?_ ?_
  exact s_slot 1 rfl (.inl rfl)
  exact s_int
  exact s_anil
  refine s_and1 ?_
  refine s_call C_raw_is_rich hr (Nat.le_refl _) rfl ?_
  refine s_acons ?_ ?_
  refine s_ix ?_ ?_
  exact s_slot 0 rfl (.inl rfl)
  exact s_int
  refine s_acons ?_ ?_
  refine s_ix ?_ ?_
  exact s_slot 1 rfl (.inl rfl)
  exact s_int
  exact s_anil
theorem sc_check_rich : FnScope ["kind", "thing"] ["kind", "thing"] (defScope s_check_rich) := ⟨rfl, rfl, rfl, by decide +kernel, rfl, by decide +kernel, by decide +kernel⟩
def m_check_rich : MS :=
    (sIf (tNot (tVal (xCall (S_raw_is_rich 3) 2 (aCons (xSlot 0) (aCons (xSlot 1) aNil))))) (sRaise "NoRich") sNil)
theorem w_check_rich (Z : Env K mg) (C_raw_is_rich : Cal P w K mg base k "raw_is_rich" 2 (S_raw_is_rich 3)) {cdv : Value} {A : Around} {outer : List PySem.Env} {s : Shared} {H : Hp} {E : XK} (hr : Room k (A.deeper (envOfC "check_rich" (defScope s_check_rich) s.heap.objs.size f cdv))) : SndB (cxOf (L2.CX P w) P w K mg base ["kind", "thing"] "check_rich" (defScope s_check_rich) f cdv A outer s H E) (defBody s_check_rich) (m_check_rich) := by
  refine sb_one ?_
  refine ss_if ?_ ?_ ?_
  refine st_not ?_
  refine st_val ?_
  refine s_call C_raw_is_rich hr (Nat.le_refl _) rfl ?_
  refine s_acons ?_ ?_
  exact s_slot 0 rfl (.inl rfl)
  refine s_acons ?_ ?_
  exact s_slot 1 rfl (.inl rfl)
  exact s_anil
  refine sb_one ?_
  exact ss_raise rfl Z.X_NoRich rfl
  exact sb_nil
theorem sc_raw_amounts : FnScope ["kind", "rich"] ["kind", "rich"] (defScope s_raw_amounts) := ⟨rfl, rfl, rfl, by decide +kernel, rfl, by decide +kernel, by decide +kernel⟩
def m_raw_amounts (S : Sem1) : MS :=
    (sCons (sIf (tVal (xUn (gIs D.isStr) (xSlot 0))) (sRet (xLst aNil)) sNil)
    (sCons (sIf (tCmp cEqS (xBin fIx (xSlot 0) (xVal (.int 0))) (xVal (.str "pair"))) (sRet (xBin fCat (xCall S 2 (aCons (xBin fIx (xSlot 0) (xVal (.int 1))) (aCons (xBin fIx (xSlot 1) (xVal (.int 0))) aNil))) (xCall S 2 (aCons (xBin fIx (xSlot 0) (xVal (.int 2))) (aCons (xBin fIx (xSlot 1) (xVal (.int 1))) aNil))))) sNil)
    (sCons (sIf (tCmp cEqS (xBin fIx (xSlot 0) (xVal (.int 0))) (xVal (.str "either"))) (sRet (xBin fCat (xBin fCat (xBin fCat (xLst (aCons (xBin fIx (xSlot 1) (xVal (.int 0))) aNil)) (xCall S 2 (aCons (xBin fIx (xSlot 0) (xVal (.int 1))) (aCons (xBin fIx (xSlot 1) (xVal (.int 1))) aNil)))) (xLst (aCons (xBin fIx (xSlot 1) (xVal (.int 2))) aNil))) (xCall S 2 (aCons (xBin fIx (xSlot 0) (xVal (.int 2))) (aCons (xBin fIx (xSlot 1) (xVal (.int 3))) aNil))))) sNil)
    (sRet (xBin fCat (xLst (aCons (xBin fIx (xSlot 1) (xVal (.int 0))) aNil)) (xCall S 2 (aCons (xBin fIx (xSlot 0) (xVal (.int 1))) (aCons (xBin fIx (xSlot 1) (xVal (.int 1))) aNil))))))))
theorem w_raw_amounts (Z : Env K mg) (S : Sem1) (C_raw_amounts : Cal P w K mg base k "raw_amounts" 2 S) {cdv : Value} {A : Around} {outer : List PySem.Env} {s : Shared} {H : Hp} {E : XK} (hr : Room k (A.deeper (envOfC "raw_amounts" (defScope s_raw_amounts) s.heap.objs.size f cdv))) : SndB (cxOf (L2.CX P w) P w K mg base ["kind", "rich"] "raw_amounts" (defScope s_raw_amounts) f cdv A outer s H E) (defBody s_raw_amounts) (m_raw_amounts S) := by
  refine sb_cons ?_ ?_
  refine ss_if ?_ ?_ ?_
  refine st_val ?_
  refine s_isStr rfl Z.isinstance rfl Z.str ?_
  exact s_slot 0 rfl (.inl rfl)
  refine sb_one ?_
  refine ss_ret ?_
  refine s_lst ?_
  exact s_anil
  exact sb_nil
  refine sb_cons ?_ ?_
  refine ss_if ?_ ?_ ?_
  refine st_eqS ?_ ?_
  refine s_ix ?_ ?_
  exact s_slot 0 rfl (.inl rfl)
  exact s_int
  exact s_gstr rfl Z.PAIR
  refine sb_one ?_
  refine ss_ret ?_
  refine s_cat ?_ ?_
  refine s_call C_raw_amounts hr (Nat.le_refl _) rfl ?_
  refine s_acons ?_ ?_
  refine s_ix ?_ ?_
  exact s_slot 0 rfl (.inl rfl)
  exact s_int
  refine s_acons ?_ ?_
  refine s_ix ?_ ?_
  exact s_slot 1 rfl (.inl rfl)
  exact s_int
  exact s_anil
  refine s_call C_raw_amounts hr (Nat.le_refl _) rfl ?_
  refine s_acons ?_ ?_
  refine s_ix ?_ ?_
  exact s_slot 0 rfl (.inl rfl)
  exact s_int
  refine s_acons ?_ ?_
  refine s_ix ?_ ?_
  exact s_slot 1 rfl (.inl rfl)
  exact s_int
  exact s_anil
  exact sb_nil
  refine sb_cons ?_ ?_
  refine ss_if ?_ ?_ ?_
  refine st_eqS ?_ ?_
  refine s_ix ?_ ?_
  exact s_slot 0 rfl (.inl rfl)
  exact s_int
  exact s_gstr rfl Z.EITHER
  refine sb_one ?_
  refine ss_ret ?_
  refine s_cat ?_ ?_
  refine s_cat ?_ ?_
  refine s_cat ?_ ?_
  refine s_lst ?_
  refine s_acons ?_ ?_
  refine s_ix ?_ ?_
  exact s_slot 1 rfl (.inl rfl)
  exact s_int
  exact s_anil
  refine s_call C_raw_amounts hr (Nat.le_refl _) rfl ?_
  refine s_acons ?_ ?_
  refine s_ix ?_ ?_
  exact s_slot 0 rfl (.inl rfl)
  exact s_int
  refine s_acons ?_ ?_
  refine s_ix ?_ ?_
  exact s_slot 1 rfl (.inl rfl)
  exact s_int
  exact s_anil
  refine s_lst ?_
  refine s_acons ?_ ?_
  refine s_ix ?_ ?_
  exact s_slot 1 rfl (.inl rfl)
  exact s_int
  exact s_anil
  refine s_call C_raw_amounts hr (Nat.le_refl _) rfl ?_
  refine s_acons ?_ ?_
  refine s_ix ?_ ?_
  exact s_slot 0 rfl (.inl rfl)
  exact s_int
  refine s_acons ?_ ?_
  refine s_ix ?_ ?_
  exact s_slot 1 rfl (.inl rfl)
  exact s_int
  exact s_anil
  exact sb_nil
  refine sb_one ?_
  refine ss_ret ?_
  refine s_cat ?_ ?_
  refine s_lst ?_
  refine s_acons ?_ ?_
  refine s_ix ?_ ?_
  exact s_slot 1 rfl (.inl rfl)
  exact s_int
  exact s_anil
  refine s_call C_raw_amounts hr (Nat.le_refl _) rfl ?_
  refine s_acons ?_ ?_
  refine s_ix ?_ ?_
  exact s_slot 0 rfl (.inl rfl)
  exact s_int
  refine s_acons ?_ ?_
  refine s_ix ?_ ?_
  exact s_slot 1 rfl (.inl rfl)
  exact s_int
  exact s_anil
theorem sc_raw_many : FnScope ["kind", "own", "part"] ["kind"] (defScope s_raw_many) := ⟨rfl, rfl, rfl, by decide +kernel, rfl, by decide +kernel, by decide +kernel⟩
def m_raw_many (S : Sem1) : MS :=
    (sCons (sIf (tVal (xUn (gIs D.isStr) (xSlot 0))) (sRet (xVal (.int 0))) sNil)
    (sCons (sAsg 1 (xBin fDget (xDisp (dCons (xVal (.str "pair")) (xVal (.int 0)) (dCons (xVal (.str "either")) (xVal (.int 2)) (dCons (xVal (.str "list")) (xVal (.int 1)) (dCons (xVal (.str "tree")) (xVal (.int 1)) dNil))))) (xBin fIx (xSlot 0) (xVal (.int 0)))))
    (sRet (xBin fAdd (xSlot 1) (xUn gSum (xOf (mLc un1 [2] [2] (PL.iTup (xSlT (xSlot 0) (oSome (xVal (.int 1))) oNone)) (xCall S 1 (aCons (xSlot 2) aNil)))))))))
theorem w_raw_many (Z : Env K mg) (S : Sem1) (C_raw_many : Cal P w K mg base k "raw_many" 1 S) {cdv : Value} {A : Around} {outer : List PySem.Env} {s : Shared} {H : Hp} {E : XK} (hr : Room k (A.deeper (envOfC "raw_many" (defScope s_raw_many) s.heap.objs.size f cdv))) : SndB (cxOf (L2.CX P w) P w K mg base ["kind", "own", "part"] "raw_many" (defScope s_raw_many) f cdv A outer s H E) (defBody s_raw_many) (m_raw_many S) := by
  refine sb_cons ?_ ?_
  refine ss_if ?_ ?_ ?_
  refine st_val ?_
  refine s_isStr rfl Z.isinstance rfl Z.str ?_
  exact s_slot 0 rfl (.inl rfl)
  refine sb_one ?_
  refine ss_ret ?_
  exact s_int
  exact sb_nil
  refine sb_cons ?_ ?_
  refine ss_asg 1 sc_raw_many.nd rfl (.inl rfl) ?_
  refine s_dget hr ?_ ?_
  refine s_disp ?_
  refine s_dcons ?_ ?_ ?_
  exact s_gstr rfl Z.PAIR
  exact s_int
  refine s_dcons ?_ ?_ ?_
  exact s_gstr rfl Z.EITHER
  exact s_int
  refine s_dcons ?_ ?_ ?_
  exact s_gstr rfl Z.LIST
  exact s_int
  refine s_dcons ?_ ?_ ?_
  exact s_gstr rfl Z.TREE
  exact s_int
  exact s_dnil
  refine s_ix ?_ ?_
  exact s_slot 0 rfl (.inl rfl)
  exact s_int
  refine sb_one ?_
  refine ss_ret ?_
  refine s_add ?_ ?_
  exact s_slot 1 rfl (.inl rfl)
  refine s_sum rfl rfl Z.sum ?_
  refine s_lc (js := [2]) (own := [("part", 2)]) (un := un1) rfl sc_raw_many.nd (show BlkOk ["kind", "own", "part"] (defScope s_raw_many) _ _ from blk_by (by decide +kernel)) (fun s H C cl fp => pg_name sc_raw_many.nd rfl (.inl rfl)) tgt1 (by decide) (show ∀ j ∈ ([2] : List Nat), j < 3 by decide) ?_ ?_
  refine si_tup rfl ?_ (fun _ h => pi_tup h)
  refine s_slT ?_ ?_ ?_
  exact s_slot 0 rfl (.inl rfl)
  refine s_osome ?_
  exact s_int
  exact s_onone
  intro s H C cl fp
  refine s_call C_raw_many hr (Nat.le_refl _) rfl ?_
  refine s_acons ?_ ?_
  exact s_slot 2 rfl (.inl rfl)
  exact s_anil
theorem sc_raw_rich : FnScope ["kind", "amounts", "first", "one", "other"] ["kind", "amounts"] (defScope s_raw_rich) := ⟨rfl, rfl, rfl, by decide +kernel, rfl, by decide +kernel, by decide +kernel⟩
def m_raw_rich (S : Sem1) (T : Sem1) : MS :=
    (sCons (sIf (tVal (xUn (gIs D.isStr) (xSlot 0))) (sRet (xTup aNil)) sNil)
    (sCons (sIf (tCmp cEqS (xBin fIx (xSlot 0) (xVal (.int 0))) (xVal (.str "pair"))) (sCons (sAsg 2 (xCall T 1 (aCons (xBin fIx (xSlot 0) (xVal (.int 1))) aNil)))
    (sRet (xTup (aCons (xCall S 2 (aCons (xBin fIx (xSlot 0) (xVal (.int 1))) (aCons (xSlL (xSlot 1) oNone (oSome (xSlot 2))) aNil))) (aCons (xCall S 2 (aCons (xBin fIx (xSlot 0) (xVal (.int 2))) (aCons (xSlL (xSlot 1) (oSome (xSlot 2)) oNone) aNil))) aNil))))) sNil)
    (sCons (sIf (tCmp cEqS (xBin fIx (xSlot 0) (xVal (.int 0))) (xVal (.str "either"))) (sCons (sAsg 2 (xBin fAdd (xVal (.int 1)) (xCall T 1 (aCons (xBin fIx (xSlot 0) (xVal (.int 1))) aNil))))
    (sCons (sPar 3 4 (xCall S 2 (aCons (xBin fIx (xSlot 0) (xVal (.int 1))) (aCons (xSlL (xSlot 1) (oSome (xVal (.int 1))) (oSome (xSlot 2))) aNil))) (xCall S 2 (aCons (xBin fIx (xSlot 0) (xVal (.int 2))) (aCons (xSlL (xSlot 1) (oSome (xBin fAdd (xSlot 2) (xVal (.int 1)))) oNone) aNil))))
    (sRet (xTup (aCons (xBin fIx (xSlot 1) (xVal (.int 0))) (aCons (xSlot 3) (aCons (xBin fIx (xSlot 1) (xSlot 2)) (aCons (xSlot 4) aNil)))))))) sNil)
    (sRet (xTup (aCons (xBin fIx (xSlot 1) (xVal (.int 0))) (aCons (xCall S 2 (aCons (xBin fIx (xSlot 0) (xVal (.int 1))) (aCons (xSlL (xSlot 1) (oSome (xVal (.int 1))) oNone) aNil))) aNil)))))))
theorem w_raw_rich (Z : Env K mg) (S : Sem1) (T : Sem1) (C_raw_many : Cal P w K mg base k "raw_many" 1 T) (C_raw_rich : Cal P w K mg base k "raw_rich" 2 S) {cdv : Value} {A : Around} {outer : List PySem.Env} {s : Shared} {H : Hp} {E : XK} (hr : Room k (A.deeper (envOfC "raw_rich" (defScope s_raw_rich) s.heap.objs.size f cdv))) : SndB (cxOf (L2.CX P w) P w K mg base ["kind", "amounts", "first", "one", "other"] "raw_rich" (defScope s_raw_rich) f cdv A outer s H E) (defBody s_raw_rich) (m_raw_rich S T) := by
  refine sb_cons ?_ ?_
  refine ss_if ?_ ?_ ?_
  refine st_val ?_
  refine s_isStr rfl Z.isinstance rfl Z.str ?_
  exact s_slot 0 rfl (.inl rfl)
  refine sb_one ?_
  refine ss_ret ?_
  refine s_tup ?_
  exact s_anil
  exact sb_nil
  refine sb_cons ?_ ?_
  refine ss_if ?_ ?_ ?_
  refine st_eqS ?_ ?_
  refine s_ix ?_ ?_
  exact s_slot 0 rfl (.inl rfl)
  exact s_int
  exact s_gstr rfl Z.PAIR
  refine sb_cons ?_ ?_
  refine ss_asg 2 sc_raw_rich.nd rfl (.inl rfl) ?_
  refine s_call C_raw_many hr (Nat.le_refl _) rfl ?_
  refine s_acons ?_ ?_
  refine s_ix ?_ ?_
  exact s_slot 0 rfl (.inl rfl)
  exact s_int
  exact s_anil
  refine sb_one ?_
  refine ss_ret ?_
  refine s_tup ?_
  refine s_acons ?_ ?_
  refine s_call C_raw_rich hr (Nat.le_refl _) rfl ?_
  refine s_acons ?_ ?_
  refine s_ix ?_ ?_
  exact s_slot 0 rfl (.inl rfl)
  exact s_int
  refine s_acons ?_ ?_
  refine s_slL ?_ ?_ ?_
  exact s_slot 1 rfl (.inl rfl)
  exact s_onone
  refine s_osome ?_
  exact s_slot 2 rfl (.inl rfl)
  exact s_anil
  refine s_acons ?_ ?_
  refine s_call C_raw_rich hr (Nat.le_refl _) rfl ?_
  refine s_acons ?_ ?_
  refine s_ix ?_ ?_
  exact s_slot 0 rfl (.inl rfl)
  exact s_int
  refine s_acons ?_ ?_
  refine s_slL ?_ ?_ ?_
  exact s_slot 1 rfl (.inl rfl)
  refine s_osome ?_
  exact s_slot 2 rfl (.inl rfl)
  exact s_onone
  exact s_anil
  exact s_anil
  exact sb_nil
  refine sb_cons ?_ ?_
  refine ss_if ?_ ?_ ?_
  refine st_eqS ?_ ?_
  refine s_ix ?_ ?_
  exact s_slot 0 rfl (.inl rfl)
  exact s_int
  exact s_gstr rfl Z.EITHER
  refine sb_cons ?_ ?_
  refine ss_asg 2 sc_raw_rich.nd rfl (.inl rfl) ?_
  refine s_add ?_ ?_
  exact s_int
  refine s_call C_raw_many hr (Nat.le_refl _) rfl ?_
  refine s_acons ?_ ?_
  refine s_ix ?_ ?_
  exact s_slot 0 rfl (.inl rfl)
  exact s_int
  exact s_anil
  refine sb_cons ?_ ?_
  refine ss_par 3 4 rfl sc_raw_rich.nd rfl rfl (by decide) rfl rfl ?_ ?_
  refine s_call C_raw_rich hr (Nat.le_refl _) rfl ?_
  refine s_acons ?_ ?_
  refine s_ix ?_ ?_
  exact s_slot 0 rfl (.inl rfl)
  exact s_int
  refine s_acons ?_ ?_
  refine s_slL ?_ ?_ ?_
  exact s_slot 1 rfl (.inl rfl)
  refine s_osome ?_
  exact s_int
  refine s_osome ?_
  exact s_slot 2 rfl (.inl rfl)
  exact s_anil
  refine s_call C_raw_rich hr (Nat.le_refl _) rfl ?_
  refine s_acons ?_ ?_
  refine s_ix ?_ ?_
  exact s_slot 0 rfl (.inl rfl)
  exact s_int
  refine s_acons ?_ ?_
  refine s_slL ?_ ?_ ?_
  exact s_slot 1 rfl (.inl rfl)
  refine s_osome ?_
  refine s_add ?_ ?_
  exact s_slot 2 rfl (.inl rfl)
  exact s_int
  exact s_onone
  exact s_anil
  refine sb_one ?_
  refine ss_ret ?_
  refine s_tup ?_
  refine s_acons ?_ ?_
  refine s_ix ?_ ?_
  exact s_slot 1 rfl (.inl rfl)
  exact s_int
  refine s_acons ?_ ?_
  exact s_slot 3 rfl (.inl rfl)
  refine s_acons ?_ ?_
  refine s_ix ?_ ?_
  exact s_slot 1 rfl (.inl rfl)
  exact s_slot 2 rfl (.inl rfl)
  refine s_acons ?_ ?_
  exact s_slot 4 rfl (.inl rfl)
  exact s_anil
  exact sb_nil
  refine sb_one ?_
  refine ss_ret ?_
  refine s_tup ?_
  refine s_acons ?_ ?_
  refine s_ix ?_ ?_
  exact s_slot 1 rfl (.inl rfl)
  exact s_int
  refine s_acons ?_ ?_
  refine s_call C_raw_rich hr (Nat.le_refl _) rfl ?_
  refine s_acons ?_ ?_
  refine s_ix ?_ ?_
  exact s_slot 0 rfl (.inl rfl)
  exact s_int
  refine s_acons ?_ ?_
  refine s_slL ?_ ?_ ?_
  exact s_slot 1 rfl (.inl rfl)
  refine s_osome ?_
  exact s_int
  exact s_onone
  exact s_anil
  exact s_anil
theorem sc_amounts_of : FnScope ["kind", "rich"] ["kind", "rich"] (defScope s_amounts_of) := ⟨rfl, rfl, rfl, by decide +kernel, rfl, by decide +kernel, by decide +kernel⟩
def m_amounts_of : MS :=
    (sCons (sExpr (xCall S_check_kind 1 (aCons (xSlot 0) aNil)))
    (sCons (sExpr (xCall S_check_rich 2 (aCons (xSlot 0) (aCons (xSlot 1) aNil))))
    (sRet (xUn gTuple (xCall (S_raw_amounts 3) 2 (aCons (xSlot 0) (aCons (xSlot 1) aNil)))))))
theorem w_amounts_of (Z : Env K mg) (C_check_kind : Cal P w K mg base k "check_kind" 1 S_check_kind) (C_check_rich : Cal P w K mg base k "check_rich" 2 S_check_rich) (C_raw_amounts : Cal P w K mg base k "raw_amounts" 2 (S_raw_amounts 3)) {cdv : Value} {A : Around} {outer : List PySem.Env} {s : Shared} {H : Hp} {E : XK} (hr : Room k (A.deeper (envOfC "amounts_of" (defScope s_amounts_of) s.heap.objs.size f cdv))) : SndB (cxOf (L2.CX P w) P w K mg base ["kind", "rich"] "amounts_of" (defScope s_amounts_of) f cdv A outer s H E) (defBody s_amounts_of) (m_amounts_of) := by
  refine sb_cons ?_ ?_
  refine ss_expr ?_
  refine s_call C_check_kind hr (Nat.le_refl _) rfl ?_
  refine s_acons ?_ ?_
  exact s_slot 0 rfl (.inl rfl)
  exact s_anil
  refine sb_cons ?_ ?_
  refine ss_expr ?_
  refine s_call C_check_rich hr (Nat.le_refl _) rfl ?_
  refine s_acons ?_ ?_
  exact s_slot 0 rfl (.inl rfl)
  refine s_acons ?_ ?_
  exact s_slot 1 rfl (.inl rfl)
  exact s_anil
  refine sb_one ?_
  refine ss_ret ?_
  refine s_tuple rfl Z.tuple ?_
  refine s_call C_raw_amounts hr (Nat.le_refl _) rfl ?_
  refine s_acons ?_ ?_
  exact s_slot 0 rfl (.inl rfl)
  refine s_acons ?_ ?_
  exact s_slot 1 rfl (.inl rfl)
  exact s_anil
theorem sc_raw_covers : FnScope ["kind", "one", "other", "pairs", "mine", "its"] ["kind", "one", "other"] (defScope s_raw_covers) := ⟨rfl, rfl, rfl, by decide +kernel, rfl, by decide +kernel, by decide +kernel⟩
def m_raw_covers : MS :=
    (sCons (sZip 3 (aCons (xCall (S_raw_amounts 3) 2 (aCons (xSlot 0) (aCons (xSlot 1) aNil))) (aCons (xCall (S_raw_amounts 3) 2 (aCons (xSlot 0) (aCons (xSlot 2) aNil))) aNil)))
    (sRet (xUn gAll (xOf (mLc un2 [4, 5] [4, 5] (iZipN 3) (xCall S_most2 2 (aCons (xSlot 5) (aCons (xSlot 4) aNil))))))))
theorem w_raw_covers (Z : Env K mg) (C_raw_amounts : Cal P w K mg base k "raw_amounts" 2 (S_raw_amounts 3)) (C_raw_at_most : Cal P w K mg base k "raw_at_most" 2 S_most2) {cdv : Value} {A : Around} {outer : List PySem.Env} {s : Shared} {H : Hp} {E : XK} (hr : Room k (A.deeper (envOfC "raw_covers" (defScope s_raw_covers) s.heap.objs.size f cdv))) : SndB (cxOf (L2.CX P w) P w K mg base ["kind", "one", "other", "pairs", "mine", "its"] "raw_covers" (defScope s_raw_covers) f cdv A outer s H E) (defBody s_raw_covers) (m_raw_covers) := by
  refine sb_cons ?_ ?_
  refine ss_zip 3 rfl Z.zip sc_raw_covers.nd rfl (.inl rfl) ?_
  refine s_acons ?_ ?_
  refine s_call C_raw_amounts hr (Nat.le_refl _) rfl ?_
  refine s_acons ?_ ?_
  exact s_slot 0 rfl (.inl rfl)
  refine s_acons ?_ ?_
  exact s_slot 1 rfl (.inl rfl)
  exact s_anil
  refine s_acons ?_ ?_
  refine s_call C_raw_amounts hr (Nat.le_refl _) rfl ?_
  refine s_acons ?_ ?_
  exact s_slot 0 rfl (.inl rfl)
  refine s_acons ?_ ?_
  exact s_slot 2 rfl (.inl rfl)
  exact s_anil
  exact s_anil
  refine sb_one ?_
  refine ss_ret ?_
  refine s_all rfl rfl Z.all ?_
  refine s_lc (js := [4, 5]) (own := [("mine", 4), ("its", 5)]) (un := un2) rfl sc_raw_covers.nd (show BlkOk ["kind", "one", "other", "pairs", "mine", "its"] (defScope s_raw_covers) _ _ from blk_by (by decide +kernel)) (fun s H C cl fp => pg_tup rfl (pgs_cons (pg_name sc_raw_covers.nd rfl (.inl rfl)) (pgs_cons (pg_name sc_raw_covers.nd rfl (.inl rfl)) pgs_nil))) tgt2 (by decide) (show ∀ j ∈ ([4, 5] : List Nat), j < 6 by decide) ?_ ?_
  exact si_zipN 3 rfl (.inl rfl)
  intro s H C cl fp
  refine s_call C_raw_at_most hr (Nat.le_refl _) rfl ?_
  refine s_acons ?_ ?_
  exact s_slot 5 rfl (.inl rfl)
  refine s_acons ?_ ?_
  exact s_slot 4 rfl (.inl rfl)
  exact s_anil
theorem sc_check_both : FnScope ["kind", "one", "other"] ["kind", "one", "other"] (defScope s_check_both) := ⟨rfl, rfl, rfl, by decide +kernel, rfl, by decide +kernel, by decide +kernel⟩
def m_check_both : MS :=
    (sCons (sExpr (xCall S_check_kind 1 (aCons (xSlot 0) aNil)))
    (sCons (sExpr (xCall S_check_rich 2 (aCons (xSlot 0) (aCons (xSlot 1) aNil))))
    (sExpr (xCall S_check_rich 2 (aCons (xSlot 0) (aCons (xSlot 2) aNil))))))
theorem w_check_both (Z : Env K mg) (C_check_kind : Cal P w K mg base k "check_kind" 1 S_check_kind) (C_check_rich : Cal P w K mg base k "check_rich" 2 S_check_rich) {cdv : Value} {A : Around} {outer : List PySem.Env} {s : Shared} {H : Hp} {E : XK} (hr : Room k (A.deeper (envOfC "check_both" (defScope s_check_both) s.heap.objs.size f cdv))) : SndB (cxOf (L2.CX P w) P w K mg base ["kind", "one", "other"] "check_both" (defScope s_check_both) f cdv A outer s H E) (defBody s_check_both) (m_check_both) := by
  refine sb_cons ?_ ?_
  refine ss_expr ?_
  refine s_call C_check_kind hr (Nat.le_refl _) rfl ?_
  refine s_acons ?_ ?_
  exact s_slot 0 rfl (.inl rfl)
  exact s_anil
  refine sb_cons ?_ ?_
  refine ss_expr ?_
  refine s_call C_check_rich hr (Nat.le_refl _) rfl ?_
  refine s_acons ?_ ?_
  exact s_slot 0 rfl (.inl rfl)
  refine s_acons ?_ ?_
  exact s_slot 1 rfl (.inl rfl)
  exact s_anil
  refine sb_one ?_
  refine ss_expr ?_
  refine s_call C_check_rich hr (Nat.le_refl _) rfl ?_
  refine s_acons ?_ ?_
  exact s_slot 0 rfl (.inl rfl)
  refine s_acons ?_ ?_
  exact s_slot 2 rfl (.inl rfl)
  exact s_anil
theorem sc_covers : FnScope ["kind", "one", "other"] ["kind", "one", "other"] (defScope s_covers) := ⟨rfl, rfl, rfl, by decide +kernel, rfl, by decide +kernel, by decide +kernel⟩
def m_covers : MS :=
    (sCons (sExpr (xCall S_check_both 3 (aCons (xSlot 0) (aCons (xSlot 1) (aCons (xSlot 2) aNil)))))
    (sRet (xCall S_raw_covers 3 (aCons (xSlot 0) (aCons (xSlot 1) (aCons (xSlot 2) aNil))))))
theorem w_covers (Z : Env K mg) (C_check_both : Cal P w K mg base k "check_both" 3 S_check_both) (C_raw_covers : Cal P w K mg base k "raw_covers" 3 S_raw_covers) {cdv : Value} {A : Around} {outer : List PySem.Env} {s : Shared} {H : Hp} {E : XK} (hr : Room k (A.deeper (envOfC "covers" (defScope s_covers) s.heap.objs.size f cdv))) : SndB (cxOf (L2.CX P w) P w K mg base ["kind", "one", "other"] "covers" (defScope s_covers) f cdv A outer s H E) (defBody s_covers) (m_covers) := by
  refine sb_cons ?_ ?_
  refine ss_expr ?_
  refine s_call C_check_both hr (Nat.le_refl _) rfl ?_
  refine s_acons ?_ ?_
  exact s_slot 0 rfl (.inl rfl)
  refine s_acons ?_ ?_
  exact s_slot 1 rfl (.inl rfl)
  refine s_acons ?_ ?_
  exact s_slot 2 rfl (.inl rfl)
  exact s_anil
  refine sb_one ?_
  refine ss_ret ?_
  refine s_call C_raw_covers hr (Nat.le_refl _) rfl ?_
  refine s_acons ?_ ?_
  exact s_slot 0 rfl (.inl rfl)
  refine s_acons ?_ ?_
  exact s_slot 1 rfl (.inl rfl)
  refine s_acons ?_ ?_
  exact s_slot 2 rfl (.inl rfl)
  exact s_anil
theorem sc_joined : FnScope ["kind", "one", "other", "pairs", "mine", "its"] ["kind", "one", "other"] (defScope s_joined) := ⟨rfl, rfl, rfl, by decide +kernel, rfl, by decide +kernel, by decide +kernel⟩
def m_joined : MS :=
    (sCons (sExpr (xCall S_check_both 3 (aCons (xSlot 0) (aCons (xSlot 1) (aCons (xSlot 2) aNil)))))
    (sCons (sZip 3 (aCons (xCall (S_raw_amounts 3) 2 (aCons (xSlot 0) (aCons (xSlot 1) aNil))) (aCons (xCall (S_raw_amounts 3) 2 (aCons (xSlot 0) (aCons (xSlot 2) aNil))) aNil)))
    (sRet (xCall (S_raw_rich 3) 2 (aCons (xSlot 0) (aCons (xOf (mLc un2 [4, 5] [4, 5] (iZipN 3) (xCall S_raw_greater 2 (aCons (xSlot 4) (aCons (xSlot 5) aNil))))) aNil))))))
theorem w_joined (Z : Env K mg) (C_check_both : Cal P w K mg base k "check_both" 3 S_check_both) (C_raw_amounts : Cal P w K mg base k "raw_amounts" 2 (S_raw_amounts 3)) (C_raw_greater : Cal P w K mg base k "raw_greater" 2 S_raw_greater) (C_raw_rich : Cal P w K mg base k "raw_rich" 2 (S_raw_rich 3)) {cdv : Value} {A : Around} {outer : List PySem.Env} {s : Shared} {H : Hp} {E : XK} (hr : Room k (A.deeper (envOfC "joined" (defScope s_joined) s.heap.objs.size f cdv))) : SndB (cxOf (L2.CX P w) P w K mg base ["kind", "one", "other", "pairs", "mine", "its"] "joined" (defScope s_joined) f cdv A outer s H E) (defBody s_joined) (m_joined) := by
  refine sb_cons ?_ ?_
  refine ss_expr ?_
  refine s_call C_check_both hr (Nat.le_refl _) rfl ?_
  refine s_acons ?_ ?_
  exact s_slot 0 rfl (.inl rfl)
  refine s_acons ?_ ?_
  exact s_slot 1 rfl (.inl rfl)
  refine s_acons ?_ ?_
  exact s_slot 2 rfl (.inl rfl)
  exact s_anil
  refine sb_cons ?_ ?_
  refine ss_zip 3 rfl Z.zip sc_joined.nd rfl (.inl rfl) ?_
  refine s_acons ?_ ?_
  refine s_call C_raw_amounts hr (Nat.le_refl _) rfl ?_
  refine s_acons ?_ ?_
  exact s_slot 0 rfl (.inl rfl)
  refine s_acons ?_ ?_
  exact s_slot 1 rfl (.inl rfl)
  exact s_anil
  refine s_acons ?_ ?_
  refine s_call C_raw_amounts hr (Nat.le_refl _) rfl ?_
  refine s_acons ?_ ?_
  exact s_slot 0 rfl (.inl rfl)
  refine s_acons ?_ ?_
  exact s_slot 2 rfl (.inl rfl)
  exact s_anil
  exact s_anil
  refine sb_one ?_
  refine ss_ret ?_
  refine s_call C_raw_rich hr (Nat.le_refl _) rfl ?_
  refine s_acons ?_ ?_
  exact s_slot 0 rfl (.inl rfl)
  refine s_acons ?_ ?_
  refine s_lc (js := [4, 5]) (own := [("mine", 4), ("its", 5)]) (un := un2) rfl sc_joined.nd (show BlkOk ["kind", "one", "other", "pairs", "mine", "its"] (defScope s_joined) _ _ from blk_by (by decide +kernel)) (fun s H C cl fp => pg_tup rfl (pgs_cons (pg_name sc_joined.nd rfl (.inl rfl)) (pgs_cons (pg_name sc_joined.nd rfl (.inl rfl)) pgs_nil))) tgt2 (by decide) (show ∀ j ∈ ([4, 5] : List Nat), j < 6 by decide) ?_ ?_
  exact si_zipN 3 rfl (.inl rfl)
  intro s H C cl fp
  refine s_call C_raw_greater hr (Nat.le_refl _) rfl ?_
  refine s_acons ?_ ?_
  exact s_slot 4 rfl (.inl rfl)
  refine s_acons ?_ ?_
  exact s_slot 5 rfl (.inl rfl)
  exact s_anil
  exact s_anil
theorem sc_met : FnScope ["kind", "one", "other", "pairs", "mine", "its"] ["kind", "one", "other"] (defScope s_met) := ⟨rfl, rfl, rfl, by decide +kernel, rfl, by decide +kernel, by decide +kernel⟩
def m_met : MS :=
    (sCons (sExpr (xCall S_check_both 3 (aCons (xSlot 0) (aCons (xSlot 1) (aCons (xSlot 2) aNil)))))
    (sCons (sZip 3 (aCons (xCall (S_raw_amounts 3) 2 (aCons (xSlot 0) (aCons (xSlot 1) aNil))) (aCons (xCall (S_raw_amounts 3) 2 (aCons (xSlot 0) (aCons (xSlot 2) aNil))) aNil)))
    (sRet (xCall (S_raw_rich 3) 2 (aCons (xSlot 0) (aCons (xOf (mLc un2 [4, 5] [4, 5] (iZipN 3) (xCall S_raw_lesser 2 (aCons (xSlot 4) (aCons (xSlot 5) aNil))))) aNil))))))
theorem w_met (Z : Env K mg) (C_check_both : Cal P w K mg base k "check_both" 3 S_check_both) (C_raw_amounts : Cal P w K mg base k "raw_amounts" 2 (S_raw_amounts 3)) (C_raw_lesser : Cal P w K mg base k "raw_lesser" 2 S_raw_lesser) (C_raw_rich : Cal P w K mg base k "raw_rich" 2 (S_raw_rich 3)) {cdv : Value} {A : Around} {outer : List PySem.Env} {s : Shared} {H : Hp} {E : XK} (hr : Room k (A.deeper (envOfC "met" (defScope s_met) s.heap.objs.size f cdv))) : SndB (cxOf (L2.CX P w) P w K mg base ["kind", "one", "other", "pairs", "mine", "its"] "met" (defScope s_met) f cdv A outer s H E) (defBody s_met) (m_met) := by
  refine sb_cons ?_ ?_
  refine ss_expr ?_
  refine s_call C_check_both hr (Nat.le_refl _) rfl ?_
  refine s_acons ?_ ?_
  exact s_slot 0 rfl (.inl rfl)
  refine s_acons ?_ ?_
  exact s_slot 1 rfl (.inl rfl)
  refine s_acons ?_ ?_
  exact s_slot 2 rfl (.inl rfl)
  exact s_anil
  refine sb_cons ?_ ?_
  refine ss_zip 3 rfl Z.zip sc_met.nd rfl (.inl rfl) ?_
  refine s_acons ?_ ?_
  refine s_call C_raw_amounts hr (Nat.le_refl _) rfl ?_
  refine s_acons ?_ ?_
  exact s_slot 0 rfl (.inl rfl)
  refine s_acons ?_ ?_
  exact s_slot 1 rfl (.inl rfl)
  exact s_anil
  refine s_acons ?_ ?_
  refine s_call C_raw_amounts hr (Nat.le_refl _) rfl ?_
  refine s_acons ?_ ?_
  exact s_slot 0 rfl (.inl rfl)
  refine s_acons ?_ ?_
  exact s_slot 2 rfl (.inl rfl)
  exact s_anil
  exact s_anil
  refine sb_one ?_
  refine ss_ret ?_
  refine s_call C_raw_rich hr (Nat.le_refl _) rfl ?_
  refine s_acons ?_ ?_
  exact s_slot 0 rfl (.inl rfl)
  refine s_acons ?_ ?_
  refine s_lc (js := [4, 5]) (own := [("mine", 4), ("its", 5)]) (un := un2) rfl sc_met.nd (show BlkOk ["kind", "one", "other", "pairs", "mine", "its"] (defScope s_met) _ _ from blk_by (by decide +kernel)) (fun s H C cl fp => pg_tup rfl (pgs_cons (pg_name sc_met.nd rfl (.inl rfl)) (pgs_cons (pg_name sc_met.nd rfl (.inl rfl)) pgs_nil))) tgt2 (by decide) (show ∀ j ∈ ([4, 5] : List Nat), j < 6 by decide) ?_ ?_
  exact si_zipN 3 rfl (.inl rfl)
  intro s H C cl fp
  refine s_call C_raw_lesser hr (Nat.le_refl _) rfl ?_
  refine s_acons ?_ ?_
  exact s_slot 4 rfl (.inl rfl)
  refine s_acons ?_ ?_
  exact s_slot 5 rfl (.inl rfl)
  exact s_anil
  exact s_anil
theorem sc_are_kinds : FnScope ["thing", "kind"] ["thing"] (defScope s_are_kinds) := ⟨rfl, rfl, rfl, by decide +kernel, rfl, by decide +kernel, by decide +kernel⟩
def m_are_kinds : MS :=
    (sRet (xAnd (xUn (gIs D.isTup) (xSlot 0)) (xAnd (xBin fLe (xUn gLen (xSlot 0)) (xVal (.int 8))) (xUn gAll (xOf (mLc un1 [1] [1] (PL.iTup (xSlot 0)) (xCall S_is_kind 1 (aCons (xSlot 1) aNil))))))))
theorem w_are_kinds (Z : Env K mg) (C_is_kind : Cal P w K mg base k "is_kind" 1 S_is_kind) {cdv : Value} {A : Around} {outer : List PySem.Env} {s : Shared} {H : Hp} {E : XK} (hr : Room k (A.deeper (envOfC "are_kinds" (defScope s_are_kinds) s.heap.objs.size f cdv))) : SndB (cxOf (L2.CX P w) P w K mg base ["thing", "kind"] "are_kinds" (defScope s_are_kinds) f cdv A outer s H E) (defBody s_are_kinds) (m_are_kinds) := by
  refine sb_one ?_
  refine ss_ret ?_
  refine s_and ?_ ?_
  refine s_isTup rfl Z.isinstance rfl Z.tuple ?_
  exact s_slot 0 rfl (.inl rfl)
  refine s_and ?_ ?_
  refine s_le ?_ ?_
  refine s_len rfl Z.len ?_
  exact s_slot 0 rfl (.inl rfl)
  exact s_gint rfl Z.MOST_PARAMS
  refine s_and1 ?_
  refine s_all rfl rfl Z.all ?_
  refine s_lc (js := [1]) (own := [("kind", 1)]) (un := un1) rfl sc_are_kinds.nd (show BlkOk ["thing", "kind"] (defScope s_are_kinds) _ _ from blk_by (by decide +kernel)) (fun s H C cl fp => pg_name sc_are_kinds.nd rfl (.inl rfl)) tgt1 (by decide) (show ∀ j ∈ ([1] : List Nat), j < 2 by decide) ?_ ?_
  refine si_tup rfl ?_ (fun _ h => pi_tup h)
  exact s_slot 0 rfl (.inl rfl)
  intro s H C cl fp
  refine s_call C_is_kind hr (Nat.le_refl _) rfl ?_
  refine s_acons ?_ ?_
  exact s_slot 1 rfl (.inl rfl)
  exact s_anil
theorem sc_is_card_by : FnScope ["kinds", "kind", "thing", "one", "rich"] ["kinds", "kind", "thing"] (defScope s_is_card_by) := ⟨rfl, rfl, rfl, by decide +kernel, rfl, by decide +kernel, by decide +kernel⟩
def m_is_card_by : MS :=
    (sCons (sIf (tOr (tNot (tVal (xUn (gIs D.isTup) (xSlot 2)))) (tOr (tCmp cNeS (xUn gLen (xSlot 2)) (xVal (.int 4))) (tNot (tVal (xUn (gIs D.isTup) (xBin fIx (xSlot 2) (xVal (.int 0)))))))) (sRet (xVal (.bl false))) sNil)
    (sCons (sIf (tOr (tCmp cNeS (xUn gLen (xBin fIx (xSlot 2) (xVal (.int 0)))) (xUn gLen (xSlot 0))) (tNot (tVal (xUn gAll (xOf (mLc un2 [3, 4] [3, 4] (iZipT (aCons (xSlot 0) (aCons (xBin fIx (xSlot 2) (xVal (.int 0))) aNil))) (xCall (S_raw_is_rich 3) 2 (aCons (xSlot 3) (aCons (xSlot 4) aNil))))))))) (sRet (xVal (.bl false))) sNil)
    (sRet (xAnd (xCall S_am2 1 (aCons (xBin fIx (xSlot 2) (xVal (.int 1))) aNil)) (xAnd (xCall (S_raw_is_rich 3) 2 (aCons (xSlot 1) (aCons (xBin fIx (xSlot 2) (xVal (.int 2))) aNil))) (xCall S_am2 1 (aCons (xBin fIx (xSlot 2) (xVal (.int 3))) aNil)))))))
theorem w_is_card_by (Z : Env K mg) (C_is_amount : Cal P w K mg base k "is_amount" 1 S_am2) (C_raw_is_rich : Cal P w K mg base k "raw_is_rich" 2 (S_raw_is_rich 3)) {cdv : Value} {A : Around} {outer : List PySem.Env} {s : Shared} {H : Hp} {E : XK} (hr : Room k (A.deeper (envOfC "is_card_by" (defScope s_is_card_by) s.heap.objs.size f cdv))) : SndB (cxOf (L2.CX P w) P w K mg base ["kinds", "kind", "thing", "one", "rich"] "is_card_by" (defScope s_is_card_by) f cdv A outer s H E) (defBody s_is_card_by) (m_is_card_by) := by
  refine sb_cons ?_ ?_
  refine ss_if ?_ ?_ ?_
  refine st_of ?_
  refine sw_or ?_ ?_
  refine st_not ?_
  refine st_val ?_
  refine s_isTup rfl Z.isinstance rfl Z.tuple ?_
  exact s_slot 2 rfl (.inl rfl)
  refine sw_or ?_ ?_
  refine st_neS ?_ ?_
  refine s_len rfl Z.len ?_
  exact s_slot 2 rfl (.inl rfl)
  exact s_int
  refine sw_or1 ?_
  refine st_not ?_
  refine st_val ?_
  refine s_isTup rfl Z.isinstance rfl Z.tuple ?_
  refine s_ix ?_ ?_
  exact s_slot 2 rfl (.inl rfl)
  exact s_int
  refine sb_one ?_
  refine ss_ret ?_
  exact s_bl
  exact sb_nil
  refine sb_cons ?_ ?_
  refine ss_if ?_ ?_ ?_
  refine st_of ?_
  refine sw_or ?_ ?_
  refine st_neS ?_ ?_
  refine s_len rfl Z.len ?_
  refine s_ix ?_ ?_
  exact s_slot 2 rfl (.inl rfl)
  exact s_int
  refine s_len rfl Z.len ?_
  exact s_slot 0 rfl (.inl rfl)
  refine sw_or1 ?_
  refine st_not ?_
  refine st_val ?_
  refine s_all rfl rfl Z.all ?_
  refine s_lc (js := [3, 4]) (own := [("one", 3), ("rich", 4)]) (un := un2) rfl sc_is_card_by.nd (show BlkOk ["kinds", "kind", "thing", "one", "rich"] (defScope s_is_card_by) _ _ from blk_by (by decide +kernel)) (fun s H C cl fp => pg_tup rfl (pgs_cons (pg_name sc_is_card_by.nd rfl (.inl rfl)) (pgs_cons (pg_name sc_is_card_by.nd rfl (.inl rfl)) pgs_nil))) tgt2 (by decide) (show ∀ j ∈ ([3, 4] : List Nat), j < 5 by decide) ?_ ?_
  refine si_zipT rfl Z.zip ?_
  refine s_acons ?_ ?_
  exact s_slot 0 rfl (.inl rfl)
  refine s_acons ?_ ?_
  refine s_ix ?_ ?_
  exact s_slot 2 rfl (.inl rfl)
  exact s_int
  exact s_anil
  intro s H C cl fp
  refine s_call C_raw_is_rich hr (Nat.le_refl _) rfl ?_
  refine s_acons ?_ ?_
  exact s_slot 3 rfl (.inl rfl)
  refine s_acons ?_ ?_
  exact s_slot 4 rfl (.inl rfl)
  exact s_anil
  refine sb_one ?_
  refine ss_ret ?_
  exact s_bl
  exact sb_nil
  refine sb_one ?_
  refine ss_ret ?_
  refine s_and ?_ ?_
  refine s_call C_is_amount hr (Nat.le_refl _) rfl ?_
  refine s_acons ?_ ?_
  refine s_ix ?_ ?_
  exact s_slot 2 rfl (.inl rfl)
  exact s_int
  exact s_anil
  refine s_and ?_ ?_
  refine s_call C_raw_is_rich hr (Nat.le_refl _) rfl ?_
  refine s_acons ?_ ?_
  exact s_slot 1 rfl (.inl rfl)
  refine s_acons ?_ ?_
  refine s_ix ?_ ?_
  exact s_slot 2 rfl (.inl rfl)
  exact s_int
  exact s_anil
  refine s_and1 ?_
  refine s_call C_is_amount hr (Nat.le_refl _) rfl ?_
  refine s_acons ?_ ?_
  refine s_ix ?_ ?_
  exact s_slot 2 rfl (.inl rfl)
  exact s_int
  exact s_anil
theorem sc_are_cards_by : FnScope ["kinds", "kind", "thing", "card"] ["kinds", "kind", "thing"] (defScope s_are_cards_by) := ⟨rfl, rfl, rfl, by decide +kernel, rfl, by decide +kernel, by decide +kernel⟩
def m_are_cards_by : MS :=
    (sCons (sIf (tOr (tNot (tVal (xUn (gIs D.isTup) (xSlot 2)))) (tCmp cGt (xUn gLen (xSlot 2)) (xVal (.int 4)))) (sRet (xVal (.bl false))) sNil)
    (sRet (xUn gAll (xOf (mLc un1 [3] [3] (PL.iTup (xSlot 2)) (xCall S_is_card_by 3 (aCons (xSlot 0) (aCons (xSlot 1) (aCons (xSlot 3) aNil)))))))))
theorem w_are_cards_by (Z : Env K mg) (C_is_card_by : Cal P w K mg base k "is_card_by" 3 S_is_card_by) {cdv : Value} {A : Around} {outer : List PySem.Env} {s : Shared} {H : Hp} {E : XK} (hr : Room k (A.deeper (envOfC "are_cards_by" (defScope s_are_cards_by) s.heap.objs.size f cdv))) : SndB (cxOf (L2.CX P w) P w K mg base ["kinds", "kind", "thing", "card"] "are_cards_by" (defScope s_are_cards_by) f cdv A outer s H E) (defBody s_are_cards_by) (m_are_cards_by) := by
  refine sb_cons ?_ ?_
  refine ss_if ?_ ?_ ?_
  refine st_of ?_
  refine sw_or ?_ ?_
  refine st_not ?_
  refine st_val ?_
  refine s_isTup rfl Z.isinstance rfl Z.tuple ?_
  exact s_slot 2 rfl (.inl rfl)
  refine sw_or1 ?_
  refine st_gt ?_ ?_
  refine s_len rfl Z.len ?_
  exact s_slot 2 rfl (.inl rfl)
  exact s_gint rfl Z.MOST_CARDS
  refine sb_one ?_
  refine ss_ret ?_
  exact s_bl
  exact sb_nil
  refine sb_one ?_
  refine ss_ret ?_
  refine s_all rfl rfl Z.all ?_
  refine s_lc (js := [3]) (own := [("card", 3)]) (un := un1) rfl sc_are_cards_by.nd (show BlkOk ["kinds", "kind", "thing", "card"] (defScope s_are_cards_by) _ _ from blk_by (by decide +kernel)) (fun s H C cl fp => pg_name sc_are_cards_by.nd rfl (.inl rfl)) tgt1 (by decide) (show ∀ j ∈ ([3] : List Nat), j < 4 by decide) ?_ ?_
  refine si_tup rfl ?_ (fun _ h => pi_tup h)
  exact s_slot 2 rfl (.inl rfl)
  intro s H C cl fp
  refine s_call C_is_card_by hr (Nat.le_refl _) rfl ?_
  refine s_acons ?_ ?_
  exact s_slot 0 rfl (.inr (.inl rfl))
  refine s_acons ?_ ?_
  exact s_slot 1 rfl (.inr (.inl rfl))
  refine s_acons ?_ ?_
  exact s_slot 3 rfl (.inl rfl)
  exact s_anil
theorem sc_check_kinds : FnScope ["kinds", "kind"] ["kinds", "kind"] (defScope s_check_kinds) := ⟨rfl, rfl, rfl, by decide +kernel, rfl, by decide +kernel, by decide +kernel⟩
def m_check_kinds : MS :=
    (sIf (tOr (tNot (tVal (xCall S_are_kinds 1 (aCons (xSlot 0) aNil)))) (tNot (tVal (xCall S_is_kind 1 (aCons (xSlot 1) aNil))))) (sRaise "NoKind") sNil)
theorem w_check_kinds (Z : Env K mg) (C_are_kinds : Cal P w K mg base k "are_kinds" 1 S_are_kinds) (C_is_kind : Cal P w K mg base k "is_kind" 1 S_is_kind) {cdv : Value} {A : Around} {outer : List PySem.Env} {s : Shared} {H : Hp} {E : XK} (hr : Room k (A.deeper (envOfC "check_kinds" (defScope s_check_kinds) s.heap.objs.size f cdv))) : SndB (cxOf (L2.CX P w) P w K mg base ["kinds", "kind"] "check_kinds" (defScope s_check_kinds) f cdv A outer s H E) (defBody s_check_kinds) (m_check_kinds) := by
  refine sb_one ?_
  refine ss_if ?_ ?_ ?_
  refine st_of ?_
  refine sw_or ?_ ?_
  refine st_not ?_
  refine st_val ?_
  refine s_call C_are_kinds hr (Nat.le_refl _) rfl ?_
  refine s_acons ?_ ?_
  exact s_slot 0 rfl (.inl rfl)
  exact s_anil
  refine sw_or1 ?_
  refine st_not ?_
  refine st_val ?_
  refine s_call C_is_kind hr (Nat.le_refl _) rfl ?_
  refine s_acons ?_ ?_
  exact s_slot 1 rfl (.inl rfl)
  exact s_anil
  refine sb_one ?_
  exact ss_raise rfl Z.X_NoKind rfl
  exact sb_nil
theorem sc_check_pair : FnScope ["kinds", "kind", "one", "other", "card"] ["kinds", "kind", "one", "other"] (defScope s_check_pair) := ⟨rfl, rfl, rfl, by decide +kernel, rfl, by decide +kernel, by decide +kernel⟩
def m_check_pair : MS :=
    (sCons (sExpr (xCall S_check_kinds 2 (aCons (xSlot 0) (aCons (xSlot 1) aNil))))
    (sFor un1 [4] (PL.iTup (xTup (aCons (xSlot 2) (aCons (xSlot 3) aNil)))) (sIf (tNot (tVal (xCall S_is_card_by 3 (aCons (xSlot 0) (aCons (xSlot 1) (aCons (xSlot 4) aNil)))))) (sRaise "NoCard") sNil)))
theorem w_check_pair (Z : Env K mg) (C_check_kinds : Cal P w K mg base k "check_kinds" 2 S_check_kinds) (C_is_card_by : Cal P w K mg base k "is_card_by" 3 S_is_card_by) {cdv : Value} {A : Around} {outer : List PySem.Env} {s : Shared} {H : Hp} {E : XK} (hr : Room k (A.deeper (envOfC "check_pair" (defScope s_check_pair) s.heap.objs.size f cdv))) : SndB (cxOf (L2.CX P w) P w K mg base ["kinds", "kind", "one", "other", "card"] "check_pair" (defScope s_check_pair) f cdv A outer s H E) (defBody s_check_pair) (m_check_pair) := by
  refine sb_cons ?_ ?_
  refine ss_expr ?_
  refine s_call C_check_kinds hr (Nat.le_refl _) rfl ?_
  refine s_acons ?_ ?_
  exact s_slot 0 rfl (.inl rfl)
  refine s_acons ?_ ?_
  exact s_slot 1 rfl (.inl rfl)
  exact s_anil
  refine sb_one ?_
  refine ss_for (js := [4]) (un := un1) rfl (pg_name sc_check_pair.nd rfl (.inl rfl)) tgt1 (show ∀ j ∈ ([4] : List Nat), j < 5 by decide) ?_ ?_
  refine si_tup rfl ?_ (fun _ h => pi_tup h)
  refine s_tup ?_
  refine s_acons ?_ ?_
  exact s_slot 2 rfl (.inl rfl)
  refine s_acons ?_ ?_
  exact s_slot 3 rfl (.inl rfl)
  exact s_anil
  refine sb_one ?_
  refine ss_if ?_ ?_ ?_
  refine st_not ?_
  refine st_val ?_
  refine s_call C_is_card_by hr (Nat.le_refl _) rfl ?_
  refine s_acons ?_ ?_
  exact s_slot 0 rfl (.inl rfl)
  refine s_acons ?_ ?_
  exact s_slot 1 rfl (.inl rfl)
  refine s_acons ?_ ?_
  exact s_slot 4 rfl (.inl rfl)
  exact s_anil
  refine sb_one ?_
  exact ss_raise rfl Z.X_NoCard rfl
  exact sb_nil
theorem sc_are_riches_so : FnScope ["kinds", "kind", "one", "other", "each", "mine", "its"] ["kinds", "kind", "one", "other"] (defScope s_are_riches_so) := ⟨rfl, rfl, rfl, by decide +kernel, rfl, by decide +kernel, by decide +kernel⟩
def m_are_riches_so : MS :=
    (sCons (sIf (tNot (tVal (xUn gAll (xOf (mLc un3 [4, 5, 6] [4, 5, 6] (iZip3 (aCons (xSlot 0) (aCons (xBin fIx (xSlot 2) (xVal (.int 0))) (aCons (xBin fIx (xSlot 3) (xVal (.int 0))) aNil)))) (xCall S_raw_covers 3 (aCons (xSlot 4) (aCons (xSlot 6) (aCons (xSlot 5) aNil))))))))) (sRet (xVal (.bl false))) sNil)
    (sRet (xCall S_raw_covers 3 (aCons (xSlot 1) (aCons (xBin fIx (xSlot 2) (xVal (.int 2))) (aCons (xBin fIx (xSlot 3) (xVal (.int 2))) aNil))))))
theorem w_are_riches_so (Z : Env K mg) (C_raw_covers : Cal P w K mg base k "raw_covers" 3 S_raw_covers) {cdv : Value} {A : Around} {outer : List PySem.Env} {s : Shared} {H : Hp} {E : XK} (hr : Room k (A.deeper (envOfC "are_riches_so" (defScope s_are_riches_so) s.heap.objs.size f cdv))) : SndB (cxOf (L2.CX P w) P w K mg base ["kinds", "kind", "one", "other", "each", "mine", "its"] "are_riches_so" (defScope s_are_riches_so) f cdv A outer s H E) (defBody s_are_riches_so) (m_are_riches_so) := by
  refine sb_cons ?_ ?_
  refine ss_if ?_ ?_ ?_
  refine st_not ?_
  refine st_val ?_
  refine s_all rfl rfl Z.all ?_
  refine s_lc (js := [4, 5, 6]) (own := [("each", 4), ("mine", 5), ("its", 6)]) (un := un3) rfl sc_are_riches_so.nd (show BlkOk ["kinds", "kind", "one", "other", "each", "mine", "its"] (defScope s_are_riches_so) _ _ from blk_by (by decide +kernel)) (fun s H C cl fp => pg_tup rfl (pgs_cons (pg_name sc_are_riches_so.nd rfl (.inl rfl)) (pgs_cons (pg_name sc_are_riches_so.nd rfl (.inl rfl)) (pgs_cons (pg_name sc_are_riches_so.nd rfl (.inl rfl)) pgs_nil)))) tgt3 (by decide) (show ∀ j ∈ ([4, 5, 6] : List Nat), j < 7 by decide) ?_ ?_
  refine si_zip3 rfl Z.zip ?_
  refine s_acons ?_ ?_
  exact s_slot 0 rfl (.inl rfl)
  refine s_acons ?_ ?_
  refine s_ix ?_ ?_
  exact s_slot 2 rfl (.inl rfl)
  exact s_int
  refine s_acons ?_ ?_
  refine s_ix ?_ ?_
  exact s_slot 3 rfl (.inl rfl)
  exact s_int
  exact s_anil
  intro s H C cl fp
  refine s_call C_raw_covers hr (Nat.le_refl _) rfl ?_
  refine s_acons ?_ ?_
  exact s_slot 4 rfl (.inl rfl)
  refine s_acons ?_ ?_
  exact s_slot 6 rfl (.inl rfl)
  refine s_acons ?_ ?_
  exact s_slot 5 rfl (.inl rfl)
  exact s_anil
  refine sb_one ?_
  refine ss_ret ?_
  exact s_bl
  exact sb_nil
  refine sb_one ?_
  refine ss_ret ?_
  refine s_call C_raw_covers hr (Nat.le_refl _) rfl ?_
  refine s_acons ?_ ?_
  exact s_slot 1 rfl (.inl rfl)
  refine s_acons ?_ ?_
  refine s_ix ?_ ?_
  exact s_slot 2 rfl (.inl rfl)
  exact s_int
  refine s_acons ?_ ?_
  refine s_ix ?_ ?_
  exact s_slot 3 rfl (.inl rfl)
  exact s_int
  exact s_anil
theorem sc_raw_shortfall : FnScope ["kinds", "kind", "one", "other", "paid", "left"] ["kinds", "kind", "one", "other"] (defScope s_raw_shortfall) := ⟨rfl, rfl, rfl, by decide +kernel, rfl, by decide +kernel, by decide +kernel⟩
def m_raw_shortfall : MS :=
    (sCons (sIf (tNot (tVal (xCall S_are_riches_so 4 (aCons (xSlot 0) (aCons (xSlot 1) (aCons (xSlot 2) (aCons (xSlot 3) aNil))))))) (sRet (xVal .non)) sNil)
    (sCons (sAsg 4 (xCall S_less2 2 (aCons (xBin fIx (xSlot 2) (xVal (.int 1))) (aCons (xBin fIx (xSlot 3) (xVal (.int 1))) aNil))))
    (sCons (sAsg 5 (xCall S_plus2 2 (aCons (xSlot 4) (aCons (xCall S_less2 2 (aCons (xBin fIx (xSlot 3) (xVal (.int 3))) (aCons (xBin fIx (xSlot 2) (xVal (.int 3))) aNil))) aNil))))
    (sRet (xCall S_raw_greater 2 (aCons (xVal (.tup [.int 0, .int 1])) (aCons (xCall S_raw_greater 2 (aCons (xSlot 4) (aCons (xSlot 5) aNil))) aNil)))))))
theorem w_raw_shortfall (Z : Env K mg) (C_are_riches_so : Cal P w K mg base k "are_riches_so" 4 S_are_riches_so) (C_raw_greater : Cal P w K mg base k "raw_greater" 2 S_raw_greater) (C_raw_less : Cal P w K mg base k "raw_less" 2 S_less2) (C_raw_plus : Cal P w K mg base k "raw_plus" 2 S_plus2) {cdv : Value} {A : Around} {outer : List PySem.Env} {s : Shared} {H : Hp} {E : XK} (hr : Room k (A.deeper (envOfC "raw_shortfall" (defScope s_raw_shortfall) s.heap.objs.size f cdv))) : SndB (cxOf (L2.CX P w) P w K mg base ["kinds", "kind", "one", "other", "paid", "left"] "raw_shortfall" (defScope s_raw_shortfall) f cdv A outer s H E) (defBody s_raw_shortfall) (m_raw_shortfall) := by
  refine sb_cons ?_ ?_
  refine ss_if ?_ ?_ ?_
  refine st_not ?_
  refine st_val ?_
  refine s_call C_are_riches_so hr (Nat.le_refl _) rfl ?_
  refine s_acons ?_ ?_
  exact s_slot 0 rfl (.inl rfl)
  refine s_acons ?_ ?_
  exact s_slot 1 rfl (.inl rfl)
  refine s_acons ?_ ?_
  exact s_slot 2 rfl (.inl rfl)
  refine s_acons ?_ ?_
  exact s_slot 3 rfl (.inl rfl)
  exact s_anil
  refine sb_one ?_
  refine ss_ret ?_
  exact s_non
  exact sb_nil
  refine sb_cons ?_ ?_
  refine ss_asg 4 sc_raw_shortfall.nd rfl (.inl rfl) ?_
  refine s_call C_raw_less hr (Nat.le_refl _) rfl ?_
  refine s_acons ?_ ?_
  refine s_ix ?_ ?_
  exact s_slot 2 rfl (.inl rfl)
  exact s_int
  refine s_acons ?_ ?_
  refine s_ix ?_ ?_
  exact s_slot 3 rfl (.inl rfl)
  exact s_int
  exact s_anil
  refine sb_cons ?_ ?_
  refine ss_asg 5 sc_raw_shortfall.nd rfl (.inl rfl) ?_
  refine s_call C_raw_plus hr (Nat.le_refl _) rfl ?_
  refine s_acons ?_ ?_
  exact s_slot 4 rfl (.inl rfl)
  refine s_acons ?_ ?_
  refine s_call C_raw_less hr (Nat.le_refl _) rfl ?_
  refine s_acons ?_ ?_
  refine s_ix ?_ ?_
  exact s_slot 3 rfl (.inl rfl)
  exact s_int
  refine s_acons ?_ ?_
  refine s_ix ?_ ?_
  exact s_slot 2 rfl (.inl rfl)
  exact s_int
  exact s_anil
  exact s_anil
  refine sb_one ?_
  refine ss_ret ?_
  refine s_call C_raw_greater hr (Nat.le_refl _) rfl ?_
  refine s_acons ?_ ?_
  exact s_gtup rfl Z.NOUGHT
  refine s_acons ?_ ?_
  refine s_call C_raw_greater hr (Nat.le_refl _) rfl ?_
  refine s_acons ?_ ?_
  exact s_slot 4 rfl (.inl rfl)
  refine s_acons ?_ ?_
  exact s_slot 5 rfl (.inl rfl)
  exact s_anil
  exact s_anil
theorem sc_raw_serves : FnScope ["kinds", "kind", "one", "other"] ["kinds", "kind", "one", "other"] (defScope s_raw_serves) := ⟨rfl, rfl, rfl, by decide +kernel, rfl, by decide +kernel, by decide +kernel⟩
def m_raw_serves : MS :=
    (sRet (xBin fEqD (xCall S_raw_shortfall 4 (aCons (xSlot 0) (aCons (xSlot 1) (aCons (xSlot 2) (aCons (xSlot 3) aNil))))) (xVal (.tup [.int 0, .int 1]))))
theorem w_raw_serves (Z : Env K mg) (C_raw_shortfall : Cal P w K mg base k "raw_shortfall" 4 S_raw_shortfall) {cdv : Value} {A : Around} {outer : List PySem.Env} {s : Shared} {H : Hp} {E : XK} (hr : Room k (A.deeper (envOfC "raw_serves" (defScope s_raw_serves) s.heap.objs.size f cdv))) : SndB (cxOf (L2.CX P w) P w K mg base ["kinds", "kind", "one", "other"] "raw_serves" (defScope s_raw_serves) f cdv A outer s H E) (defBody s_raw_serves) (m_raw_serves) := by
  refine sb_one ?_
  refine ss_ret ?_
  refine s_eqD hr ?_ ?_
  refine s_call C_raw_shortfall hr (Nat.le_refl _) rfl ?_
  refine s_acons ?_ ?_
  exact s_slot 0 rfl (.inl rfl)
  refine s_acons ?_ ?_
  exact s_slot 1 rfl (.inl rfl)
  refine s_acons ?_ ?_
  exact s_slot 2 rfl (.inl rfl)
  refine s_acons ?_ ?_
  exact s_slot 3 rfl (.inl rfl)
  exact s_anil
  exact s_gtup rfl Z.NOUGHT
theorem sc_serves : FnScope ["kinds", "kind", "one", "other"] ["kinds", "kind", "one", "other"] (defScope s_serves) := ⟨rfl, rfl, rfl, by decide +kernel, rfl, by decide +kernel, by decide +kernel⟩
def m_serves : MS :=
    (sCons (sExpr (xCall S_check_pair 4 (aCons (xSlot 0) (aCons (xSlot 1) (aCons (xSlot 2) (aCons (xSlot 3) aNil))))))
    (sRet (xCall S_raw_serves 4 (aCons (xSlot 0) (aCons (xSlot 1) (aCons (xSlot 2) (aCons (xSlot 3) aNil)))))))
theorem w_serves (Z : Env K mg) (C_check_pair : Cal P w K mg base k "check_pair" 4 S_check_pair) (C_raw_serves : Cal P w K mg base k "raw_serves" 4 S_raw_serves) {cdv : Value} {A : Around} {outer : List PySem.Env} {s : Shared} {H : Hp} {E : XK} (hr : Room k (A.deeper (envOfC "serves" (defScope s_serves) s.heap.objs.size f cdv))) : SndB (cxOf (L2.CX P w) P w K mg base ["kinds", "kind", "one", "other"] "serves" (defScope s_serves) f cdv A outer s H E) (defBody s_serves) (m_serves) := by
  refine sb_cons ?_ ?_
  refine ss_expr ?_
  refine s_call C_check_pair hr (Nat.le_refl _) rfl ?_
  refine s_acons ?_ ?_
  exact s_slot 0 rfl (.inl rfl)
  refine s_acons ?_ ?_
  exact s_slot 1 rfl (.inl rfl)
  refine s_acons ?_ ?_
  exact s_slot 2 rfl (.inl rfl)
  refine s_acons ?_ ?_
  exact s_slot 3 rfl (.inl rfl)
  exact s_anil
  refine sb_one ?_
  refine ss_ret ?_
  refine s_call C_raw_serves hr (Nat.le_refl _) rfl ?_
  refine s_acons ?_ ?_
  exact s_slot 0 rfl (.inl rfl)
  refine s_acons ?_ ?_
  exact s_slot 1 rfl (.inl rfl)
  refine s_acons ?_ ?_
  exact s_slot 2 rfl (.inl rfl)
  refine s_acons ?_ ?_
  exact s_slot 3 rfl (.inl rfl)
  exact s_anil
theorem sc_shortfall : FnScope ["kinds", "kind", "one", "other"] ["kinds", "kind", "one", "other"] (defScope s_shortfall) := ⟨rfl, rfl, rfl, by decide +kernel, rfl, by decide +kernel, by decide +kernel⟩
def m_shortfall : MS :=
    (sCons (sExpr (xCall S_check_pair 4 (aCons (xSlot 0) (aCons (xSlot 1) (aCons (xSlot 2) (aCons (xSlot 3) aNil))))))
    (sRet (xCall S_raw_shortfall 4 (aCons (xSlot 0) (aCons (xSlot 1) (aCons (xSlot 2) (aCons (xSlot 3) aNil)))))))
theorem w_shortfall (Z : Env K mg) (C_check_pair : Cal P w K mg base k "check_pair" 4 S_check_pair) (C_raw_shortfall : Cal P w K mg base k "raw_shortfall" 4 S_raw_shortfall) {cdv : Value} {A : Around} {outer : List PySem.Env} {s : Shared} {H : Hp} {E : XK} (hr : Room k (A.deeper (envOfC "shortfall" (defScope s_shortfall) s.heap.objs.size f cdv))) : SndB (cxOf (L2.CX P w) P w K mg base ["kinds", "kind", "one", "other"] "shortfall" (defScope s_shortfall) f cdv A outer s H E) (defBody s_shortfall) (m_shortfall) := by
  refine sb_cons ?_ ?_
  refine ss_expr ?_
  refine s_call C_check_pair hr (Nat.le_refl _) rfl ?_
  refine s_acons ?_ ?_
  exact s_slot 0 rfl (.inl rfl)
  refine s_acons ?_ ?_
  exact s_slot 1 rfl (.inl rfl)
  refine s_acons ?_ ?_
  exact s_slot 2 rfl (.inl rfl)
  refine s_acons ?_ ?_
  exact s_slot 3 rfl (.inl rfl)
  exact s_anil
  refine sb_one ?_
  refine ss_ret ?_
  refine s_call C_raw_shortfall hr (Nat.le_refl _) rfl ?_
  refine s_acons ?_ ?_
  exact s_slot 0 rfl (.inl rfl)
  refine s_acons ?_ ?_
  exact s_slot 1 rfl (.inl rfl)
  refine s_acons ?_ ?_
  exact s_slot 2 rfl (.inl rfl)
  refine s_acons ?_ ?_
  exact s_slot 3 rfl (.inl rfl)
  exact s_anil
theorem sc_both_serve : FnScope ["kinds", "kind", "one", "other", "paid", "ins", "mine", "its", "card", "each", "a", "b"] ["kinds", "kind", "one", "other"] (defScope s_both_serve) := ⟨rfl, rfl, rfl, by decide +kernel, rfl, by decide +kernel, by decide +kernel⟩
def m_both_serve : MS :=
    (sCons (sExpr (xCall S_check_pair 4 (aCons (xSlot 0) (aCons (xSlot 1) (aCons (xSlot 2) (aCons (xSlot 3) aNil))))))
    (sCons (sAsg 4 (xCall S_raw_greater 2 (aCons (xBin fIx (xSlot 2) (xVal (.int 1))) (aCons (xBin fIx (xSlot 3) (xVal (.int 1))) aNil))))
    (sCons (sTwoL 6 7 (xOf (mLc un1 [8] [8] (PL.iTup (xTup (aCons (xSlot 2) (aCons (xSlot 3) aNil)))) (xCall S_plus2 2 (aCons (xBin fIx (xSlot 8) (xVal (.int 3))) (aCons (xCall S_less2 2 (aCons (xSlot 4) (aCons (xBin fIx (xSlot 8) (xVal (.int 1))) aNil))) aNil))))))
    (sCons (sAsg 5 (xUn gTuple (xOf (mLc un3 [9, 10, 11] [9, 10, 11] (iZip3 (aCons (xSlot 0) (aCons (xBin fIx (xSlot 2) (xVal (.int 0))) (aCons (xBin fIx (xSlot 3) (xVal (.int 0))) aNil)))) (xCall S_joined 3 (aCons (xSlot 9) (aCons (xSlot 10) (aCons (xSlot 11) aNil))))))))
    (sRet (xTup (aCons (xSlot 5) (aCons (xSlot 4) (aCons (xCall S_met 3 (aCons (xSlot 1) (aCons (xBin fIx (xSlot 2) (xVal (.int 2))) (aCons (xBin fIx (xSlot 3) (xVal (.int 2))) aNil)))) (aCons (xCall S_raw_lesser 2 (aCons (xSlot 6) (aCons (xSlot 7) aNil))) aNil))))))))))
theorem w_both_serve (Z : Env K mg) (C_check_pair : Cal P w K mg base k "check_pair" 4 S_check_pair) (C_joined : Cal P w K mg base k "joined" 3 S_joined) (C_met : Cal P w K mg base k "met" 3 S_met) (C_raw_greater : Cal P w K mg base k "raw_greater" 2 S_raw_greater) (C_raw_less : Cal P w K mg base k "raw_less" 2 S_less2) (C_raw_lesser : Cal P w K mg base k "raw_lesser" 2 S_raw_lesser) (C_raw_plus : Cal P w K mg base k "raw_plus" 2 S_plus2) {cdv : Value} {A : Around} {outer : List PySem.Env} {s : Shared} {H : Hp} {E : XK} (hr : Room k (A.deeper (envOfC "both_serve" (defScope s_both_serve) s.heap.objs.size f cdv))) : SndB (cxOf (L2.CX P w) P w K mg base ["kinds", "kind", "one", "other", "paid", "ins", "mine", "its", "card", "each", "a", "b"] "both_serve" (defScope s_both_serve) f cdv A outer s H E) (defBody s_both_serve) (m_both_serve) := by
  refine sb_cons ?_ ?_
  refine ss_expr ?_
  refine s_call C_check_pair hr (Nat.le_refl _) rfl ?_
  refine s_acons ?_ ?_
  exact s_slot 0 rfl (.inl rfl)
  refine s_acons ?_ ?_
  exact s_slot 1 rfl (.inl rfl)
  refine s_acons ?_ ?_
  exact s_slot 2 rfl (.inl rfl)
  refine s_acons ?_ ?_
  exact s_slot 3 rfl (.inl rfl)
  exact s_anil
  refine sb_cons ?_ ?_
  refine ss_asg 4 sc_both_serve.nd rfl (.inr rfl) ?_
  refine s_call C_raw_greater hr (Nat.le_refl _) rfl ?_
  refine s_acons ?_ ?_
  refine s_ix ?_ ?_
  exact s_slot 2 rfl (.inl rfl)
  exact s_int
  refine s_acons ?_ ?_
  refine s_ix ?_ ?_
  exact s_slot 3 rfl (.inl rfl)
  exact s_int
  exact s_anil
  refine sb_cons ?_ ?_
  refine ss_twoL 6 7 rfl sc_both_serve.nd rfl rfl (.inl rfl) (.inl rfl) ?_
  refine s_lc (js := [8]) (own := [("card", 8)]) (un := un1) rfl sc_both_serve.nd (show BlkOk ["kinds", "kind", "one", "other", "paid", "ins", "mine", "its", "card", "each", "a", "b"] (defScope s_both_serve) _ _ from blk_by (by decide +kernel)) (fun s H C cl fp => pg_name sc_both_serve.nd rfl (.inl rfl)) tgt1 (by decide) (show ∀ j ∈ ([8] : List Nat), j < 12 by decide) ?_ ?_
  refine si_tup rfl ?_ (fun _ h => pi_tup h)
  refine s_tup ?_
  refine s_acons ?_ ?_
  exact s_slot 2 rfl (.inl rfl)
  refine s_acons ?_ ?_
  exact s_slot 3 rfl (.inl rfl)
  exact s_anil
  intro s H C cl fp
  refine s_call C_raw_plus hr (Nat.le_refl _) rfl ?_
  refine s_acons ?_ ?_
  refine s_ix ?_ ?_
  exact s_slot 8 rfl (.inl rfl)
  exact s_int
  refine s_acons ?_ ?_
  refine s_call C_raw_less hr (Nat.le_refl _) rfl ?_
  refine s_acons ?_ ?_
  exact s_slot 4 rfl (.inr (.inl rfl))
  refine s_acons ?_ ?_
  refine s_ix ?_ ?_
  exact s_slot 8 rfl (.inl rfl)
  exact s_int
  exact s_anil
  exact s_anil
  refine sb_cons ?_ ?_
  refine ss_asg 5 sc_both_serve.nd rfl (.inl rfl) ?_
  refine s_tuple rfl Z.tuple ?_
  refine s_lc (js := [9, 10, 11]) (own := [("each", 9), ("a", 10), ("b", 11)]) (un := un3) rfl sc_both_serve.nd (show BlkOk ["kinds", "kind", "one", "other", "paid", "ins", "mine", "its", "card", "each", "a", "b"] (defScope s_both_serve) _ _ from blk_by (by decide +kernel)) (fun s H C cl fp => pg_tup rfl (pgs_cons (pg_name sc_both_serve.nd rfl (.inl rfl)) (pgs_cons (pg_name sc_both_serve.nd rfl (.inl rfl)) (pgs_cons (pg_name sc_both_serve.nd rfl (.inl rfl)) pgs_nil)))) tgt3 (by decide) (show ∀ j ∈ ([9, 10, 11] : List Nat), j < 12 by decide) ?_ ?_
  refine si_zip3 rfl Z.zip ?_
  refine s_acons ?_ ?_
  exact s_slot 0 rfl (.inl rfl)
  refine s_acons ?_ ?_
  refine s_ix ?_ ?_
  exact s_slot 2 rfl (.inl rfl)
  exact s_int
  refine s_acons ?_ ?_
  refine s_ix ?_ ?_
  exact s_slot 3 rfl (.inl rfl)
  exact s_int
  exact s_anil
  intro s H C cl fp
  refine s_call C_joined hr (Nat.le_refl _) rfl ?_
  refine s_acons ?_ ?_
  exact s_slot 9 rfl (.inl rfl)
  refine s_acons ?_ ?_
  exact s_slot 10 rfl (.inl rfl)
  refine s_acons ?_ ?_
  exact s_slot 11 rfl (.inl rfl)
  exact s_anil
  refine sb_one ?_
  refine ss_ret ?_
  refine s_tup ?_
  refine s_acons ?_ ?_
  exact s_slot 5 rfl (.inl rfl)
  refine s_acons ?_ ?_
  exact s_slot 4 rfl (.inr (.inl rfl))
  refine s_acons ?_ ?_
  refine s_call C_met hr (Nat.le_refl _) rfl ?_
  refine s_acons ?_ ?_
  exact s_slot 1 rfl (.inl rfl)
  refine s_acons ?_ ?_
  refine s_ix ?_ ?_
  exact s_slot 2 rfl (.inl rfl)
  exact s_int
  refine s_acons ?_ ?_
  refine s_ix ?_ ?_
  exact s_slot 3 rfl (.inl rfl)
  exact s_int
  exact s_anil
  refine s_acons ?_ ?_
  refine s_call C_raw_lesser hr (Nat.le_refl _) rfl ?_
  refine s_acons ?_ ?_
  exact s_slot 6 rfl (.inl rfl)
  refine s_acons ?_ ?_
  exact s_slot 7 rfl (.inl rfl)
  exact s_anil
  exact s_anil
theorem sc_raw_serving : FnScope ["kinds", "kind", "cards", "card", "number", "one"] ["kinds", "kind", "cards", "card"] (defScope s_raw_serving) := ⟨rfl, rfl, rfl, by decide +kernel, rfl, by decide +kernel, by decide +kernel⟩
def m_raw_serving : MS :=
    (sCons (sFor un2 [4, 5] (PL.iEnum (xSlot 2)) (sIf (tVal (xCall S_raw_serves 4 (aCons (xSlot 0) (aCons (xSlot 1) (aCons (xSlot 5) (aCons (xSlot 3) aNil)))))) (sRet (xSlot 4)) sNil))
    (sRet (xVal .non)))
theorem w_raw_serving (Z : Env K mg) (C_raw_serves : Cal P w K mg base k "raw_serves" 4 S_raw_serves) {cdv : Value} {A : Around} {outer : List PySem.Env} {s : Shared} {H : Hp} {E : XK} (hr : Room k (A.deeper (envOfC "raw_serving" (defScope s_raw_serving) s.heap.objs.size f cdv))) : SndB (cxOf (L2.CX P w) P w K mg base ["kinds", "kind", "cards", "card", "number", "one"] "raw_serving" (defScope s_raw_serving) f cdv A outer s H E) (defBody s_raw_serving) (m_raw_serving) := by
  refine sb_cons ?_ ?_
  refine ss_for (js := [4, 5]) (un := un2) rfl (pg_tup rfl (pgs_cons (pg_name sc_raw_serving.nd rfl (.inl rfl)) (pgs_cons (pg_name sc_raw_serving.nd rfl (.inl rfl)) pgs_nil))) tgt2 (show ∀ j ∈ ([4, 5] : List Nat), j < 6 by decide) ?_ ?_
  refine si_enum rfl Z.enumerate ?_
  exact s_slot 2 rfl (.inl rfl)
  refine sb_one ?_
  refine ss_if ?_ ?_ ?_
  refine st_val ?_
  refine s_call C_raw_serves hr (Nat.le_refl _) rfl ?_
  refine s_acons ?_ ?_
  exact s_slot 0 rfl (.inl rfl)
  refine s_acons ?_ ?_
  exact s_slot 1 rfl (.inl rfl)
  refine s_acons ?_ ?_
  exact s_slot 5 rfl (.inl rfl)
  refine s_acons ?_ ?_
  exact s_slot 3 rfl (.inl rfl)
  exact s_anil
  refine sb_one ?_
  refine ss_ret ?_
  exact s_slot 4 rfl (.inl rfl)
  exact sb_nil
  refine sb_one ?_
  refine ss_ret ?_
  exact s_non
theorem sc_serving : FnScope ["kinds", "kind", "cards", "card"] ["kinds", "kind", "cards", "card"] (defScope s_serving) := ⟨rfl, rfl, rfl, by decide +kernel, rfl, by decide +kernel, by decide +kernel⟩
def m_serving : MS :=
    (sCons (sExpr (xCall S_check_kinds 2 (aCons (xSlot 0) (aCons (xSlot 1) aNil))))
    (sCons (sIf (tNot (tVal (xCall S_are_cards_by 3 (aCons (xSlot 0) (aCons (xSlot 1) (aCons (xSlot 2) aNil)))))) (sRaise "NoCards") sNil)
    (sCons (sIf (tNot (tVal (xCall S_is_card_by 3 (aCons (xSlot 0) (aCons (xSlot 1) (aCons (xSlot 3) aNil)))))) (sRaise "NoCard") sNil)
    (sRet (xCall S_raw_serving 4 (aCons (xSlot 0) (aCons (xSlot 1) (aCons (xSlot 2) (aCons (xSlot 3) aNil)))))))))
theorem w_serving (Z : Env K mg) (C_are_cards_by : Cal P w K mg base k "are_cards_by" 3 S_are_cards_by) (C_check_kinds : Cal P w K mg base k "check_kinds" 2 S_check_kinds) (C_is_card_by : Cal P w K mg base k "is_card_by" 3 S_is_card_by) (C_raw_serving : Cal P w K mg base k "raw_serving" 4 S_raw_serving) {cdv : Value} {A : Around} {outer : List PySem.Env} {s : Shared} {H : Hp} {E : XK} (hr : Room k (A.deeper (envOfC "serving" (defScope s_serving) s.heap.objs.size f cdv))) : SndB (cxOf (L2.CX P w) P w K mg base ["kinds", "kind", "cards", "card"] "serving" (defScope s_serving) f cdv A outer s H E) (defBody s_serving) (m_serving) := by
  refine sb_cons ?_ ?_
  refine ss_expr ?_
  refine s_call C_check_kinds hr (Nat.le_refl _) rfl ?_
  refine s_acons ?_ ?_
  exact s_slot 0 rfl (.inl rfl)
  refine s_acons ?_ ?_
  exact s_slot 1 rfl (.inl rfl)
  exact s_anil
  refine sb_cons ?_ ?_
  refine ss_if ?_ ?_ ?_
  refine st_not ?_
  refine st_val ?_
  refine s_call C_are_cards_by hr (Nat.le_refl _) rfl ?_
  refine s_acons ?_ ?_
  exact s_slot 0 rfl (.inl rfl)
  refine s_acons ?_ ?_
  exact s_slot 1 rfl (.inl rfl)
  refine s_acons ?_ ?_
  exact s_slot 2 rfl (.inl rfl)
  exact s_anil
  refine sb_one ?_
  exact ss_raise rfl Z.X_NoCards rfl
  exact sb_nil
  refine sb_cons ?_ ?_
  refine ss_if ?_ ?_ ?_
  refine st_not ?_
  refine st_val ?_
  refine s_call C_is_card_by hr (Nat.le_refl _) rfl ?_
  refine s_acons ?_ ?_
  exact s_slot 0 rfl (.inl rfl)
  refine s_acons ?_ ?_
  exact s_slot 1 rfl (.inl rfl)
  refine s_acons ?_ ?_
  exact s_slot 3 rfl (.inl rfl)
  exact s_anil
  refine sb_one ?_
  exact ss_raise rfl Z.X_NoCard rfl
  exact sb_nil
  refine sb_one ?_
  refine ss_ret ?_
  refine s_call C_raw_serving hr (Nat.le_refl _) rfl ?_
  refine s_acons ?_ ?_
  exact s_slot 0 rfl (.inl rfl)
  refine s_acons ?_ ?_
  exact s_slot 1 rfl (.inl rfl)
  refine s_acons ?_ ?_
  exact s_slot 2 rfl (.inl rfl)
  refine s_acons ?_ ?_
  exact s_slot 3 rfl (.inl rfl)
  exact s_anil
theorem sc__law_hand : FnScope ["script", "cells", "cell"] ["script"] (defScope s__law_hand) := ⟨rfl, rfl, rfl, by decide +kernel, rfl, by decide +kernel, by decide +kernel⟩
def m__law_hand : MS :=
    (sCons (sLc 1 (mLc un1 [2] [2] (iLst (xSlL (xSlot 0) oNone (oSome (xVal (.int 63))))) (xBin fMod (xUn gInt (xUn gAbs (xUn gInt (xSlot 2)))) (xBin fPow (xVal (.int 10)) (xVal (.int 36))))))
    (sRet (xLst (aCons (xSlot 1) (aCons (xVal (.int 0)) (aCons (xVal (.int 0)) (aCons (xBin fAdd (xVal (.int 257)) (xBin fMulS (xVal (.int 5)) (xUn gLen (xSlot 1)))) (aCons (xVal (.int 0)) aNil))))))))
theorem w__law_hand (Z : Env K mg)  {cdv : Value} {A : Around} {outer : List PySem.Env} {s : Shared} {H : Hp} {E : XK} (hr : Room k (A.deeper (envOfC "_law_hand" (defScope s__law_hand) s.heap.objs.size f cdv))) : SndB (cxOf (L2.CX P w) P w K mg base ["script", "cells", "cell"] "_law_hand" (defScope s__law_hand) f cdv A outer s H E) (defBody s__law_hand) (m__law_hand) := by
  refine sb_cons ?_ ?_
  refine ss_lc 1 rfl rfl (js := [2]) (own := [("cell", 2)]) (un := un1) rfl sc__law_hand.nd (show BlkOk ["script", "cells", "cell"] (defScope s__law_hand) _ _ from blk_by (by decide +kernel)) (fun s H C cl fp => pg_name sc__law_hand.nd rfl (.inl rfl)) tgt1 (by decide) (show ∀ j ∈ ([2] : List Nat), j < 3 by decide) ?_ ?_ rfl
  refine si_lst rfl ?_ (fun _ h => pi_list h)
  refine s_slL ?_ ?_ ?_
  exact s_slot 0 rfl (.inl rfl)
  exact s_onone
  refine s_osome ?_
  exact s_int
  intro s H C cl fp
  refine s_mod ?_ ?_
  refine s_intI rfl Z.int ?_
  refine s_abs rfl Z.abs ?_
  refine s_intI rfl Z.int ?_
  exact s_slot 2 rfl (.inl rfl)
  refine s_pow ?_ ?_
  exact s_int
  exact s_int
  refine sb_one ?_
  refine ss_ret ?_
  refine s_lst ?_
  refine s_acons ?_ ?_
  exact s_slot 1 rfl (.inl rfl)
  refine s_acons ?_ ?_
  exact s_int
  refine s_acons ?_ ?_
  exact s_int
  refine s_acons ?_ ?_
  refine s_add ?_ ?_
  exact s_int
  refine s_mulS ?_ ?_
  exact s_int
  refine s_len rfl Z.len ?_
  exact s_slot 1 rfl (.inl rfl)
  refine s_acons ?_ ?_
  exact s_int
  exact s_anil
theorem sc__law_draw : FnScope ["hand", "many", "number", "cell", "digit"] ["hand", "many"] (defScope s__law_draw) := ⟨rfl, rfl, rfl, by decide +kernel, rfl, by decide +kernel, by decide +kernel⟩
def m__law_draw : MS :=
    (sCons (sIf (tAnd (tCmp cEqS (xBin fIx (xSlot 0) (xVal (.int 2))) (xVal (.int 0))) (tCmp cLt (xBin fIx (xSlot 0) (xVal (.int 1))) (xUn gLen (xBin fIx (xSlot 0) (xVal (.int 0)))))) (sCons (sAsg 3 (xBin fIx (xBin fIx (xSlot 0) (xVal (.int 0))) (xBin fIx (xSlot 0) (xVal (.int 1)))))
    (sCons (sHset GoodH 0 (xVal (.int 1)) (xBin fAdd (xBin fIx (xSlot 0) (xVal (.int 1))) (xVal (.int 1))))
    (sCons (sHset GoodH 0 (xVal (.int 3)) (xBin fMod (xUn gInt (xBin fAdd (xBin fAdd (xBin fMulS (xBin fIx (xSlot 0) (xVal (.int 3))) (xVal (.int 69621))) (xBin fMulS (xSlot 3) (xVal (.int 7)))) (xVal (.int 61)))) (xVal (.int 2147483629))))
    (sHset GoodH 0 (xVal (.int 2)) (xIf (tCmp cGe (xSlot 3) (xBin fPow (xVal (.int 10)) (xVal (.int 18)))) (xSlot 3) (xVal (.int 0))))))) sNil)
    (sCons (sIf (tCmp cGt (xBin fIx (xSlot 0) (xVal (.int 2))) (xVal (.int 0))) (sCons (sAsg 4 (xBin fMod (xUn gInt (xBin fIx (xSlot 0) (xVal (.int 2)))) (xSlot 1)))
    (sCons (sHset GoodH 0 (xVal (.int 2)) (xBin fDiv (xBin fIx (xSlot 0) (xVal (.int 2))) (xSlot 1)))
    (sRet (xSlot 4)))) sNil)
    (sCons (sHset GoodH 0 (xVal (.int 4)) (xBin fAdd (xBin fIx (xSlot 0) (xVal (.int 4))) (xVal (.int 1))))
    (sCons (sAsg 2 (xBin fMod (xUn gInt (xBin fMulS (xUn gInt (xBin fAdd (xBin fIx (xSlot 0) (xVal (.int 3))) (xBin fMulS (xVal (.int 7919)) (xBin fIx (xSlot 0) (xVal (.int 4)))))) (xVal (.int 48271)))) (xVal (.int 2147483647))))
    (sCons (sAsg 2 (xBin fMod (xUn gInt (xBin fMulS (xSlot 2) (xBin fAdd (xBin fDiv (xSlot 2) (xVal (.int 1009))) (xVal (.int 69621))))) (xVal (.int 2147483647))))
    (sRet (xBin fMod (xUn gInt (xBin fDiv (xSlot 2) (xVal (.int 16)))) (xSlot 1))))))))
theorem w__law_draw (Z : Env K mg) (HO : HandOk K mg)  {cdv : Value} {A : Around} {outer : List PySem.Env} {s : Shared} {H : Hp} {E : XK} (hr : Room k (A.deeper (envOfC "_law_draw" (defScope s__law_draw) s.heap.objs.size f cdv))) : SndB (cxOf (L2.CX P w) P w K mg base ["hand", "many", "number", "cell", "digit"] "_law_draw" (defScope s__law_draw) f cdv A outer s H E) (defBody s__law_draw) (m__law_draw) := by
  refine sb_cons ?_ ?_
  refine ss_if ?_ ?_ ?_
  refine st_of ?_
  refine sw_and ?_ ?_
  refine st_eqS ?_ ?_
  refine s_ix ?_ ?_
  exact s_slot 0 rfl (.inl rfl)
  exact s_int
  exact s_int
  refine sw_and1 ?_
  refine st_lt ?_ ?_
  refine s_ix ?_ ?_
  exact s_slot 0 rfl (.inl rfl)
  exact s_int
  refine s_len rfl Z.len ?_
  refine s_ix ?_ ?_
  exact s_slot 0 rfl (.inl rfl)
  exact s_int
  refine sb_cons ?_ ?_
  refine ss_asg 3 sc__law_draw.nd rfl (.inl rfl) ?_
  refine s_ix ?_ ?_
  refine s_ix ?_ ?_
  exact s_slot 0 rfl (.inl rfl)
  exact s_int
  refine s_ix ?_ ?_
  exact s_slot 0 rfl (.inl rfl)
  exact s_int
  refine sb_cons ?_ ?_
  refine ss_hset HO.cl 0 rfl (.inl rfl) ?_
  refine s_add ?_ ?_
  refine s_ix ?_ ?_
  exact s_slot 0 rfl (.inl rfl)
  exact s_int
  exact s_int
  refine sb_cons ?_ ?_
  refine ss_hset HO.cl 0 rfl (.inl rfl) ?_
  refine s_mod ?_ ?_
  refine s_intI rfl Z.int ?_
  refine s_add ?_ ?_
  refine s_add ?_ ?_
  refine s_mulS ?_ ?_
  refine s_ix ?_ ?_
  exact s_slot 0 rfl (.inl rfl)
  exact s_int
  exact s_int
  refine s_mulS ?_ ?_
  exact s_slot 3 rfl (.inl rfl)
  exact s_int
  exact s_int
  exact s_int
  refine sb_one ?_
  refine ss_hset HO.cl 0 rfl (.inl rfl) ?_
  refine s_if ?_ ?_ ?_
  refine st_ge ?_ ?_
  exact s_slot 3 rfl (.inl rfl)
  refine s_pow ?_ ?_
  exact s_int
  exact s_int
  exact s_slot 3 rfl (.inl rfl)
  exact s_int
  exact sb_nil
  refine sb_cons ?_ ?_
  refine ss_if ?_ ?_ ?_
  refine st_gt ?_ ?_
  refine s_ix ?_ ?_
  exact s_slot 0 rfl (.inl rfl)
  exact s_int
  exact s_int
  refine sb_cons ?_ ?_
  refine ss_asg 4 sc__law_draw.nd rfl (.inl rfl) ?_
  refine s_mod ?_ ?_
  refine s_intI rfl Z.int ?_
  refine s_ix ?_ ?_
  exact s_slot 0 rfl (.inl rfl)
  exact s_int
  exact s_slot 1 rfl (.inl rfl)
  refine sb_cons ?_ ?_
  refine ss_hset HO.cl 0 rfl (.inl rfl) ?_
  refine s_fdiv ?_ ?_
  refine s_ix ?_ ?_
  exact s_slot 0 rfl (.inl rfl)
  exact s_int
  exact s_slot 1 rfl (.inl rfl)
  refine sb_one ?_
  refine ss_ret ?_
  exact s_slot 4 rfl (.inl rfl)
  exact sb_nil
  refine sb_cons ?_ ?_
  refine ss_hset HO.cl 0 rfl (.inl rfl) ?_
  refine s_add ?_ ?_
  refine s_ix ?_ ?_
  exact s_slot 0 rfl (.inl rfl)
  exact s_int
  exact s_int
  refine sb_cons ?_ ?_
  refine ss_asg 2 sc__law_draw.nd rfl (.inl rfl) ?_
  refine s_mod ?_ ?_
  refine s_intI rfl Z.int ?_
  refine s_mulS ?_ ?_
  refine s_intI rfl Z.int ?_
  refine s_add ?_ ?_
  refine s_ix ?_ ?_
  exact s_slot 0 rfl (.inl rfl)
  exact s_int
  refine s_mulS ?_ ?_
  exact s_int
  refine s_ix ?_ ?_
  exact s_slot 0 rfl (.inl rfl)
  exact s_int
  exact s_int
  exact s_int
  refine sb_cons ?_ ?_
  refine ss_asg 2 sc__law_draw.nd rfl (.inl rfl) ?_
  refine s_mod ?_ ?_
  refine s_intI rfl Z.int ?_
  refine s_mulS ?_ ?_
  exact s_slot 2 rfl (.inl rfl)
  refine s_add ?_ ?_
  refine s_fdiv ?_ ?_
  exact s_slot 2 rfl (.inl rfl)
  exact s_int
  exact s_int
  exact s_int
  refine sb_one ?_
  refine ss_ret ?_
  refine s_mod ?_ ?_
  refine s_intI rfl Z.int ?_
  refine s_fdiv ?_ ?_
  exact s_slot 2 rfl (.inl rfl)
  exact s_int
  exact s_slot 1 rfl (.inl rfl)
theorem sc__law_any : FnScope ["hand", "some"] ["hand", "some"] (defScope s__law_any) := ⟨rfl, rfl, rfl, by decide +kernel, rfl, by decide +kernel, by decide +kernel⟩
def m__law_any : MS :=
    (sRet (xBin fIx (xSlot 1) (xCall S__law_draw 2 (aCons (xSlot 0) (aCons (xUn gLen (xSlot 1)) aNil)))))
theorem w__law_any (Z : Env K mg) (C__law_draw : Cal P w K mg base k "_law_draw" 2 S__law_draw) {cdv : Value} {A : Around} {outer : List PySem.Env} {s : Shared} {H : Hp} {E : XK} (hr : Room k (A.deeper (envOfC "_law_any" (defScope s__law_any) s.heap.objs.size f cdv))) : SndB (cxOf (L2.CX P w) P w K mg base ["hand", "some"] "_law_any" (defScope s__law_any) f cdv A outer s H E) (defBody s__law_any) (m__law_any) := by
  refine sb_one ?_
  refine ss_ret ?_
  refine s_ix ?_ ?_
  exact s_slot 1 rfl (.inl rfl)
  refine s_call C__law_draw hr (Nat.le_refl _) rfl ?_
  refine s_acons ?_ ?_
  exact s_slot 0 rfl (.inl rfl)
  refine s_acons ?_ ?_
  refine s_len rfl Z.len ?_
  exact s_slot 1 rfl (.inl rfl)
  exact s_anil
theorem sc__law_is : FnScope ["one", "other"] ["one", "other"] (defScope s__law_is) := ⟨rfl, rfl, rfl, by decide +kernel, rfl, by decide +kernel, by decide +kernel⟩
def m__law_is : MS :=
    (sRet (xBin fEqS (xUn gRepr (xSlot 0)) (xUn gRepr (xSlot 1))))
theorem w__law_is (Z : Env K mg)  {cdv : Value} {A : Around} {outer : List PySem.Env} {s : Shared} {H : Hp} {E : XK} (hr : RoomG k (A.deeper (envOfC "_law_is" (defScope s__law_is) s.heap.objs.size f cdv))) : SndB (cxOf (L2.CX P w) P w K mg base ["one", "other"] "_law_is" (defScope s__law_is) f cdv A outer s H E) (defBody s__law_is) (m__law_is) := by
  refine sb_one ?_
  refine ss_ret ?_
  refine s_eqS ?_ ?_
  refine s_repr hr rfl Z.repr ?_
  exact s_slot 0 rfl (.inl rfl)
  refine s_repr hr rfl Z.repr ?_
  exact s_slot 1 rfl (.inl rfl)
theorem sc__law_amount : FnScope ["two"] ["two"] (defScope s__law_amount) := ⟨rfl, rfl, rfl, by decide +kernel, rfl, by decide +kernel, by decide +kernel⟩
def m__law_amount : MS :=
    (sRet (xIf (tCmp cEqS (xSlot 0) (xBin fMul (xVal (.int 2)) (xBin fDiv (xSlot 0) (xVal (.int 2))))) (xTup (aCons (xBin fDiv (xSlot 0) (xVal (.int 2))) (aCons (xVal (.int 1)) aNil))) (xTup (aCons (xSlot 0) (aCons (xVal (.int 2)) aNil)))))
theorem w__law_amount (Z : Env K mg)  {cdv : Value} {A : Around} {outer : List PySem.Env} {s : Shared} {H : Hp} {E : XK} (hr : Room k (A.deeper (envOfC "_law_amount" (defScope s__law_amount) s.heap.objs.size f cdv))) : SndB (cxOf (L2.CX P w) P w K mg base ["two"] "_law_amount" (defScope s__law_amount) f cdv A outer s H E) (defBody s__law_amount) (m__law_amount) := by
  refine sb_one ?_
  refine ss_ret ?_
  refine s_if ?_ ?_ ?_
  refine st_eqS ?_ ?_
  exact s_slot 0 rfl (.inl rfl)
  refine s_mul ?_ ?_
  exact s_int
  refine s_fdiv ?_ ?_
  exact s_slot 0 rfl (.inl rfl)
  exact s_int
  refine s_tup ?_
  refine s_acons ?_ ?_
  refine s_fdiv ?_ ?_
  exact s_slot 0 rfl (.inl rfl)
  exact s_int
  refine s_acons ?_ ?_
  exact s_int
  exact s_anil
  refine s_tup ?_
  refine s_acons ?_ ?_
  exact s_slot 0 rfl (.inl rfl)
  refine s_acons ?_ ?_
  exact s_int
  exact s_anil
theorem sc__law_halves : FnScope ["amount"] ["amount"] (defScope s__law_halves) := ⟨rfl, rfl, rfl, by decide +kernel, rfl, by decide +kernel, by decide +kernel⟩
def m__law_halves : MS :=
    (sRet (xBin fDiv (xBin fMul (xVal (.int 2)) (xBin fIx (xSlot 0) (xVal (.int 0)))) (xBin fIx (xSlot 0) (xVal (.int 1)))))
theorem w__law_halves (Z : Env K mg)  {cdv : Value} {A : Around} {outer : List PySem.Env} {s : Shared} {H : Hp} {E : XK} (hr : Room k (A.deeper (envOfC "_law_halves" (defScope s__law_halves) s.heap.objs.size f cdv))) : SndB (cxOf (L2.CX P w) P w K mg base ["amount"] "_law_halves" (defScope s__law_halves) f cdv A outer s H E) (defBody s__law_halves) (m__law_halves) := by
  refine sb_one ?_
  refine ss_ret ?_
  refine s_fdiv ?_ ?_
  refine s_mul ?_ ?_
  exact s_int
  refine s_ix ?_ ?_
  exact s_slot 0 rfl (.inl rfl)
  exact s_int
  refine s_ix ?_ ?_
  exact s_slot 0 rfl (.inl rfl)
  exact s_int
theorem sc__law_kind : FnScope ["hand", "height", "word"] ["hand", "height"] (defScope s__law_kind) := ⟨rfl, rfl, rfl, by decide +kernel, rfl, by decide +kernel, by decide +kernel⟩
def m__law_kind (S : Sem1) : MS :=
    (sCons (sAsg 2 (xCall S__law_any 2 (aCons (xSlot 0) (aCons (xLst (aCons (xVal (.str "int")) (aCons (xVal (.str "flag")) (aCons (xVal (.str "list")) (aCons (xVal (.str "tree")) (aCons (xVal (.str "pair")) (aCons (xVal (.str "either")) aNil))))))) aNil))))
    (sCons (sIf (tOr (tCmp cLe (xSlot 1) (xVal (.int 0))) (tCmp cIn (xSlot 2) (xTup (aCons (xVal (.str "int")) (aCons (xVal (.str "flag")) aNil))))) (sRet (xIf (tCmp cIn (xSlot 2) (xTup (aCons (xVal (.str "int")) (aCons (xVal (.str "flag")) aNil)))) (xSlot 2) (xVal (.str "int")))) sNil)
    (sCons (sIf (tCmp cIn (xSlot 2) (xTup (aCons (xVal (.str "list")) (aCons (xVal (.str "tree")) aNil)))) (sRet (xTup (aCons (xSlot 2) (aCons (xCall S 2 (aCons (xSlot 0) (aCons (xBin fSub (xSlot 1) (xVal (.int 1))) aNil))) aNil)))) sNil)
    (sRet (xTup (aCons (xSlot 2) (aCons (xCall S 2 (aCons (xSlot 0) (aCons (xBin fSub (xSlot 1) (xVal (.int 1))) aNil))) (aCons (xCall S 2 (aCons (xSlot 0) (aCons (xBin fSub (xSlot 1) (xVal (.int 1))) aNil))) aNil))))))))
theorem w__law_kind (Z : Env K mg) (S : Sem1) (C__law_any : Cal P w K mg base k "_law_any" 2 S__law_any) (C__law_kind : Cal P w K mg base k "_law_kind" 2 S) {cdv : Value} {A : Around} {outer : List PySem.Env} {s : Shared} {H : Hp} {E : XK} (hr : Room k (A.deeper (envOfC "_law_kind" (defScope s__law_kind) s.heap.objs.size f cdv))) : SndB (cxOf (L2.CX P w) P w K mg base ["hand", "height", "word"] "_law_kind" (defScope s__law_kind) f cdv A outer s H E) (defBody s__law_kind) (m__law_kind S) := by
  refine sb_cons ?_ ?_
  refine ss_asg 2 sc__law_kind.nd rfl (.inl rfl) ?_
  refine s_call C__law_any hr (Nat.le_refl _) rfl ?_
  refine s_acons ?_ ?_
  exact s_slot 0 rfl (.inl rfl)
  refine s_acons ?_ ?_
  refine s_lst ?_
  refine s_acons ?_ ?_
  exact s_str
  refine s_acons ?_ ?_
  exact s_str
  refine s_acons ?_ ?_
  exact s_str
  refine s_acons ?_ ?_
  exact s_str
  refine s_acons ?_ ?_
  exact s_str
  refine s_acons ?_ ?_
  exact s_str
  exact s_anil
  exact s_anil
  refine sb_cons ?_ ?_
  refine ss_if ?_ ?_ ?_
  refine st_of ?_
  refine sw_or ?_ ?_
  refine st_le ?_ ?_
  exact s_slot 1 rfl (.inl rfl)
  exact s_int
  refine sw_or1 ?_
  refine st_in ?_ ?_
  exact s_slot 2 rfl (.inl rfl)
  refine s_tup ?_
  refine s_acons ?_ ?_
  exact s_str
  refine s_acons ?_ ?_
  exact s_str
  exact s_anil
  refine sb_one ?_
  refine ss_ret ?_
  refine s_if ?_ ?_ ?_
  refine st_in ?_ ?_
  exact s_slot 2 rfl (.inl rfl)
  refine s_tup ?_
  refine s_acons ?_ ?_
  exact s_str
  refine s_acons ?_ ?_
  exact s_str
  exact s_anil
  exact s_slot 2 rfl (.inl rfl)
  exact s_str
  exact sb_nil
  refine sb_cons ?_ ?_
  refine ss_if ?_ ?_ ?_
  refine st_in ?_ ?_
  exact s_slot 2 rfl (.inl rfl)
  refine s_tup ?_
  refine s_acons ?_ ?_
  exact s_str
  refine s_acons ?_ ?_
  exact s_str
  exact s_anil
  refine sb_one ?_
  refine ss_ret ?_
  refine s_tup ?_
  refine s_acons ?_ ?_
  exact s_slot 2 rfl (.inl rfl)
  refine s_acons ?_ ?_
  refine s_call C__law_kind hr (Nat.le_refl _) rfl ?_
  refine s_acons ?_ ?_
  exact s_slot 0 rfl (.inl rfl)
  refine s_acons ?_ ?_
  refine s_sub ?_ ?_
  exact s_slot 1 rfl (.inl rfl)
  exact s_int
  exact s_anil
  exact s_anil
  exact sb_nil
  refine sb_one ?_
  refine ss_ret ?_
  refine s_tup ?_
  refine s_acons ?_ ?_
  exact s_slot 2 rfl (.inl rfl)
  refine s_acons ?_ ?_
  refine s_call C__law_kind hr (Nat.le_refl _) rfl ?_
  refine s_acons ?_ ?_
  exact s_slot 0 rfl (.inl rfl)
  refine s_acons ?_ ?_
  refine s_sub ?_ ?_
  exact s_slot 1 rfl (.inl rfl)
  exact s_int
  exact s_anil
  refine s_acons ?_ ?_
  refine s_call C__law_kind hr (Nat.le_refl _) rfl ?_
  refine s_acons ?_ ?_
  exact s_slot 0 rfl (.inl rfl)
  refine s_acons ?_ ?_
  refine s_sub ?_ ?_
  exact s_slot 1 rfl (.inl rfl)
  exact s_int
  exact s_anil
  exact s_anil
theorem sc__law_rich : FnScope ["hand", "kind", "one"] ["hand", "kind"] (defScope s__law_rich) := ⟨rfl, rfl, rfl, by decide +kernel, rfl, by decide +kernel, by decide +kernel⟩
def m__law_rich (S : Sem1) : MS :=
    (sCons (sIf (tCmp cInD (xSlot 1) (xTup (aCons (xVal (.str "int")) (aCons (xVal (.str "flag")) aNil)))) (sRet (xTup aNil)) sNil)
    (sCons (sIf (tCmp cEqS (xBin fIx (xSlot 1) (xVal (.int 0))) (xVal (.str "pair"))) (sRet (xTup (aCons (xCall S 2 (aCons (xSlot 0) (aCons (xBin fIx (xSlot 1) (xVal (.int 1))) aNil))) (aCons (xCall S 2 (aCons (xSlot 0) (aCons (xBin fIx (xSlot 1) (xVal (.int 2))) aNil))) aNil)))) sNil)
    (sCons (sAsg 2 (xCall S__law_amount 1 (aCons (xCall S__law_draw 2 (aCons (xSlot 0) (aCons (xVal (.int 5)) aNil))) aNil)))
    (sCons (sIf (tCmp cIn (xBin fIx (xSlot 1) (xVal (.int 0))) (xTup (aCons (xVal (.str "list")) (aCons (xVal (.str "tree")) aNil)))) (sRet (xTup (aCons (xSlot 2) (aCons (xCall S 2 (aCons (xSlot 0) (aCons (xBin fIx (xSlot 1) (xVal (.int 1))) aNil))) aNil)))) sNil)
    (sRet (xTup (aCons (xSlot 2) (aCons (xCall S 2 (aCons (xSlot 0) (aCons (xBin fIx (xSlot 1) (xVal (.int 1))) aNil))) (aCons (xCall S__law_amount 1 (aCons (xCall S__law_draw 2 (aCons (xSlot 0) (aCons (xVal (.int 5)) aNil))) aNil)) (aCons (xCall S 2 (aCons (xSlot 0) (aCons (xBin fIx (xSlot 1) (xVal (.int 2))) aNil))) aNil))))))))))
theorem w__law_rich (Z : Env K mg) (S : Sem1) (C__law_amount : Cal P w K mg base k "_law_amount" 1 S__law_amount) (C__law_draw : Cal P w K mg base k "_law_draw" 2 S__law_draw) (C__law_rich : Cal P w K mg base k "_law_rich" 2 S) {cdv : Value} {A : Around} {outer : List PySem.Env} {s : Shared} {H : Hp} {E : XK} (hr : Room k (A.deeper (envOfC "_law_rich" (defScope s__law_rich) s.heap.objs.size f cdv))) : SndB (cxOf (L2.CX P w) P w K mg base ["hand", "kind", "one"] "_law_rich" (defScope s__law_rich) f cdv A outer s H E) (defBody s__law_rich) (m__law_rich S) := by
  refine sb_cons ?_ ?_
  refine ss_if ?_ ?_ ?_
  refine st_inD hr ?_ ?_
  exact s_slot 1 rfl (.inl rfl)
  refine s_tup ?_
  refine s_acons ?_ ?_
  exact s_str
  refine s_acons ?_ ?_
  exact s_str
  exact s_anil
  refine sb_one ?_
  refine ss_ret ?_
  refine s_tup ?_
  exact s_anil
  exact sb_nil
  refine sb_cons ?_ ?_
  refine ss_if ?_ ?_ ?_
  refine st_eqS ?_ ?_
  refine s_ix ?_ ?_
  exact s_slot 1 rfl (.inl rfl)
  exact s_int
  exact s_str
  refine sb_one ?_
  refine ss_ret ?_
  refine s_tup ?_
  refine s_acons ?_ ?_
  refine s_call C__law_rich hr (Nat.le_refl _) rfl ?_
  refine s_acons ?_ ?_
  exact s_slot 0 rfl (.inl rfl)
  refine s_acons ?_ ?_
  refine s_ix ?_ ?_
  exact s_slot 1 rfl (.inl rfl)
  exact s_int
  exact s_anil
  refine s_acons ?_ ?_
  refine s_call C__law_rich hr (Nat.le_refl _) rfl ?_
  refine s_acons ?_ ?_
  exact s_slot 0 rfl (.inl rfl)
  refine s_acons ?_ ?_
  refine s_ix ?_ ?_
  exact s_slot 1 rfl (.inl rfl)
  exact s_int
  exact s_anil
  exact s_anil
  exact sb_nil
  refine sb_cons ?_ ?_
  refine ss_asg 2 sc__law_rich.nd rfl (.inl rfl) ?_
  refine s_call C__law_amount hr (Nat.le_refl _) rfl ?_
  refine s_acons ?_ ?_
  refine s_call C__law_draw hr (Nat.le_refl _) rfl ?_
  refine s_acons ?_ ?_
  exact s_slot 0 rfl (.inl rfl)
  refine s_acons ?_ ?_
  exact s_int
  exact s_anil
  exact s_anil
  refine sb_cons ?_ ?_
  refine ss_if ?_ ?_ ?_
  refine st_in ?_ ?_
  refine s_ix ?_ ?_
  exact s_slot 1 rfl (.inl rfl)
  exact s_int
  refine s_tup ?_
  refine s_acons ?_ ?_
  exact s_str
  refine s_acons ?_ ?_
  exact s_str
  exact s_anil
  refine sb_one ?_
  refine ss_ret ?_
  refine s_tup ?_
  refine s_acons ?_ ?_
  exact s_slot 2 rfl (.inl rfl)
  refine s_acons ?_ ?_
  refine s_call C__law_rich hr (Nat.le_refl _) rfl ?_
  refine s_acons ?_ ?_
  exact s_slot 0 rfl (.inl rfl)
  refine s_acons ?_ ?_
  refine s_ix ?_ ?_
  exact s_slot 1 rfl (.inl rfl)
  exact s_int
  exact s_anil
  exact s_anil
  exact sb_nil
  refine sb_one ?_
  refine ss_ret ?_
  refine s_tup ?_
  refine s_acons ?_ ?_
  exact s_slot 2 rfl (.inl rfl)
  refine s_acons ?_ ?_
  refine s_call C__law_rich hr (Nat.le_refl _) rfl ?_
  refine s_acons ?_ ?_
  exact s_slot 0 rfl (.inl rfl)
  refine s_acons ?_ ?_
  refine s_ix ?_ ?_
  exact s_slot 1 rfl (.inl rfl)
  exact s_int
  exact s_anil
  refine s_acons ?_ ?_
  refine s_call C__law_amount hr (Nat.le_refl _) rfl ?_
  refine s_acons ?_ ?_
  refine s_call C__law_draw hr (Nat.le_refl _) rfl ?_
  refine s_acons ?_ ?_
  exact s_slot 0 rfl (.inl rfl)
  refine s_acons ?_ ?_
  exact s_int
  exact s_anil
  exact s_anil
  refine s_acons ?_ ?_
  refine s_call C__law_rich hr (Nat.le_refl _) rfl ?_
  refine s_acons ?_ ?_
  exact s_slot 0 rfl (.inl rfl)
  refine s_acons ?_ ?_
  refine s_ix ?_ ?_
  exact s_slot 1 rfl (.inl rfl)
  exact s_int
  exact s_anil
  exact s_anil
theorem sc__law_flat : FnScope ["kind", "rich"] ["kind", "rich"] (defScope s__law_flat) := ⟨rfl, rfl, rfl, by decide +kernel, rfl, by decide +kernel, by decide +kernel⟩
def m__law_flat (S : Sem1) : MS :=
    (sCons (sIf (tCmp cInD (xSlot 0) (xTup (aCons (xVal (.str "int")) (aCons (xVal (.str "flag")) aNil)))) (sRet (xLst aNil)) sNil)
    (sCons (sIf (tCmp cEqS (xBin fIx (xSlot 0) (xVal (.int 0))) (xVal (.str "pair"))) (sRet (xBin fCat (xCall S 2 (aCons (xBin fIx (xSlot 0) (xVal (.int 1))) (aCons (xBin fIx (xSlot 1) (xVal (.int 0))) aNil))) (xCall S 2 (aCons (xBin fIx (xSlot 0) (xVal (.int 2))) (aCons (xBin fIx (xSlot 1) (xVal (.int 1))) aNil))))) sNil)
    (sCons (sIf (tCmp cIn (xBin fIx (xSlot 0) (xVal (.int 0))) (xTup (aCons (xVal (.str "list")) (aCons (xVal (.str "tree")) aNil)))) (sRet (xBin fCat (xLst (aCons (xCall S__law_halves 1 (aCons (xBin fIx (xSlot 1) (xVal (.int 0))) aNil)) aNil)) (xCall S 2 (aCons (xBin fIx (xSlot 0) (xVal (.int 1))) (aCons (xBin fIx (xSlot 1) (xVal (.int 1))) aNil))))) sNil)
    (sRet (xBin fCat (xBin fCat (xBin fCat (xLst (aCons (xCall S__law_halves 1 (aCons (xBin fIx (xSlot 1) (xVal (.int 0))) aNil)) aNil)) (xCall S 2 (aCons (xBin fIx (xSlot 0) (xVal (.int 1))) (aCons (xBin fIx (xSlot 1) (xVal (.int 1))) aNil)))) (xLst (aCons (xCall S__law_halves 1 (aCons (xBin fIx (xSlot 1) (xVal (.int 2))) aNil)) aNil))) (xCall S 2 (aCons (xBin fIx (xSlot 0) (xVal (.int 2))) (aCons (xBin fIx (xSlot 1) (xVal (.int 3))) aNil))))))))
theorem w__law_flat (Z : Env K mg) (S : Sem1) (C__law_flat : Cal P w K mg base k "_law_flat" 2 S) (C__law_halves : Cal P w K mg base k "_law_halves" 1 S__law_halves) {cdv : Value} {A : Around} {outer : List PySem.Env} {s : Shared} {H : Hp} {E : XK} (hr : Room k (A.deeper (envOfC "_law_flat" (defScope s__law_flat) s.heap.objs.size f cdv))) : SndB (cxOf (L2.CX P w) P w K mg base ["kind", "rich"] "_law_flat" (defScope s__law_flat) f cdv A outer s H E) (defBody s__law_flat) (m__law_flat S) := by
  refine sb_cons ?_ ?_
  refine ss_if ?_ ?_ ?_
  refine st_inD hr ?_ ?_
  exact s_slot 0 rfl (.inl rfl)
  refine s_tup ?_
  refine s_acons ?_ ?_
  exact s_str
  refine s_acons ?_ ?_
  exact s_str
  exact s_anil
  refine sb_one ?_
  refine ss_ret ?_
  refine s_lst ?_
  exact s_anil
  exact sb_nil
  refine sb_cons ?_ ?_
  refine ss_if ?_ ?_ ?_
  refine st_eqS ?_ ?_
  refine s_ix ?_ ?_
  exact s_slot 0 rfl (.inl rfl)
  exact s_int
  exact s_str
  refine sb_one ?_
  refine ss_ret ?_
  refine s_cat ?_ ?_
  refine s_call C__law_flat hr (Nat.le_refl _) rfl ?_
  refine s_acons ?_ ?_
  refine s_ix ?_ ?_
  exact s_slot 0 rfl (.inl rfl)
  exact s_int
  refine s_acons ?_ ?_
  refine s_ix ?_ ?_
  exact s_slot 1 rfl (.inl rfl)
  exact s_int
  exact s_anil
  refine s_call C__law_flat hr (Nat.le_refl _) rfl ?_
  refine s_acons ?_ ?_
  refine s_ix ?_ ?_
  exact s_slot 0 rfl (.inl rfl)
  exact s_int
  refine s_acons ?_ ?_
  refine s_ix ?_ ?_
  exact s_slot 1 rfl (.inl rfl)
  exact s_int
  exact s_anil
  exact sb_nil
  refine sb_cons ?_ ?_
  refine ss_if ?_ ?_ ?_
  refine st_in ?_ ?_
  refine s_ix ?_ ?_
  exact s_slot 0 rfl (.inl rfl)
  exact s_int
  refine s_tup ?_
  refine s_acons ?_ ?_
  exact s_str
  refine s_acons ?_ ?_
  exact s_str
  exact s_anil
  refine sb_one ?_
  refine ss_ret ?_
  refine s_cat ?_ ?_
  refine s_lst ?_
  refine s_acons ?_ ?_
  refine s_call C__law_halves hr (Nat.le_refl _) rfl ?_
  refine s_acons ?_ ?_
  refine s_ix ?_ ?_
  exact s_slot 1 rfl (.inl rfl)
  exact s_int
  exact s_anil
  exact s_anil
  refine s_call C__law_flat hr (Nat.le_refl _) rfl ?_
  refine s_acons ?_ ?_
  refine s_ix ?_ ?_
  exact s_slot 0 rfl (.inl rfl)
  exact s_int
  refine s_acons ?_ ?_
  refine s_ix ?_ ?_
  exact s_slot 1 rfl (.inl rfl)
  exact s_int
  exact s_anil
  exact sb_nil
  refine sb_one ?_
  refine ss_ret ?_
  refine s_cat ?_ ?_
  refine s_cat ?_ ?_
  refine s_cat ?_ ?_
  refine s_lst ?_
  refine s_acons ?_ ?_
  refine s_call C__law_halves hr (Nat.le_refl _) rfl ?_
  refine s_acons ?_ ?_
  refine s_ix ?_ ?_
  exact s_slot 1 rfl (.inl rfl)
  exact s_int
  exact s_anil
  exact s_anil
  refine s_call C__law_flat hr (Nat.le_refl _) rfl ?_
  refine s_acons ?_ ?_
  refine s_ix ?_ ?_
  exact s_slot 0 rfl (.inl rfl)
  exact s_int
  refine s_acons ?_ ?_
  refine s_ix ?_ ?_
  exact s_slot 1 rfl (.inl rfl)
  exact s_int
  exact s_anil
  refine s_lst ?_
  refine s_acons ?_ ?_
  refine s_call C__law_halves hr (Nat.le_refl _) rfl ?_
  refine s_acons ?_ ?_
  refine s_ix ?_ ?_
  exact s_slot 1 rfl (.inl rfl)
  exact s_int
  exact s_anil
  exact s_anil
  refine s_call C__law_flat hr (Nat.le_refl _) rfl ?_
  refine s_acons ?_ ?_
  refine s_ix ?_ ?_
  exact s_slot 0 rfl (.inl rfl)
  exact s_int
  refine s_acons ?_ ?_
  refine s_ix ?_ ?_
  exact s_slot 1 rfl (.inl rfl)
  exact s_int
  exact s_anil
theorem sc__law_drawn : FnScope ["hand", "kinds", "kind", "ins", "one"] ["hand", "kinds", "kind"] (defScope s__law_drawn) := ⟨rfl, rfl, rfl, by decide +kernel, rfl, by decide +kernel, by decide +kernel⟩
def m__law_drawn : MS :=
    (sCons (sAsg 3 (xUn gTuple (xOf (mLc un1 [4] [4] (PL.iTup (xSlot 1)) (xCall (S__law_rich 3) 2 (aCons (xSlot 0) (aCons (xSlot 4) aNil)))))))
    (sRet (xTup (aCons (xSlot 3) (aCons (xCall S__law_amount 1 (aCons (xCall S__law_draw 2 (aCons (xSlot 0) (aCons (xVal (.int 9)) aNil))) aNil)) (aCons (xCall (S__law_rich 3) 2 (aCons (xSlot 0) (aCons (xSlot 2) aNil))) (aCons (xCall S__law_amount 1 (aCons (xCall S__law_draw 2 (aCons (xSlot 0) (aCons (xVal (.int 7)) aNil))) aNil)) aNil)))))))
theorem w__law_drawn (Z : Env K mg) (C__law_amount : Cal P w K mg base k "_law_amount" 1 S__law_amount) (C__law_draw : Cal P w K mg base k "_law_draw" 2 S__law_draw) (C__law_rich : Cal P w K mg base k "_law_rich" 2 (S__law_rich 3)) {cdv : Value} {A : Around} {outer : List PySem.Env} {s : Shared} {H : Hp} {E : XK} (hr : Room k (A.deeper (envOfC "_law_drawn" (defScope s__law_drawn) s.heap.objs.size f cdv))) : SndB (cxOf (L2.CX P w) P w K mg base ["hand", "kinds", "kind", "ins", "one"] "_law_drawn" (defScope s__law_drawn) f cdv A outer s H E) (defBody s__law_drawn) (m__law_drawn) := by
  refine sb_cons ?_ ?_
  refine ss_asg 3 sc__law_drawn.nd rfl (.inl rfl) ?_
  refine s_tuple rfl Z.tuple ?_
  refine s_lc (js := [4]) (own := [("one", 4)]) (un := un1) rfl sc__law_drawn.nd (show BlkOk ["hand", "kinds", "kind", "ins", "one"] (defScope s__law_drawn) _ _ from blk_by (by decide +kernel)) (fun s H C cl fp => pg_name sc__law_drawn.nd rfl (.inl rfl)) tgt1 (by decide) (show ∀ j ∈ ([4] : List Nat), j < 5 by decide) ?_ ?_
  refine si_tup rfl ?_ (fun _ h => pi_tup h)
  exact s_slot 1 rfl (.inl rfl)
  intro s H C cl fp
  refine s_call C__law_rich hr (Nat.le_refl _) rfl ?_
  refine s_acons ?_ ?_
  exact s_slot 0 rfl (.inr (.inl rfl))
  refine s_acons ?_ ?_
  exact s_slot 4 rfl (.inl rfl)
  exact s_anil
  refine sb_one ?_
  refine ss_ret ?_
  refine s_tup ?_
  refine s_acons ?_ ?_
  exact s_slot 3 rfl (.inl rfl)
  refine s_acons ?_ ?_
  refine s_call C__law_amount hr (Nat.le_refl _) rfl ?_
  refine s_acons ?_ ?_
  refine s_call C__law_draw hr (Nat.le_refl _) rfl ?_
  refine s_acons ?_ ?_
  exact s_slot 0 rfl (.inr (.inl rfl))
  refine s_acons ?_ ?_
  exact s_int
  exact s_anil
  exact s_anil
  refine s_acons ?_ ?_
  refine s_call C__law_rich hr (Nat.le_refl _) rfl ?_
  refine s_acons ?_ ?_
  exact s_slot 0 rfl (.inr (.inl rfl))
  refine s_acons ?_ ?_
  exact s_slot 2 rfl (.inl rfl)
  exact s_anil
  refine s_acons ?_ ?_
  refine s_call C__law_amount hr (Nat.le_refl _) rfl ?_
  refine s_acons ?_ ?_
  refine s_call C__law_draw hr (Nat.le_refl _) rfl ?_
  refine s_acons ?_ ?_
  exact s_slot 0 rfl (.inr (.inl rfl))
  refine s_acons ?_ ?_
  exact s_int
  exact s_anil
  exact s_anil
  exact s_anil
theorem sc__law_near : FnScope ["hand", "kinds", "kind", "card", "other", "at"] ["hand", "kinds", "kind", "card"] (defScope s__law_near) := ⟨rfl, rfl, rfl, by decide +kernel, rfl, by decide +kernel, by decide +kernel⟩
def m__law_near : MS :=
    (sCons (sAsg 4 (xCall S__law_drawn 3 (aCons (xSlot 0) (aCons (xSlot 1) (aCons (xSlot 2) aNil)))))
    (sRet (xUn gTuple (xOf (mLc un1 [5] [5] (iRng (xVal (.int 4))) (xCall S__law_any 2 (aCons (xSlot 0) (aCons (xLst (aCons (xBin fIx (xSlot 3) (xSlot 5)) (aCons (xBin fIx (xSlot 3) (xSlot 5)) (aCons (xBin fIx (xSlot 4) (xSlot 5)) aNil)))) aNil))))))))
theorem w__law_near (Z : Env K mg) (C__law_any : Cal P w K mg base k "_law_any" 2 S__law_any) (C__law_drawn : Cal P w K mg base k "_law_drawn" 3 S__law_drawn) {cdv : Value} {A : Around} {outer : List PySem.Env} {s : Shared} {H : Hp} {E : XK} (hr : Room k (A.deeper (envOfC "_law_near" (defScope s__law_near) s.heap.objs.size f cdv))) : SndB (cxOf (L2.CX P w) P w K mg base ["hand", "kinds", "kind", "card", "other", "at"] "_law_near" (defScope s__law_near) f cdv A outer s H E) (defBody s__law_near) (m__law_near) := by
  refine sb_cons ?_ ?_
  refine ss_asg 4 sc__law_near.nd rfl (.inr rfl) ?_
  refine s_call C__law_drawn hr (Nat.le_refl _) rfl ?_
  refine s_acons ?_ ?_
  exact s_slot 0 rfl (.inr (.inl rfl))
  refine s_acons ?_ ?_
  exact s_slot 1 rfl (.inl rfl)
  refine s_acons ?_ ?_
  exact s_slot 2 rfl (.inl rfl)
  exact s_anil
  refine sb_one ?_
  refine ss_ret ?_
  refine s_tuple rfl Z.tuple ?_
  refine s_lc (js := [5]) (own := [("at", 5)]) (un := un1) rfl sc__law_near.nd (show BlkOk ["hand", "kinds", "kind", "card", "other", "at"] (defScope s__law_near) _ _ from blk_by (by decide +kernel)) (fun s H C cl fp => pg_name sc__law_near.nd rfl (.inl rfl)) tgt1 (by decide) (show ∀ j ∈ ([5] : List Nat), j < 6 by decide) ?_ ?_
  refine si_rng rfl Z.range ?_
  exact s_int
  intro s H C cl fp
  refine s_call C__law_any hr (Nat.le_refl _) rfl ?_
  refine s_acons ?_ ?_
  exact s_slot 0 rfl (.inr (.inl rfl))
  refine s_acons ?_ ?_
  refine s_lst ?_
  refine s_acons ?_ ?_
  refine s_ix ?_ ?_
  exact s_slot 3 rfl (.inr (.inl rfl))
  exact s_slot 5 rfl (.inl rfl)
  refine s_acons ?_ ?_
  refine s_ix ?_ ?_
  exact s_slot 3 rfl (.inr (.inl rfl))
  exact s_slot 5 rfl (.inl rfl)
  refine s_acons ?_ ?_
  refine s_ix ?_ ?_
  exact s_slot 4 rfl (.inr (.inl rfl))
  exact s_slot 5 rfl (.inl rfl)
  exact s_anil
  exact s_anil
theorem sc__law_fits : FnScope ["kinds", "kind", "one", "other", "rows", "its", "high", "low", "two", "here", "a", "b"] ["kinds", "kind", "one", "other"] (defScope s__law_fits) := ⟨rfl, rfl, rfl, by decide +kernel, rfl, by decide +kernel, by decide +kernel⟩
def m__law_fits : MS :=
    (sCons (sAsg 4 (xBin fCat (xOf (mLc un3 [5, 8, 9] [5, 8, 9] (iZip3 (aCons (xSlot 0) (aCons (xBin fIx (xSlot 3) (xVal (.int 0))) (aCons (xBin fIx (xSlot 2) (xVal (.int 0))) aNil)))) (xTup (aCons (xSlot 5) (aCons (xSlot 8) (aCons (xSlot 9) aNil)))))) (xLst (aCons (xTup (aCons (xSlot 1) (aCons (xBin fIx (xSlot 2) (xVal (.int 2))) (aCons (xBin fIx (xSlot 3) (xVal (.int 2))) aNil)))) aNil))))
    (sCons (sFor un3 [5, 6, 7] (iLst (xSlot 4)) (sIf (tNot (tVal (xUn gAll (xOf (mLc un2 [10, 11] [10, 11] (iZipL (aCons (xCall (S__law_flat 3) 2 (aCons (xSlot 5) (aCons (xSlot 6) aNil))) (aCons (xCall (S__law_flat 3) 2 (aCons (xSlot 5) (aCons (xSlot 7) aNil))) aNil))) (xBin fGe (xSlot 10) (xSlot 11))))))) (sRet (xVal (.bl false))) sNil))
    (sRet (xVal (.bl true)))))
theorem w__law_fits (Z : Env K mg) (C__law_flat : Cal P w K mg base k "_law_flat" 2 (S__law_flat 3)) {cdv : Value} {A : Around} {outer : List PySem.Env} {s : Shared} {H : Hp} {E : XK} (hr : Room k (A.deeper (envOfC "_law_fits" (defScope s__law_fits) s.heap.objs.size f cdv))) : SndB (cxOf (L2.CX P w) P w K mg base ["kinds", "kind", "one", "other", "rows", "its", "high", "low", "two", "here", "a", "b"] "_law_fits" (defScope s__law_fits) f cdv A outer s H E) (defBody s__law_fits) (m__law_fits) := by
  refine sb_cons ?_ ?_
  refine ss_asg 4 sc__law_fits.nd rfl (.inl rfl) ?_
  refine s_cat ?_ ?_
  refine s_lc (js := [5, 8, 9]) (own := [("its", 5), ("two", 8), ("here", 9)]) (un := un3) rfl sc__law_fits.nd (show BlkOk ["kinds", "kind", "one", "other", "rows", "its", "high", "low", "two", "here", "a", "b"] (defScope s__law_fits) _ _ from blk_by (by decide +kernel)) (fun s H C cl fp => pg_tup rfl (pgs_cons (pg_name sc__law_fits.nd rfl (.inl rfl)) (pgs_cons (pg_name sc__law_fits.nd rfl (.inl rfl)) (pgs_cons (pg_name sc__law_fits.nd rfl (.inl rfl)) pgs_nil)))) tgt3 (by decide) (show ∀ j ∈ ([5, 8, 9] : List Nat), j < 12 by decide) ?_ ?_
  refine si_zip3 rfl Z.zip ?_
  refine s_acons ?_ ?_
  exact s_slot 0 rfl (.inl rfl)
  refine s_acons ?_ ?_
  refine s_ix ?_ ?_
  exact s_slot 3 rfl (.inl rfl)
  exact s_int
  refine s_acons ?_ ?_
  refine s_ix ?_ ?_
  exact s_slot 2 rfl (.inl rfl)
  exact s_int
  exact s_anil
  intro s H C cl fp
  refine s_tup ?_
  refine s_acons ?_ ?_
  exact s_slot 5 rfl (.inl rfl)
  refine s_acons ?_ ?_
  exact s_slot 8 rfl (.inl rfl)
  refine s_acons ?_ ?_
  exact s_slot 9 rfl (.inl rfl)
  exact s_anil
  refine s_lst ?_
  refine s_acons ?_ ?_
  refine s_tup ?_
  refine s_acons ?_ ?_
  exact s_slot 1 rfl (.inl rfl)
  refine s_acons ?_ ?_
  refine s_ix ?_ ?_
  exact s_slot 2 rfl (.inl rfl)
  exact s_int
  refine s_acons ?_ ?_
  refine s_ix ?_ ?_
  exact s_slot 3 rfl (.inl rfl)
  exact s_int
  exact s_anil
  exact s_anil
  refine sb_cons ?_ ?_
  refine ss_for (js := [5, 6, 7]) (un := un3) rfl (pg_tup rfl (pgs_cons (pg_name sc__law_fits.nd rfl (.inl rfl)) (pgs_cons (pg_name sc__law_fits.nd rfl (.inl rfl)) (pgs_cons (pg_name sc__law_fits.nd rfl (.inl rfl)) pgs_nil)))) tgt3 (show ∀ j ∈ ([5, 6, 7] : List Nat), j < 12 by decide) ?_ ?_
  refine si_lst rfl ?_ (fun _ h => pi_list h)
  exact s_slot 4 rfl (.inl rfl)
  refine sb_one ?_
  refine ss_if ?_ ?_ ?_
  refine st_not ?_
  refine st_val ?_
  refine s_all rfl rfl Z.all ?_
  refine s_lc (js := [10, 11]) (own := [("a", 10), ("b", 11)]) (un := un2) rfl sc__law_fits.nd (show BlkOk ["kinds", "kind", "one", "other", "rows", "its", "high", "low", "two", "here", "a", "b"] (defScope s__law_fits) _ _ from blk_by (by decide +kernel)) (fun s H C cl fp => pg_tup rfl (pgs_cons (pg_name sc__law_fits.nd rfl (.inl rfl)) (pgs_cons (pg_name sc__law_fits.nd rfl (.inl rfl)) pgs_nil))) tgt2 (by decide) (show ∀ j ∈ ([10, 11] : List Nat), j < 12 by decide) ?_ ?_
  refine si_zipL rfl Z.zip ?_
  refine s_acons ?_ ?_
  refine s_call C__law_flat hr (Nat.le_refl _) rfl ?_
  refine s_acons ?_ ?_
  exact s_slot 5 rfl (.inl rfl)
  refine s_acons ?_ ?_
  exact s_slot 6 rfl (.inl rfl)
  exact s_anil
  refine s_acons ?_ ?_
  refine s_call C__law_flat hr (Nat.le_refl _) rfl ?_
  refine s_acons ?_ ?_
  exact s_slot 5 rfl (.inl rfl)
  refine s_acons ?_ ?_
  exact s_slot 7 rfl (.inl rfl)
  exact s_anil
  exact s_anil
  intro s H C cl fp
  refine s_ge ?_ ?_
  exact s_slot 10 rfl (.inl rfl)
  exact s_slot 11 rfl (.inl rfl)
  refine sb_one ?_
  refine ss_ret ?_
  exact s_bl
  exact sb_nil
  refine sb_one ?_
  refine ss_ret ?_
  exact s_bl
theorem sc__law_lack : FnScope ["one", "other", "paid", "left"] ["one", "other"] (defScope s__law_lack) := ⟨rfl, rfl, rfl, by decide +kernel, rfl, by decide +kernel, by decide +kernel⟩
def m__law_lack : MS :=
    (sCons (sPar 2 3 (xBin fSub (xCall S__law_halves 1 (aCons (xBin fIx (xSlot 0) (xVal (.int 1))) aNil)) (xCall S__law_halves 1 (aCons (xBin fIx (xSlot 1) (xVal (.int 1))) aNil))) (xBin fSub (xCall S__law_halves 1 (aCons (xBin fIx (xSlot 1) (xVal (.int 3))) aNil)) (xCall S__law_halves 1 (aCons (xBin fIx (xSlot 0) (xVal (.int 3))) aNil))))
    (sRet (xMax3 (aCons (xVal (.int 0)) (aCons (xSlot 2) (aCons (xBin fAdd (xSlot 2) (xSlot 3)) aNil))))))
theorem w__law_lack (Z : Env K mg) (C__law_halves : Cal P w K mg base k "_law_halves" 1 S__law_halves) {cdv : Value} {A : Around} {outer : List PySem.Env} {s : Shared} {H : Hp} {E : XK} (hr : Room k (A.deeper (envOfC "_law_lack" (defScope s__law_lack) s.heap.objs.size f cdv))) : SndB (cxOf (L2.CX P w) P w K mg base ["one", "other", "paid", "left"] "_law_lack" (defScope s__law_lack) f cdv A outer s H E) (defBody s__law_lack) (m__law_lack) := by
  refine sb_cons ?_ ?_
  refine ss_par 2 3 rfl sc__law_lack.nd rfl rfl (by decide) rfl rfl ?_ ?_
  refine s_sub ?_ ?_
  refine s_call C__law_halves hr (Nat.le_refl _) rfl ?_
  refine s_acons ?_ ?_
  refine s_ix ?_ ?_
  exact s_slot 0 rfl (.inl rfl)
  exact s_int
  exact s_anil
  refine s_call C__law_halves hr (Nat.le_refl _) rfl ?_
  refine s_acons ?_ ?_
  refine s_ix ?_ ?_
  exact s_slot 1 rfl (.inl rfl)
  exact s_int
  exact s_anil
  refine s_sub ?_ ?_
  refine s_call C__law_halves hr (Nat.le_refl _) rfl ?_
  refine s_acons ?_ ?_
  refine s_ix ?_ ?_
  exact s_slot 1 rfl (.inl rfl)
  exact s_int
  exact s_anil
  refine s_call C__law_halves hr (Nat.le_refl _) rfl ?_
  refine s_acons ?_ ?_
  refine s_ix ?_ ?_
  exact s_slot 0 rfl (.inl rfl)
  exact s_int
  exact s_anil
  refine sb_one ?_
  refine ss_ret ?_
  refine s_max3 rfl rfl Z.max ?_
  refine s_acons ?_ ?_
  exact s_int
  refine s_acons ?_ ?_
  exact s_slot 2 rfl (.inl rfl)
  refine s_acons ?_ ?_
  refine s_add ?_ ?_
  exact s_slot 2 rfl (.inl rfl)
  exact s_slot 3 rfl (.inl rfl)
  exact s_anil
theorem sc__law_raised : FnScope ["card", "two"] ["card", "two"] (defScope s__law_raised) := ⟨rfl, rfl, rfl, by decide +kernel, rfl, by decide +kernel, by decide +kernel⟩
def m__law_raised : MS :=
    (sRet (xTup (aCons (xBin fIx (xSlot 0) (xVal (.int 0))) (aCons (xCall S__law_amount 1 (aCons (xBin fAdd (xCall S__law_halves 1 (aCons (xBin fIx (xSlot 0) (xVal (.int 1))) aNil)) (xSlot 1)) aNil)) (aCons (xBin fIx (xSlot 0) (xVal (.int 2))) (aCons (xBin fIx (xSlot 0) (xVal (.int 3))) aNil))))))
theorem w__law_raised (Z : Env K mg) (C__law_amount : Cal P w K mg base k "_law_amount" 1 S__law_amount) (C__law_halves : Cal P w K mg base k "_law_halves" 1 S__law_halves) {cdv : Value} {A : Around} {outer : List PySem.Env} {s : Shared} {H : Hp} {E : XK} (hr : Room k (A.deeper (envOfC "_law_raised" (defScope s__law_raised) s.heap.objs.size f cdv))) : SndB (cxOf (L2.CX P w) P w K mg base ["card", "two"] "_law_raised" (defScope s__law_raised) f cdv A outer s H E) (defBody s__law_raised) (m__law_raised) := by
  refine sb_one ?_
  refine ss_ret ?_
  refine s_tup ?_
  refine s_acons ?_ ?_
  refine s_ix ?_ ?_
  exact s_slot 0 rfl (.inl rfl)
  exact s_int
  refine s_acons ?_ ?_
  refine s_call C__law_amount hr (Nat.le_refl _) rfl ?_
  refine s_acons ?_ ?_
  refine s_add ?_ ?_
  refine s_call C__law_halves hr (Nat.le_refl _) rfl ?_
  refine s_acons ?_ ?_
  refine s_ix ?_ ?_
  exact s_slot 0 rfl (.inl rfl)
  exact s_int
  exact s_anil
  exact s_slot 1 rfl (.inl rfl)
  exact s_anil
  refine s_acons ?_ ?_
  refine s_ix ?_ ?_
  exact s_slot 0 rfl (.inl rfl)
  exact s_int
  refine s_acons ?_ ?_
  refine s_ix ?_ ?_
  exact s_slot 0 rfl (.inl rfl)
  exact s_int
  exact s_anil
theorem sc__law_both : FnScope ["kinds", "kind", "one", "other", "ins", "paid", "left", "card", "its", "a", "b"] ["kinds", "kind", "one", "other"] (defScope s__law_both) := ⟨rfl, rfl, rfl, by decide +kernel, rfl, by decide +kernel, by decide +kernel⟩
def m__law_both : MS :=
    (sCons (sAsg 4 (xUn gTuple (xOf (mLc un3 [8, 9, 10] [8, 9, 10] (iZip3 (aCons (xSlot 0) (aCons (xBin fIx (xSlot 2) (xVal (.int 0))) (aCons (xBin fIx (xSlot 3) (xVal (.int 0))) aNil)))) (xCall S_joined 3 (aCons (xSlot 8) (aCons (xSlot 9) (aCons (xSlot 10) aNil))))))))
    (sCons (sAsg 5 (xMax2 (aCons (xCall S__law_halves 1 (aCons (xBin fIx (xSlot 2) (xVal (.int 1))) aNil)) (aCons (xCall S__law_halves 1 (aCons (xBin fIx (xSlot 3) (xVal (.int 1))) aNil)) aNil))))
    (sCons (sAsg 6 (xUn gMin (xOf (mLc un1 [7] [7] (PL.iTup (xTup (aCons (xSlot 2) (aCons (xSlot 3) aNil)))) (xBin fAdd (xBin fSub (xSlot 5) (xCall S__law_halves 1 (aCons (xBin fIx (xSlot 7) (xVal (.int 1))) aNil))) (xCall S__law_halves 1 (aCons (xBin fIx (xSlot 7) (xVal (.int 3))) aNil)))))))
    (sRet (xTup (aCons (xSlot 4) (aCons (xCall S__law_amount 1 (aCons (xSlot 5) aNil)) (aCons (xCall S_met 3 (aCons (xSlot 1) (aCons (xBin fIx (xSlot 2) (xVal (.int 2))) (aCons (xBin fIx (xSlot 3) (xVal (.int 2))) aNil)))) (aCons (xCall S__law_amount 1 (aCons (xSlot 6) aNil)) aNil)))))))))
theorem w__law_both (Z : Env K mg) (C__law_amount : Cal P w K mg base k "_law_amount" 1 S__law_amount) (C__law_halves : Cal P w K mg base k "_law_halves" 1 S__law_halves) (C_joined : Cal P w K mg base k "joined" 3 S_joined) (C_met : Cal P w K mg base k "met" 3 S_met) {cdv : Value} {A : Around} {outer : List PySem.Env} {s : Shared} {H : Hp} {E : XK} (hr : Room k (A.deeper (envOfC "_law_both" (defScope s__law_both) s.heap.objs.size f cdv))) : SndB (cxOf (L2.CX P w) P w K mg base ["kinds", "kind", "one", "other", "ins", "paid", "left", "card", "its", "a", "b"] "_law_both" (defScope s__law_both) f cdv A outer s H E) (defBody s__law_both) (m__law_both) := by
  refine sb_cons ?_ ?_
  refine ss_asg 4 sc__law_both.nd rfl (.inl rfl) ?_
  refine s_tuple rfl Z.tuple ?_
  refine s_lc (js := [8, 9, 10]) (own := [("its", 8), ("a", 9), ("b", 10)]) (un := un3) rfl sc__law_both.nd (show BlkOk ["kinds", "kind", "one", "other", "ins", "paid", "left", "card", "its", "a", "b"] (defScope s__law_both) _ _ from blk_by (by decide +kernel)) (fun s H C cl fp => pg_tup rfl (pgs_cons (pg_name sc__law_both.nd rfl (.inl rfl)) (pgs_cons (pg_name sc__law_both.nd rfl (.inl rfl)) (pgs_cons (pg_name sc__law_both.nd rfl (.inl rfl)) pgs_nil)))) tgt3 (by decide) (show ∀ j ∈ ([8, 9, 10] : List Nat), j < 11 by decide) ?_ ?_
  refine si_zip3 rfl Z.zip ?_
  refine s_acons ?_ ?_
  exact s_slot 0 rfl (.inl rfl)
  refine s_acons ?_ ?_
  refine s_ix ?_ ?_
  exact s_slot 2 rfl (.inl rfl)
  exact s_int
  refine s_acons ?_ ?_
  refine s_ix ?_ ?_
  exact s_slot 3 rfl (.inl rfl)
  exact s_int
  exact s_anil
  intro s H C cl fp
  refine s_call C_joined hr (Nat.le_refl _) rfl ?_
  refine s_acons ?_ ?_
  exact s_slot 8 rfl (.inl rfl)
  refine s_acons ?_ ?_
  exact s_slot 9 rfl (.inl rfl)
  refine s_acons ?_ ?_
  exact s_slot 10 rfl (.inl rfl)
  exact s_anil
  refine sb_cons ?_ ?_
  refine ss_asg 5 sc__law_both.nd rfl (.inr rfl) ?_
  refine s_max2 rfl rfl Z.max ?_
  refine s_acons ?_ ?_
  refine s_call C__law_halves hr (Nat.le_refl _) rfl ?_
  refine s_acons ?_ ?_
  refine s_ix ?_ ?_
  exact s_slot 2 rfl (.inl rfl)
  exact s_int
  exact s_anil
  refine s_acons ?_ ?_
  refine s_call C__law_halves hr (Nat.le_refl _) rfl ?_
  refine s_acons ?_ ?_
  refine s_ix ?_ ?_
  exact s_slot 3 rfl (.inl rfl)
  exact s_int
  exact s_anil
  exact s_anil
  refine sb_cons ?_ ?_
  refine ss_asg 6 sc__law_both.nd rfl (.inl rfl) ?_
  refine s_min rfl rfl Z.min ?_
  refine s_lc (js := [7]) (own := [("card", 7)]) (un := un1) rfl sc__law_both.nd (show BlkOk ["kinds", "kind", "one", "other", "ins", "paid", "left", "card", "its", "a", "b"] (defScope s__law_both) _ _ from blk_by (by decide +kernel)) (fun s H C cl fp => pg_name sc__law_both.nd rfl (.inl rfl)) tgt1 (by decide) (show ∀ j ∈ ([7] : List Nat), j < 11 by decide) ?_ ?_
  refine si_tup rfl ?_ (fun _ h => pi_tup h)
  refine s_tup ?_
  refine s_acons ?_ ?_
  exact s_slot 2 rfl (.inl rfl)
  refine s_acons ?_ ?_
  exact s_slot 3 rfl (.inl rfl)
  exact s_anil
  intro s H C cl fp
  refine s_add ?_ ?_
  refine s_sub ?_ ?_
  exact s_slot 5 rfl (.inr (.inl rfl))
  refine s_call C__law_halves hr (Nat.le_refl _) rfl ?_
  refine s_acons ?_ ?_
  refine s_ix ?_ ?_
  exact s_slot 7 rfl (.inl rfl)
  exact s_int
  exact s_anil
  refine s_call C__law_halves hr (Nat.le_refl _) rfl ?_
  refine s_acons ?_ ?_
  refine s_ix ?_ ?_
  exact s_slot 7 rfl (.inl rfl)
  exact s_int
  exact s_anil
  refine sb_one ?_
  refine ss_ret ?_
  refine s_tup ?_
  refine s_acons ?_ ?_
  exact s_slot 4 rfl (.inl rfl)
  refine s_acons ?_ ?_
  refine s_call C__law_amount hr (Nat.le_refl _) rfl ?_
  refine s_acons ?_ ?_
  exact s_slot 5 rfl (.inr (.inl rfl))
  exact s_anil
  refine s_acons ?_ ?_
  refine s_call C_met hr (Nat.le_refl _) rfl ?_
  refine s_acons ?_ ?_
  exact s_slot 1 rfl (.inl rfl)
  refine s_acons ?_ ?_
  refine s_ix ?_ ?_
  exact s_slot 2 rfl (.inl rfl)
  exact s_int
  refine s_acons ?_ ?_
  refine s_ix ?_ ?_
  exact s_slot 3 rfl (.inl rfl)
  exact s_int
  exact s_anil
  refine s_acons ?_ ?_
  refine s_call C__law_amount hr (Nat.le_refl _) rfl ?_
  refine s_acons ?_ ?_
  exact s_slot 6 rfl (.inl rfl)
  exact s_anil
  exact s_anil
theorem sc__law_pair_right : FnScope ["kinds", "kind", "one", "other", "third", "fits", "lack", "told", "both", "card", "two"] ["kinds", "kind", "one", "other", "third"] (defScope s__law_pair_right) := ⟨rfl, rfl, rfl, by decide +kernel, rfl, by decide +kernel, by decide +kernel⟩
def m__law_pair_right : MS :=
    (sCons (sAsg 5 (xCall S__law_fits 4 (aCons (xSlot 0) (aCons (xSlot 1) (aCons (xSlot 2) (aCons (xSlot 3) aNil))))))
    (sCons (sAsg 6 (xIf (tVal (xSlot 5)) (xCall S__law_lack 2 (aCons (xSlot 2) (aCons (xSlot 3) aNil))) (xVal .non)))
    (sCons (sAsg 7 (xLst (aCons (xCall S_serves 4 (aCons (xSlot 0) (aCons (xSlot 1) (aCons (xSlot 2) (aCons (xSlot 3) aNil))))) (aCons (xCall S_shortfall 4 (aCons (xSlot 0) (aCons (xSlot 1) (aCons (xSlot 2) (aCons (xSlot 3) aNil))))) aNil))))
    (sCons (sIf (tNot (tVal (xCall S__law_is 2 (aCons (xSlot 7) (aCons (xLst (aCons (xBin fEqS (xSlot 6) (xVal (.int 0))) (aCons (xIf (tVal (xSlot 5)) (xCall S__law_amount 1 (aCons (xSlot 6) aNil)) (xVal .non)) aNil))) aNil))))) (sRet (xVal (.bl false))) sNil)
    (sCons (sIf (tAnd (tVal (xSlot 5)) (tCmp cNotB (xCall S_serves 4 (aCons (xSlot 0) (aCons (xSlot 1) (aCons (xSlot 2) (aCons (xCall S__law_raised 2 (aCons (xSlot 3) (aCons (xSlot 6) aNil))) aNil))))) (xVal (.bl true)))) (sRet (xVal (.bl false))) sNil)
    (sCons (sIf (tAnd (tVal (xSlot 5)) (tAnd (tCmp cGt (xSlot 6) (xVal (.int 0))) (tCmp cNotB (xCall S_serves 4 (aCons (xSlot 0) (aCons (xSlot 1) (aCons (xSlot 2) (aCons (xCall S__law_raised 2 (aCons (xSlot 3) (aCons (xBin fSub (xSlot 6) (xVal (.int 1))) aNil))) aNil))))) (xVal (.bl false))))) (sRet (xVal (.bl false))) sNil)
    (sCons (sAsg 8 (xCall S_both_serve 4 (aCons (xSlot 0) (aCons (xSlot 1) (aCons (xSlot 2) (aCons (xSlot 3) aNil))))))
    (sCons (sIf (tNot (tVal (xCall S__law_is 2 (aCons (xSlot 8) (aCons (xCall S__law_both 4 (aCons (xSlot 0) (aCons (xSlot 1) (aCons (xSlot 2) (aCons (xSlot 3) aNil))))) aNil))))) (sRet (xVal (.bl false))) sNil)
    (sCons (sIf (tCmp cNeD (xOf (mLc un1 [9] [9] (PL.iTup (xTup (aCons (xSlot 2) (aCons (xSlot 3) aNil)))) (xCall S_serves 4 (aCons (xSlot 0) (aCons (xSlot 1) (aCons (xSlot 9) (aCons (xSlot 8) aNil))))))) (xLst (aCons (xVal (.bl true)) (aCons (xVal (.bl true)) aNil)))) (sRet (xVal (.bl false))) sNil)
    (sCons (sIf (tAnd (tVal (xCall S_serves 4 (aCons (xSlot 0) (aCons (xSlot 1) (aCons (xSlot 2) (aCons (xSlot 4) aNil)))))) (tVal (xCall S_serves 4 (aCons (xSlot 0) (aCons (xSlot 1) (aCons (xSlot 3) (aCons (xSlot 4) aNil))))))) (sIf (tCmp cNotB (xCall S_serves 4 (aCons (xSlot 0) (aCons (xSlot 1) (aCons (xSlot 8) (aCons (xSlot 4) aNil))))) (xVal (.bl true))) (sRet (xVal (.bl false))) sNil) sNil)
    (sCons (sIf (tAnd (tVal (xCall S_serves 4 (aCons (xSlot 0) (aCons (xSlot 1) (aCons (xSlot 2) (aCons (xSlot 3) aNil)))))) (tVal (xCall S_serves 4 (aCons (xSlot 0) (aCons (xSlot 1) (aCons (xSlot 3) (aCons (xSlot 4) aNil))))))) (sIf (tCmp cNotB (xCall S_serves 4 (aCons (xSlot 0) (aCons (xSlot 1) (aCons (xSlot 2) (aCons (xSlot 4) aNil))))) (xVal (.bl true))) (sRet (xVal (.bl false))) sNil) sNil)
    (sRet (xBin fEqD (xCall S_amounts_of 2 (aCons (xSlot 1) (aCons (xBin fIx (xSlot 2) (xVal (.int 2))) aNil))) (xUn gTuple (xOf (mLc un1 [10] [10] (iLst (xCall (S__law_flat 3) 2 (aCons (xSlot 1) (aCons (xBin fIx (xSlot 2) (xVal (.int 2))) aNil)))) (xCall S__law_amount 1 (aCons (xSlot 10) aNil))))))))))))))))))
theorem w__law_pair_right (Z : Env K mg) (C__law_amount : Cal P w K mg base k "_law_amount" 1 S__law_amount) (C__law_both : Cal P w K mg base k "_law_both" 4 S__law_both) (C__law_fits : Cal P w K mg base k "_law_fits" 4 S__law_fits) (C__law_flat : Cal P w K mg base k "_law_flat" 2 (S__law_flat 3)) (C__law_is : CalG P w K mg base k "_law_is" 2 S__law_is) (C__law_lack : Cal P w K mg base k "_law_lack" 2 S__law_lack) (C__law_raised : Cal P w K mg base k "_law_raised" 2 S__law_raised) (C_amounts_of : Cal P w K mg base k "amounts_of" 2 S_amounts_of) (C_both_serve : Cal P w K mg base k "both_serve" 4 S_both_serve) (C_serves : Cal P w K mg base k "serves" 4 S_serves) (C_shortfall : Cal P w K mg base k "shortfall" 4 S_shortfall) {cdv : Value} {A : Around} {outer : List PySem.Env} {s : Shared} {H : Hp} {E : XK} (hr : RoomG k (A.deeper (envOfC "_law_pair_right" (defScope s__law_pair_right) s.heap.objs.size f cdv))) : SndB (cxOf (L2.CX P w) P w K mg base ["kinds", "kind", "one", "other", "third", "fits", "lack", "told", "both", "card", "two"] "_law_pair_right" (defScope s__law_pair_right) f cdv A outer s H E) (defBody s__law_pair_right) (m__law_pair_right) := by
  refine sb_cons ?_ ?_
  refine ss_asg 5 sc__law_pair_right.nd rfl (.inl rfl) ?_
  refine s_call C__law_fits hr.room (Nat.le_refl _) rfl ?_
  refine s_acons ?_ ?_
  exact s_slot 0 rfl (.inr (.inl rfl))
  refine s_acons ?_ ?_
  exact s_slot 1 rfl (.inr (.inl rfl))
  refine s_acons ?_ ?_
  exact s_slot 2 rfl (.inl rfl)
  refine s_acons ?_ ?_
  exact s_slot 3 rfl (.inl rfl)
  exact s_anil
  refine sb_cons ?_ ?_
  refine ss_asg 6 sc__law_pair_right.nd rfl (.inl rfl) ?_
  refine s_if ?_ ?_ ?_
  refine st_val ?_
  exact s_slot 5 rfl (.inl rfl)
  refine s_call C__law_lack hr.room (Nat.le_refl _) rfl ?_
  refine s_acons ?_ ?_
  exact s_slot 2 rfl (.inl rfl)
  refine s_acons ?_ ?_
  exact s_slot 3 rfl (.inl rfl)
  exact s_anil
  exact s_non
  refine sb_cons ?_ ?_
  refine ss_asg 7 sc__law_pair_right.nd rfl (.inl rfl) ?_
  refine s_lst ?_
  refine s_acons ?_ ?_
  refine s_call C_serves hr.room (Nat.le_refl _) rfl ?_
  refine s_acons ?_ ?_
  exact s_slot 0 rfl (.inr (.inl rfl))
  refine s_acons ?_ ?_
  exact s_slot 1 rfl (.inr (.inl rfl))
  refine s_acons ?_ ?_
  exact s_slot 2 rfl (.inl rfl)
  refine s_acons ?_ ?_
  exact s_slot 3 rfl (.inl rfl)
  exact s_anil
  refine s_acons ?_ ?_
  refine s_call C_shortfall hr.room (Nat.le_refl _) rfl ?_
  refine s_acons ?_ ?_
  exact s_slot 0 rfl (.inr (.inl rfl))
  refine s_acons ?_ ?_
  exact s_slot 1 rfl (.inr (.inl rfl))
  refine s_acons ?_ ?_
  exact s_slot 2 rfl (.inl rfl)
  refine s_acons ?_ ?_
  exact s_slot 3 rfl (.inl rfl)
  exact s_anil
  exact s_anil
  refine sb_cons ?_ ?_
  refine ss_if ?_ ?_ ?_
  refine st_not ?_
  refine st_val ?_
  refine s_callG C__law_is hr (Nat.le_refl _) rfl ?_
  refine s_acons ?_ ?_
  exact s_slot 7 rfl (.inl rfl)
  refine s_acons ?_ ?_
  refine s_lst ?_
  refine s_acons ?_ ?_
  refine s_eqS ?_ ?_
  exact s_slot 6 rfl (.inl rfl)
  exact s_int
  refine s_acons ?_ ?_
  refine s_if ?_ ?_ ?_
  refine st_val ?_
  exact s_slot 5 rfl (.inl rfl)
  refine s_call C__law_amount hr.room (Nat.le_refl _) rfl ?_
  refine s_acons ?_ ?_
  exact s_slot 6 rfl (.inl rfl)
  exact s_anil
  exact s_non
  exact s_anil
  exact s_anil
  refine sb_one ?_
  refine ss_ret ?_
  exact s_bl
  exact sb_nil
  refine sb_cons ?_ ?_
  refine ss_if ?_ ?_ ?_
  refine st_of ?_
  refine sw_and ?_ ?_
  refine st_val ?_
  exact s_slot 5 rfl (.inl rfl)
  refine sw_and1 ?_
  refine st_notB ?_ ?_
  refine s_call C_serves hr.room (Nat.le_refl _) rfl ?_
  refine s_acons ?_ ?_
  exact s_slot 0 rfl (.inr (.inl rfl))
  refine s_acons ?_ ?_
  exact s_slot 1 rfl (.inr (.inl rfl))
  refine s_acons ?_ ?_
  exact s_slot 2 rfl (.inl rfl)
  refine s_acons ?_ ?_
  refine s_call C__law_raised hr.room (Nat.le_refl _) rfl ?_
  refine s_acons ?_ ?_
  exact s_slot 3 rfl (.inl rfl)
  refine s_acons ?_ ?_
  exact s_slot 6 rfl (.inl rfl)
  exact s_anil
  exact s_anil
  exact s_bl
  refine sb_one ?_
  refine ss_ret ?_
  exact s_bl
  exact sb_nil
  refine sb_cons ?_ ?_
  refine ss_if ?_ ?_ ?_
  refine st_of ?_
  refine sw_and ?_ ?_
  refine st_val ?_
  exact s_slot 5 rfl (.inl rfl)
  refine sw_and ?_ ?_
  refine st_gt ?_ ?_
  exact s_slot 6 rfl (.inl rfl)
  exact s_int
  refine sw_and1 ?_
  refine st_notB ?_ ?_
  refine s_call C_serves hr.room (Nat.le_refl _) rfl ?_
  refine s_acons ?_ ?_
  exact s_slot 0 rfl (.inr (.inl rfl))
  refine s_acons ?_ ?_
  exact s_slot 1 rfl (.inr (.inl rfl))
  refine s_acons ?_ ?_
  exact s_slot 2 rfl (.inl rfl)
  refine s_acons ?_ ?_
  refine s_call C__law_raised hr.room (Nat.le_refl _) rfl ?_
  refine s_acons ?_ ?_
  exact s_slot 3 rfl (.inl rfl)
  refine s_acons ?_ ?_
  refine s_sub ?_ ?_
  exact s_slot 6 rfl (.inl rfl)
  exact s_int
  exact s_anil
  exact s_anil
  exact s_bl
  refine sb_one ?_
  refine ss_ret ?_
  exact s_bl
  exact sb_nil
  refine sb_cons ?_ ?_
  refine ss_asg 8 sc__law_pair_right.nd rfl (.inr rfl) ?_
  refine s_call C_both_serve hr.room (Nat.le_refl _) rfl ?_
  refine s_acons ?_ ?_
  exact s_slot 0 rfl (.inr (.inl rfl))
  refine s_acons ?_ ?_
  exact s_slot 1 rfl (.inr (.inl rfl))
  refine s_acons ?_ ?_
  exact s_slot 2 rfl (.inl rfl)
  refine s_acons ?_ ?_
  exact s_slot 3 rfl (.inl rfl)
  exact s_anil
  refine sb_cons ?_ ?_
  refine ss_if ?_ ?_ ?_
  refine st_not ?_
  refine st_val ?_
  refine s_callG C__law_is hr (Nat.le_refl _) rfl ?_
  refine s_acons ?_ ?_
  exact s_slot 8 rfl (.inr (.inl rfl))
  refine s_acons ?_ ?_
  refine s_call C__law_both hr.room (Nat.le_refl _) rfl ?_
  refine s_acons ?_ ?_
  exact s_slot 0 rfl (.inr (.inl rfl))
  refine s_acons ?_ ?_
  exact s_slot 1 rfl (.inr (.inl rfl))
  refine s_acons ?_ ?_
  exact s_slot 2 rfl (.inl rfl)
  refine s_acons ?_ ?_
  exact s_slot 3 rfl (.inl rfl)
  exact s_anil
  exact s_anil
  refine sb_one ?_
  refine ss_ret ?_
  exact s_bl
  exact sb_nil
  refine sb_cons ?_ ?_
  refine ss_if ?_ ?_ ?_
  refine st_neD hr.room ?_ ?_
  refine s_lc (js := [9]) (own := [("card", 9)]) (un := un1) rfl sc__law_pair_right.nd (show BlkOk ["kinds", "kind", "one", "other", "third", "fits", "lack", "told", "both", "card", "two"] (defScope s__law_pair_right) _ _ from blk_by (by decide +kernel)) (fun s H C cl fp => pg_name sc__law_pair_right.nd rfl (.inl rfl)) tgt1 (by decide) (show ∀ j ∈ ([9] : List Nat), j < 11 by decide) ?_ ?_
  refine si_tup rfl ?_ (fun _ h => pi_tup h)
  refine s_tup ?_
  refine s_acons ?_ ?_
  exact s_slot 2 rfl (.inl rfl)
  refine s_acons ?_ ?_
  exact s_slot 3 rfl (.inl rfl)
  exact s_anil
  intro s H C cl fp
  refine s_call C_serves hr.room (Nat.le_refl _) rfl ?_
  refine s_acons ?_ ?_
  exact s_slot 0 rfl (.inr (.inl rfl))
  refine s_acons ?_ ?_
  exact s_slot 1 rfl (.inr (.inl rfl))
  refine s_acons ?_ ?_
  exact s_slot 9 rfl (.inl rfl)
  refine s_acons ?_ ?_
  exact s_slot 8 rfl (.inr (.inl rfl))
  exact s_anil
  refine s_lst ?_
  refine s_acons ?_ ?_
  exact s_bl
  refine s_acons ?_ ?_
  exact s_bl
  exact s_anil
  refine sb_one ?_
  refine ss_ret ?_
  exact s_bl
  exact sb_nil
  refine sb_cons ?_ ?_
  refine ss_if ?_ ?_ ?_
  refine st_of ?_
  refine sw_and ?_ ?_
  refine st_val ?_
  refine s_call C_serves hr.room (Nat.le_refl _) rfl ?_
  refine s_acons ?_ ?_
  exact s_slot 0 rfl (.inr (.inl rfl))
  refine s_acons ?_ ?_
  exact s_slot 1 rfl (.inr (.inl rfl))
  refine s_acons ?_ ?_
  exact s_slot 2 rfl (.inl rfl)
  refine s_acons ?_ ?_
  exact s_slot 4 rfl (.inl rfl)
  exact s_anil
  refine sw_and1 ?_
  refine st_val ?_
  refine s_call C_serves hr.room (Nat.le_refl _) rfl ?_
  refine s_acons ?_ ?_
  exact s_slot 0 rfl (.inr (.inl rfl))
  refine s_acons ?_ ?_
  exact s_slot 1 rfl (.inr (.inl rfl))
  refine s_acons ?_ ?_
  exact s_slot 3 rfl (.inl rfl)
  refine s_acons ?_ ?_
  exact s_slot 4 rfl (.inl rfl)
  exact s_anil
  refine sb_one ?_
  refine ss_if ?_ ?_ ?_
  refine st_notB ?_ ?_
  refine s_call C_serves hr.room (Nat.le_refl _) rfl ?_
  refine s_acons ?_ ?_
  exact s_slot 0 rfl (.inr (.inl rfl))
  refine s_acons ?_ ?_
  exact s_slot 1 rfl (.inr (.inl rfl))
  refine s_acons ?_ ?_
  exact s_slot 8 rfl (.inr (.inl rfl))
  refine s_acons ?_ ?_
  exact s_slot 4 rfl (.inl rfl)
  exact s_anil
  exact s_bl
  refine sb_one ?_
  refine ss_ret ?_
  exact s_bl
  exact sb_nil
  exact sb_nil
  refine sb_cons ?_ ?_
  refine ss_if ?_ ?_ ?_
  refine st_of ?_
  refine sw_and ?_ ?_
  refine st_val ?_
  refine s_call C_serves hr.room (Nat.le_refl _) rfl ?_
  refine s_acons ?_ ?_
  exact s_slot 0 rfl (.inr (.inl rfl))
  refine s_acons ?_ ?_
  exact s_slot 1 rfl (.inr (.inl rfl))
  refine s_acons ?_ ?_
  exact s_slot 2 rfl (.inl rfl)
  refine s_acons ?_ ?_
  exact s_slot 3 rfl (.inl rfl)
  exact s_anil
  refine sw_and1 ?_
  refine st_val ?_
  refine s_call C_serves hr.room (Nat.le_refl _) rfl ?_
  refine s_acons ?_ ?_
  exact s_slot 0 rfl (.inr (.inl rfl))
  refine s_acons ?_ ?_
  exact s_slot 1 rfl (.inr (.inl rfl))
  refine s_acons ?_ ?_
  exact s_slot 3 rfl (.inl rfl)
  refine s_acons ?_ ?_
  exact s_slot 4 rfl (.inl rfl)
  exact s_anil
  refine sb_one ?_
  refine ss_if ?_ ?_ ?_
  refine st_notB ?_ ?_
  refine s_call C_serves hr.room (Nat.le_refl _) rfl ?_
  refine s_acons ?_ ?_
  exact s_slot 0 rfl (.inr (.inl rfl))
  refine s_acons ?_ ?_
  exact s_slot 1 rfl (.inr (.inl rfl))
  refine s_acons ?_ ?_
  exact s_slot 2 rfl (.inl rfl)
  refine s_acons ?_ ?_
  exact s_slot 4 rfl (.inl rfl)
  exact s_anil
  exact s_bl
  refine sb_one ?_
  refine ss_ret ?_
  exact s_bl
  exact sb_nil
  exact sb_nil
  refine sb_one ?_
  refine ss_ret ?_
  refine s_eqD hr.room ?_ ?_
  refine s_call C_amounts_of hr.room (Nat.le_refl _) rfl ?_
  refine s_acons ?_ ?_
  exact s_slot 1 rfl (.inr (.inl rfl))
  refine s_acons ?_ ?_
  refine s_ix ?_ ?_
  exact s_slot 2 rfl (.inl rfl)
  exact s_int
  exact s_anil
  refine s_tuple rfl Z.tuple ?_
  refine s_lc (js := [10]) (own := [("two", 10)]) (un := un1) rfl sc__law_pair_right.nd (show BlkOk ["kinds", "kind", "one", "other", "third", "fits", "lack", "told", "both", "card", "two"] (defScope s__law_pair_right) _ _ from blk_by (by decide +kernel)) (fun s H C cl fp => pg_name sc__law_pair_right.nd rfl (.inl rfl)) tgt1 (by decide) (show ∀ j ∈ ([10] : List Nat), j < 11 by decide) ?_ ?_
  refine si_lst rfl ?_ (fun _ h => pi_list h)
  refine s_call C__law_flat hr.room (Nat.le_refl _) rfl ?_
  refine s_acons ?_ ?_
  exact s_slot 1 rfl (.inr (.inl rfl))
  refine s_acons ?_ ?_
  refine s_ix ?_ ?_
  exact s_slot 2 rfl (.inl rfl)
  exact s_int
  exact s_anil
  intro s H C cl fp
  refine s_call C__law_amount hr.room (Nat.le_refl _) rfl ?_
  refine s_acons ?_ ?_
  exact s_slot 10 rfl (.inl rfl)
  exact s_anil
end
end K48

namespace K48
open PySem PySem.Spec PyProof.Rows L2 PL
variable [Hand]
abbrev T0' (Q : D → Prop) : Pst := { nx := fun _ => Q .non, rt := Q }
theorem fmod_in {a m : Int} (h : 0 < m) : 0 ≤ a.fmod m ∧ a.fmod m < m := ⟨Int.fmod_nonneg_of_pos _ h, Int.fmod_lt_of_pos _ h⟩
theorem cut_ints (ns : List Int) (lo hi : Option Int) : ∃ ms : List Int, PL.cutD (ns.map D.int) lo hi = ms.map D.int ∧ ms.length ≤ ns.length := by
  refine ⟨(ns.drop (HT.sIx (ns.map D.int).length 0 lo)).take (HT.sIx (ns.map D.int).length (ns.map D.int).length hi - HT.sIx (ns.map D.int).length 0 lo), ?_, ?_⟩
  · unfold PL.cutD
    rw [List.map_take, List.map_drop]
  · rw [List.length_take, List.length_drop]
    omega
section
variable {ws : List W} {Q : D → Prop} {Y : Str → Prop} {n : Nat}
theorem lc_ints {un : D → Option (List D)} {elt : List D → (D → Prop) → Prop} (f : Int → Int) : ∀ {l : List Int} {acc : List D} {K : List D → Prop}, (∀ a ∈ l, ∀ K : D → Prop, K (.int (f a)) → ∃ ds, un (.int a) = some ds ∧ elt ds K) → K (acc ++ (l.map f).map D.int) → LcW un (fun _ K => K true) elt (l.map D.int) acc K
  | [], acc, K, _, hk => by
    rw [List.map_nil, List.map_nil, List.append_nil] at hk
    exact hk
  | a :: r, acc, K, h, hk => by
    have hk2 : K ((acc ++ [.int (f a)]) ++ (r.map f).map D.int) := by
      rw [List.append_assoc]
      exact hk
    obtain ⟨ds, h1, h2⟩ := h a List.mem_cons_self (fun d => LcW un (fun _ K => K true) elt (r.map D.int) (acc ++ [d]) K) (lc_ints f (l := r) (acc := acc ++ [.int (f a)]) (K := K) (fun x hx => h x (List.mem_cons_of_mem _ hx)) hk2)
    exact ⟨ds, h1, (if_pos rfl).mpr h2⟩
theorem sp__law_hand (h : S__law_hand ws Q Y) : m__law_hand (store0 ["script", "cells", "cell"] ws) (fun x _ => Y x) (T0' Q) := by
  obtain ⟨ns, rfl, hz, hQ⟩ := h
  obtain ⟨ms, em, hm⟩ := cut_ints ns none (some 63)
  repeat ((conv => whnf); first | (refine And.intro (by first | exact rfl | exact List.cons_ne_nil _ _ | exact True.intro | exact Nat.le_of_ble_eq_true rfl | decide | (simp; done) | omega) ?_) | (refine ⟨_, rfl, ?_⟩))
  conv => whnf
  rw [em]
  refine And.intro (by simp; omega) (And.intro rfl ?_)
  have cp : CPow 10 36 := ⟨by decide, by decide, by decide⟩
  refine lc_ints (fun z => (z.natAbs : Int).fmod (10 ^ 36)) (fun z hz K hK => ?_) ?_
  · repeat ((conv => whnf); first | exact cp | exact hK | (refine And.intro (by first | exact cp | exact hK | exact rfl | exact List.cons_ne_nil _ _ | exact True.intro | exact Nat.le_of_ble_eq_true rfl | decide | (simp; done) | omega) ?_) | (refine ⟨_, rfl, ?_⟩))
  · rw [List.nil_append]
    have hQ := hQ (ms.map fun z => (z.natAbs : Int).fmod (10 ^ 36)) (257 + 5 * ((ms.map fun z => (z.natAbs : Int).fmod (10 ^ 36)).map D.int).length) (fun c hc => by
      obtain ⟨z, _, rfl⟩ := List.mem_map.mp hc
      exact (fmod_in (by decide)).1) (by omega)
    have cm : CMul 5 (((ms.map fun z => (z.natAbs : Int).fmod (10 ^ 36)).map D.int).length : Int) := .inl ⟨by decide, by decide⟩
    repeat ((conv => whnf); first | exact cm | exact hQ | (refine And.intro (by first | exact cm | exact hQ | exact rfl | exact List.cons_ne_nil _ _ | exact True.intro | exact Nat.le_of_ble_eq_true rfl | decide | (simp; done) | omega) ?_) | (refine ⟨_, rfl, ?_⟩))
def dr_tail : MS :=
    (sCons (sIf (tCmp cGt (xBin fIx (xSlot 0) (xVal (.int 2))) (xVal (.int 0))) (sCons (sAsg 4 (xBin fMod (xUn gInt (xBin fIx (xSlot 0) (xVal (.int 2)))) (xSlot 1)))
    (sCons (sHset GoodH 0 (xVal (.int 2)) (xBin fDiv (xBin fIx (xSlot 0) (xVal (.int 2))) (xSlot 1)))
    (sRet (xSlot 4)))) sNil)
    (sCons (sHset GoodH 0 (xVal (.int 4)) (xBin fAdd (xBin fIx (xSlot 0) (xVal (.int 4))) (xVal (.int 1))))
    (sCons (sAsg 2 (xBin fMod (xUn gInt (xBin fMulS (xUn gInt (xBin fAdd (xBin fIx (xSlot 0) (xVal (.int 3))) (xBin fMulS (xVal (.int 7919)) (xBin fIx (xSlot 0) (xVal (.int 4)))))) (xVal (.int 48271)))) (xVal (.int 2147483647))))
    (sCons (sAsg 2 (xBin fMod (xUn gInt (xBin fMulS (xSlot 2) (xBin fAdd (xBin fDiv (xSlot 2) (xVal (.int 1009))) (xVal (.int 69621))))) (xVal (.int 2147483647))))
    (sRet (xBin fMod (xUn gInt (xBin fDiv (xSlot 2) (xVal (.int 16)))) (xSlot 1)))))))
theorem dr_rest {ds : List D} {many : Int} {o3 : Option W} (ho : o3 = none ∨ ∃ d, o3 = some (.val d)) (hg : GoodH ds) (h0 : 0 < many) (h1 : many ≤ 1000) (hQ : ∀ i : Int, 0 ≤ i → i < many → Q (.int i)) :
    dr_tail [some (.hown ds), some (v (.int many)), none, o3, none] (fun x _ => Y x) (T0' Q) := by
  obtain ⟨cs, i, r, m, t, rfl, hcs, hi, hr0, hm0, ht0⟩ := hg
  have hn0 : many ≠ 0 := by omega
  have cd : CDivG r many := Bd.cdiv (n := 64) r (by unfold Bd; exact Nat.lt_of_le_of_lt (by omega : many.natAbs ≤ 1000) (by decide)) hn0 (by decide) (by decide)
  have cl : clean [none, some (v (.int many)), none, o3, some (v (.int (r.fmod many)))] = true := by rcases ho with rfl | ⟨d, rfl⟩ <;> rfl
  have cl2 : clean [none, some (v (.int many)), none, o3, none] = true := by rcases ho with rfl | ⟨d, rfl⟩ <;> rfl
  conv => whnf
  by_cases h : r > 0
  · refine iteT (decide_eq_true h) ?_
    have g : GoodH [.lst (cs.map D.int), .int i, .int (r.fdiv many), .int m, .int t] := ⟨cs, i, _, m, t, rfl, hcs, hi, Int.fdiv_nonneg hr0 (by omega), hm0, ht0⟩
    have hQ := hQ _ (fmod_in (a := r) h0).1 (fmod_in (a := r) h0).2
    repeat ((conv => whnf); first | exact hn0 | exact cd | exact cl | exact g | exact hQ | (refine And.intro (by first | exact hn0 | exact cd | exact cl | exact g | exact hQ | exact rfl | exact List.cons_ne_nil _ _ | exact True.intro | exact Nat.le_of_ble_eq_true rfl | decide | (simp; done) | omega) ?_) | (refine ⟨_, rfl, ?_⟩))
  · refine iteF (decide_eq_false h) ?_
    have g : GoodH [.lst (cs.map D.int), .int i, .int r, .int m, .int (t + 1)] := ⟨cs, i, r, m, _, rfl, hcs, hi, hr0, hm0, by omega⟩
    have c1 : CMul 7919 (t + 1) := .inl ⟨by decide, by decide⟩
    have c2 : CMul (m + 7919 * (t + 1)) 48271 := .inr ⟨by decide, by decide⟩
    obtain ⟨n1, hn1, b1, b2⟩ : ∃ n1 : Int, n1 = ((m + 7919 * (t + 1)) * 48271).fmod 2147483647 ∧ 0 ≤ n1 ∧ n1 < 2147483647 := ⟨_, rfl, (fmod_in (by decide)).1, (fmod_in (by decide)).2⟩
    have d1 : CDivG n1 1009 := ⟨by decide, by decide⟩
    have c3 : CMul n1 (n1.fdiv 1009 + 69621) := .inl ⟨by omega, by omega⟩
    obtain ⟨n2, hn2, b3, b4⟩ : ∃ n2 : Int, n2 = (n1 * (n1.fdiv 1009 + 69621)).fmod 2147483647 ∧ 0 ≤ n2 ∧ n2 < 2147483647 := ⟨_, rfl, (fmod_in (by decide)).1, (fmod_in (by decide)).2⟩
    have d2 : CDivG n2 16 := ⟨by decide, by decide⟩
    have hQ := hQ _ (fmod_in (a := n2.fdiv 16) h0).1 (fmod_in (a := n2.fdiv 16) h0).2
    rw [hn2] at d2 hQ
    rw [hn1] at d1 c3 d2 hQ
    repeat ((conv => whnf); first | exact hn0 | exact g | exact cl2 | exact c1 | exact c2 | exact d1 | exact c3 | exact d2 | exact hQ | (refine And.intro (by first | exact hn0 | exact g | exact cl2 | exact c1 | exact c2 | exact d1 | exact c3 | exact d2 | exact hQ | exact rfl | exact List.cons_ne_nil _ _ | exact True.intro | exact Nat.le_of_ble_eq_true rfl | decide | (simp; done) | omega) ?_) | (refine ⟨_, rfl, ?_⟩))
theorem sp__law_draw {ds : List D} {many : Int} (hg : GoodH ds) (h0 : 0 < many) (h1 : many ≤ 1000) (hQ : ∀ i : Int, 0 ≤ i → i < many → Q (.int i)) :
    m__law_draw [some (.hown ds), some (v (.int many)), none, none, none] (fun x _ => Y x) (T0' Q) := by
  obtain ⟨cs, i, r, m, t, rfl, hcs, hi, hr0, hm0, ht0⟩ := id hg
  conv => whnf
  refine And.intro rfl ?_
  conv => whnf
  by_cases hr : r = 0
  · subst hr
    conv => whnf
    by_cases hl : i < ((cs.map D.int).length : Int)
    · refine iteT (decide_eq_true hl) ?_
      have hlt : i.toNat < cs.length := by
        simp at hl
        omega
      have hc : atI (cs.map D.int) i = some (.int cs[i.toNat]) := by
        unfold atI ixN
        rw [if_pos hi, if_pos hl]
        show (cs.map D.int)[i.toNat]? = _
        rw [List.getElem?_map, List.getElem?_eq_getElem hlt]
        rfl
      have hc0 : 0 ≤ cs[i.toNat] := hcs _ (List.getElem_mem hlt)
      generalize cs[i.toNat] = c at hc hc0
      have g1 : GoodH [.lst (cs.map D.int), .int (i + 1), .int 0, .int m, .int t] := ⟨cs, _, 0, m, t, rfl, hcs, by omega, by omega, hm0, ht0⟩
      have c1 : CMul m 69621 := .inr ⟨by decide, by decide⟩
      have c2 : CMul c 7 := .inr ⟨by decide, by decide⟩
      have hm2 := (fmod_in (a := m * 69621 + c * 7 + 61) (m := 2147483629) (by decide)).1
      have g2 : GoodH [.lst (cs.map D.int), .int (i + 1), .int 0, .int ((m * 69621 + c * 7 + 61).fmod 2147483629), .int t] := ⟨cs, _, 0, _, t, rfl, hcs, by omega, by omega, hm2, ht0⟩
      have cp : CPow 10 18 := ⟨by decide, by decide, by decide⟩
      conv => whnf
      rw [hc]
      repeat ((conv => whnf); first | exact g1 | exact c1 | exact c2 | exact g2 | exact cp | (refine And.intro (by first | exact g1 | exact c1 | exact c2 | exact g2 | exact cp | exact rfl | exact List.cons_ne_nil _ _ | exact True.intro | exact Nat.le_of_ble_eq_true rfl | decide | (simp; done) | omega) ?_) | (refine ⟨_, rfl, ?_⟩))
      conv => whnf
      by_cases hb : c ≥ 10 ^ 18
      · refine iteT (decide_eq_true hb) ?_
        have g3 : GoodH [.lst (cs.map D.int), .int (i + 1), .int c, .int ((m * 69621 + c * 7 + 61).fmod 2147483629), .int t] := ⟨cs, _, c, _, t, rfl, hcs, by omega, hc0, hm2, ht0⟩
        repeat ((conv => whnf); first | (refine And.intro (by first | exact rfl | exact List.cons_ne_nil _ _ | exact True.intro | exact Nat.le_of_ble_eq_true rfl | decide | (simp; done) | omega) ?_) | (refine ⟨_, rfl, ?_⟩))
        exact ⟨g3, dr_rest (.inr ⟨_, rfl⟩) g3 h0 h1 hQ⟩
      · refine iteF (decide_eq_false hb) ?_
        repeat ((conv => whnf); first | (refine And.intro (by first | exact rfl | exact List.cons_ne_nil _ _ | exact True.intro | exact Nat.le_of_ble_eq_true rfl | decide | (simp; done) | omega) ?_) | (refine ⟨_, rfl, ?_⟩))
        exact ⟨g2, dr_rest (.inr ⟨_, rfl⟩) g2 h0 h1 hQ⟩
    · refine iteF (decide_eq_false hl) ?_
      exact dr_rest (.inl rfl) hg h0 h1 hQ
  · refine iteF (decide_eq_false fun q => hr (V.int.inj q)) ?_
    exact dr_rest (.inl rfl) hg h0 h1 hQ
end
end K48

/-! try with two clauses, of which the second, a named one, takes what is raised -/
namespace PL
open PySem PySem.Spec PyProof.Rows L2
/-- what is asked of an exception: the first clause lets it by, the second takes it -/
def wSnd (K : PySem.W.Frag) (c1 c2 : Value) (i : Nat) (ts : Addr → Value → Option Addr → TS) (D : Ends) : WX := fun cls d σ H =>
  PySem.W.exmOne K cls c1 = some false ∧ PySem.W.exmOne K cls c2 = some true ∧
    ∀ a, H a = none → ts a cls d { nx := fun σ' H' => D.nx (σ'.set i none) H', rt := D.rt, bk := fun σ' H' => D.bk (σ'.set i none) H', ct := fun σ' H' => D.ct (σ'.set i none) H' } (σ.set i (some (.ref a))) H
section
variable {X : Cx} {x1 x2 n : Str} {c1 c2 : Value} {i : Nat}
theorem clause_asks {x : Str} {c : Value} {σ : L2.St} {H : Hp} {t : Shared} {a : Addr} {oe : Obj} {pn : List (Addr × Obj)} {np : Pos} (S : Inv (X.suite a ((a, oe) :: pn)) [] σ H t) (hc : Names X x c)
    {Q : Value → Shared → Prop} {E : Value → Shared → Prop} (q : Q c t) : wpAny (model X.prog X.w) (X.A.mark (some (.ref a))) (eval (.Name x np) X.env) Q E t := by
  obtain ⟨g, dbg, m | ⟨m, v, nn⟩⟩ := hc
  · exact ld_glob (X := X.suite a ((a, oe) :: pn)) S g m q dbg
  · exact ld_blt (X := X.suite a ((a, oe) :: pn)) S g m v q nn dbg
theorem ps_try_snd {body suite1 suite2 : List Stmt} {b1 b2 : Stmt} {np1 np2 pos pos1 pos2 : Pos} {tb : WX → TS} {ts : Addr → Value → Option Addr → TS}
    (hs : X.stack = X.env :: X.outer) (hf : X.env.frame = some X.env.locals) (hN : X.N.Nodup) (hi : X.N[i]? = some n) (hln : X.env.kindOf n = some .local) (hc1 : Names X x1 c1) (hc2 : Names X x2 c2)
    (hb : ∀ (W : WX) (pn : List (Addr × Obj)) (xe : Value → Shared → Prop), Takes (X.tr pn xe) W → PassesOwn (model X.prog X.w) X.A X.env xe → PSs (X.tr pn xe) body (tb W))
    (hsu : ∀ (a : Addr) (oe : Obj) (cls : Value) (d : Option Addr) (pn : List (Addr × Obj)), Zc cls d oe → (∃ vs, oe.data = .fields vs) → PSs (X.suite a ((a, oe) :: pn)) (b2 :: suite2) (ts a cls d)) :
    PS X (.Try body [.ExceptHandler (some (.Name x1 np1)) none (b1 :: suite1) pos1, .ExceptHandler (some (.Name x2 np2)) (some n) (b2 :: suite2) pos2] [] [] pos) (fun D σ H => tb (wSnd X.K c1 c2 i ts D) D σ H) := by
  refine ⟨fun pins s σ H D I h => wpAny_Try_except ?_⟩
  have ok := I.ok
  have frm : X.A.frames = some (X.env :: X.outer) := by rw [ok.frames, hs]
  refine wpAny_mono ((hb (wSnd X.K c1 c2 i ts D) (X.pn ++ pins) _ (fun u t hx => ?_) PassesOwn.looking).run [] s σ H D (I.toTry _) h) (fun fl t hsp => ?_) (fun e t he => he)
  · obtain ⟨a, B, sI, pins', σ', H', cls, d, rfl, J', nb, up, sky, na, os, ag, no1, yes2, hk⟩ := hx
    have J : Inv X pins σ' H' sI := J'.ofTry ok
    rw [hs] at sky
    show wpAny (model X.prog X.w) X.A (noteFrame (.ref a) X.env) _ _ _
    refine Sky.land Zc.steady frm hf sky fun g3 f3 u3 => ?_
    have J3 : Inv X pins σ' H' { t with heap := g3 } := J.landed nb f3.1 (up.trans u3) os ag
    -- the exception is no frame
    have apart : ∀ {g : Heap} {o : Obj} {vs : Array Value}, g.FunFrames B (X.env :: X.outer) → g.get? a = some o → o.data = .fields vs → a ∉ frs (X.env :: X.outer) := fun ff e dd hm => by
      obtain ⟨_, o', e', hnf⟩ := ff.mem hm
      cases e.symm.trans e'
      exact hnf _ dd
    obtain ⟨o3, v3, e3, z3, d3⟩ := f3.there
    have out := apart f3.2.2.1 e3 d3
    have aL : a ≠ X.env.locals := fun z => out (List.mem_filterMap.mpr ⟨X.env, List.mem_cons_self, by rw [hf, z]⟩)
    have aF : a ∉ X.fs := fun hm => by
      obtain ⟨e, he, q⟩ := List.mem_filterMap.mp hm
      exact out (List.mem_filterMap.mpr ⟨e, List.mem_cons_of_mem _ he, q⟩)
    have S3 := J3.suite e3 d3 na aL aF
    have looks : PySem.W.Looks (model X.prog X.w) g3 (typeOf (.ref a)) cls := fun A Q E s k q => wpAny_typeOf_ref (k _ _ e3) (by rw [z3.1]; exact q)
    have m1 := PySem.W.exm_one (M := model X.prog X.w) J3.kIn looks no1
    have m2 := PySem.W.exm_one (M := model X.prog X.w) J3.kIn looks yes2
    refine wpAny_handleBy_cons (codeAny_handlers_test ?_) (by intro q; cases q)
    refine clause_asks S3 hc1 (m1.here ?_)
    show wpAny _ X.A (handleBy (.ref a) X.env [.ExceptHandler (some (.Name x2 np2)) (some n) (b2 :: suite2) pos2]) _ _ _
    refine wpAny_handleBy_cons (codeAny_handlers_test ?_) (by intro q; cases q)
    refine clause_asks S3 hc2 (m2.here ?_)
    refine codeAny_handlers_suite_as (HandSPX.lands_againZ f3 fun g4 f4 u4 => ?_)
    have J4 : Inv X pins σ' H' { t with heap := g4 } := J.landed nb f4.1 ((up.trans u3).trans u4) os ag
    obtain ⟨o4, v4, e4, z4, d4⟩ := f4.there
    have S4 := J4.suite e4 d4 na aL aF
    refine store_ok (X := X.suite a ((a, o4) :: (X.pn ++ pins))) (v := .ref a) S4 hN hi (.inl hln) rfl (fun t5 S5 => ?_) (.inr hln)
    have gone : ∀ {t6 : Shared} {σ6 : L2.St} {H6 : Hp} {Q : Shared → Prop}, Inv (X.suite a ((a, o4) :: (X.pn ++ pins))) [] σ6 H6 t6 → (∀ t7, Inv X pins (σ6.set i none) H6 t7 → Q t7) →
        wpAny (model X.prog X.w) X.A (do bindName X.env n .none; unbindBehindTheSuite X.env n pos2) (fun _ t7 => Q t7) X.xe t6 := fun S6 hq => gone_ok (S6.unsuite ok) hN hi hln hq
    refine wpAny_mono ((hsu a o4 cls d (X.pn ++ pins) z4 ⟨_, d4⟩).run [] t5 _ H' _ S5 (hk a na)) (fun fl t6 hsp => ?_) (fun _ _ z => z.elim)
    cases fl with
    | ret u =>
      obtain ⟨w6, σ6, H6, S6, r6, q6⟩ := hsp
      exact gone S6 fun t7 J7 => ⟨_, _, _, J7, r6, q6⟩
    | _ =>
      obtain ⟨σ6, H6, S6, q6⟩ := hsp
      exact gone S6 fun t7 J7 => ⟨_, _, J7, q6⟩
  · cases fl with
    | next =>
      obtain ⟨σ', H', J', q⟩ := hsp
      exact wpAny_execs_nil ⟨σ', H', J'.ofTry ok, q⟩
    | ret u =>
      obtain ⟨w', σ', H', J', r, q⟩ := hsp
      exact ⟨w', σ', H', J'.ofTry ok, r, q⟩
    | _ =>
      obtain ⟨σ', H', J', q⟩ := hsp
      exact ⟨σ', H', J'.ofTry ok, q⟩
end
end PL

namespace K48
open PySem PySem.Spec PyProof.Rows L2 PL LamX
variable [Hand]
/-! ### list.count, flat items -/
theorem countP_eqU {x : V} : ∀ {xs : List V} {us : List Value}, Vals xs us → xs.all flatV = true → us.countP (eqU x) = xs.countP fun y => eqV y x
  | _, _, .nil, _ => rfl
  | y :: xs, u :: us, .cons r t, f => by
    rw [List.all_cons, Bool.and_eq_true] at f
    rw [List.countP_cons, List.countP_cons, eqU_of r f.1, countP_eqU t f.2]
def rCntF (K : PySem.W.Frag) : V → List V → Hp → VK → Prop := fun x xs H Q => ∃ (p : Addr) (ys : List V) (y : V), x = .ref p ∧ xs = [y] ∧ SqL K H p ys ∧ flatV y = true ∧ ys.all flatV = true ∧ Q (.int ((ys.countP fun z => eqV z y) : Nat)) H
theorem mt_cntF {X : Cx} : MtR X "list.count" (rCntF X.K) := by
  intro pins s σ H x xs v us Q I rx rxs h
  obtain ⟨p, ys, y, rfl, rfl, hs, fy, fys, q⟩ := h
  cases rx
  obtain ⟨u, rfl, ru⟩ := rxs.one
  obtain ⟨its, rv, ⟨⟨cls, dd, data, sl⟩, n, ho, hc, hdn, hd⟩, hlen⟩ := I.list hs
  simp only at hc hd
  subst hc hd
  refine call_meets PySem.F.slot_list_count ⟨_, ho, rfl⟩ PySem.F.entry_list_count (PySem.F.args_list_count_2 _ _)
    (SeqAt.list_countAt p its.toArray n dd sl u (eqU y)) ⟨ho, fun u' hu' => mem_eqAt ru fy rv fys u' (by simpa using hu'), ?_⟩
  have ec : its.toArray.toList.countP (eqU y) = ys.countP fun z => eqV z y := countP_eqU rv fys
  refine ⟨.int ((ys.countP fun z => eqV z y) : Nat), H, I.tok _, ⟨s.toks, ?_⟩, q⟩
  show Value.int ((its.toArray.toList.countP (eqU y) : Nat) : Int) s.toks = _
  rw [ec]
/-! ### _law_word -/
def wd (y : Str) : Option Str := if y = "NoKind" then some "kind" else if y = "NoCard" then some "card" else if y = "NoCards" then some "cards" else none
/-- what the clauses say of a class: which of the three it is -/
structure WdC (K : PySem.W.Frag) (mg : Str → Option Value) (CT CP : Addr) (y : Str) (b1 b2 b3 : Bool) : Prop where
  ex : ∃ C CK CC CS : Addr, mg y = some (.ref C) ∧ mg "NoKind" = some (.ref CK) ∧ mg "NoCard" = some (.ref CC) ∧ mg "NoCards" = some (.ref CS) ∧ PySem.W.exmOne K (.ref C) (.ref CT) = some false ∧ PySem.W.exmOne K (.ref C) (.ref CP) = some true ∧ ExcC K C ∧
    PySem.W.kitOne K (.ref C) (.ref CK) = some b1 ∧ PySem.W.kitOne K (.ref C) (.ref CC) = some b2 ∧ PySem.W.kitOne K (.ref C) (.ref CS) = some b3
structure WordF (K : PySem.W.Frag) (mg : Str → Option Value) : Prop where
  isi : mg "isinstance" = none
  ex : ∃ CT CP : Addr, mg "TooMany" = some (.ref CT) ∧ mg "PaidError" = some (.ref CP) ∧ WdC K mg CT CP "NoKind" true false false ∧ WdC K mg CT CP "NoCard" false true false ∧ WdC K mg CT CP "NoCards" false false true
abbrev NgW : List Str := ["call", "found", "error", "flags"]
theorem sc_word : FnScope NgW ["call"] (defScope s__law_word) := ⟨rfl, rfl, rfl, by decide +kernel, rfl, by decide +kernel, by decide +kernel⟩
theorem stB {X : Cx} {st : Stmt} {rest : List Stmt} {D : Ends} {σ : L2.St} {H : Hp} (h : bS X st { D with nx := fun σ H => bB X rest D σ H } σ H) : bB X (st :: rest) D σ H := bstB (pss_cons ps_best pss_best) h
theorem stB1 {X : Cx} {st : Stmt} {D : Ends} {σ : L2.St} {H : Hp} (h : bS X st D σ H) : bB X [st] D σ H := bstB (pss_one ps_best) h
abbrev XW (X : Cx) (g : Addr) (cdg : Value) (s : Shared) (H : Hp) : Cx := (cxOf C8.CX0 X.prog X.w X.K X.mg X.base NgW "_law_word" (defScope s__law_word) g cdg X.A X.stack s H C8.E0).nox
def suiteOf : List Stmt := match defBody s__law_word with
  | _ :: .Try _ (_ :: .ExceptHandler _ _ st _ :: _) _ _ _ :: _ => st
  | _ => []
/-- the suite: by the class's answers -/
theorem suite_ok {X : Cx} (W : WordF X.K X.mg) {g a C : Addr} {cdg : Value} {s : Shared} {H0 H : Hp} {oe : Obj} {pn : List (Addr × Obj)} {σ : L2.St} {D : Ends} {r : Str} (EC : ExcC X.K C) (hz : Zc (.ref C) none oe) (hf : ∃ vs, oe.data = .fields vs)
    (hk : ∃ b1 b2 b3, (∃ CK CC CS, X.mg "NoKind" = some (.ref CK) ∧ X.mg "NoCard" = some (.ref CC) ∧ X.mg "NoCards" = some (.ref CS) ∧ PySem.W.kitOne X.K (.ref C) (.ref CK) = some b1 ∧ PySem.W.kitOne X.K (.ref C) (.ref CC) = some b2 ∧ PySem.W.kitOne X.K (.ref C) (.ref CS) = some b3) ∧ ((b1 = true ∧ b2 = false ∧ b3 = false ∧ r = "kind") ∨ (b1 = false ∧ b2 = true ∧ b3 = false ∧ r = "card") ∨ (b1 = false ∧ b2 = false ∧ b3 = true ∧ r = "cards")))
    (hs : σ[2]? = some (some (.ref a))) (hl : σ.length = 4) (hQ : ∀ σ' H', Ext H H' → σ'[1]? = some (some (.str r)) → D.nx σ' H') : bB ((XW X g cdg s H0).suite a ((a, oe) :: pn)) suiteOf D σ H := by
  obtain ⟨b1, b2, b3, ⟨CK, CC, CS, mK, mC, mS, k1, k2, k3⟩, hr⟩ := hk
  refine stB ?_
  refine bstS (ps_set (i := 3) sc_word.nd rfl (.inl rfl) pe_best rfl (.inr rfl)) ?_
  refine bst (pe_lst pa_best) ?_
  refine bstA (pa_cons pe_best pa_best rfl) ?_
  refine bst (pe_callB (x := "isinstance") (X := (XW X g cdg s H0).suite a ((a, oe) :: pn)) (call_isE (X := XW X g cdg s H0) (pn := pn) EC hz hf) rfl W.isi (by decide +kernel) (pa_cons pe_best (pa_cons pe_best pa_nil))) ?_
  refine bst (pe_var (i := 2) rfl (.inl rfl)) ⟨_, hs, ?_⟩
  refine bst (pe_glob (x := "NoKind") (X := (XW X g cdg s H0).suite a ((a, oe) :: pn)) (v := .ref CK) rfl mK rfl) ?_
  refine ⟨.ref CK, .ref CK, b1, rfl, fun u r => r, k1, ?_⟩
  refine bstA (pa_cons pe_best pa_best rfl) ?_
  refine bst (pe_callB (x := "isinstance") (X := (XW X g cdg s H0).suite a ((a, oe) :: pn)) (call_isE (X := XW X g cdg s H0) (pn := pn) EC hz hf) rfl W.isi (by decide +kernel) (pa_cons pe_best (pa_cons pe_best pa_nil))) ?_
  refine bst (pe_var (i := 2) rfl (.inl rfl)) ⟨_, hs, ?_⟩
  refine bst (pe_glob (x := "NoCard") (X := (XW X g cdg s H0).suite a ((a, oe) :: pn)) (v := .ref CC) rfl mC rfl) ?_
  refine ⟨.ref CC, .ref CC, b2, rfl, fun u r => r, k2, ?_⟩
  refine bstA (pa_cons pe_best pa_best rfl) ?_
  refine bst (pe_callB (x := "isinstance") (X := (XW X g cdg s H0).suite a ((a, oe) :: pn)) (call_isE (X := XW X g cdg s H0) (pn := pn) EC hz hf) rfl W.isi (by decide +kernel) (pa_cons pe_best (pa_cons pe_best pa_nil))) ?_
  refine bst (pe_var (i := 2) rfl (.inl rfl)) ⟨_, hs, ?_⟩
  refine bst (pe_glob (x := "NoCards") (X := (XW X g cdg s H0).suite a ((a, oe) :: pn)) (v := .ref CS) rfl mS rfl) ?_
  refine ⟨.ref CS, .ref CS, b3, rfl, fun u r => r, k3, ?_⟩
  refine bstA pa_nil ?_
  refine ⟨Evl.sz_of (by simp), fun p hp => ?_⟩
  show bB _ _ D (σ.set 3 (some (.ref p))) _
  have h2 : (σ.set 3 (some (.ref p)))[3]? = some (some (.ref p)) := List.getElem?_set_self (by omega)
  have h1 : ∀ v : V, ((σ.set 3 (some (.ref p))).set 1 (some v))[1]? = some (some v) := fun v => List.getElem?_set_self (by rw [List.length_set]; omega)
  have sl : SqL X.K (upd H p (.lst [.bl b1, .bl b2, .bl b3])) p [.bl b1, .bl b2, .bl b3] := .inl (.inl upd_same)
  refine stB1 ?_
  refine bstS (ps_set (i := 1) sc_word.nd rfl (.inl rfl) pe_best rfl (.inr rfl)) ?_
  refine bst (pe_ifExp pt_best pe_best pe_best) ?_
  refine bstT (pt_cmpR op_eq pe_best pe_best (nomark _)) ?_
  refine bst (pe_bm PySem.F.plainAttrs_list PySem.F.slot_list_count PySem.F.type_list_count mt_cntF pe_best (pa_cons pe_best pa_nil)) ?_
  refine bst (pe_var (i := 3) rfl (.inl rfl)) ⟨_, h2, ?_⟩
  refine ⟨.inl ⟨rfl, _, sl⟩, ?_⟩
  refine bst pe_bl ?_
  refine ⟨p, [.bl b1, .bl b2, .bl b3], .bl true, rfl, rfl, sl, rfl, rfl, ?_⟩
  have ec : (([.bl b1, .bl b2, .bl b3] : List V).countP fun z => eqV z (.bl true)) = 1 := by
    rcases hr with ⟨rfl, rfl, rfl, _⟩ | ⟨rfl, rfl, rfl, _⟩ | ⟨rfl, rfl, rfl, _⟩ <;> rfl
  rw [ec]
  refine bst pe_int ⟨rfl, true, rfl, ?_⟩
  show bE _ _ _ _ fun v H' => D.nx ((σ.set 3 (some (.ref p))).set 1 (some v)) H'
  refine bst (pe_ix (ix_list.or ix_tup) pe_best pe_best (fun _ _ => rfl)) ?_
  refine bst (pe_lst pa_best) ?_
  refine bstA (pa_cons pe_best pa_best rfl) (bst pe_str ?_)
  refine bstA (pa_cons pe_best pa_best rfl) (bst pe_str ?_)
  refine bstA (pa_cons pe_best pa_best rfl) (bst pe_str ?_)
  refine bstA pa_nil ?_
  refine ⟨Evl.sz_of (by simp), fun q hq => ?_⟩
  have hqp : p ≠ q := ne_of_none upd_same hq
  have sl2 : SqL X.K (upd (upd H p (.lst [.bl b1, .bl b2, .bl b3])) q (.lst [.str "kind", .str "card", .str "cards"])) p [.bl b1, .bl b2, .bl b3] := .inl (.inl (by rw [upd_ne hqp, upd_same]))
  have sl3 : SqL X.K (upd (upd H p (.lst [.bl b1, .bl b2, .bl b3])) q (.lst [.str "kind", .str "card", .str "cards"])) q [.str "kind", .str "card", .str "cards"] := .inl (.inl upd_same)
  refine bst (pe_bm PySem.F.plainAttrs_list PySem.F.slot_list_index PySem.F.type_list_index mt_index pe_best (pa_cons pe_best pa_nil)) ?_
  refine bst (pe_var (i := 3) rfl (.inl rfl)) ⟨_, h2, ?_⟩
  refine ⟨.inl ⟨rfl, _, sl2⟩, ?_⟩
  refine bst pe_bl ?_
  have hext : Ext H (upd (upd H p (.lst [.bl b1, .bl b2, .bl b3])) q (.lst [.str "kind", .str "card", .str "cards"])) := Ext.trans (.new hp) (.new hq)
  rcases hr with ⟨rfl, rfl, rfl, rfl⟩ | ⟨rfl, rfl, rfl, rfl⟩ | ⟨rfl, rfl, rfl, rfl⟩
  · refine ⟨p, [.bl true, .bl false, .bl false], .bl true, 0, .bl true, rfl, rfl, sl2, rfl, rfl, rfl, rfl, fun m z h => absurd h (by omega), ?_⟩
    exact .inl ⟨q, _, 0, _, rfl, rfl, sl3, rfl, hQ _ _ hext (h1 _)⟩
  · refine ⟨p, [.bl false, .bl true, .bl false], .bl true, 1, .bl true, rfl, rfl, sl2, rfl, rfl, rfl, rfl, fun m z h e => ?_, ?_⟩
    · have : m = 0 := by omega
      subst this
      cases e
      rfl
    · exact .inl ⟨q, _, 1, _, rfl, rfl, sl3, rfl, hQ _ _ hext (h1 _)⟩
  · refine ⟨p, [.bl false, .bl false, .bl true], .bl true, 2, .bl true, rfl, rfl, sl2, rfl, rfl, rfl, rfl, fun m z h e => ?_, ?_⟩
    · have : m = 0 ∨ m = 1 := by omega
      rcases this with rfl | rfl <;> cases e <;> rfl
    · exact .inl ⟨q, _, 2, _, rfl, rfl, sl3, rfl, hQ _ _ hext (h1 _)⟩
theorem word_gives {X : Cx} (W : WordF X.K X.mg) {g : Addr} {cdg : Value} {q : Str} : GivesTo X NgW "_law_word" (defScope s__law_word) g cdg (defBody s__law_word) "call" q (TTw X.mg wd "told") := by
  intro f c' s H Q tl act hc h
  obtain ⟨E', h1, h3⟩ := h
  obtain ⟨CT, CP, mT, mP, wK, wC, wS⟩ := W.ex
  refine ⟨_, pss_cons (ps_set (X := XW X g cdg s H) (i := 1) sc_word.nd rfl (.inl rfl) pe_str rfl (.inr rfl)) (pss_cons (ps_try_snd (X := XW X g cdg s H) (x1 := "TooMany") (x2 := "PaidError") (n := "error") (c1 := .ref CT) (c2 := .ref CP) (i := 2)
      (tb := fun W D σ H => ∃ Ech : XK, (∀ cls d σ' H', Ech cls d H' → W cls d σ' H') ∧ σ[0]? = some (some (.ref f)) ∧ H c' = some (CodeO c' q) ∧ tl Ech H fun _ H' => D.nx σ H')
      (ts := fun a cls d D σ H1 => ∀ oe pn, Zc cls d oe → (∃ vs, oe.data = .fields vs) → bB ((XW X g cdg s H).suite a ((a, oe) :: pn)) suiteOf D σ H1)
      rfl rfl sc_word.nd rfl rfl ⟨rfl, by decide, .inl mT⟩ ⟨rfl, by decide, .inl mP⟩ (fun W pn xe tk _ => ?_) (fun a oe cls d pn hz hf => ⟨fun pins s' σ H D I h => h oe pn hz hf pins s' I⟩)) (pss_one (ps_ret (pe_var (i := 1) rfl (.inl rfl))))), ?_⟩
  · refine ⟨fun pins s' σ H' D I h' => ?_⟩
    obtain ⟨Ech, hW, k1, k2, k3⟩ := h'
    exact (pss_one (ps_expr (act W pn xe Ech _ _ tk hW))).run pins s' σ H' D I ⟨k1, k2, k3⟩
  · show ∃ Ech : XK, _
    refine ⟨E', fun cls d σ' H' he => ?_, rfl, hc, ?_⟩
    · obtain ⟨rfl, y, C, r, rfl, my, hw, hQ⟩ := h3 cls d H' he
      have key : ∃ b1 b2 b3, WdC X.K X.mg CT CP y b1 b2 b3 ∧ ((b1 = true ∧ b2 = false ∧ b3 = false ∧ r = "kind") ∨ (b1 = false ∧ b2 = true ∧ b3 = false ∧ r = "card") ∨ (b1 = false ∧ b2 = false ∧ b3 = true ∧ r = "cards")) := by
        unfold wd at hw
        split at hw
        · rename_i e
          subst e
          cases hw
          exact ⟨_, _, _, wK, .inl ⟨rfl, rfl, rfl, rfl⟩⟩
        · split at hw
          · rename_i e
            subst e
            cases hw
            exact ⟨_, _, _, wC, .inr (.inl ⟨rfl, rfl, rfl, rfl⟩)⟩
          · split at hw
            · rename_i e
              subst e
              cases hw
              exact ⟨_, _, _, wS, .inr (.inr ⟨rfl, rfl, rfl, rfl⟩)⟩
            · cases hw
      obtain ⟨b1, b2, b3, ⟨C', CK, CC, CS, e1, mK, mC, mS, x1, x2, EC, q1, q2, q3⟩, hr⟩ := key
      rw [my] at e1
      cases e1
      refine ⟨x1, x2, fun a ha oe pn hz hf pins s1 I => ?_⟩
      have hl : (σ'.set 2 (some (.ref a))).length = 4 := I.len
      refine suite_ok (r := r) W EC hz hf ⟨b1, b2, b3, ⟨CK, CC, CS, mK, mC, mS, q1, q2, q3⟩, hr⟩ ?_ hl ?_ pins s1 I
      · rw [List.length_set] at hl
        exact List.getElem?_set_self (by omega)
      · exact fun σ'' H'' e i1 => ⟨_, (List.getElem?_set_ne (by decide)).trans i1, hQ H'' e⟩
    · refine cast (congrArg (tl E' H) (funext fun u => funext fun H' => propext ⟨fun q => ⟨_, rfl, q⟩, fun q => ?_⟩)) h1
      obtain ⟨v, e, q⟩ := q
      cases e
      exact q
end K48

namespace K48
open PySem PySem.Spec PyProof.Rows L2 PL
/-! ### plain facts -/
def Kd.sz : Kd → Nat
  | .int => 1
  | .flag => 1
  | .list k => k.sz + 1
  | .tree k => k.sz + 1
  | .pair a b => a.sz + b.sz + 1
  | .either a b => a.sz + b.sz + 1
theorem Kd.sz_pos : ∀ k : Kd, 0 < k.sz
  | .int | .flag => Nat.one_pos
  | .list _ | .tree _ | .pair _ _ | .either _ _ => Nat.succ_pos _
theorem pow_max (a b : Nat) : 2 ^ (max a b + 1) ≥ 2 ^ (a + 1) ∧ 2 ^ (max a b + 1) ≥ 2 ^ (b + 1) :=
  ⟨Nat.pow_le_pow_right (by decide) (by omega), Nat.pow_le_pow_right (by decide) (by omega)⟩
theorem Kd.sz_le : ∀ k : Kd, k.sz + 1 ≤ 2 ^ (k.ht + 1)
  | .int | .flag => by decide
  | .list k | .tree k => by
    have := Kd.sz_le k
    unfold Kd.sz Kd.ht
    rw [Nat.pow_succ]
    have := Nat.one_le_two_pow (n := k.ht + 1)
    omega
  | .pair a b | .either a b => by
    have h1 := Kd.sz_le a
    have h2 := Kd.sz_le b
    have h3 := pow_max a.ht b.ht
    unfold Kd.sz Kd.ht
    rw [Nat.pow_succ]
    omega
theorem Kd.many_le : ∀ k : Kd, k.many + 2 ≤ 2 ^ (k.ht + 1)
  | .int | .flag => by decide
  | .list k | .tree k => by
    have := Kd.many_le k
    unfold Kd.many Kd.ht
    rw [Nat.pow_succ]
    omega
  | .pair a b | .either a b => by
    have h1 := Kd.many_le a
    have h2 := Kd.many_le b
    have h3 := pow_max a.ht b.ht
    unfold Kd.many Kd.ht
    rw [Nat.pow_succ]
    omega
theorem many14 {k : Kd} (h : k.ht ≤ 2) : k.many ≤ 14 := by
  have h1 := Kd.many_le k
  have h2 : 2 ^ (k.ht + 1) ≤ 2 ^ 3 := Nat.pow_le_pow_right (by decide) (by omega)
  omega
theorem Rc.len : ∀ {k : Kd} {r : Rc}, r.fits k → r.flat.length = k.many
  | .int, .leaf, _ => rfl
  | .flag, .leaf, _ => rfl
  | .list k, .one n r, h => by
    unfold Rc.flat Kd.many
    rw [List.length_cons, Rc.len h.2]
    omega
  | .tree k, .one n r, h => by
    unfold Rc.flat Kd.many
    rw [List.length_cons, Rc.len h.2]
    omega
  | .pair a b, .two r s, h => by
    unfold Rc.flat Kd.many
    rw [List.length_append, Rc.len h.1, Rc.len h.2]
  | .either a b, .four n r m s, h => by
    unfold Rc.flat Kd.many
    simp only [List.length_cons, List.length_append, List.cons_append, Rc.len h.2.1, Rc.len h.2.2]
    omega
theorem flat14 {k : Kd} {r : Rc} (h : r.fits k) (hk : k.ht ≤ 2) : r.flat.length ≤ 14 := by
  rw [Rc.len h]
  exact many14 hk
theorem flat_sm : ∀ {k : Kd} {r : Rc}, r.fits k → ∀ z ∈ r.flat, sm z
  | .int, .leaf, _, z, h => nomatch h
  | .flag, .leaf, _, z, h => nomatch h
  | .list k, .one n r, f, z, h => by
    rcases List.mem_cons.mp h with rfl | h
    · exact f.1
    · exact flat_sm f.2 z h
  | .tree k, .one n r, f, z, h => by
    rcases List.mem_cons.mp h with rfl | h
    · exact f.1
    · exact flat_sm f.2 z h
  | .pair a b, .two r s, f, z, h => by
    rcases List.mem_append.mp h with h | h
    · exact flat_sm f.1 z h
    · exact flat_sm f.2 z h
  | .either a b, .four n r m s, f, z, h => by
    have h : z ∈ n :: (r.flat ++ m :: s.flat) := h
    rcases List.mem_cons.mp h with rfl | h
    · exact f.1.1
    · rcases List.mem_append.mp h with h | h
      · exact flat_sm f.2.1 z h
      · rcases List.mem_cons.mp h with rfl | h
        · exact f.1.2
        · exact flat_sm f.2.2 z h
theorem sm_bd {z : Int} (h : sm z) : bd9 z := by
  obtain ⟨h1, h2⟩ := h
  unfold bd9
  omega
theorem at0 {d : D} {ds : List D} : atI (d :: ds) 0 = some d := by
  unfold atI ixN
  simp
theorem cut1 {d : D} {ds : List D} : PL.cutD (d :: ds) (some 1) none = ds := by
  unfold PL.cutD
  simp [HT.sIx]
variable [Hand]
abbrev T0 (Q : D → Prop) : Pst := { nx := fun _ => Q .non, rt := Q }
theorem xPop_at {i : Nat} {ρ : Store} {Y : Yp} {P : Po} {ds : List D} {d : D} (h : ρ[i]? = some (some (.own (ds ++ [d])))) (hP : P (.val d) (ρ.set i (some (.own ds)))) : xPop i ρ Y P := by
  unfold xPop
  rw [h]
  show opt1 (ds ++ [d]).getLast? _
  rw [List.getLast?_concat]
  show P (.val d) (ρ.set i (some (.own (ds ++ [d]).dropLast)))
  rw [List.dropLast_concat]
  exact hP
theorem sPop_at {i j : Nat} {ρ : Store} {Y : Yp} {T : Pst} {r : MS} {ds : List D} {d : D} (h : ρ[i]? = some (some (.own (ds ++ [d])))) (hP : r ((ρ.set i (some (.own ds))).set j (some (.val d))) Y T) : sCons (sAsg j (xPop i)) r ρ Y T := by
  unfold sCons sAsg
  exact xPop_at h hP
def szs (ks : List Kd) : Nat := (ks.map Kd.sz).sum
theorem szs_add (a b : List Kd) : szs (a ++ b) = szs a + szs b := by
  unfold szs
  rw [List.map_append, List.sum_append]
theorem szs_len : ∀ ks : List Kd, ks.length ≤ szs ks
  | [] => Nat.le_refl _
  | k :: ks => by
    have h1 := szs_len ks
    have h2 := Kd.sz_pos k
    unfold szs at h1 ⊢
    rw [List.map_cons, List.sum_cons, List.length_cons]
    omega
section
variable {ws : List W} {Q : D → Prop} {Y : Str → Prop} {n : Nat}
theorem sp_has_kind_form (h : S_has_kind_form ws Q Y) : m_has_kind_form (store0 ["thing"] ws) (fun x _ => Y x) (T0 Q) := by
  rcases h with ⟨k, rfl, hk, hQ⟩ | ⟨d, rfl, ho, hQ⟩
  · cases k with
    | int => cases hk
    | flag => cases hk
    | list k => repeat ((conv => whnf); first | exact hQ | (refine And.intro (by first | exact hQ | exact rfl | exact List.cons_ne_nil _ _ | exact True.intro | exact Nat.le_of_ble_eq_true rfl | decide | (simp; done) | omega) ?_) | (refine ⟨_, rfl, ?_⟩))
    | tree k => repeat ((conv => whnf); first | exact hQ | (refine And.intro (by first | exact hQ | exact rfl | exact List.cons_ne_nil _ _ | exact True.intro | exact Nat.le_of_ble_eq_true rfl | decide | (simp; done) | omega) ?_) | (refine ⟨_, rfl, ?_⟩))
    | pair a b => repeat ((conv => whnf); first | exact hQ | (refine And.intro (by first | exact hQ | exact rfl | exact List.cons_ne_nil _ _ | exact True.intro | exact Nat.le_of_ble_eq_true rfl | decide | (simp; done) | omega) ?_) | (refine ⟨_, rfl, ?_⟩))
    | either a b => repeat ((conv => whnf); first | exact hQ | (refine And.intro (by first | exact hQ | exact rfl | exact List.cons_ne_nil _ _ | exact True.intro | exact Nat.le_of_ble_eq_true rfl | decide | (simp; done) | omega) ?_) | (refine ⟨_, rfl, ?_⟩))
  · rcases ho with rfl | rfl | rfl | rfl | rfl <;> repeat ((conv => whnf); first | exact hQ | (refine And.intro (by first | exact hQ | exact rfl | exact List.cons_ne_nil _ _ | exact True.intro | exact Nat.le_of_ble_eq_true rfl | decide | (simp; done) | omega) ?_) | (refine ⟨_, rfl, ?_⟩))
theorem sp_raw_lesser (h : S_raw_lesser ws Q Y) : m_raw_lesser (store0 ["x", "y"] ws) (fun x _ => Y x) (T0 Q) := by
  obtain ⟨x, y, rfl, bx, hy, hQ⟩ := h
  repeat ((conv => whnf); first | (refine And.intro (by first | exact rfl | exact List.cons_ne_nil _ _ | exact True.intro | exact Nat.le_of_ble_eq_true rfl | decide | (simp; done) | omega) ?_) | (refine ⟨_, rfl, ?_⟩))
  refine ⟨x, y, rfl, bx, hy, ?_⟩
  conv => whnf
  by_cases h : x ≤ y
  · refine iteT (decide_eq_true h) ?_
    rw [Int.min_eq_left h] at hQ
    repeat ((conv => whnf); first | exact hQ | (refine And.intro (by first | exact hQ | exact rfl | exact List.cons_ne_nil _ _ | exact True.intro | exact Nat.le_of_ble_eq_true rfl | decide | (simp; done) | omega) ?_) | (refine ⟨_, rfl, ?_⟩))
  · refine iteF (decide_eq_false h) ?_
    rw [Int.min_eq_right (by omega)] at hQ
    repeat ((conv => whnf); first | exact hQ | (refine And.intro (by first | exact hQ | exact rfl | exact List.cons_ne_nil _ _ | exact True.intro | exact Nat.le_of_ble_eq_true rfl | decide | (simp; done) | omega) ?_) | (refine ⟨_, rfl, ?_⟩))
theorem sp_raw_greater (h : S_raw_greater ws Q Y) : m_raw_greater (store0 ["x", "y"] ws) (fun x _ => Y x) (T0 Q) := by
  obtain ⟨x, y, rfl, bx, hy, hQ⟩ := h
  repeat ((conv => whnf); first | (refine And.intro (by first | exact rfl | exact List.cons_ne_nil _ _ | exact True.intro | exact Nat.le_of_ble_eq_true rfl | decide | (simp; done) | omega) ?_) | (refine ⟨_, rfl, ?_⟩))
  refine ⟨x, y, rfl, bx, hy, ?_⟩
  conv => whnf
  by_cases h : x ≤ y
  · refine iteT (decide_eq_true h) ?_
    rw [Int.max_eq_right h] at hQ
    repeat ((conv => whnf); first | exact hQ | (refine And.intro (by first | exact hQ | exact rfl | exact List.cons_ne_nil _ _ | exact True.intro | exact Nat.le_of_ble_eq_true rfl | decide | (simp; done) | omega) ?_) | (refine ⟨_, rfl, ?_⟩))
  · refine iteF (decide_eq_false h) ?_
    rw [Int.max_eq_left (by omega)] at hQ
    repeat ((conv => whnf); first | exact hQ | (refine And.intro (by first | exact hQ | exact rfl | exact List.cons_ne_nil _ _ | exact True.intro | exact Nat.le_of_ble_eq_true rfl | decide | (simp; done) | omega) ?_) | (refine ⟨_, rfl, ?_⟩))
theorem sp_is_kind (h : S_is_kind ws Q Y) : m_is_kind (store0 ["thing", "many", "waiting", "here"] ws) (fun x _ => Y x) (T0 Q) := by
  rcases h with ⟨k, rfl, hk, hQ⟩ | ⟨d, rfl, ho, hQ⟩
  · repeat ((conv => whnf); first | exact hQ | (refine And.intro (by first | exact hQ | exact rfl | exact List.cons_ne_nil _ _ | exact True.intro | exact Nat.le_of_ble_eq_true rfl | decide | (simp; done) | omega) ?_) | (refine ⟨_, rfl, ?_⟩))
    have hz := Kd.sz_le k
    have hz2 : 2 ^ (k.ht + 1) ≤ 2 ^ 3 := Nat.pow_le_pow_right (by decide) (by unfold kOk at hk; omega)
    refine ⟨fun m ρ => ∃ (c : Int) (ks : List Kd) (o : Option W), ρ = [some (v k.d), some (v (.int c)), some (.own (ks.map Kd.d)), o] ∧ m = szs ks ∧ c + m ≤ 8 ∧ 0 ≤ c, k.sz, ⟨0, [k], none, rfl, by simp [szs], by omega, by decide⟩, ?_⟩
    rintro m ρ1 ⟨c, ks, o, rfl, rfl, hc, h0⟩
    rcases List.eq_nil_or_concat ks with rfl | ⟨ks, k', rfl⟩
    · repeat ((conv => whnf); first | exact hQ | (refine And.intro (by first | exact hQ | exact rfl | exact List.cons_ne_nil _ _ | exact True.intro | exact Nat.le_of_ble_eq_true rfl | decide | (simp; done) | omega) ?_) | (refine ⟨_, rfl, ?_⟩))
    · rw [List.concat_eq_append] at hc ⊢
      rw [szs_add] at hc ⊢
      rw [List.map_append]
      have e1 : szs [k'] = k'.sz := by simp [szs]
      have hp := Kd.sz_pos k'
      have hl := szs_len ks
      rw [e1] at hc ⊢
      conv => whnf
      refine iteT (by simp) ?_
      refine sPop_at (ds := ks.map Kd.d) (d := k'.d) ?_ ?_
      · rfl
      conv => whnf
      refine iteF (decide_eq_false (by omega)) ?_
      cases k' with
      | int =>
        repeat ((conv => whnf); first | (refine And.intro (by first | exact rfl | exact List.cons_ne_nil _ _ | exact True.intro | exact Nat.le_of_ble_eq_true rfl | decide | (simp; done) | omega) ?_) | (refine ⟨_, rfl, ?_⟩))
        exact ⟨szs ks, by simp [Kd.sz], c + 1, ks, _, rfl, rfl, by simp [Kd.sz] at hc; omega, by omega⟩
      | flag =>
        repeat ((conv => whnf); first | (refine And.intro (by first | exact rfl | exact List.cons_ne_nil _ _ | exact True.intro | exact Nat.le_of_ble_eq_true rfl | decide | (simp; done) | omega) ?_) | (refine ⟨_, rfl, ?_⟩))
        exact ⟨szs ks, by simp [Kd.sz], c + 1, ks, _, rfl, rfl, by simp [Kd.sz] at hc; omega, by omega⟩
      | list k =>
        repeat ((conv => whnf); first | (refine And.intro (by first | exact rfl | exact List.cons_ne_nil _ _ | exact True.intro | exact Nat.le_of_ble_eq_true rfl | decide | (simp; done) | omega) ?_) | (refine ⟨_, rfl, ?_⟩))
        refine .inl ⟨.list k, rfl, Nat.succ_pos _, ?_⟩
        repeat ((conv => whnf); first | (refine And.intro (by first | exact rfl | exact List.cons_ne_nil _ _ | exact True.intro | exact Nat.le_of_ble_eq_true rfl | decide | (simp; done) | omega) ?_) | (refine ⟨_, rfl, ?_⟩))
        refine And.intro (by simp [cut1]; omega) ?_
        exact ⟨szs ks + k.sz, by simp [Kd.sz], c + 1, ks ++ [k], some (v (Kd.d (.list k))), by simp [cut1], by rw [szs_add]; simp [szs], by simp [Kd.sz] at hc; omega, by omega⟩
      | tree k =>
        repeat ((conv => whnf); first | (refine And.intro (by first | exact rfl | exact List.cons_ne_nil _ _ | exact True.intro | exact Nat.le_of_ble_eq_true rfl | decide | (simp; done) | omega) ?_) | (refine ⟨_, rfl, ?_⟩))
        refine .inl ⟨.tree k, rfl, Nat.succ_pos _, ?_⟩
        repeat ((conv => whnf); first | (refine And.intro (by first | exact rfl | exact List.cons_ne_nil _ _ | exact True.intro | exact Nat.le_of_ble_eq_true rfl | decide | (simp; done) | omega) ?_) | (refine ⟨_, rfl, ?_⟩))
        refine And.intro (by simp [cut1]; omega) ?_
        exact ⟨szs ks + k.sz, by simp [Kd.sz], c + 1, ks ++ [k], some (v (Kd.d (.tree k))), by simp [cut1], by rw [szs_add]; simp [szs], by simp [Kd.sz] at hc; omega, by omega⟩
      | pair a b =>
        repeat ((conv => whnf); first | (refine And.intro (by first | exact rfl | exact List.cons_ne_nil _ _ | exact True.intro | exact Nat.le_of_ble_eq_true rfl | decide | (simp; done) | omega) ?_) | (refine ⟨_, rfl, ?_⟩))
        refine .inl ⟨.pair a b, rfl, Nat.succ_pos _, ?_⟩
        repeat ((conv => whnf); first | (refine And.intro (by first | exact rfl | exact List.cons_ne_nil _ _ | exact True.intro | exact Nat.le_of_ble_eq_true rfl | decide | (simp; done) | omega) ?_) | (refine ⟨_, rfl, ?_⟩))
        refine And.intro (by simp [cut1]; omega) ?_
        exact ⟨szs ks + (a.sz + b.sz), by simp [Kd.sz], c + 1, ks ++ [a, b], some (v (Kd.d (.pair a b))), by simp [cut1], by rw [szs_add]; simp [szs], by simp [Kd.sz] at hc; omega, by omega⟩
      | either a b =>
        repeat ((conv => whnf); first | (refine And.intro (by first | exact rfl | exact List.cons_ne_nil _ _ | exact True.intro | exact Nat.le_of_ble_eq_true rfl | decide | (simp; done) | omega) ?_) | (refine ⟨_, rfl, ?_⟩))
        refine .inl ⟨.either a b, rfl, Nat.succ_pos _, ?_⟩
        repeat ((conv => whnf); first | (refine And.intro (by first | exact rfl | exact List.cons_ne_nil _ _ | exact True.intro | exact Nat.le_of_ble_eq_true rfl | decide | (simp; done) | omega) ?_) | (refine ⟨_, rfl, ?_⟩))
        refine And.intro (by simp [cut1]; omega) ?_
        exact ⟨szs ks + (a.sz + b.sz), by simp [Kd.sz], c + 1, ks ++ [a, b], some (v (Kd.d (.either a b))), by simp [cut1], by rw [szs_add]; simp [szs], by simp [Kd.sz] at hc; omega, by omega⟩
  · repeat ((conv => whnf); first | exact hQ | (refine And.intro (by first | exact hQ | exact rfl | exact List.cons_ne_nil _ _ | exact True.intro | exact Nat.le_of_ble_eq_true rfl | decide | (simp; done) | omega) ?_) | (refine ⟨_, rfl, ?_⟩))
    refine ⟨fun m ρ => ρ = [some (v d), some (v (.int 0)), some (.own [d]), none], 0, rfl, ?_⟩
    rintro m ρ1 rfl
    rcases ho with rfl | rfl | rfl | rfl | rfl
    · repeat ((conv => whnf); first | (refine And.intro (by first | exact rfl | exact List.cons_ne_nil _ _ | exact True.intro | exact Nat.le_of_ble_eq_true rfl | decide | (simp; done) | omega) ?_) | (refine ⟨_, rfl, ?_⟩))
      exact .inr ⟨_, rfl, .inl rfl, by repeat ((conv => whnf); first | exact hQ | (refine And.intro (by first | exact hQ | exact rfl | exact List.cons_ne_nil _ _ | exact True.intro | exact Nat.le_of_ble_eq_true rfl | decide | (simp; done) | omega) ?_) | (refine ⟨_, rfl, ?_⟩))⟩
    · repeat ((conv => whnf); first | (refine And.intro (by first | exact rfl | exact List.cons_ne_nil _ _ | exact True.intro | exact Nat.le_of_ble_eq_true rfl | decide | (simp; done) | omega) ?_) | (refine ⟨_, rfl, ?_⟩))
      exact .inr ⟨_, rfl, .inr (.inl rfl), by repeat ((conv => whnf); first | exact hQ | (refine And.intro (by first | exact hQ | exact rfl | exact List.cons_ne_nil _ _ | exact True.intro | exact Nat.le_of_ble_eq_true rfl | decide | (simp; done) | omega) ?_) | (refine ⟨_, rfl, ?_⟩))⟩
    · repeat ((conv => whnf); first | (refine And.intro (by first | exact rfl | exact List.cons_ne_nil _ _ | exact True.intro | exact Nat.le_of_ble_eq_true rfl | decide | (simp; done) | omega) ?_) | (refine ⟨_, rfl, ?_⟩))
      exact .inr ⟨_, rfl, .inr (.inr (.inl rfl)), by repeat ((conv => whnf); first | exact hQ | (refine And.intro (by first | exact hQ | exact rfl | exact List.cons_ne_nil _ _ | exact True.intro | exact Nat.le_of_ble_eq_true rfl | decide | (simp; done) | omega) ?_) | (refine ⟨_, rfl, ?_⟩))⟩
    · repeat ((conv => whnf); first | (refine And.intro (by first | exact rfl | exact List.cons_ne_nil _ _ | exact True.intro | exact Nat.le_of_ble_eq_true rfl | decide | (simp; done) | omega) ?_) | (refine ⟨_, rfl, ?_⟩))
      exact .inr ⟨_, rfl, .inr (.inr (.inr (.inl rfl))), by repeat ((conv => whnf); first | exact hQ | (refine And.intro (by first | exact hQ | exact rfl | exact List.cons_ne_nil _ _ | exact True.intro | exact Nat.le_of_ble_eq_true rfl | decide | (simp; done) | omega) ?_) | (refine ⟨_, rfl, ?_⟩))⟩
    · repeat ((conv => whnf); first | (refine And.intro (by first | exact rfl | exact List.cons_ne_nil _ _ | exact True.intro | exact Nat.le_of_ble_eq_true rfl | decide | (simp; done) | omega) ?_) | (refine ⟨_, rfl, ?_⟩))
      exact .inr ⟨_, rfl, .inr (.inr (.inr (.inr rfl))), by repeat ((conv => whnf); first | exact hQ | (refine And.intro (by first | exact hQ | exact rfl | exact List.cons_ne_nil _ _ | exact True.intro | exact Nat.le_of_ble_eq_true rfl | decide | (simp; done) | omega) ?_) | (refine ⟨_, rfl, ?_⟩))⟩
theorem sp_check_kind (h : S_check_kind ws Q Y) : m_check_kind (store0 ["kind"] ws) (fun x _ => Y x) (T0 Q) := by
  obtain ⟨k, rfl, hk, hQ⟩ := h
  repeat ((conv => whnf); first | (refine And.intro (by first | exact rfl | exact List.cons_ne_nil _ _ | exact True.intro | exact Nat.le_of_ble_eq_true rfl | decide | (simp; done) | omega) ?_) | (refine ⟨_, rfl, ?_⟩))
  exact .inl ⟨k, rfl, hk, by repeat ((conv => whnf); first | exact hQ | (refine And.intro (by first | exact hQ | exact rfl | exact List.cons_ne_nil _ _ | exact True.intro | exact Nat.le_of_ble_eq_true rfl | decide | (simp; done) | omega) ?_) | (refine ⟨_, rfl, ?_⟩))⟩
end
end K48

namespace K48
open PySem PySem.Spec PyProof.Rows L2 PL
/-! ### plain facts -/
theorem cutTake {ds : List D} {n : Nat} (h : n ≤ ds.length) : PL.cutD ds none (some (n : Int)) = ds.take n := by
  unfold PL.cutD
  rw [HT.sIx_nat, Nat.min_eq_left h]
  simp [HT.sIx]
theorem cutDrop {ds : List D} {n : Nat} (h : n ≤ ds.length) : PL.cutD ds (some (n : Int)) none = ds.drop n := by
  unfold PL.cutD
  rw [HT.sIx_nat, Nat.min_eq_left h]
  show (ds.drop n).take (ds.length - n) = _
  rw [List.take_of_length_le (by rw [List.length_drop]; exact Nat.le_refl _)]
variable [Hand]
/-- a comprehension over a list told by other things -/
theorem lc_of {α : Type} {un : D → Option (List D)} {elt : List D → (D → Prop) → Prop} (f g : α → D) : ∀ {l : List α} {acc : List D} {K : List D → Prop}, (∀ a ∈ l, ∀ K : D → Prop, K (g a) → ∃ ds, un (f a) = some ds ∧ elt ds K) → K (acc ++ l.map g) → LcW un (fun _ K => K true) elt (l.map f) acc K
  | [], acc, K, _, hk => by
    rw [List.map_nil, List.append_nil] at hk
    exact hk
  | a :: r, acc, K, h, hk => by
    have hk2 : K ((acc ++ [g a]) ++ r.map g) := by
      rw [List.append_assoc]
      exact hk
    obtain ⟨ds, h1, h2⟩ := h a List.mem_cons_self (fun d => LcW un (fun _ K => K true) elt (r.map f) (acc ++ [d]) K) (lc_of f g (l := r) (acc := acc ++ [g a]) (K := K) (fun x hx => h x (List.mem_cons_of_mem _ hx)) hk2)
    exact ⟨ds, h1, (if_pos rfl).mpr h2⟩
theorem bools_of {α : Type} (g : α → Bool) : ∀ l : List α, D.bools (l.map fun a => .bl (g a)) = some (l.map g)
  | [] => rfl
  | a :: l => by
    show (match D.bools (l.map fun a => .bl (g a)) with | some bs => some (g a :: bs) | none => none) = _
    rw [bools_of g l]
    rfl
theorem zipAm : ∀ (xs ys : List Int), List.zipWith (fun x y => D.tup [x, y]) (xs.map am) (ys.map am) = (xs.zip ys).map fun p => D.tup [am p.1, am p.2]
  | [], _ => rfl
  | _ :: _, [] => rfl
  | x :: xs, y :: ys => by
    simp only [List.map_cons, List.zipWith_cons_cons, List.zip_cons_cons, zipAm xs ys]
theorem zipMap (f : Int → Int → Int) : ∀ (xs ys : List Int), (xs.zip ys).map (fun p => am (f p.1 p.2)) = (List.zipWith f xs ys).map am
  | [], _ => rfl
  | _ :: _, [] => rfl
  | x :: xs, y :: ys => by
    simp only [List.map_cons, List.zipWith_cons_cons, List.zip_cons_cons, zipMap f xs ys]
theorem zipMapB (f : Int → Int → Bool) : ∀ (xs ys : List Int), (xs.zip ys).map (fun p => f p.1 p.2) = List.zipWith f xs ys
  | [], _ => rfl
  | _ :: _, [] => rfl
  | x :: xs, y :: ys => by
    simp only [List.map_cons, List.zipWith_cons_cons, List.zip_cons_cons, zipMapB f xs ys]
theorem mem_zip_sm {xs ys : List Int} (hx : ∀ z ∈ xs, sm z) (hy : ∀ z ∈ ys, sm z) {p : Int × Int} (h : p ∈ xs.zip ys) : bd9 p.1 ∧ bd9 p.2 := by
  obtain ⟨h1, h2⟩ := List.of_mem_zip (a := p.1) (b := p.2) h
  exact ⟨sm_bd (hx _ h1), sm_bd (hy _ h2)⟩
theorem flat_zip (f : Int → Int → Int) : ∀ {k : Kd} {r s : Rc}, r.fits k → s.fits k → (Rc.zip f r s).flat = List.zipWith f r.flat s.flat
  | .int, .leaf, .leaf, _, _ => rfl
  | .flag, .leaf, .leaf, _, _ => rfl
  | .list k, .one n r, .one m s, h1, h2 => by
    unfold Rc.zip Rc.flat
    rw [flat_zip f h1.2 h2.2]
    rfl
  | .tree k, .one n r, .one m s, h1, h2 => by
    unfold Rc.zip Rc.flat
    rw [flat_zip f h1.2 h2.2]
    rfl
  | .pair a b, .two r s, .two r' s', h1, h2 => by
    unfold Rc.zip Rc.flat
    rw [flat_zip f h1.1 h2.1, flat_zip f h1.2 h2.2, List.zipWith_append (by rw [Rc.len h1.1, Rc.len h2.1])]
  | .either a b, .four n r m s, .four n' r' m' s', h1, h2 => by
    unfold Rc.zip Rc.flat
    rw [flat_zip f h1.2.1 h2.2.1, flat_zip f h1.2.2 h2.2.2]
    simp only [List.cons_append, List.zipWith_cons_cons]
    rw [List.zipWith_append (by rw [Rc.len h1.2.1, Rc.len h2.2.1]), List.zipWith_cons_cons]
theorem fits_zip {f : Int → Int → Int} (hf : ∀ a b, sm a → sm b → sm (f a b)) : ∀ {k : Kd} {r s : Rc}, r.fits k → s.fits k → (Rc.zip f r s).fits k
  | .int, .leaf, .leaf, _, _ => True.intro
  | .flag, .leaf, .leaf, _, _ => True.intro
  | .list k, .one n r, .one m s, h1, h2 => ⟨hf _ _ h1.1 h2.1, fits_zip hf h1.2 h2.2⟩
  | .tree k, .one n r, .one m s, h1, h2 => ⟨hf _ _ h1.1 h2.1, fits_zip hf h1.2 h2.2⟩
  | .pair a b, .two r s, .two r' s', h1, h2 => ⟨fits_zip hf h1.1 h2.1, fits_zip hf h1.2 h2.2⟩
  | .either a b, .four n r m s, .four n' r' m' s', h1, h2 => ⟨⟨hf _ _ h1.1.1 h2.1.1, hf _ _ h1.1.2 h2.1.2⟩, fits_zip hf h1.2.1 h2.2.1, fits_zip hf h1.2.2 h2.2.2⟩
theorem sm_max {a b : Int} (h1 : sm a) (h2 : sm b) : sm (max a b) := by
  unfold sm at *
  omega
theorem sm_min {a b : Int} (h1 : sm a) (h2 : sm b) : sm (min a b) := by
  unfold sm at *
  omega
section
variable {ws : List W} {Q : D → Prop} {Y : Str → Prop} {n : Nat}
theorem sp_raw_is_rich (h : S_raw_is_rich (n + 1) ws Q Y) : m_raw_is_rich (S_raw_is_rich n) (store0 ["kind", "thing"] ws) (fun x _ => Y x) (T0 Q) := by
  obtain ⟨k, r, rfl, hk, hr, hQ⟩ := h
  match k, r, hr, hk with
  | .int, .leaf, _, _ => repeat ((conv => whnf); first | exact hQ | (refine And.intro (by first | exact hQ | exact rfl | exact List.cons_ne_nil _ _ | exact True.intro | exact Nat.le_of_ble_eq_true rfl | decide | (simp; done) | omega) ?_) | (refine ⟨_, rfl, ?_⟩))
  | .flag, .leaf, _, _ => repeat ((conv => whnf); first | exact hQ | (refine And.intro (by first | exact hQ | exact rfl | exact List.cons_ne_nil _ _ | exact True.intro | exact Nat.le_of_ble_eq_true rfl | decide | (simp; done) | omega) ?_) | (refine ⟨_, rfl, ?_⟩))
  | .list k, .one n r, hr, hk =>
    repeat ((conv => whnf); first | (refine And.intro (by first | exact rfl | exact List.cons_ne_nil _ _ | exact True.intro | exact Nat.le_of_ble_eq_true rfl | decide | (simp; done) | omega) ?_) | (refine ⟨_, rfl, ?_⟩))
    refine .inl ⟨n, rfl, hr.1.1, sm_bd hr.1, ?_⟩
    repeat ((conv => whnf); first | (refine And.intro (by first | exact rfl | exact List.cons_ne_nil _ _ | exact True.intro | exact Nat.le_of_ble_eq_true rfl | decide | (simp; done) | omega) ?_) | (refine ⟨_, rfl, ?_⟩))
    exact ⟨k, r, rfl, by unfold Kd.ht at hk; omega, hr.2, by repeat ((conv => whnf); first | exact hQ | (refine And.intro (by first | exact hQ | exact rfl | exact List.cons_ne_nil _ _ | exact True.intro | exact Nat.le_of_ble_eq_true rfl | decide | (simp; done) | omega) ?_) | (refine ⟨_, rfl, ?_⟩))⟩
  | .tree k, .one n r, hr, hk =>
    repeat ((conv => whnf); first | (refine And.intro (by first | exact rfl | exact List.cons_ne_nil _ _ | exact True.intro | exact Nat.le_of_ble_eq_true rfl | decide | (simp; done) | omega) ?_) | (refine ⟨_, rfl, ?_⟩))
    refine .inl ⟨n, rfl, hr.1.1, sm_bd hr.1, ?_⟩
    repeat ((conv => whnf); first | (refine And.intro (by first | exact rfl | exact List.cons_ne_nil _ _ | exact True.intro | exact Nat.le_of_ble_eq_true rfl | decide | (simp; done) | omega) ?_) | (refine ⟨_, rfl, ?_⟩))
    exact ⟨k, r, rfl, by unfold Kd.ht at hk; omega, hr.2, by repeat ((conv => whnf); first | exact hQ | (refine And.intro (by first | exact hQ | exact rfl | exact List.cons_ne_nil _ _ | exact True.intro | exact Nat.le_of_ble_eq_true rfl | decide | (simp; done) | omega) ?_) | (refine ⟨_, rfl, ?_⟩))⟩
  | .pair a b, .two r s, hr, hk =>
    repeat ((conv => whnf); first | (refine And.intro (by first | exact rfl | exact List.cons_ne_nil _ _ | exact True.intro | exact Nat.le_of_ble_eq_true rfl | decide | (simp; done) | omega) ?_) | (refine ⟨_, rfl, ?_⟩))
    refine ⟨a, r, rfl, by unfold Kd.ht at hk; omega, hr.1, ?_⟩
    repeat ((conv => whnf); first | (refine And.intro (by first | exact rfl | exact List.cons_ne_nil _ _ | exact True.intro | exact Nat.le_of_ble_eq_true rfl | decide | (simp; done) | omega) ?_) | (refine ⟨_, rfl, ?_⟩))
    exact ⟨b, s, rfl, by unfold Kd.ht at hk; omega, hr.2, by repeat ((conv => whnf); first | exact hQ | (refine And.intro (by first | exact hQ | exact rfl | exact List.cons_ne_nil _ _ | exact True.intro | exact Nat.le_of_ble_eq_true rfl | decide | (simp; done) | omega) ?_) | (refine ⟨_, rfl, ?_⟩))⟩
  | .either a b, .four n r m s, hr, hk =>
    repeat ((conv => whnf); first | (refine And.intro (by first | exact rfl | exact List.cons_ne_nil _ _ | exact True.intro | exact Nat.le_of_ble_eq_true rfl | decide | (simp; done) | omega) ?_) | (refine ⟨_, rfl, ?_⟩))
    refine .inl ⟨n, rfl, hr.1.1.1, sm_bd hr.1.1, ?_⟩
    repeat ((conv => whnf); first | (refine And.intro (by first | exact rfl | exact List.cons_ne_nil _ _ | exact True.intro | exact Nat.le_of_ble_eq_true rfl | decide | (simp; done) | omega) ?_) | (refine ⟨_, rfl, ?_⟩))
    refine .inl ⟨m, rfl, hr.1.2.1, sm_bd hr.1.2, ?_⟩
    repeat ((conv => whnf); first | (refine And.intro (by first | exact rfl | exact List.cons_ne_nil _ _ | exact True.intro | exact Nat.le_of_ble_eq_true rfl | decide | (simp; done) | omega) ?_) | (refine ⟨_, rfl, ?_⟩))
    refine ⟨a, r, rfl, by unfold Kd.ht at hk; omega, hr.2.1, ?_⟩
    repeat ((conv => whnf); first | (refine And.intro (by first | exact rfl | exact List.cons_ne_nil _ _ | exact True.intro | exact Nat.le_of_ble_eq_true rfl | decide | (simp; done) | omega) ?_) | (refine ⟨_, rfl, ?_⟩))
    exact ⟨b, s, rfl, by unfold Kd.ht at hk; omega, hr.2.2, by repeat ((conv => whnf); first | exact hQ | (refine And.intro (by first | exact hQ | exact rfl | exact List.cons_ne_nil _ _ | exact True.intro | exact Nat.le_of_ble_eq_true rfl | decide | (simp; done) | omega) ?_) | (refine ⟨_, rfl, ?_⟩))⟩
theorem sp_check_rich (h : S_check_rich ws Q Y) : m_check_rich (store0 ["kind", "thing"] ws) (fun x _ => Y x) (T0 Q) := by
  obtain ⟨k, r, rfl, hk, hr, hQ⟩ := h
  repeat ((conv => whnf); first | (refine And.intro (by first | exact rfl | exact List.cons_ne_nil _ _ | exact True.intro | exact Nat.le_of_ble_eq_true rfl | decide | (simp; done) | omega) ?_) | (refine ⟨_, rfl, ?_⟩))
  exact ⟨k, r, rfl, by unfold kOk at hk; omega, hr, by repeat ((conv => whnf); first | exact hQ | (refine And.intro (by first | exact hQ | exact rfl | exact List.cons_ne_nil _ _ | exact True.intro | exact Nat.le_of_ble_eq_true rfl | decide | (simp; done) | omega) ?_) | (refine ⟨_, rfl, ?_⟩))⟩
theorem sp_raw_amounts (hn : n ≤ 2) (h : S_raw_amounts (n + 1) ws Q Y) : m_raw_amounts (S_raw_amounts n) (store0 ["kind", "rich"] ws) (fun x _ => Y x) (T0 Q) := by
  obtain ⟨k, r, rfl, hk, hr, hQ⟩ := h
  match k, r, hr, hk with
  | .int, .leaf, _, _ => repeat ((conv => whnf); first | exact hQ | (refine And.intro (by first | exact hQ | exact rfl | exact List.cons_ne_nil _ _ | exact True.intro | exact Nat.le_of_ble_eq_true rfl | decide | (simp; done) | omega) ?_) | (refine ⟨_, rfl, ?_⟩))
  | .flag, .leaf, _, _ => repeat ((conv => whnf); first | exact hQ | (refine And.intro (by first | exact hQ | exact rfl | exact List.cons_ne_nil _ _ | exact True.intro | exact Nat.le_of_ble_eq_true rfl | decide | (simp; done) | omega) ?_) | (refine ⟨_, rfl, ?_⟩))
  | .list k, .one n r, hr, hk =>
    have hl := flat14 hr.2 (by unfold Kd.ht at hk; omega)
    repeat ((conv => whnf); first | (refine And.intro (by first | exact rfl | exact List.cons_ne_nil _ _ | exact True.intro | exact Nat.le_of_ble_eq_true rfl | decide | (simp; done) | omega) ?_) | (refine ⟨_, rfl, ?_⟩))
    refine ⟨k, r, rfl, by unfold Kd.ht at hk; omega, hr.2, ?_⟩
    repeat ((conv => whnf); first | (refine And.intro (by first | exact rfl | exact List.cons_ne_nil _ _ | exact True.intro | exact Nat.le_of_ble_eq_true rfl | decide | (simp; done) | omega) ?_) | (refine ⟨_, rfl, ?_⟩))
    exact And.intro (by simp; omega) (by repeat ((conv => whnf); first | exact hQ | (refine And.intro (by first | exact hQ | exact rfl | exact List.cons_ne_nil _ _ | exact True.intro | exact Nat.le_of_ble_eq_true rfl | decide | (simp; done) | omega) ?_) | (refine ⟨_, rfl, ?_⟩)))
  | .tree k, .one n r, hr, hk =>
    have hl := flat14 hr.2 (by unfold Kd.ht at hk; omega)
    repeat ((conv => whnf); first | (refine And.intro (by first | exact rfl | exact List.cons_ne_nil _ _ | exact True.intro | exact Nat.le_of_ble_eq_true rfl | decide | (simp; done) | omega) ?_) | (refine ⟨_, rfl, ?_⟩))
    refine ⟨k, r, rfl, by unfold Kd.ht at hk; omega, hr.2, ?_⟩
    repeat ((conv => whnf); first | (refine And.intro (by first | exact rfl | exact List.cons_ne_nil _ _ | exact True.intro | exact Nat.le_of_ble_eq_true rfl | decide | (simp; done) | omega) ?_) | (refine ⟨_, rfl, ?_⟩))
    exact And.intro (by simp; omega) (by repeat ((conv => whnf); first | exact hQ | (refine And.intro (by first | exact hQ | exact rfl | exact List.cons_ne_nil _ _ | exact True.intro | exact Nat.le_of_ble_eq_true rfl | decide | (simp; done) | omega) ?_) | (refine ⟨_, rfl, ?_⟩)))
  | .pair a b, .two r s, hr, hk =>
    have hl := flat14 hr.1 (by unfold Kd.ht at hk; omega)
    have hl2 := flat14 hr.2 (by unfold Kd.ht at hk; omega)
    repeat ((conv => whnf); first | (refine And.intro (by first | exact rfl | exact List.cons_ne_nil _ _ | exact True.intro | exact Nat.le_of_ble_eq_true rfl | decide | (simp; done) | omega) ?_) | (refine ⟨_, rfl, ?_⟩))
    refine ⟨a, r, rfl, by unfold Kd.ht at hk; omega, hr.1, ?_⟩
    repeat ((conv => whnf); first | (refine And.intro (by first | exact rfl | exact List.cons_ne_nil _ _ | exact True.intro | exact Nat.le_of_ble_eq_true rfl | decide | (simp; done) | omega) ?_) | (refine ⟨_, rfl, ?_⟩))
    refine ⟨b, s, rfl, by unfold Kd.ht at hk; omega, hr.2, ?_⟩
    conv => whnf
    refine And.intro (by simp; omega) ?_
    have e : ams (Rc.two r s).flat = .lst (r.flat.map am ++ s.flat.map am) := by simp [ams, Rc.flat]
    rw [e] at hQ
    repeat ((conv => whnf); first | exact hQ | (refine And.intro (by first | exact hQ | exact rfl | exact List.cons_ne_nil _ _ | exact True.intro | exact Nat.le_of_ble_eq_true rfl | decide | (simp; done) | omega) ?_) | (refine ⟨_, rfl, ?_⟩))
  | .either a b, .four n r m s, hr, hk =>
    have hl := flat14 hr.2.1 (by unfold Kd.ht at hk; omega)
    have hl2 := flat14 hr.2.2 (by unfold Kd.ht at hk; omega)
    repeat ((conv => whnf); first | (refine And.intro (by first | exact rfl | exact List.cons_ne_nil _ _ | exact True.intro | exact Nat.le_of_ble_eq_true rfl | decide | (simp; done) | omega) ?_) | (refine ⟨_, rfl, ?_⟩))
    refine ⟨a, r, rfl, by unfold Kd.ht at hk; omega, hr.2.1, ?_⟩
    repeat ((conv => whnf); first | (refine And.intro (by first | exact rfl | exact List.cons_ne_nil _ _ | exact True.intro | exact Nat.le_of_ble_eq_true rfl | decide | (simp; done) | omega) ?_) | (refine ⟨_, rfl, ?_⟩))
    refine And.intro (by simp; omega) ?_
    repeat ((conv => whnf); first | (refine And.intro (by first | exact rfl | exact List.cons_ne_nil _ _ | exact True.intro | exact Nat.le_of_ble_eq_true rfl | decide | (simp; done) | omega) ?_) | (refine ⟨_, rfl, ?_⟩))
    refine And.intro (by simp; omega) ?_
    repeat ((conv => whnf); first | (refine And.intro (by first | exact rfl | exact List.cons_ne_nil _ _ | exact True.intro | exact Nat.le_of_ble_eq_true rfl | decide | (simp; done) | omega) ?_) | (refine ⟨_, rfl, ?_⟩))
    refine ⟨b, s, rfl, by unfold Kd.ht at hk; omega, hr.2.2, ?_⟩
    conv => whnf
    refine And.intro (by simp; omega) ?_
    have e : ams (Rc.four n r m s).flat = .lst ((([am n] ++ r.flat.map am) ++ [am m]) ++ s.flat.map am) := by simp [ams, Rc.flat]
    rw [e] at hQ
    repeat ((conv => whnf); first | exact hQ | (refine And.intro (by first | exact hQ | exact rfl | exact List.cons_ne_nil _ _ | exact True.intro | exact Nat.le_of_ble_eq_true rfl | decide | (simp; done) | omega) ?_) | (refine ⟨_, rfl, ?_⟩))
theorem sp_raw_many (h : S_raw_many (n + 1) ws Q Y) : m_raw_many (S_raw_many n) (store0 ["kind", "own", "part"] ws) (fun x _ => Y x) (T0 Q) := by
  obtain ⟨k, rfl, hk, hQ⟩ := h
  match k, hk with
  | .int, _ => repeat ((conv => whnf); first | exact hQ | (refine And.intro (by first | exact hQ | exact rfl | exact List.cons_ne_nil _ _ | exact True.intro | exact Nat.le_of_ble_eq_true rfl | decide | (simp; done) | omega) ?_) | (refine ⟨_, rfl, ?_⟩))
  | .flag, _ => repeat ((conv => whnf); first | exact hQ | (refine And.intro (by first | exact hQ | exact rfl | exact List.cons_ne_nil _ _ | exact True.intro | exact Nat.le_of_ble_eq_true rfl | decide | (simp; done) | omega) ?_) | (refine ⟨_, rfl, ?_⟩))
  | .list k, hk =>
    repeat ((conv => whnf); first | (refine And.intro (by first | exact rfl | exact List.cons_ne_nil _ _ | exact True.intro | exact Nat.le_of_ble_eq_true rfl | decide | (simp; done) | omega) ?_) | (refine ⟨_, rfl, ?_⟩))
    refine And.intro (by unfold Kd.ht at hk; omega) ?_
    have e : ((Kd.list k).many : Int) = 1 + ([(k.many : Int)].sum) := by simp [Kd.many]
    rw [e] at hQ
    repeat ((conv => whnf); first | exact hQ | (refine And.intro (by first | exact hQ | exact rfl | exact List.cons_ne_nil _ _ | exact True.intro | exact Nat.le_of_ble_eq_true rfl | decide | (simp; done) | omega) ?_) | (refine ⟨_, rfl, ?_⟩))
  | .tree k, hk =>
    repeat ((conv => whnf); first | (refine And.intro (by first | exact rfl | exact List.cons_ne_nil _ _ | exact True.intro | exact Nat.le_of_ble_eq_true rfl | decide | (simp; done) | omega) ?_) | (refine ⟨_, rfl, ?_⟩))
    refine And.intro (by unfold Kd.ht at hk; omega) ?_
    have e : ((Kd.tree k).many : Int) = 1 + ([(k.many : Int)].sum) := by simp [Kd.many]
    rw [e] at hQ
    repeat ((conv => whnf); first | exact hQ | (refine And.intro (by first | exact hQ | exact rfl | exact List.cons_ne_nil _ _ | exact True.intro | exact Nat.le_of_ble_eq_true rfl | decide | (simp; done) | omega) ?_) | (refine ⟨_, rfl, ?_⟩))
  | .pair a b, hk =>
    repeat ((conv => whnf); first | (refine And.intro (by first | exact rfl | exact List.cons_ne_nil _ _ | exact True.intro | exact Nat.le_of_ble_eq_true rfl | decide | (simp; done) | omega) ?_) | (refine ⟨_, rfl, ?_⟩))
    refine And.intro (by unfold Kd.ht at hk; omega) ?_
    repeat ((conv => whnf); first | (refine And.intro (by first | exact rfl | exact List.cons_ne_nil _ _ | exact True.intro | exact Nat.le_of_ble_eq_true rfl | decide | (simp; done) | omega) ?_) | (refine ⟨_, rfl, ?_⟩))
    refine And.intro (by unfold Kd.ht at hk; omega) ?_
    have e : ((Kd.pair a b).many : Int) = 0 + ([(a.many : Int), (b.many : Int)].sum) := by simp [Kd.many]
    rw [e] at hQ
    repeat ((conv => whnf); first | exact hQ | (refine And.intro (by first | exact hQ | exact rfl | exact List.cons_ne_nil _ _ | exact True.intro | exact Nat.le_of_ble_eq_true rfl | decide | (simp; done) | omega) ?_) | (refine ⟨_, rfl, ?_⟩))
  | .either a b, hk =>
    repeat ((conv => whnf); first | (refine And.intro (by first | exact rfl | exact List.cons_ne_nil _ _ | exact True.intro | exact Nat.le_of_ble_eq_true rfl | decide | (simp; done) | omega) ?_) | (refine ⟨_, rfl, ?_⟩))
    refine And.intro (by unfold Kd.ht at hk; omega) ?_
    repeat ((conv => whnf); first | (refine And.intro (by first | exact rfl | exact List.cons_ne_nil _ _ | exact True.intro | exact Nat.le_of_ble_eq_true rfl | decide | (simp; done) | omega) ?_) | (refine ⟨_, rfl, ?_⟩))
    refine And.intro (by unfold Kd.ht at hk; omega) ?_
    have e : ((Kd.either a b).many : Int) = 2 + ([(a.many : Int), (b.many : Int)].sum) := by simp [Kd.many]
    rw [e] at hQ
    repeat ((conv => whnf); first | exact hQ | (refine And.intro (by first | exact hQ | exact rfl | exact List.cons_ne_nil _ _ | exact True.intro | exact Nat.le_of_ble_eq_true rfl | decide | (simp; done) | omega) ?_) | (refine ⟨_, rfl, ?_⟩))
theorem sp_amounts_of (h : S_amounts_of ws Q Y) : m_amounts_of (store0 ["kind", "rich"] ws) (fun x _ => Y x) (T0 Q) := by
  obtain ⟨k, r, rfl, hk, hr, hQ⟩ := h
  repeat ((conv => whnf); first | exact hk | exact hr | (refine And.intro (by first | exact hk | exact hr | exact rfl | exact List.cons_ne_nil _ _ | exact True.intro | exact Nat.le_of_ble_eq_true rfl | decide | (simp; done) | omega) ?_) | (refine ⟨_, rfl, ?_⟩))
  refine ⟨k, r, rfl, hk, hr, ?_⟩
  repeat ((conv => whnf); first | (refine And.intro (by first | exact rfl | exact List.cons_ne_nil _ _ | exact True.intro | exact Nat.le_of_ble_eq_true rfl | decide | (simp; done) | omega) ?_) | (refine ⟨_, rfl, ?_⟩))
  exact ⟨k, r, rfl, by unfold kOk at hk; omega, hr, by repeat ((conv => whnf); first | exact hQ | (refine And.intro (by first | exact hQ | exact rfl | exact List.cons_ne_nil _ _ | exact True.intro | exact Nat.le_of_ble_eq_true rfl | decide | (simp; done) | omega) ?_) | (refine ⟨_, rfl, ?_⟩))⟩
theorem sp_check_both (h : S_check_both ws Q Y) : m_check_both (store0 ["kind", "one", "other"] ws) (fun x _ => Y x) (T0 Q) := by
  obtain ⟨k, r, s, rfl, hk, hr, hs, hQ⟩ := h
  repeat ((conv => whnf); first | exact hk | (refine And.intro (by first | exact hk | exact rfl | exact List.cons_ne_nil _ _ | exact True.intro | exact Nat.le_of_ble_eq_true rfl | decide | (simp; done) | omega) ?_) | (refine ⟨_, rfl, ?_⟩))
  refine ⟨k, r, rfl, hk, hr, ?_⟩
  repeat ((conv => whnf); first | (refine And.intro (by first | exact rfl | exact List.cons_ne_nil _ _ | exact True.intro | exact Nat.le_of_ble_eq_true rfl | decide | (simp; done) | omega) ?_) | (refine ⟨_, rfl, ?_⟩))
  exact ⟨k, s, rfl, hk, hs, by repeat ((conv => whnf); first | exact hQ | (refine And.intro (by first | exact hQ | exact rfl | exact List.cons_ne_nil _ _ | exact True.intro | exact Nat.le_of_ble_eq_true rfl | decide | (simp; done) | omega) ?_) | (refine ⟨_, rfl, ?_⟩))⟩
theorem sp_covers (h : S_covers ws Q Y) : m_covers (store0 ["kind", "one", "other"] ws) (fun x _ => Y x) (T0 Q) := by
  obtain ⟨k, r, s, rfl, hk, hr, hs, hQ⟩ := h
  repeat ((conv => whnf); first | (refine And.intro (by first | exact rfl | exact List.cons_ne_nil _ _ | exact True.intro | exact Nat.le_of_ble_eq_true rfl | decide | (simp; done) | omega) ?_) | (refine ⟨_, rfl, ?_⟩))
  refine ⟨k, r, s, rfl, hk, hr, hs, ?_⟩
  repeat ((conv => whnf); first | (refine And.intro (by first | exact rfl | exact List.cons_ne_nil _ _ | exact True.intro | exact Nat.le_of_ble_eq_true rfl | decide | (simp; done) | omega) ?_) | (refine ⟨_, rfl, ?_⟩))
  exact ⟨k, r, s, rfl, hk, hr, hs, by repeat ((conv => whnf); first | exact hQ | (refine And.intro (by first | exact hQ | exact rfl | exact List.cons_ne_nil _ _ | exact True.intro | exact Nat.le_of_ble_eq_true rfl | decide | (simp; done) | omega) ?_) | (refine ⟨_, rfl, ?_⟩))⟩
theorem sp_raw_covers (h : S_raw_covers ws Q Y) : m_raw_covers (store0 ["kind", "one", "other", "pairs", "mine", "its"] ws) (fun x _ => Y x) (T0 Q) := by
  obtain ⟨k, r, s, rfl, hk, hr, hs, hQ⟩ := h
  have l1 := flat14 hr hk
  have l2 := flat14 hs hk
  repeat ((conv => whnf); first | (refine And.intro (by first | exact rfl | exact List.cons_ne_nil _ _ | exact True.intro | exact Nat.le_of_ble_eq_true rfl | decide | (simp; done) | omega) ?_) | (refine ⟨_, rfl, ?_⟩))
  refine ⟨k, r, rfl, by unfold kOk at hk; omega, hr, ?_⟩
  repeat ((conv => whnf); first | (refine And.intro (by first | exact rfl | exact List.cons_ne_nil _ _ | exact True.intro | exact Nat.le_of_ble_eq_true rfl | decide | (simp; done) | omega) ?_) | (refine ⟨_, rfl, ?_⟩))
  refine ⟨k, s, rfl, by unfold kOk at hk; omega, hs, ?_⟩
  repeat ((conv => whnf); first | (refine And.intro (by first | exact rfl | exact List.cons_ne_nil _ _ | exact True.intro | exact Nat.le_of_ble_eq_true rfl | decide | (simp; done) | omega) ?_) | (refine ⟨_, rfl, ?_⟩))
  refine And.intro (by simp; omega) (And.intro rfl ?_)
  rw [zipAm]
  refine lc_of _ (fun p : Int × Int => D.bl (decide (p.2 ≤ p.1))) (fun p hp K hK => ?_) ?_
  · obtain ⟨b1, b2⟩ := mem_zip_sm (flat_sm hr) (flat_sm hs) hp
    repeat ((conv => whnf); first | (refine And.intro (by first | exact rfl | exact List.cons_ne_nil _ _ | exact True.intro | exact Nat.le_of_ble_eq_true rfl | decide | (simp; done) | omega) ?_) | (refine ⟨_, rfl, ?_⟩))
    exact ⟨p.2, p.1, rfl, b2, b1, by repeat ((conv => whnf); first | exact hK | (refine And.intro (by first | exact hK | exact rfl | exact List.cons_ne_nil _ _ | exact True.intro | exact Nat.le_of_ble_eq_true rfl | decide | (simp; done) | omega) ?_) | (refine ⟨_, rfl, ?_⟩))⟩
  · show lst1 _ _
    conv => whnf
    rw [List.nil_append, bools_of]
    have e : cov r s = ((r.flat.zip s.flat).map fun p => decide (p.2 ≤ p.1)).all id := by
      unfold cov
      rw [zipMapB (fun a b => decide (b ≤ a))]
    have hQ : Q (.bl (cov r s)) := hQ
    rw [e] at hQ
    repeat ((conv => whnf); first | exact hQ | (refine And.intro (by first | exact hQ | exact rfl | exact List.cons_ne_nil _ _ | exact True.intro | exact Nat.le_of_ble_eq_true rfl | decide | (simp; done) | omega) ?_) | (refine ⟨_, rfl, ?_⟩))
theorem atMid {xs ys : List D} {d : D} : atI (xs ++ d :: ys) (xs.length : Int) = some d := by
  unfold atI ixN
  simp
  rw [if_pos (by omega)]
  simp
theorem sp_raw_rich (hn : n ≤ 2) (h : S_raw_rich (n + 1) ws Q Y) : m_raw_rich (S_raw_rich n) (S_raw_many n) (store0 ["kind", "amounts", "first", "one", "other"] ws) (fun x _ => Y x) (T0 Q) := by
  obtain ⟨k, r, rfl, hk, hr, hQ⟩ := h
  match k, r, hr, hk with
  | .int, .leaf, _, _ => repeat ((conv => whnf); first | exact hQ | (refine And.intro (by first | exact hQ | exact rfl | exact List.cons_ne_nil _ _ | exact True.intro | exact Nat.le_of_ble_eq_true rfl | decide | (simp; done) | omega) ?_) | (refine ⟨_, rfl, ?_⟩))
  | .flag, .leaf, _, _ => repeat ((conv => whnf); first | exact hQ | (refine And.intro (by first | exact hQ | exact rfl | exact List.cons_ne_nil _ _ | exact True.intro | exact Nat.le_of_ble_eq_true rfl | decide | (simp; done) | omega) ?_) | (refine ⟨_, rfl, ?_⟩))
  | .list k, .one z r, hr, hk =>
    have e1 : PL.cutD ((Rc.one z r).flat.map am) (some 1) none = r.flat.map am := cut1
    repeat ((conv => whnf); first | (refine And.intro (by first | exact rfl | exact List.cons_ne_nil _ _ | exact True.intro | exact Nat.le_of_ble_eq_true rfl | decide | (simp; done) | omega) ?_) | (refine ⟨_, rfl, ?_⟩))
    conv => whnf
    rw [show atI ((Rc.one z r).flat.map am) 0 = some (am z) from at0]
    repeat ((conv => whnf); first | (refine And.intro (by first | exact rfl | exact List.cons_ne_nil _ _ | exact True.intro | exact Nat.le_of_ble_eq_true rfl | decide | (simp; done) | omega) ?_) | (refine ⟨_, rfl, ?_⟩))
    refine ⟨k, r, ?_, by unfold Kd.ht at hk; omega, hr.2, ?_⟩
    · show [v k.d, v (.lst (PL.cutD ((Rc.one z r).flat.map am) (some 1) none))] = _
      rw [e1]
      rfl
    · repeat ((conv => whnf); first | exact hQ | (refine And.intro (by first | exact hQ | exact rfl | exact List.cons_ne_nil _ _ | exact True.intro | exact Nat.le_of_ble_eq_true rfl | decide | (simp; done) | omega) ?_) | (refine ⟨_, rfl, ?_⟩))
  | .tree k, .one z r, hr, hk =>
    have e1 : PL.cutD ((Rc.one z r).flat.map am) (some 1) none = r.flat.map am := cut1
    repeat ((conv => whnf); first | (refine And.intro (by first | exact rfl | exact List.cons_ne_nil _ _ | exact True.intro | exact Nat.le_of_ble_eq_true rfl | decide | (simp; done) | omega) ?_) | (refine ⟨_, rfl, ?_⟩))
    conv => whnf
    rw [show atI ((Rc.one z r).flat.map am) 0 = some (am z) from at0]
    repeat ((conv => whnf); first | (refine And.intro (by first | exact rfl | exact List.cons_ne_nil _ _ | exact True.intro | exact Nat.le_of_ble_eq_true rfl | decide | (simp; done) | omega) ?_) | (refine ⟨_, rfl, ?_⟩))
    refine ⟨k, r, ?_, by unfold Kd.ht at hk; omega, hr.2, ?_⟩
    · show [v k.d, v (.lst (PL.cutD ((Rc.one z r).flat.map am) (some 1) none))] = _
      rw [e1]
      rfl
    · repeat ((conv => whnf); first | exact hQ | (refine And.intro (by first | exact hQ | exact rfl | exact List.cons_ne_nil _ _ | exact True.intro | exact Nat.le_of_ble_eq_true rfl | decide | (simp; done) | omega) ?_) | (refine ⟨_, rfl, ?_⟩))
  | .pair a b, .two r s, hr, hk =>
    have l1 := Rc.len hr.1
    have l2 := Rc.len hr.2
    have e1 : PL.cutD ((Rc.two r s).flat.map am) none (some (a.many : Int)) = r.flat.map am := by
      rw [cutTake (by simp [Rc.flat]; omega)]
      simp [Rc.flat, ← l1]
    have e2 : PL.cutD ((Rc.two r s).flat.map am) (some (a.many : Int)) none = s.flat.map am := by
      rw [cutDrop (by simp [Rc.flat]; omega)]
      simp [Rc.flat, ← l1]
    repeat ((conv => whnf); first | (refine And.intro (by first | exact rfl | exact List.cons_ne_nil _ _ | exact True.intro | exact Nat.le_of_ble_eq_true rfl | decide | (simp; done) | omega) ?_) | (refine ⟨_, rfl, ?_⟩))
    refine And.intro (by unfold Kd.ht at hk; omega) ?_
    repeat ((conv => whnf); first | (refine And.intro (by first | exact rfl | exact List.cons_ne_nil _ _ | exact True.intro | exact Nat.le_of_ble_eq_true rfl | decide | (simp; done) | omega) ?_) | (refine ⟨_, rfl, ?_⟩))
    refine ⟨a, r, ?_, by unfold Kd.ht at hk; omega, hr.1, ?_⟩
    · show [v a.d, v (.lst (PL.cutD ((Rc.two r s).flat.map am) none (some (a.many : Int))))] = _
      rw [e1]
      rfl
    repeat ((conv => whnf); first | (refine And.intro (by first | exact rfl | exact List.cons_ne_nil _ _ | exact True.intro | exact Nat.le_of_ble_eq_true rfl | decide | (simp; done) | omega) ?_) | (refine ⟨_, rfl, ?_⟩))
    refine ⟨b, s, ?_, by unfold Kd.ht at hk; omega, hr.2, ?_⟩
    · show [v b.d, v (.lst (PL.cutD ((Rc.two r s).flat.map am) (some (a.many : Int)) none))] = _
      rw [e2]
      rfl
    repeat ((conv => whnf); first | exact hQ | (refine And.intro (by first | exact hQ | exact rfl | exact List.cons_ne_nil _ _ | exact True.intro | exact Nat.le_of_ble_eq_true rfl | decide | (simp; done) | omega) ?_) | (refine ⟨_, rfl, ?_⟩))
  | .either a b, .four z r m s, hr, hk =>
    have l1 := Rc.len hr.2.1
    have l2 := Rc.len hr.2.2
    have c1 : (1 + (a.many : Int)) = ((1 + a.many : Nat) : Int) := by simp
    have c2 : (1 + (a.many : Int) + 1) = ((1 + a.many + 1 : Nat) : Int) := by simp
    have ef : (Rc.four z r m s).flat.map am = am z :: (r.flat.map am ++ am m :: s.flat.map am) := by simp [Rc.flat]
    have ef2 : (Rc.four z r m s).flat.map am = (am z :: r.flat.map am) ++ am m :: s.flat.map am := by simp [Rc.flat]
    have e1 : PL.cutD ((Rc.four z r m s).flat.map am) (some 1) (some (1 + (a.many : Int))) = r.flat.map am := by
      rw [c1]
      unfold PL.cutD
      rw [HT.sIx_nat, show (1 : Int) = ((1 : Nat) : Int) from rfl, HT.sIx_nat, ef]
      simp only [List.length_cons, List.length_append, List.length_map, l1]
      rw [Nat.min_eq_left (by omega), Nat.min_eq_left (by omega)]
      show (r.flat.map am ++ am m :: s.flat.map am).take _ = _
      rw [List.take_append_of_le_length (by simp [l1]), List.take_of_length_le (by simp [l1])]
    have e2 : PL.cutD ((Rc.four z r m s).flat.map am) (some (1 + (a.many : Int) + 1)) none = s.flat.map am := by
      rw [c2, cutDrop (by simp [Rc.flat]; omega), ef2, show 1 + a.many + 1 = (am z :: r.flat.map am).length + 1 by simp [l1]; omega, ← List.drop_drop, List.drop_left]
      rfl
    have e3 : atI ((Rc.four z r m s).flat.map am) (1 + (a.many : Int)) = some (am m) := by
      rw [ef2, show (1 + (a.many : Int)) = ((am z :: r.flat.map am).length : Int) by simp [l1]; omega]
      exact atMid
    repeat ((conv => whnf); first | (refine And.intro (by first | exact rfl | exact List.cons_ne_nil _ _ | exact True.intro | exact Nat.le_of_ble_eq_true rfl | decide | (simp; done) | omega) ?_) | (refine ⟨_, rfl, ?_⟩))
    refine And.intro (by unfold Kd.ht at hk; omega) ?_
    repeat ((conv => whnf); first | (refine And.intro (by first | exact rfl | exact List.cons_ne_nil _ _ | exact True.intro | exact Nat.le_of_ble_eq_true rfl | decide | (simp; done) | omega) ?_) | (refine ⟨_, rfl, ?_⟩))
    refine ⟨a, r, ?_, by unfold Kd.ht at hk; omega, hr.2.1, ?_⟩
    · show [v a.d, v (.lst (PL.cutD ((Rc.four z r m s).flat.map am) (some 1) (some (1 + (a.many : Int)))))] = _
      rw [e1]
      rfl
    repeat ((conv => whnf); first | (refine And.intro (by first | exact rfl | exact List.cons_ne_nil _ _ | exact True.intro | exact Nat.le_of_ble_eq_true rfl | decide | (simp; done) | omega) ?_) | (refine ⟨_, rfl, ?_⟩))
    refine ⟨b, s, ?_, by unfold Kd.ht at hk; omega, hr.2.2, ?_⟩
    · show [v b.d, v (.lst (PL.cutD ((Rc.four z r m s).flat.map am) (some (1 + (a.many : Int) + 1)) none))] = _
      rw [e2]
      rfl
    repeat ((conv => whnf); first | (refine And.intro (by first | exact rfl | exact List.cons_ne_nil _ _ | exact True.intro | exact Nat.le_of_ble_eq_true rfl | decide | (simp; done) | omega) ?_) | (refine ⟨_, rfl, ?_⟩))
    conv => whnf
    rw [show atI ((Rc.four z r m s).flat.map am) 0 = some (am z) from at0]
    repeat ((conv => whnf); first | (refine And.intro (by first | exact rfl | exact List.cons_ne_nil _ _ | exact True.intro | exact Nat.le_of_ble_eq_true rfl | decide | (simp; done) | omega) ?_) | (refine ⟨_, rfl, ?_⟩))
    conv => whnf
    rw [e3]
    repeat ((conv => whnf); first | exact hQ | (refine And.intro (by first | exact hQ | exact rfl | exact List.cons_ne_nil _ _ | exact True.intro | exact Nat.le_of_ble_eq_true rfl | decide | (simp; done) | omega) ?_) | (refine ⟨_, rfl, ?_⟩))
theorem sp_joined (h : S_joined ws Q Y) : m_joined (store0 ["kind", "one", "other", "pairs", "mine", "its"] ws) (fun x _ => Y x) (T0 Q) := by
  obtain ⟨k, r, s, rfl, hk, hr, hs, hQ⟩ := h
  have l1 := flat14 hr hk
  have l2 := flat14 hs hk
  repeat ((conv => whnf); first | (refine And.intro (by first | exact rfl | exact List.cons_ne_nil _ _ | exact True.intro | exact Nat.le_of_ble_eq_true rfl | decide | (simp; done) | omega) ?_) | (refine ⟨_, rfl, ?_⟩))
  refine ⟨k, r, s, rfl, hk, hr, hs, ?_⟩
  repeat ((conv => whnf); first | (refine And.intro (by first | exact rfl | exact List.cons_ne_nil _ _ | exact True.intro | exact Nat.le_of_ble_eq_true rfl | decide | (simp; done) | omega) ?_) | (refine ⟨_, rfl, ?_⟩))
  refine ⟨k, r, rfl, by unfold kOk at hk; omega, hr, ?_⟩
  repeat ((conv => whnf); first | (refine And.intro (by first | exact rfl | exact List.cons_ne_nil _ _ | exact True.intro | exact Nat.le_of_ble_eq_true rfl | decide | (simp; done) | omega) ?_) | (refine ⟨_, rfl, ?_⟩))
  refine ⟨k, s, rfl, by unfold kOk at hk; omega, hs, ?_⟩
  repeat ((conv => whnf); first | (refine And.intro (by first | exact rfl | exact List.cons_ne_nil _ _ | exact True.intro | exact Nat.le_of_ble_eq_true rfl | decide | (simp; done) | omega) ?_) | (refine ⟨_, rfl, ?_⟩))
  refine And.intro (by simp; omega) (And.intro rfl ?_)
  rw [zipAm]
  refine lc_of _ (fun p : Int × Int => am (max p.1 p.2)) (fun p hp K hK => ?_) ?_
  · obtain ⟨b1, b2⟩ := mem_zip_sm (flat_sm hr) (flat_sm hs) hp
    repeat ((conv => whnf); first | (refine And.intro (by first | exact rfl | exact List.cons_ne_nil _ _ | exact True.intro | exact Nat.le_of_ble_eq_true rfl | decide | (simp; done) | omega) ?_) | (refine ⟨_, rfl, ?_⟩))
    exact ⟨p.1, p.2, rfl, b1, b2, by repeat ((conv => whnf); first | exact hK | (refine And.intro (by first | exact hK | exact rfl | exact List.cons_ne_nil _ _ | exact True.intro | exact Nat.le_of_ble_eq_true rfl | decide | (simp; done) | omega) ?_) | (refine ⟨_, rfl, ?_⟩))⟩
  · repeat ((conv => whnf); first | (refine And.intro (by first | exact rfl | exact List.cons_ne_nil _ _ | exact True.intro | exact Nat.le_of_ble_eq_true rfl | decide | (simp; done) | omega) ?_) | (refine ⟨_, rfl, ?_⟩))
    refine ⟨k, Rc.zip max r s, ?_, by unfold kOk at hk; omega, fits_zip (fun _ _ => sm_max) hr hs, ?_⟩
    · rw [List.nil_append, zipMap]
      unfold ams
      rw [flat_zip max hr hs]
      rfl
    · repeat ((conv => whnf); first | exact hQ | (refine And.intro (by first | exact hQ | exact rfl | exact List.cons_ne_nil _ _ | exact True.intro | exact Nat.le_of_ble_eq_true rfl | decide | (simp; done) | omega) ?_) | (refine ⟨_, rfl, ?_⟩))
theorem sp_met (h : S_met ws Q Y) : m_met (store0 ["kind", "one", "other", "pairs", "mine", "its"] ws) (fun x _ => Y x) (T0 Q) := by
  obtain ⟨k, r, s, rfl, hk, hr, hs, hQ⟩ := h
  have l1 := flat14 hr hk
  have l2 := flat14 hs hk
  repeat ((conv => whnf); first | (refine And.intro (by first | exact rfl | exact List.cons_ne_nil _ _ | exact True.intro | exact Nat.le_of_ble_eq_true rfl | decide | (simp; done) | omega) ?_) | (refine ⟨_, rfl, ?_⟩))
  refine ⟨k, r, s, rfl, hk, hr, hs, ?_⟩
  repeat ((conv => whnf); first | (refine And.intro (by first | exact rfl | exact List.cons_ne_nil _ _ | exact True.intro | exact Nat.le_of_ble_eq_true rfl | decide | (simp; done) | omega) ?_) | (refine ⟨_, rfl, ?_⟩))
  refine ⟨k, r, rfl, by unfold kOk at hk; omega, hr, ?_⟩
  repeat ((conv => whnf); first | (refine And.intro (by first | exact rfl | exact List.cons_ne_nil _ _ | exact True.intro | exact Nat.le_of_ble_eq_true rfl | decide | (simp; done) | omega) ?_) | (refine ⟨_, rfl, ?_⟩))
  refine ⟨k, s, rfl, by unfold kOk at hk; omega, hs, ?_⟩
  repeat ((conv => whnf); first | (refine And.intro (by first | exact rfl | exact List.cons_ne_nil _ _ | exact True.intro | exact Nat.le_of_ble_eq_true rfl | decide | (simp; done) | omega) ?_) | (refine ⟨_, rfl, ?_⟩))
  refine And.intro (by simp; omega) (And.intro rfl ?_)
  rw [zipAm]
  refine lc_of _ (fun p : Int × Int => am (min p.1 p.2)) (fun p hp K hK => ?_) ?_
  · obtain ⟨b1, b2⟩ := mem_zip_sm (flat_sm hr) (flat_sm hs) hp
    repeat ((conv => whnf); first | (refine And.intro (by first | exact rfl | exact List.cons_ne_nil _ _ | exact True.intro | exact Nat.le_of_ble_eq_true rfl | decide | (simp; done) | omega) ?_) | (refine ⟨_, rfl, ?_⟩))
    exact ⟨p.1, p.2, rfl, b1, b2, by repeat ((conv => whnf); first | exact hK | (refine And.intro (by first | exact hK | exact rfl | exact List.cons_ne_nil _ _ | exact True.intro | exact Nat.le_of_ble_eq_true rfl | decide | (simp; done) | omega) ?_) | (refine ⟨_, rfl, ?_⟩))⟩
  · repeat ((conv => whnf); first | (refine And.intro (by first | exact rfl | exact List.cons_ne_nil _ _ | exact True.intro | exact Nat.le_of_ble_eq_true rfl | decide | (simp; done) | omega) ?_) | (refine ⟨_, rfl, ?_⟩))
    refine ⟨k, Rc.zip min r s, ?_, by unfold kOk at hk; omega, fits_zip (fun _ _ => sm_min) hr hs, ?_⟩
    · rw [List.nil_append, zipMap]
      unfold ams
      rw [flat_zip min hr hs]
      rfl
    · repeat ((conv => whnf); first | exact hQ | (refine And.intro (by first | exact hQ | exact rfl | exact List.cons_ne_nil _ _ | exact True.intro | exact Nat.le_of_ble_eq_true rfl | decide | (simp; done) | omega) ?_) | (refine ⟨_, rfl, ?_⟩))
theorem sp_are_kinds (h : S_are_kinds ws Q Y) : m_are_kinds (store0 ["thing", "kind"] ws) (fun x _ => Y x) (T0 Q) := by
  rcases h with ⟨ks, rfl, hk, hQ⟩ | ⟨d, rfl, ho, hQ⟩
  · repeat ((conv => whnf); first | (refine And.intro (by first | exact rfl | exact List.cons_ne_nil _ _ | exact True.intro | exact Nat.le_of_ble_eq_true rfl | decide | (simp; done) | omega) ?_) | (refine ⟨_, rfl, ?_⟩))
    conv => whnf
    have hl := hk.1
    refine iteT (decide_eq_true (by simp; omega)) ?_
    repeat ((conv => whnf); first | (refine And.intro (by first | exact rfl | exact List.cons_ne_nil _ _ | exact True.intro | exact Nat.le_of_ble_eq_true rfl | decide | (simp; done) | omega) ?_) | (refine ⟨_, rfl, ?_⟩))
    refine And.intro (by simp; omega) (And.intro rfl ?_)
    refine lc_of Kd.d (fun _ => D.bl true) (fun k hm K hK => ?_) ?_
    · repeat ((conv => whnf); first | (refine And.intro (by first | exact rfl | exact List.cons_ne_nil _ _ | exact True.intro | exact Nat.le_of_ble_eq_true rfl | decide | (simp; done) | omega) ?_) | (refine ⟨_, rfl, ?_⟩))
      exact .inl ⟨k, rfl, hk.2 k hm, by repeat ((conv => whnf); first | exact hK | (refine And.intro (by first | exact hK | exact rfl | exact List.cons_ne_nil _ _ | exact True.intro | exact Nat.le_of_ble_eq_true rfl | decide | (simp; done) | omega) ?_) | (refine ⟨_, rfl, ?_⟩))⟩
    · conv => whnf
      rw [List.nil_append, bools_of (fun _ => true)]
      have e : (ks.map fun _ => true).all id = true := by simp
      rw [← e] at hQ
      repeat ((conv => whnf); first | exact hQ | (refine And.intro (by first | exact hQ | exact rfl | exact List.cons_ne_nil _ _ | exact True.intro | exact Nat.le_of_ble_eq_true rfl | decide | (simp; done) | omega) ?_) | (refine ⟨_, rfl, ?_⟩))
  · repeat ((conv => whnf); first | (refine And.intro (by first | exact rfl | exact List.cons_ne_nil _ _ | exact True.intro | exact Nat.le_of_ble_eq_true rfl | decide | (simp; done) | omega) ?_) | (refine ⟨_, rfl, ?_⟩))
    exact .inr ⟨d, rfl, ho, by repeat ((conv => whnf); first | exact hQ | (refine And.intro (by first | exact hQ | exact rfl | exact List.cons_ne_nil _ _ | exact True.intro | exact Nat.le_of_ble_eq_true rfl | decide | (simp; done) | omega) ?_) | (refine ⟨_, rfl, ?_⟩))⟩
end
end K48

namespace K48
open PySem PySem.Spec PyProof.Rows L2 PL
/-! ### plain facts -/
theorem fit_len : ∀ {ks : List Kd} {rs : List Rc}, fitAll ks rs → rs.length = ks.length
  | [], [], _ => rfl
  | _ :: _, _ :: _, h => by rw [List.length_cons, List.length_cons, fit_len h.2]
  | [], _ :: _, h => h.elim
  | _ :: _, [], h => h.elim
theorem fit_mem : ∀ {ks : List Kd} {rs : List Rc}, fitAll ks rs → ∀ p ∈ ks.zip rs, Rc.fits p.1 p.2
  | [], [], _, p, h => nomatch h
  | k :: ks, r :: rs, f, p, h => by
    rcases List.mem_cons.mp h with rfl | h
    · exact f.1
    · exact fit_mem f.2 p h
  | [], _ :: _, h, _, _ => h.elim
  | _ :: _, [], h, _, _ => h.elim
theorem zipKR : ∀ (ks : List Kd) (rs : List Rc), List.zipWith (fun x y => D.tup [x, y]) (ks.map Kd.d) (rs.map Rc.d) = (ks.zip rs).map fun p => D.tup [p.1.d, p.2.d]
  | [], _ => rfl
  | _ :: _, [] => rfl
  | x :: xs, y :: ys => by simp only [List.map_cons, List.zipWith_cons_cons, List.zip_cons_cons, zipKR xs ys]
theorem zip3K : ∀ (ks : List Kd) (rs ss : List Rc), zip3D (ks.map Kd.d) (rs.map Rc.d) (ss.map Rc.d) = (ks.zip (rs.zip ss)).map fun p => D.tup [p.1.d, p.2.1.d, p.2.2.d]
  | [], _, _ => rfl
  | _ :: _, [], _ => rfl
  | _ :: _, _ :: _, [] => rfl
  | k :: ks, r :: rs, s :: ss => by
    show D.tup [k.d, r.d, s.d] :: zip3D (ks.map Kd.d) (rs.map Rc.d) (ss.map Rc.d) = _
    rw [zip3K ks rs ss]
    rfl
theorem fit3 : ∀ {ks : List Kd} {rs ss : List Rc}, fitAll ks rs → fitAll ks ss → ∀ p ∈ ks.zip (rs.zip ss), Rc.fits p.1 p.2.1 ∧ Rc.fits p.1 p.2.2
  | [], [], [], _, _, p, h => nomatch h
  | k :: ks, r :: rs, s :: ss, f, g, p, h => by
    rcases List.mem_cons.mp h with rfl | h
    · exact ⟨f.1, g.1⟩
    · exact fit3 f.2 g.2 p h
  | [], _ :: _, _, h, _, _, _ => h.elim
  | [], [], _ :: _, _, h, _, _ => h.elim
  | _ :: _, [], _, h, _, _, _ => h.elim
  | _ :: _, _ :: _, [], _, h, _, _ => h.elim
theorem mem3 {ks : List Kd} {rs ss : List Rc} {p : Kd × Rc × Rc} (h : p ∈ ks.zip (rs.zip ss)) : p.1 ∈ ks := (List.of_mem_zip (a := p.1) (b := p.2) h).1
theorem map3 {β : Type} (g : Rc → Rc → β) : ∀ {ks : List Kd} {rs ss : List Rc}, fitAll ks rs → fitAll ks ss → (ks.zip (rs.zip ss)).map (fun p => g p.2.1 p.2.2) = List.zipWith g rs ss
  | [], [], [], _, _ => rfl
  | k :: ks, r :: rs, s :: ss, f, h => by
    show g r s :: (ks.zip (rs.zip ss)).map (fun p => g p.2.1 p.2.2) = g r s :: List.zipWith g rs ss
    rw [map3 g f.2 h.2]
  | [], _ :: _, _, h, _ => h.elim
  | [], [], _ :: _, _, h => h.elim
  | _ :: _, [], _, h, _ => h.elim
  | _ :: _, _ :: _, [], _, h => h.elim
theorem sm2_bd {z : Int} (h : sm2 z) : bd9 z := by
  obtain ⟨h1, h2⟩ := h
  unfold bd9
  omega
variable [Hand]
theorem fit_zip {f : Int → Int → Int} (hf : ∀ a b, sm a → sm b → sm (f a b)) : ∀ {ks : List Kd} {rs ss : List Rc}, fitAll ks rs → fitAll ks ss → fitAll ks (List.zipWith (Rc.zip f) rs ss)
  | [], [], [], _, _ => True.intro
  | k :: ks, r :: rs, s :: ss, h, g => ⟨fits_zip hf h.1 g.1, fit_zip hf h.2 g.2⟩
  | [], _ :: _, _, h, _ => h.elim
  | [], [], _ :: _, _, h => h.elim
  | _ :: _, [], _, h, _ => h.elim
  | _ :: _, _ :: _, [], _, h => h.elim
theorem am_plain (z : Int) : ∃ a b, am z = fr a b := by
  obtain ⟨_, a, b, _, _, _, _, _, e, _⟩ := low_spec (a := z) (b := 2) (by decide)
  exact ⟨a, b, e⟩
theorem am_zero {z a b : Int} (e : am z = fr a b) : (a == 0 && (b == 1 && true)) = decide (z = 0) := by
  obtain ⟨s, x, y, hs, e1, e2, hy, hg, e3, _⟩ := low_spec (a := z) (b := 2) (by decide)
  have e4 : fr x y = fr a b := e3.symm.trans e
  obtain ⟨rfl, rfl⟩ := fr_inj e4
  by_cases hz : z = 0
  · have hx : x = 0 := by
      rw [hz] at e1
      rcases Int.mul_eq_zero.mp e1.symm with h | h
      · exact absurd h hs
      · exact h
    subst hx
    have hy1 : y = 1 := by
      have : gcdI 0 y = (y.natAbs : Int) := by simp [gcdI]
      rw [this] at hg
      omega
    subst hy1
    rw [decide_eq_true hz]
    rfl
  · have hx : x ≠ 0 := fun q => hz (by rw [e1, q, Int.mul_zero])
    rw [decide_eq_false hz, beq_eq_false_iff_ne.mpr hx]
    rfl
section
variable {ws : List W} {Q : D → Prop} {Y : Str → Prop} {n : Nat}
theorem sp_is_card_by (h : S_is_card_by ws Q Y) : m_is_card_by (store0 ["kinds", "kind", "thing", "one", "rich"] ws) (fun x _ => Y x) (T0 Q) := by
  obtain ⟨ks, k, d, rfl, hks, hk, h⟩ := h
  have hl4 := hks.1
  rcases h with ⟨c, rfl, hc, hQ⟩ | ⟨rfl | ⟨c, hc, rfl | rfl | rfl | rfl | rfl | rfl⟩, hQ⟩
  · have hl : (c.ins.map Rc.d).length = (ks.map Kd.d).length := by simp [fit_len hc.ins]
    have hl2 := fit_len hc.ins
    repeat ((conv => whnf); first | (refine And.intro (by first | exact rfl | exact List.cons_ne_nil _ _ | exact True.intro | exact Nat.le_of_ble_eq_true rfl | decide | (simp; done) | omega) ?_) | (refine ⟨_, rfl, ?_⟩))
    conv => whnf
    refine iteF (by rw [hl]; simp) ?_
    repeat ((conv => whnf); first | (refine And.intro (by first | exact rfl | exact List.cons_ne_nil _ _ | exact True.intro | exact Nat.le_of_ble_eq_true rfl | decide | (simp; done) | omega) ?_) | (refine ⟨_, rfl, ?_⟩))
    refine And.intro (by simp; omega) (And.intro rfl ?_)
    rw [zipKR]
    refine lc_of _ (fun _ => D.bl true) (fun p hp K hK => ?_) ?_
    · repeat ((conv => whnf); first | (refine And.intro (by first | exact rfl | exact List.cons_ne_nil _ _ | exact True.intro | exact Nat.le_of_ble_eq_true rfl | decide | (simp; done) | omega) ?_) | (refine ⟨_, rfl, ?_⟩))
      exact ⟨p.1, p.2, rfl, by have := hks.2 _ (List.of_mem_zip (a := p.1) (b := p.2) hp).1; unfold kOk at this; omega, fit_mem hc.ins p hp, by repeat ((conv => whnf); first | exact hK | (refine And.intro (by first | exact hK | exact rfl | exact List.cons_ne_nil _ _ | exact True.intro | exact Nat.le_of_ble_eq_true rfl | decide | (simp; done) | omega) ?_) | (refine ⟨_, rfl, ?_⟩))⟩
    conv => whnf
    rw [List.nil_append, bools_of (fun _ => true)]
    conv => whnf
    refine iteF (by simp) ?_
    repeat ((conv => whnf); first | (refine And.intro (by first | exact rfl | exact List.cons_ne_nil _ _ | exact True.intro | exact Nat.le_of_ble_eq_true rfl | decide | (simp; done) | omega) ?_) | (refine ⟨_, rfl, ?_⟩))
    refine .inl ⟨c.paid, rfl, hc.paid.1, sm2_bd hc.paid, ?_⟩
    repeat ((conv => whnf); first | (refine And.intro (by first | exact rfl | exact List.cons_ne_nil _ _ | exact True.intro | exact Nat.le_of_ble_eq_true rfl | decide | (simp; done) | omega) ?_) | (refine ⟨_, rfl, ?_⟩))
    refine ⟨k, c.out, rfl, by unfold kOk at hk; omega, hc.out, ?_⟩
    repeat ((conv => whnf); first | (refine And.intro (by first | exact rfl | exact List.cons_ne_nil _ _ | exact True.intro | exact Nat.le_of_ble_eq_true rfl | decide | (simp; done) | omega) ?_) | (refine ⟨_, rfl, ?_⟩))
    exact .inl ⟨c.left, rfl, hc.left.1, sm2_bd hc.left, by repeat ((conv => whnf); first | exact hQ | (refine And.intro (by first | exact hQ | exact rfl | exact List.cons_ne_nil _ _ | exact True.intro | exact Nat.le_of_ble_eq_true rfl | decide | (simp; done) | omega) ?_) | (refine ⟨_, rfl, ?_⟩))⟩
  · repeat ((conv => whnf); first | exact hQ | (refine And.intro (by first | exact hQ | exact rfl | exact List.cons_ne_nil _ _ | exact True.intro | exact Nat.le_of_ble_eq_true rfl | decide | (simp; done) | omega) ?_) | (refine ⟨_, rfl, ?_⟩))
  · repeat ((conv => whnf); first | exact hQ | (refine And.intro (by first | exact hQ | exact rfl | exact List.cons_ne_nil _ _ | exact True.intro | exact Nat.le_of_ble_eq_true rfl | decide | (simp; done) | omega) ?_) | (refine ⟨_, rfl, ?_⟩))
  · repeat ((conv => whnf); first | exact hQ | (refine And.intro (by first | exact hQ | exact rfl | exact List.cons_ne_nil _ _ | exact True.intro | exact Nat.le_of_ble_eq_true rfl | decide | (simp; done) | omega) ?_) | (refine ⟨_, rfl, ?_⟩))
  · repeat ((conv => whnf); first | (refine And.intro (by first | exact rfl | exact List.cons_ne_nil _ _ | exact True.intro | exact Nat.le_of_ble_eq_true rfl | decide | (simp; done) | omega) ?_) | (refine ⟨_, rfl, ?_⟩))
    conv => whnf
    refine iteT (by simp [fit_len hc.ins]; omega) ?_
    repeat ((conv => whnf); first | exact hQ | (refine And.intro (by first | exact hQ | exact rfl | exact List.cons_ne_nil _ _ | exact True.intro | exact Nat.le_of_ble_eq_true rfl | decide | (simp; done) | omega) ?_) | (refine ⟨_, rfl, ?_⟩))
  · have hl : (c.ins.map Rc.d).length = (ks.map Kd.d).length := by simp [fit_len hc.ins]
    have hl2 := fit_len hc.ins
    repeat ((conv => whnf); first | (refine And.intro (by first | exact rfl | exact List.cons_ne_nil _ _ | exact True.intro | exact Nat.le_of_ble_eq_true rfl | decide | (simp; done) | omega) ?_) | (refine ⟨_, rfl, ?_⟩))
    conv => whnf
    refine iteF (by rw [hl]; simp) ?_
    repeat ((conv => whnf); first | (refine And.intro (by first | exact rfl | exact List.cons_ne_nil _ _ | exact True.intro | exact Nat.le_of_ble_eq_true rfl | decide | (simp; done) | omega) ?_) | (refine ⟨_, rfl, ?_⟩))
    refine And.intro (by simp; omega) (And.intro rfl ?_)
    rw [zipKR]
    refine lc_of _ (fun _ => D.bl true) (fun p hp K hK => ?_) ?_
    · repeat ((conv => whnf); first | (refine And.intro (by first | exact rfl | exact List.cons_ne_nil _ _ | exact True.intro | exact Nat.le_of_ble_eq_true rfl | decide | (simp; done) | omega) ?_) | (refine ⟨_, rfl, ?_⟩))
      exact ⟨p.1, p.2, rfl, by have := hks.2 _ (List.of_mem_zip (a := p.1) (b := p.2) hp).1; unfold kOk at this; omega, fit_mem hc.ins p hp, by repeat ((conv => whnf); first | exact hK | (refine And.intro (by first | exact hK | exact rfl | exact List.cons_ne_nil _ _ | exact True.intro | exact Nat.le_of_ble_eq_true rfl | decide | (simp; done) | omega) ?_) | (refine ⟨_, rfl, ?_⟩))⟩
    conv => whnf
    rw [List.nil_append, bools_of (fun _ => true)]
    conv => whnf
    refine iteF (by simp) ?_
    repeat ((conv => whnf); first | (refine And.intro (by first | exact rfl | exact List.cons_ne_nil _ _ | exact True.intro | exact Nat.le_of_ble_eq_true rfl | decide | (simp; done) | omega) ?_) | (refine ⟨_, rfl, ?_⟩))
    exact .inr ⟨_, rfl, .inl rfl, by repeat ((conv => whnf); first | exact hQ | (refine And.intro (by first | exact hQ | exact rfl | exact List.cons_ne_nil _ _ | exact True.intro | exact Nat.le_of_ble_eq_true rfl | decide | (simp; done) | omega) ?_) | (refine ⟨_, rfl, ?_⟩))⟩
  · have hl : (c.ins.map Rc.d).length = (ks.map Kd.d).length := by simp [fit_len hc.ins]
    have hl2 := fit_len hc.ins
    repeat ((conv => whnf); first | (refine And.intro (by first | exact rfl | exact List.cons_ne_nil _ _ | exact True.intro | exact Nat.le_of_ble_eq_true rfl | decide | (simp; done) | omega) ?_) | (refine ⟨_, rfl, ?_⟩))
    conv => whnf
    refine iteF (by rw [hl]; simp) ?_
    repeat ((conv => whnf); first | (refine And.intro (by first | exact rfl | exact List.cons_ne_nil _ _ | exact True.intro | exact Nat.le_of_ble_eq_true rfl | decide | (simp; done) | omega) ?_) | (refine ⟨_, rfl, ?_⟩))
    refine And.intro (by simp; omega) (And.intro rfl ?_)
    rw [zipKR]
    refine lc_of _ (fun _ => D.bl true) (fun p hp K hK => ?_) ?_
    · repeat ((conv => whnf); first | (refine And.intro (by first | exact rfl | exact List.cons_ne_nil _ _ | exact True.intro | exact Nat.le_of_ble_eq_true rfl | decide | (simp; done) | omega) ?_) | (refine ⟨_, rfl, ?_⟩))
      exact ⟨p.1, p.2, rfl, by have := hks.2 _ (List.of_mem_zip (a := p.1) (b := p.2) hp).1; unfold kOk at this; omega, fit_mem hc.ins p hp, by repeat ((conv => whnf); first | exact hK | (refine And.intro (by first | exact hK | exact rfl | exact List.cons_ne_nil _ _ | exact True.intro | exact Nat.le_of_ble_eq_true rfl | decide | (simp; done) | omega) ?_) | (refine ⟨_, rfl, ?_⟩))⟩
    conv => whnf
    rw [List.nil_append, bools_of (fun _ => true)]
    conv => whnf
    refine iteF (by simp) ?_
    repeat ((conv => whnf); first | (refine And.intro (by first | exact rfl | exact List.cons_ne_nil _ _ | exact True.intro | exact Nat.le_of_ble_eq_true rfl | decide | (simp; done) | omega) ?_) | (refine ⟨_, rfl, ?_⟩))
    refine .inl ⟨c.paid, rfl, hc.paid.1, sm2_bd hc.paid, ?_⟩
    repeat ((conv => whnf); first | (refine And.intro (by first | exact rfl | exact List.cons_ne_nil _ _ | exact True.intro | exact Nat.le_of_ble_eq_true rfl | decide | (simp; done) | omega) ?_) | (refine ⟨_, rfl, ?_⟩))
    refine ⟨k, c.out, rfl, by unfold kOk at hk; omega, hc.out, ?_⟩
    repeat ((conv => whnf); first | (refine And.intro (by first | exact rfl | exact List.cons_ne_nil _ _ | exact True.intro | exact Nat.le_of_ble_eq_true rfl | decide | (simp; done) | omega) ?_) | (refine ⟨_, rfl, ?_⟩))
    exact .inr ⟨_, rfl, .inr (.inl rfl), by repeat ((conv => whnf); first | exact hQ | (refine And.intro (by first | exact hQ | exact rfl | exact List.cons_ne_nil _ _ | exact True.intro | exact Nat.le_of_ble_eq_true rfl | decide | (simp; done) | omega) ?_) | (refine ⟨_, rfl, ?_⟩))⟩
  · have hl : (c.ins.map Rc.d).length = (ks.map Kd.d).length := by simp [fit_len hc.ins]
    have hl2 := fit_len hc.ins
    repeat ((conv => whnf); first | (refine And.intro (by first | exact rfl | exact List.cons_ne_nil _ _ | exact True.intro | exact Nat.le_of_ble_eq_true rfl | decide | (simp; done) | omega) ?_) | (refine ⟨_, rfl, ?_⟩))
    conv => whnf
    refine iteF (by rw [hl]; simp) ?_
    repeat ((conv => whnf); first | (refine And.intro (by first | exact rfl | exact List.cons_ne_nil _ _ | exact True.intro | exact Nat.le_of_ble_eq_true rfl | decide | (simp; done) | omega) ?_) | (refine ⟨_, rfl, ?_⟩))
    refine And.intro (by simp; omega) (And.intro rfl ?_)
    rw [zipKR]
    refine lc_of _ (fun _ => D.bl true) (fun p hp K hK => ?_) ?_
    · repeat ((conv => whnf); first | (refine And.intro (by first | exact rfl | exact List.cons_ne_nil _ _ | exact True.intro | exact Nat.le_of_ble_eq_true rfl | decide | (simp; done) | omega) ?_) | (refine ⟨_, rfl, ?_⟩))
      exact ⟨p.1, p.2, rfl, by have := hks.2 _ (List.of_mem_zip (a := p.1) (b := p.2) hp).1; unfold kOk at this; omega, fit_mem hc.ins p hp, by repeat ((conv => whnf); first | exact hK | (refine And.intro (by first | exact hK | exact rfl | exact List.cons_ne_nil _ _ | exact True.intro | exact Nat.le_of_ble_eq_true rfl | decide | (simp; done) | omega) ?_) | (refine ⟨_, rfl, ?_⟩))⟩
    conv => whnf
    rw [List.nil_append, bools_of (fun _ => true)]
    conv => whnf
    refine iteF (by simp) ?_
    repeat ((conv => whnf); first | (refine And.intro (by first | exact rfl | exact List.cons_ne_nil _ _ | exact True.intro | exact Nat.le_of_ble_eq_true rfl | decide | (simp; done) | omega) ?_) | (refine ⟨_, rfl, ?_⟩))
    exact .inr ⟨_, rfl, .inr (.inr rfl), by repeat ((conv => whnf); first | exact hQ | (refine And.intro (by first | exact hQ | exact rfl | exact List.cons_ne_nil _ _ | exact True.intro | exact Nat.le_of_ble_eq_true rfl | decide | (simp; done) | omega) ?_) | (refine ⟨_, rfl, ?_⟩))⟩
theorem sp_are_cards_by (h : S_are_cards_by ws Q Y) : m_are_cards_by (store0 ["kinds", "kind", "thing", "card"] ws) (fun x _ => Y x) (T0 Q) := by
  obtain ⟨ks, k, ds, rfl, hks, hk, h⟩ := h
  rcases h with ⟨cs, rfl, hl, hc, hQ⟩ | ⟨hl, hQ⟩ | ⟨c, x, rfl, hc, hx, hQ⟩
  · repeat ((conv => whnf); first | (refine And.intro (by first | exact rfl | exact List.cons_ne_nil _ _ | exact True.intro | exact Nat.le_of_ble_eq_true rfl | decide | (simp; done) | omega) ?_) | (refine ⟨_, rfl, ?_⟩))
    conv => whnf
    refine iteF (decide_eq_false (by simp; omega)) ?_
    repeat ((conv => whnf); first | (refine And.intro (by first | exact rfl | exact List.cons_ne_nil _ _ | exact True.intro | exact Nat.le_of_ble_eq_true rfl | decide | (simp; done) | omega) ?_) | (refine ⟨_, rfl, ?_⟩))
    refine And.intro (by simp; omega) (And.intro rfl ?_)
    refine lc_of _ (fun _ => D.bl true) (fun c hm K hK => ?_) ?_
    · repeat ((conv => whnf); first | (refine And.intro (by first | exact rfl | exact List.cons_ne_nil _ _ | exact True.intro | exact Nat.le_of_ble_eq_true rfl | decide | (simp; done) | omega) ?_) | (refine ⟨_, rfl, ?_⟩))
      exact ⟨ks, k, _, rfl, hks, hk, .inl ⟨c, rfl, hc c hm, by repeat ((conv => whnf); first | exact hK | (refine And.intro (by first | exact hK | exact rfl | exact List.cons_ne_nil _ _ | exact True.intro | exact Nat.le_of_ble_eq_true rfl | decide | (simp; done) | omega) ?_) | (refine ⟨_, rfl, ?_⟩))⟩⟩
    · conv => whnf
      rw [List.nil_append, bools_of (fun _ => true)]
      have e : (cs.map fun _ => true).all id = true := by simp
      rw [← e] at hQ
      repeat ((conv => whnf); first | exact hQ | (refine And.intro (by first | exact hQ | exact rfl | exact List.cons_ne_nil _ _ | exact True.intro | exact Nat.le_of_ble_eq_true rfl | decide | (simp; done) | omega) ?_) | (refine ⟨_, rfl, ?_⟩))
  · repeat ((conv => whnf); first | (refine And.intro (by first | exact rfl | exact List.cons_ne_nil _ _ | exact True.intro | exact Nat.le_of_ble_eq_true rfl | decide | (simp; done) | omega) ?_) | (refine ⟨_, rfl, ?_⟩))
    conv => whnf
    refine iteT (decide_eq_true (by omega)) ?_
    repeat ((conv => whnf); first | exact hQ | (refine And.intro (by first | exact hQ | exact rfl | exact List.cons_ne_nil _ _ | exact True.intro | exact Nat.le_of_ble_eq_true rfl | decide | (simp; done) | omega) ?_) | (refine ⟨_, rfl, ?_⟩))
  · repeat ((conv => whnf); first | (refine And.intro (by first | exact rfl | exact List.cons_ne_nil _ _ | exact True.intro | exact Nat.le_of_ble_eq_true rfl | decide | (simp; done) | omega) ?_) | (refine ⟨_, rfl, ?_⟩))
    refine ⟨ks, k, _, rfl, hks, hk, .inl ⟨c, rfl, hc, ?_⟩⟩
    repeat ((conv => whnf); first | (refine And.intro (by first | exact rfl | exact List.cons_ne_nil _ _ | exact True.intro | exact Nat.le_of_ble_eq_true rfl | decide | (simp; done) | omega) ?_) | (refine ⟨_, rfl, ?_⟩))
    exact ⟨ks, k, _, rfl, hks, hk, .inr ⟨hx, by repeat ((conv => whnf); first | exact hQ | (refine And.intro (by first | exact hQ | exact rfl | exact List.cons_ne_nil _ _ | exact True.intro | exact Nat.le_of_ble_eq_true rfl | decide | (simp; done) | omega) ?_) | (refine ⟨_, rfl, ?_⟩))⟩⟩
theorem sp_check_kinds (h : S_check_kinds ws Q Y) : m_check_kinds (store0 ["kinds", "kind"] ws) (fun x _ => Y x) (T0 Q) := by
  rcases h with ⟨ks, k, rfl, hks, hk, hQ⟩ | ⟨ks, d, rfl, hks, hd, hQ⟩ | ⟨d, k, rfl, hd, hk, hQ⟩
  · repeat ((conv => whnf); first | (refine And.intro (by first | exact rfl | exact List.cons_ne_nil _ _ | exact True.intro | exact Nat.le_of_ble_eq_true rfl | decide | (simp; done) | omega) ?_) | (refine ⟨_, rfl, ?_⟩))
    refine .inl ⟨ks, rfl, hks, ?_⟩
    repeat ((conv => whnf); first | (refine And.intro (by first | exact rfl | exact List.cons_ne_nil _ _ | exact True.intro | exact Nat.le_of_ble_eq_true rfl | decide | (simp; done) | omega) ?_) | (refine ⟨_, rfl, ?_⟩))
    exact .inl ⟨k, rfl, hk, by repeat ((conv => whnf); first | exact hQ | (refine And.intro (by first | exact hQ | exact rfl | exact List.cons_ne_nil _ _ | exact True.intro | exact Nat.le_of_ble_eq_true rfl | decide | (simp; done) | omega) ?_) | (refine ⟨_, rfl, ?_⟩))⟩
  · repeat ((conv => whnf); first | (refine And.intro (by first | exact rfl | exact List.cons_ne_nil _ _ | exact True.intro | exact Nat.le_of_ble_eq_true rfl | decide | (simp; done) | omega) ?_) | (refine ⟨_, rfl, ?_⟩))
    refine .inl ⟨ks, rfl, hks, ?_⟩
    repeat ((conv => whnf); first | (refine And.intro (by first | exact rfl | exact List.cons_ne_nil _ _ | exact True.intro | exact Nat.le_of_ble_eq_true rfl | decide | (simp; done) | omega) ?_) | (refine ⟨_, rfl, ?_⟩))
    exact .inr ⟨d, rfl, hd, by repeat ((conv => whnf); first | exact hQ | (refine And.intro (by first | exact hQ | exact rfl | exact List.cons_ne_nil _ _ | exact True.intro | exact Nat.le_of_ble_eq_true rfl | decide | (simp; done) | omega) ?_) | (refine ⟨_, rfl, ?_⟩))⟩
  · repeat ((conv => whnf); first | (refine And.intro (by first | exact rfl | exact List.cons_ne_nil _ _ | exact True.intro | exact Nat.le_of_ble_eq_true rfl | decide | (simp; done) | omega) ?_) | (refine ⟨_, rfl, ?_⟩))
    exact .inr ⟨d, rfl, hd, by repeat ((conv => whnf); first | exact hQ | (refine And.intro (by first | exact hQ | exact rfl | exact List.cons_ne_nil _ _ | exact True.intro | exact Nat.le_of_ble_eq_true rfl | decide | (simp; done) | omega) ?_) | (refine ⟨_, rfl, ?_⟩))⟩
theorem sp_check_pair (h : S_check_pair ws Q Y) : m_check_pair (store0 ["kinds", "kind", "one", "other", "card"] ws) (fun x _ => Y x) (T0 Q) := by
  rcases h with ⟨ks, k, c, e, rfl, hks, hk, hc, he, hQ⟩ | ⟨ks, d, x, y, rfl, hks, hd, hQ⟩ | ⟨d, k, x, y, rfl, hd, hk, hQ⟩ | ⟨ks, k, c, x, rfl, hks, hk, hc, hx, hQ⟩
  · repeat ((conv => whnf); first | (refine And.intro (by first | exact rfl | exact List.cons_ne_nil _ _ | exact True.intro | exact Nat.le_of_ble_eq_true rfl | decide | (simp; done) | omega) ?_) | (refine ⟨_, rfl, ?_⟩))
    refine .inl ⟨ks, k, rfl, hks, hk, ?_⟩
    repeat ((conv => whnf); first | (refine And.intro (by first | exact rfl | exact List.cons_ne_nil _ _ | exact True.intro | exact Nat.le_of_ble_eq_true rfl | decide | (simp; done) | omega) ?_) | (refine ⟨_, rfl, ?_⟩))
    refine ⟨fun i ρ => i ≤ 2 ∧ ∃ o, ρ = [some (v (ksD ks)), some (v k.d), some (v c.d), some (v e.d), o], ⟨by decide, _, rfl⟩, ?_, fun ρ2 _ => hQ⟩
    rintro i d ρ2 hi ⟨h2, o, rfl⟩
    match i, hi with
    | 0, hi =>
      cases hi
      repeat ((conv => whnf); first | (refine And.intro (by first | exact rfl | exact List.cons_ne_nil _ _ | exact True.intro | exact Nat.le_of_ble_eq_true rfl | decide | (simp; done) | omega) ?_) | (refine ⟨_, rfl, ?_⟩))
      refine ⟨ks, k, _, rfl, hks, hk, .inl ⟨c, rfl, hc, ?_⟩⟩
      repeat ((conv => whnf); first | (refine And.intro (by first | exact rfl | exact List.cons_ne_nil _ _ | exact True.intro | exact Nat.le_of_ble_eq_true rfl | decide | (simp; done) | omega) ?_) | (refine ⟨_, rfl, ?_⟩))
      exact ⟨_, rfl⟩
    | 1, hi =>
      cases hi
      repeat ((conv => whnf); first | (refine And.intro (by first | exact rfl | exact List.cons_ne_nil _ _ | exact True.intro | exact Nat.le_of_ble_eq_true rfl | decide | (simp; done) | omega) ?_) | (refine ⟨_, rfl, ?_⟩))
      refine ⟨ks, k, _, rfl, hks, hk, .inl ⟨e, rfl, he, ?_⟩⟩
      repeat ((conv => whnf); first | (refine And.intro (by first | exact rfl | exact List.cons_ne_nil _ _ | exact True.intro | exact Nat.le_of_ble_eq_true rfl | decide | (simp; done) | omega) ?_) | (refine ⟨_, rfl, ?_⟩))
      exact ⟨_, rfl⟩
  · repeat ((conv => whnf); first | (refine And.intro (by first | exact rfl | exact List.cons_ne_nil _ _ | exact True.intro | exact Nat.le_of_ble_eq_true rfl | decide | (simp; done) | omega) ?_) | (refine ⟨_, rfl, ?_⟩))
    exact .inr (.inl ⟨ks, d, rfl, hks, hd, hQ⟩)
  · repeat ((conv => whnf); first | (refine And.intro (by first | exact rfl | exact List.cons_ne_nil _ _ | exact True.intro | exact Nat.le_of_ble_eq_true rfl | decide | (simp; done) | omega) ?_) | (refine ⟨_, rfl, ?_⟩))
    exact .inr (.inr ⟨d, k, rfl, hd, hk, hQ⟩)
  · repeat ((conv => whnf); first | (refine And.intro (by first | exact rfl | exact List.cons_ne_nil _ _ | exact True.intro | exact Nat.le_of_ble_eq_true rfl | decide | (simp; done) | omega) ?_) | (refine ⟨_, rfl, ?_⟩))
    refine .inl ⟨ks, k, rfl, hks, hk, ?_⟩
    repeat ((conv => whnf); first | (refine And.intro (by first | exact rfl | exact List.cons_ne_nil _ _ | exact True.intro | exact Nat.le_of_ble_eq_true rfl | decide | (simp; done) | omega) ?_) | (refine ⟨_, rfl, ?_⟩))
    refine ⟨fun i ρ => i ≤ 1 ∧ ∃ o, ρ = [some (v (ksD ks)), some (v k.d), some (v c.d), some (v x), o], ⟨by decide, _, rfl⟩, ?_, fun ρ2 hf => absurd hf.1 (by simp)⟩
    rintro i d ρ2 hi ⟨h2, o, rfl⟩
    match i, hi with
    | 0, hi =>
      cases hi
      repeat ((conv => whnf); first | (refine And.intro (by first | exact rfl | exact List.cons_ne_nil _ _ | exact True.intro | exact Nat.le_of_ble_eq_true rfl | decide | (simp; done) | omega) ?_) | (refine ⟨_, rfl, ?_⟩))
      refine ⟨ks, k, _, rfl, hks, hk, .inl ⟨c, rfl, hc, ?_⟩⟩
      repeat ((conv => whnf); first | (refine And.intro (by first | exact rfl | exact List.cons_ne_nil _ _ | exact True.intro | exact Nat.le_of_ble_eq_true rfl | decide | (simp; done) | omega) ?_) | (refine ⟨_, rfl, ?_⟩))
      exact ⟨_, rfl⟩
    | 1, hi =>
      cases hi
      repeat ((conv => whnf); first | (refine And.intro (by first | exact rfl | exact List.cons_ne_nil _ _ | exact True.intro | exact Nat.le_of_ble_eq_true rfl | decide | (simp; done) | omega) ?_) | (refine ⟨_, rfl, ?_⟩))
      exact ⟨ks, k, _, rfl, hks, hk, .inr ⟨hx, by repeat ((conv => whnf); first | exact hQ | (refine And.intro (by first | exact hQ | exact rfl | exact List.cons_ne_nil _ _ | exact True.intro | exact Nat.le_of_ble_eq_true rfl | decide | (simp; done) | omega) ?_) | (refine ⟨_, rfl, ?_⟩))⟩⟩
theorem so_eq {ks : List Kd} {k : Kd} {c e : Cd} (hc : c.fits ks k) (he : e.fits ks k) : soB c e = (((ks.zip (c.ins.zip e.ins)).map fun p => cov p.2.2 p.2.1).all id && cov c.out e.out) := by
  unfold soB
  rw [map3 (fun a b => cov b a) hc.ins he.ins]
theorem sp_are_riches_so (h : S_are_riches_so ws Q Y) : m_are_riches_so (store0 ["kinds", "kind", "one", "other", "each", "mine", "its"] ws) (fun x _ => Y x) (T0 Q) := by
  obtain ⟨ks, k, c, e, rfl, hks, hk, hc, he, hQ⟩ := h
  have hl4 := hks.1
  have l1 := fit_len hc.ins
  have l2 := fit_len he.ins
  have hQ : Q (.bl (soB c e)) := hQ
  rw [so_eq hc he] at hQ
  repeat ((conv => whnf); first | (refine And.intro (by first | exact rfl | exact List.cons_ne_nil _ _ | exact True.intro | exact Nat.le_of_ble_eq_true rfl | decide | (simp; done) | omega) ?_) | (refine ⟨_, rfl, ?_⟩))
  refine And.intro (by simp; omega) (And.intro (by simp; omega) ?_)
  conv => whnf
  refine And.intro (by rw [zip3K]; simp; omega) (And.intro rfl ?_)
  rw [zip3K]
  refine lc_of _ (fun p : Kd × Rc × Rc => D.bl (cov p.2.2 p.2.1)) (fun p hp K hK => ?_) ?_
  · obtain ⟨f1, f2⟩ := fit3 hc.ins he.ins p hp
    repeat ((conv => whnf); first | (refine And.intro (by first | exact rfl | exact List.cons_ne_nil _ _ | exact True.intro | exact Nat.le_of_ble_eq_true rfl | decide | (simp; done) | omega) ?_) | (refine ⟨_, rfl, ?_⟩))
    exact ⟨p.1, p.2.2, p.2.1, rfl, hks.2 _ (mem3 hp), f2, f1, by repeat ((conv => whnf); first | exact hK | (refine And.intro (by first | exact hK | exact rfl | exact List.cons_ne_nil _ _ | exact True.intro | exact Nat.le_of_ble_eq_true rfl | decide | (simp; done) | omega) ?_) | (refine ⟨_, rfl, ?_⟩))⟩
  · conv => whnf
    rw [List.nil_append, bools_of]
    conv => whnf
    by_cases hb : ((ks.zip (c.ins.zip e.ins)).map fun p => cov p.2.2 p.2.1).all id = true
    · refine iteF (by rw [hb]; rfl) ?_
      rw [hb, Bool.true_and] at hQ
      repeat ((conv => whnf); first | (refine And.intro (by first | exact rfl | exact List.cons_ne_nil _ _ | exact True.intro | exact Nat.le_of_ble_eq_true rfl | decide | (simp; done) | omega) ?_) | (refine ⟨_, rfl, ?_⟩))
      exact ⟨k, c.out, e.out, rfl, hk, hc.out, he.out, by repeat ((conv => whnf); first | exact hQ | (refine And.intro (by first | exact hQ | exact rfl | exact List.cons_ne_nil _ _ | exact True.intro | exact Nat.le_of_ble_eq_true rfl | decide | (simp; done) | omega) ?_) | (refine ⟨_, rfl, ?_⟩))⟩
    · rw [Bool.not_eq_true] at hb
      refine iteT (by rw [hb]; rfl) ?_
      rw [hb, Bool.false_and] at hQ
      repeat ((conv => whnf); first | exact hQ | (refine And.intro (by first | exact hQ | exact rfl | exact List.cons_ne_nil _ _ | exact True.intro | exact Nat.le_of_ble_eq_true rfl | decide | (simp; done) | omega) ?_) | (refine ⟨_, rfl, ?_⟩))
theorem sp_raw_shortfall (h : S_raw_shortfall ws Q Y) : m_raw_shortfall (store0 ["kinds", "kind", "one", "other", "paid", "left"] ws) (fun x _ => Y x) (T0 Q) := by
  obtain ⟨ks, k, c, e, rfl, hks, hk, hc, he, hQ⟩ := h
  have hQ : Q (shortD c e) := hQ
  obtain ⟨p1, p2⟩ := hc.paid
  obtain ⟨p3, p4⟩ := he.paid
  obtain ⟨p5, p6⟩ := hc.left
  obtain ⟨p7, p8⟩ := he.left
  repeat ((conv => whnf); first | (refine And.intro (by first | exact rfl | exact List.cons_ne_nil _ _ | exact True.intro | exact Nat.le_of_ble_eq_true rfl | decide | (simp; done) | omega) ?_) | (refine ⟨_, rfl, ?_⟩))
  refine ⟨ks, k, c, e, rfl, hks, hk, hc, he, ?_⟩
  conv => whnf
  unfold shortD at hQ
  by_cases hb : soB c e = true
  · rw [if_pos hb] at hQ
    refine iteF (by rw [hb]; rfl) ?_
    repeat ((conv => whnf); first | (refine And.intro (by first | exact rfl | exact List.cons_ne_nil _ _ | exact True.intro | exact Nat.le_of_ble_eq_true rfl | decide | (simp; done) | omega) ?_) | (refine ⟨_, rfl, ?_⟩))
    refine ⟨c.paid, e.paid, rfl, sm2_bd hc.paid, sm2_bd he.paid, ?_⟩
    repeat ((conv => whnf); first | (refine And.intro (by first | exact rfl | exact List.cons_ne_nil _ _ | exact True.intro | exact Nat.le_of_ble_eq_true rfl | decide | (simp; done) | omega) ?_) | (refine ⟨_, rfl, ?_⟩))
    refine ⟨e.left, c.left, rfl, sm2_bd he.left, sm2_bd hc.left, ?_⟩
    repeat ((conv => whnf); first | (refine And.intro (by first | exact rfl | exact List.cons_ne_nil _ _ | exact True.intro | exact Nat.le_of_ble_eq_true rfl | decide | (simp; done) | omega) ?_) | (refine ⟨_, rfl, ?_⟩))
    refine ⟨c.paid - e.paid, e.left - c.left, rfl, by unfold bd9; omega, by unfold bd9; omega, ?_⟩
    repeat ((conv => whnf); first | (refine And.intro (by first | exact rfl | exact List.cons_ne_nil _ _ | exact True.intro | exact Nat.le_of_ble_eq_true rfl | decide | (simp; done) | omega) ?_) | (refine ⟨_, rfl, ?_⟩))
    refine ⟨c.paid - e.paid, c.paid - e.paid + (e.left - c.left), rfl, by unfold bd9; omega, by unfold bd9; omega, ?_⟩
    repeat ((conv => whnf); first | (refine And.intro (by first | exact rfl | exact List.cons_ne_nil _ _ | exact True.intro | exact Nat.le_of_ble_eq_true rfl | decide | (simp; done) | omega) ?_) | (refine ⟨_, rfl, ?_⟩))
    exact ⟨0, max (c.paid - e.paid) (c.paid - e.paid + (e.left - c.left)), rfl, by unfold bd9; omega, by unfold bd9; omega, by repeat ((conv => whnf); first | exact hQ | (refine And.intro (by first | exact hQ | exact rfl | exact List.cons_ne_nil _ _ | exact True.intro | exact Nat.le_of_ble_eq_true rfl | decide | (simp; done) | omega) ?_) | (refine ⟨_, rfl, ?_⟩))⟩
  · rw [if_neg hb] at hQ
    rw [Bool.not_eq_true] at hb
    refine iteT (by rw [hb]; rfl) ?_
    repeat ((conv => whnf); first | exact hQ | (refine And.intro (by first | exact hQ | exact rfl | exact List.cons_ne_nil _ _ | exact True.intro | exact Nat.le_of_ble_eq_true rfl | decide | (simp; done) | omega) ?_) | (refine ⟨_, rfl, ?_⟩))
theorem sp_raw_serves (h : S_raw_serves ws Q Y) : m_raw_serves (store0 ["kinds", "kind", "one", "other"] ws) (fun x _ => Y x) (T0 Q) := by
  obtain ⟨ks, k, c, e, rfl, hks, hk, hc, he, hQ⟩ := h
  have hQ : Q (.bl (srv c e)) := hQ
  repeat ((conv => whnf); first | (refine And.intro (by first | exact rfl | exact List.cons_ne_nil _ _ | exact True.intro | exact Nat.le_of_ble_eq_true rfl | decide | (simp; done) | omega) ?_) | (refine ⟨_, rfl, ?_⟩))
  refine ⟨ks, k, c, e, rfl, hks, hk, hc, he, ?_⟩
  unfold srv at hQ
  unfold shortD
  by_cases hb : soB c e = true
  · rw [if_pos hb]
    rw [hb, Bool.true_and] at hQ
    obtain ⟨a, b, ea⟩ := am_plain (lack c e)
    rw [ea]
    repeat ((conv => whnf); first | (refine And.intro (by first | exact rfl | exact List.cons_ne_nil _ _ | exact True.intro | exact Nat.le_of_ble_eq_true rfl | decide | (simp; done) | omega) ?_) | (refine ⟨_, rfl, ?_⟩))
    rw [← am_zero ea] at hQ
    repeat ((conv => whnf); first | exact hQ | (refine And.intro (by first | exact hQ | exact rfl | exact List.cons_ne_nil _ _ | exact True.intro | exact Nat.le_of_ble_eq_true rfl | decide | (simp; done) | omega) ?_) | (refine ⟨_, rfl, ?_⟩))
  · rw [if_neg hb]
    rw [Bool.not_eq_true] at hb
    rw [hb, Bool.false_and] at hQ
    repeat ((conv => whnf); first | exact hQ | (refine And.intro (by first | exact hQ | exact rfl | exact List.cons_ne_nil _ _ | exact True.intro | exact Nat.le_of_ble_eq_true rfl | decide | (simp; done) | omega) ?_) | (refine ⟨_, rfl, ?_⟩))
theorem sp_serves (h : S_serves ws Q Y) : m_serves (store0 ["kinds", "kind", "one", "other"] ws) (fun x _ => Y x) (T0 Q) := by
  rcases h with ⟨ks, k, c, e, rfl, hks, hk, hc, he, hQ⟩ | ⟨ks, d, x, y, rfl, hks, hd, hQ⟩ | ⟨d, k, x, y, rfl, hd, hk, hQ⟩ | ⟨ks, k, c, x, rfl, hks, hk, hc, hx, hQ⟩
  rotate_left
  · repeat ((conv => whnf); first | (refine And.intro (by first | exact rfl | exact List.cons_ne_nil _ _ | exact True.intro | exact Nat.le_of_ble_eq_true rfl | decide | (simp; done) | omega) ?_) | (refine ⟨_, rfl, ?_⟩))
    exact .inr (.inl ⟨ks, d, x, y, rfl, hks, hd, hQ⟩)
  · repeat ((conv => whnf); first | (refine And.intro (by first | exact rfl | exact List.cons_ne_nil _ _ | exact True.intro | exact Nat.le_of_ble_eq_true rfl | decide | (simp; done) | omega) ?_) | (refine ⟨_, rfl, ?_⟩))
    exact .inr (.inr (.inl ⟨d, k, x, y, rfl, hd, hk, hQ⟩))
  · repeat ((conv => whnf); first | (refine And.intro (by first | exact rfl | exact List.cons_ne_nil _ _ | exact True.intro | exact Nat.le_of_ble_eq_true rfl | decide | (simp; done) | omega) ?_) | (refine ⟨_, rfl, ?_⟩))
    exact .inr (.inr (.inr ⟨ks, k, c, x, rfl, hks, hk, hc, hx, hQ⟩))
  repeat ((conv => whnf); first | (refine And.intro (by first | exact rfl | exact List.cons_ne_nil _ _ | exact True.intro | exact Nat.le_of_ble_eq_true rfl | decide | (simp; done) | omega) ?_) | (refine ⟨_, rfl, ?_⟩))
  refine .inl ⟨ks, k, c, e, rfl, hks, hk, hc, he, ?_⟩
  repeat ((conv => whnf); first | (refine And.intro (by first | exact rfl | exact List.cons_ne_nil _ _ | exact True.intro | exact Nat.le_of_ble_eq_true rfl | decide | (simp; done) | omega) ?_) | (refine ⟨_, rfl, ?_⟩))
  exact ⟨ks, k, c, e, rfl, hks, hk, hc, he, by repeat ((conv => whnf); first | exact hQ | (refine And.intro (by first | exact hQ | exact rfl | exact List.cons_ne_nil _ _ | exact True.intro | exact Nat.le_of_ble_eq_true rfl | decide | (simp; done) | omega) ?_) | (refine ⟨_, rfl, ?_⟩))⟩
theorem sp_shortfall (h : S_shortfall ws Q Y) : m_shortfall (store0 ["kinds", "kind", "one", "other"] ws) (fun x _ => Y x) (T0 Q) := by
  rcases h with ⟨ks, k, c, e, rfl, hks, hk, hc, he, hQ⟩ | ⟨ks, d, x, y, rfl, hks, hd, hQ⟩ | ⟨d, k, x, y, rfl, hd, hk, hQ⟩ | ⟨ks, k, c, x, rfl, hks, hk, hc, hx, hQ⟩
  rotate_left
  · repeat ((conv => whnf); first | (refine And.intro (by first | exact rfl | exact List.cons_ne_nil _ _ | exact True.intro | exact Nat.le_of_ble_eq_true rfl | decide | (simp; done) | omega) ?_) | (refine ⟨_, rfl, ?_⟩))
    exact .inr (.inl ⟨ks, d, x, y, rfl, hks, hd, hQ⟩)
  · repeat ((conv => whnf); first | (refine And.intro (by first | exact rfl | exact List.cons_ne_nil _ _ | exact True.intro | exact Nat.le_of_ble_eq_true rfl | decide | (simp; done) | omega) ?_) | (refine ⟨_, rfl, ?_⟩))
    exact .inr (.inr (.inl ⟨d, k, x, y, rfl, hd, hk, hQ⟩))
  · repeat ((conv => whnf); first | (refine And.intro (by first | exact rfl | exact List.cons_ne_nil _ _ | exact True.intro | exact Nat.le_of_ble_eq_true rfl | decide | (simp; done) | omega) ?_) | (refine ⟨_, rfl, ?_⟩))
    exact .inr (.inr (.inr ⟨ks, k, c, x, rfl, hks, hk, hc, hx, hQ⟩))
  repeat ((conv => whnf); first | (refine And.intro (by first | exact rfl | exact List.cons_ne_nil _ _ | exact True.intro | exact Nat.le_of_ble_eq_true rfl | decide | (simp; done) | omega) ?_) | (refine ⟨_, rfl, ?_⟩))
  refine .inl ⟨ks, k, c, e, rfl, hks, hk, hc, he, ?_⟩
  repeat ((conv => whnf); first | (refine And.intro (by first | exact rfl | exact List.cons_ne_nil _ _ | exact True.intro | exact Nat.le_of_ble_eq_true rfl | decide | (simp; done) | omega) ?_) | (refine ⟨_, rfl, ?_⟩))
  exact ⟨ks, k, c, e, rfl, hks, hk, hc, he, by repeat ((conv => whnf); first | exact hQ | (refine And.intro (by first | exact hQ | exact rfl | exact List.cons_ne_nil _ _ | exact True.intro | exact Nat.le_of_ble_eq_true rfl | decide | (simp; done) | omega) ?_) | (refine ⟨_, rfl, ?_⟩))⟩
theorem sp_both_serve (h : S_both_serve ws Q Y) : m_both_serve (store0 ["kinds", "kind", "one", "other", "paid", "mine", "its", "ins", "card", "each", "a", "b"] ws) (fun x _ => Y x) (T0 Q) := by
  rcases h with ⟨ks, k, c, e, rfl, hks, hk, hc, he, hQ⟩ | ⟨ks, d, x, y, rfl, hks, hd, hQ⟩ | ⟨d, k, x, y, rfl, hd, hk, hQ⟩ | ⟨ks, k, c, x, rfl, hks, hk, hc, hx, hQ⟩
  rotate_left
  · repeat ((conv => whnf); first | (refine And.intro (by first | exact rfl | exact List.cons_ne_nil _ _ | exact True.intro | exact Nat.le_of_ble_eq_true rfl | decide | (simp; done) | omega) ?_) | (refine ⟨_, rfl, ?_⟩))
    exact .inr (.inl ⟨ks, d, x, y, rfl, hks, hd, hQ⟩)
  · repeat ((conv => whnf); first | (refine And.intro (by first | exact rfl | exact List.cons_ne_nil _ _ | exact True.intro | exact Nat.le_of_ble_eq_true rfl | decide | (simp; done) | omega) ?_) | (refine ⟨_, rfl, ?_⟩))
    exact .inr (.inr (.inl ⟨d, k, x, y, rfl, hd, hk, hQ⟩))
  · repeat ((conv => whnf); first | (refine And.intro (by first | exact rfl | exact List.cons_ne_nil _ _ | exact True.intro | exact Nat.le_of_ble_eq_true rfl | decide | (simp; done) | omega) ?_) | (refine ⟨_, rfl, ?_⟩))
    exact .inr (.inr (.inr ⟨ks, k, c, x, rfl, hks, hk, hc, hx, hQ⟩))
  repeat ((conv => whnf); first | (refine And.intro (by first | exact rfl | exact List.cons_ne_nil _ _ | exact True.intro | exact Nat.le_of_ble_eq_true rfl | decide | (simp; done) | omega) ?_) | (refine ⟨_, rfl, ?_⟩))
  refine .inl ⟨ks, k, c, e, rfl, hks, hk, hc, he, ?_⟩
  have hl4 := hks.1
  have l1 := fit_len hc.ins
  have l2 := fit_len he.ins
  obtain ⟨p1, p2⟩ := hc.paid
  obtain ⟨p3, p4⟩ := he.paid
  obtain ⟨p5, p6⟩ := hc.left
  obtain ⟨p7, p8⟩ := he.left
  repeat ((conv => whnf); first | (refine And.intro (by first | exact rfl | exact List.cons_ne_nil _ _ | exact True.intro | exact Nat.le_of_ble_eq_true rfl | decide | (simp; done) | omega) ?_) | (refine ⟨_, rfl, ?_⟩))
  refine ⟨c.paid, e.paid, rfl, sm2_bd hc.paid, sm2_bd he.paid, ?_⟩
  repeat ((conv => whnf); first | (refine And.intro (by first | exact rfl | exact List.cons_ne_nil _ _ | exact True.intro | exact Nat.le_of_ble_eq_true rfl | decide | (simp; done) | omega) ?_) | (refine ⟨_, rfl, ?_⟩))
  refine ⟨max c.paid e.paid, c.paid, rfl, by unfold bd9; omega, sm2_bd hc.paid, ?_⟩
  repeat ((conv => whnf); first | (refine And.intro (by first | exact rfl | exact List.cons_ne_nil _ _ | exact True.intro | exact Nat.le_of_ble_eq_true rfl | decide | (simp; done) | omega) ?_) | (refine ⟨_, rfl, ?_⟩))
  refine ⟨c.left, max c.paid e.paid - c.paid, rfl, sm2_bd hc.left, by unfold bd9; omega, ?_⟩
  repeat ((conv => whnf); first | (refine And.intro (by first | exact rfl | exact List.cons_ne_nil _ _ | exact True.intro | exact Nat.le_of_ble_eq_true rfl | decide | (simp; done) | omega) ?_) | (refine ⟨_, rfl, ?_⟩))
  refine ⟨max c.paid e.paid, e.paid, rfl, by unfold bd9; omega, sm2_bd he.paid, ?_⟩
  repeat ((conv => whnf); first | (refine And.intro (by first | exact rfl | exact List.cons_ne_nil _ _ | exact True.intro | exact Nat.le_of_ble_eq_true rfl | decide | (simp; done) | omega) ?_) | (refine ⟨_, rfl, ?_⟩))
  refine ⟨e.left, max c.paid e.paid - e.paid, rfl, sm2_bd he.left, by unfold bd9; omega, ?_⟩
  repeat ((conv => whnf); first | (refine And.intro (by first | exact rfl | exact List.cons_ne_nil _ _ | exact True.intro | exact Nat.le_of_ble_eq_true rfl | decide | (simp; done) | omega) ?_) | (refine ⟨_, rfl, ?_⟩))
  refine And.intro (by simp; omega) (And.intro (by simp; omega) ?_)
  conv => whnf
  refine And.intro (by rw [zip3K]; simp; omega) (And.intro rfl ?_)
  rw [zip3K]
  refine lc_of _ (fun p : Kd × Rc × Rc => (Rc.zip max p.2.1 p.2.2).d) (fun p hp K hK => ?_) ?_
  · obtain ⟨f1, f2⟩ := fit3 hc.ins he.ins p hp
    repeat ((conv => whnf); first | (refine And.intro (by first | exact rfl | exact List.cons_ne_nil _ _ | exact True.intro | exact Nat.le_of_ble_eq_true rfl | decide | (simp; done) | omega) ?_) | (refine ⟨_, rfl, ?_⟩))
    exact ⟨p.1, p.2.1, p.2.2, rfl, hks.2 _ (mem3 hp), f1, f2, by repeat ((conv => whnf); first | exact hK | (refine And.intro (by first | exact hK | exact rfl | exact List.cons_ne_nil _ _ | exact True.intro | exact Nat.le_of_ble_eq_true rfl | decide | (simp; done) | omega) ?_) | (refine ⟨_, rfl, ?_⟩))⟩
  · rw [List.nil_append, map3 (fun a b => (Rc.zip max a b).d) hc.ins he.ins]
    have em : List.zipWith (fun a b => (Rc.zip max a b).d) c.ins e.ins = (both c e).ins.map Rc.d := by
      unfold both
      rw [List.map_zipWith]
    rw [em]
    repeat ((conv => whnf); first | (refine And.intro (by first | exact rfl | exact List.cons_ne_nil _ _ | exact True.intro | exact Nat.le_of_ble_eq_true rfl | decide | (simp; done) | omega) ?_) | (refine ⟨_, rfl, ?_⟩))
    refine ⟨k, c.out, e.out, rfl, hk, hc.out, he.out, ?_⟩
    repeat ((conv => whnf); first | (refine And.intro (by first | exact rfl | exact List.cons_ne_nil _ _ | exact True.intro | exact Nat.le_of_ble_eq_true rfl | decide | (simp; done) | omega) ?_) | (refine ⟨_, rfl, ?_⟩))
    exact ⟨c.left + (max c.paid e.paid - c.paid), e.left + (max c.paid e.paid - e.paid), rfl, by unfold bd9; omega, by unfold bd9; omega, by repeat ((conv => whnf); first | exact hQ | (refine And.intro (by first | exact hQ | exact rfl | exact List.cons_ne_nil _ _ | exact True.intro | exact Nat.le_of_ble_eq_true rfl | decide | (simp; done) | omega) ?_) | (refine ⟨_, rfl, ?_⟩))⟩
end
end K48

namespace K48
open PySem PySem.Spec PyProof.Rows L2 PL
variable [Hand]
section
variable {ws : List W} {Q : D → Prop} {Y : Str → Prop} {n : Nat}
theorem sp_raw_serving (h : S_raw_serving ws Q Y) : m_raw_serving (store0 ["kinds", "kind", "cards", "card", "number", "one"] ws) (fun x _ => Y x) (T0 Q) := by
  obtain ⟨ks, k, cs, e, rfl, hks, hk, hl, hc, he, hQ⟩ := h
  repeat ((conv => whnf); first | (refine And.intro (by first | exact rfl | exact List.cons_ne_nil _ _ | exact True.intro | exact Nat.le_of_ble_eq_true rfl | decide | (simp; done) | omega) ?_) | (refine ⟨_, rfl, ?_⟩))
  have hlen : (enumD (cs.map Cd.d)).length = cs.length := by
    unfold enumD
    simp
  refine ⟨fun i ρ => first e cs 0 = first e (cs.drop i) i ∧ ∃ o1 o2, ρ = [some (v (ksD ks)), some (v k.d), some (v (cards cs)), some (v e.d), o1, o2], ⟨rfl, _, _, rfl⟩, ?_, ?_⟩
  · rintro i d ρ2 hi ⟨hf, o1, o2, rfl⟩
    obtain ⟨x, hx, rfl⟩ := enumD_get hi
    rw [List.getElem?_map] at hx
    cases hcs : cs[i]? with
    | none =>
      rw [hcs] at hx
      cases hx
    | some c =>
      rw [hcs] at hx
      cases hx
      have hlt : i < cs.length := (List.getElem?_eq_some_iff.mp hcs).1
      have hci : cs[i] = c := (List.getElem?_eq_some_iff.mp hcs).2
      have hd : cs.drop i = c :: cs.drop (i + 1) := by rw [List.drop_eq_getElem_cons hlt, hci]
      repeat ((conv => whnf); first | (refine And.intro (by first | exact rfl | exact List.cons_ne_nil _ _ | exact True.intro | exact Nat.le_of_ble_eq_true rfl | decide | (simp; done) | omega) ?_) | (refine ⟨_, rfl, ?_⟩))
      refine ⟨ks, k, c, e, rfl, hks, hk, hc c (List.mem_of_getElem? hcs), he, ?_⟩
      conv => whnf
      rw [hd] at hf
      rw [show first e (c :: cs.drop (i + 1)) i = if srv c e = true then .int i else first e (cs.drop (i + 1)) (i + 1) from rfl] at hf
      by_cases hb : srv c e = true
      · rw [if_pos hb] at hf
        refine iteT hb ?_
        rw [hf] at hQ
        repeat ((conv => whnf); first | exact hQ | (refine And.intro (by first | exact hQ | exact rfl | exact List.cons_ne_nil _ _ | exact True.intro | exact Nat.le_of_ble_eq_true rfl | decide | (simp; done) | omega) ?_) | (refine ⟨_, rfl, ?_⟩))
      · rw [if_neg hb] at hf
        refine iteF (Bool.not_eq_true _ ▸ hb) ?_
        repeat ((conv => whnf); first | (refine And.intro (by first | exact rfl | exact List.cons_ne_nil _ _ | exact True.intro | exact Nat.le_of_ble_eq_true rfl | decide | (simp; done) | omega) ?_) | (refine ⟨_, rfl, ?_⟩))
        exact ⟨_, _, rfl⟩
  · rintro ρ2 ⟨hf, o1, o2, rfl⟩
    rw [hlen, List.drop_length] at hf
    have hf : first e cs 0 = .non := hf
    rw [hf] at hQ
    repeat ((conv => whnf); first | exact hQ | (refine And.intro (by first | exact hQ | exact rfl | exact List.cons_ne_nil _ _ | exact True.intro | exact Nat.le_of_ble_eq_true rfl | decide | (simp; done) | omega) ?_) | (refine ⟨_, rfl, ?_⟩))
theorem sp_serving (h : S_serving ws Q Y) : m_serving (store0 ["kinds", "kind", "cards", "card"] ws) (fun x _ => Y x) (T0 Q) := by
  obtain ⟨ks, k, ds, x, rfl, hks, hk, h⟩ := h
  rcases h with ⟨cs, e, rfl, rfl, hl, hc, he, hQ⟩ | ⟨hl, hQ⟩ | ⟨c, y, rfl, hc, hy, hQ⟩ | ⟨c, rfl, hc, hx, hQ⟩
  · repeat ((conv => whnf); first | (refine And.intro (by first | exact rfl | exact List.cons_ne_nil _ _ | exact True.intro | exact Nat.le_of_ble_eq_true rfl | decide | (simp; done) | omega) ?_) | (refine ⟨_, rfl, ?_⟩))
    refine .inl ⟨ks, k, rfl, hks, hk, ?_⟩
    repeat ((conv => whnf); first | (refine And.intro (by first | exact rfl | exact List.cons_ne_nil _ _ | exact True.intro | exact Nat.le_of_ble_eq_true rfl | decide | (simp; done) | omega) ?_) | (refine ⟨_, rfl, ?_⟩))
    refine ⟨ks, k, _, rfl, hks, hk, .inl ⟨cs, rfl, hl, hc, ?_⟩⟩
    repeat ((conv => whnf); first | (refine And.intro (by first | exact rfl | exact List.cons_ne_nil _ _ | exact True.intro | exact Nat.le_of_ble_eq_true rfl | decide | (simp; done) | omega) ?_) | (refine ⟨_, rfl, ?_⟩))
    refine ⟨ks, k, _, rfl, hks, hk, .inl ⟨e, rfl, he, ?_⟩⟩
    repeat ((conv => whnf); first | (refine And.intro (by first | exact rfl | exact List.cons_ne_nil _ _ | exact True.intro | exact Nat.le_of_ble_eq_true rfl | decide | (simp; done) | omega) ?_) | (refine ⟨_, rfl, ?_⟩))
    exact ⟨ks, k, cs, e, rfl, hks, hk, hl, hc, he, by repeat ((conv => whnf); first | exact hQ | (refine And.intro (by first | exact hQ | exact rfl | exact List.cons_ne_nil _ _ | exact True.intro | exact Nat.le_of_ble_eq_true rfl | decide | (simp; done) | omega) ?_) | (refine ⟨_, rfl, ?_⟩))⟩
  · repeat ((conv => whnf); first | (refine And.intro (by first | exact rfl | exact List.cons_ne_nil _ _ | exact True.intro | exact Nat.le_of_ble_eq_true rfl | decide | (simp; done) | omega) ?_) | (refine ⟨_, rfl, ?_⟩))
    refine .inl ⟨ks, k, rfl, hks, hk, ?_⟩
    repeat ((conv => whnf); first | (refine And.intro (by first | exact rfl | exact List.cons_ne_nil _ _ | exact True.intro | exact Nat.le_of_ble_eq_true rfl | decide | (simp; done) | omega) ?_) | (refine ⟨_, rfl, ?_⟩))
    exact ⟨ks, k, _, rfl, hks, hk, .inr (.inl ⟨hl, by repeat ((conv => whnf); first | exact hQ | (refine And.intro (by first | exact hQ | exact rfl | exact List.cons_ne_nil _ _ | exact True.intro | exact Nat.le_of_ble_eq_true rfl | decide | (simp; done) | omega) ?_) | (refine ⟨_, rfl, ?_⟩))⟩)⟩
  · repeat ((conv => whnf); first | (refine And.intro (by first | exact rfl | exact List.cons_ne_nil _ _ | exact True.intro | exact Nat.le_of_ble_eq_true rfl | decide | (simp; done) | omega) ?_) | (refine ⟨_, rfl, ?_⟩))
    refine .inl ⟨ks, k, rfl, hks, hk, ?_⟩
    repeat ((conv => whnf); first | (refine And.intro (by first | exact rfl | exact List.cons_ne_nil _ _ | exact True.intro | exact Nat.le_of_ble_eq_true rfl | decide | (simp; done) | omega) ?_) | (refine ⟨_, rfl, ?_⟩))
    exact ⟨ks, k, _, rfl, hks, hk, .inr (.inr ⟨c, y, rfl, hc, hy, by repeat ((conv => whnf); first | exact hQ | (refine And.intro (by first | exact hQ | exact rfl | exact List.cons_ne_nil _ _ | exact True.intro | exact Nat.le_of_ble_eq_true rfl | decide | (simp; done) | omega) ?_) | (refine ⟨_, rfl, ?_⟩))⟩)⟩
  · repeat ((conv => whnf); first | (refine And.intro (by first | exact rfl | exact List.cons_ne_nil _ _ | exact True.intro | exact Nat.le_of_ble_eq_true rfl | decide | (simp; done) | omega) ?_) | (refine ⟨_, rfl, ?_⟩))
    refine .inl ⟨ks, k, rfl, hks, hk, ?_⟩
    repeat ((conv => whnf); first | (refine And.intro (by first | exact rfl | exact List.cons_ne_nil _ _ | exact True.intro | exact Nat.le_of_ble_eq_true rfl | decide | (simp; done) | omega) ?_) | (refine ⟨_, rfl, ?_⟩))
    refine ⟨ks, k, _, rfl, hks, hk, .inl ⟨[c], rfl, by simp, fun c' h => by rcases List.mem_singleton.mp h with rfl; exact hc, ?_⟩⟩
    repeat ((conv => whnf); first | (refine And.intro (by first | exact rfl | exact List.cons_ne_nil _ _ | exact True.intro | exact Nat.le_of_ble_eq_true rfl | decide | (simp; done) | omega) ?_) | (refine ⟨_, rfl, ?_⟩))
    exact ⟨ks, k, _, rfl, hks, hk, .inr ⟨hx, by repeat ((conv => whnf); first | exact hQ | (refine And.intro (by first | exact hQ | exact rfl | exact List.cons_ne_nil _ _ | exact True.intro | exact Nat.le_of_ble_eq_true rfl | decide | (simp; done) | omega) ?_) | (refine ⟨_, rfl, ?_⟩))⟩⟩
/-! ### the law's own -/
theorem low2_halves {z : Int} : ∃ a b, am z = fr a b ∧ 0 < b ∧ a * 2 = z * b ∧ b ≤ 2 ∧ a.natAbs ≤ z.natAbs := by
  obtain ⟨s, a, b, hs, e1, e2, hb, hg, e, n1, n2⟩ := low_spec (a := z) (b := 2) (by decide)
  refine ⟨a, b, e, hb, ?_, by omega, n1⟩
  rw [e1, e2]
  simp only [Int.mul_comm, Int.mul_left_comm, Int.mul_assoc]
theorem sp__law_any (h : S__law_any ws Q Y) : m__law_any (store0 ["hand", "some"] ws) (fun x _ => Y x) (T0 Q) := by
  obtain ⟨ds, rfl, h0, hl, hQ⟩ := h
  repeat ((conv => whnf); first | (refine And.intro (by first | exact rfl | exact List.cons_ne_nil _ _ | exact True.intro | exact Nat.le_of_ble_eq_true rfl | decide | (simp; done) | omega) ?_) | (refine ⟨_, rfl, ?_⟩))
  have hp : 0 < ds.length := List.length_pos_iff.mpr h0
  refine And.intro (by omega) (And.intro (by omega) fun i i0 i1 => ?_)
  obtain ⟨j, rfl⟩ := Int.eq_ofNat_of_zero_le i0
  have hj : j < ds.length := by omega
  have e : atI ds (j : Int) = some ds[j] := by
    unfold atI ixN
    simp [hj]
  conv => whnf
  rw [e]
  have hQ := hQ ds[j] (List.getElem_mem hj)
  repeat ((conv => whnf); first | exact hQ | (refine And.intro (by first | exact hQ | exact rfl | exact List.cons_ne_nil _ _ | exact True.intro | exact Nat.le_of_ble_eq_true rfl | decide | (simp; done) | omega) ?_) | (refine ⟨_, rfl, ?_⟩))
theorem sp__law_is (h : S__law_is ws Q Y) : m__law_is (store0 ["one", "other"] ws) (fun x _ => Y x) (T0 Q) := by
  obtain ⟨d, p, rfl, hp, hQ⟩ := h
  have h1 := hp.1
  repeat ((conv => whnf); first | (refine And.intro (by first | exact rfl | exact List.cons_ne_nil _ _ | exact True.intro | exact Nat.le_of_ble_eq_true rfl | decide | (simp; done) | omega) ?_) | (refine ⟨_, rfl, ?_⟩))
  conv => whnf
  rw [h1]
  refine And.intro hp ?_
  conv => whnf
  rw [h1]
  refine And.intro hp ?_
  repeat ((conv => whnf); first | (refine And.intro (by first | exact rfl | exact List.cons_ne_nil _ _ | exact True.intro | exact Nat.le_of_ble_eq_true rfl | decide | (simp; done) | omega) ?_) | (refine ⟨_, rfl, ?_⟩))
  have e : decide (V.str (PyData.shown p) = V.str (PyData.shown p)) = true := decide_eq_true rfl
  rw [← e] at hQ
  repeat ((conv => whnf); first | exact hQ | (refine And.intro (by first | exact hQ | exact rfl | exact List.cons_ne_nil _ _ | exact True.intro | exact Nat.le_of_ble_eq_true rfl | decide | (simp; done) | omega) ?_) | (refine ⟨_, rfl, ?_⟩))
theorem bd9_bd {z : Int} (h : bd9 z) : Bd 100 z := by
  unfold bd9 at h
  have : (10000000 : Nat) < 2 ^ 100 := by decide
  unfold Bd
  omega
theorem am_even {z : Int} (h : z = 2 * z.fdiv 2) : am z = fr (z.fdiv 2) 1 := by
  unfold am
  rw [low_eq (c := z.fdiv 2) (d := 1) (by decide) (by decide) (by omega)]
  exact low_of (by decide) (by simp [gcdI])
theorem am_odd {z : Int} (h : z ≠ 2 * z.fdiv 2) : am z = fr z 2 := by
  refine low_of (by decide) ?_
  have h1 : (Int.gcd z 2 : Int) ∣ 2 := Int.gcd_dvd_right z 2
  have h2 : (Int.gcd z 2 : Int) ∣ z := Int.gcd_dvd_left z 2
  have h3 : Int.gcd z 2 ≤ 2 := by
    have := Int.le_of_dvd (by decide) h1
    omega
  have h4 : 0 < Int.gcd z 2 := Nat.pos_of_ne_zero fun q => absurd (Int.gcd_eq_zero_iff.mp q).2 (by decide)
  unfold gcdI
  rcases (by omega : Int.gcd z 2 = 1 ∨ Int.gcd z 2 = 2) with h5 | h5
  · rw [h5]
    rfl
  · exfalso
    rw [h5] at h2
    obtain ⟨q, hq⟩ := h2
    refine h ?_
    have : z.fdiv 2 = q := by
      rw [hq]
      exact Int.mul_fdiv_cancel_left q (by decide)
    rw [this]
    exact hq
theorem sp__law_amount (h : S__law_amount ws Q Y) : m__law_amount (store0 ["two"] ws) (fun x _ => Y x) (T0 Q) := by
  obtain ⟨z, rfl, hz, hQ⟩ := h
  have hd : CDivG z 2 := ⟨by decide, by decide⟩
  have b1 := bd9_bd hz
  have b2 : Bd 100 (z.fdiv 2) := by
    rw [Int.fdiv_eq_ediv_of_nonneg z (by decide)]
    unfold Bd at *
    omega
  have hm : CMulW 2 (z.fdiv 2) := Bd.cmul (m := 100) (n := 100) (by unfold Bd; decide) b2 (by decide) (by decide) (by decide)
  repeat ((conv => whnf); first | exact hd | exact hm | (refine And.intro (by first | exact hd | exact hm | exact rfl | exact List.cons_ne_nil _ _ | exact True.intro | exact Nat.le_of_ble_eq_true rfl | decide | (simp; done) | omega) ?_) | (refine ⟨_, rfl, ?_⟩))
  conv => whnf
  by_cases h : z = 2 * z.fdiv 2
  · refine iteT (decide_eq_true (congrArg V.int h)) ?_
    rw [am_even h] at hQ
    repeat ((conv => whnf); first | exact hd | exact hQ | (refine And.intro (by first | exact hd | exact hQ | exact rfl | exact List.cons_ne_nil _ _ | exact True.intro | exact Nat.le_of_ble_eq_true rfl | decide | (simp; done) | omega) ?_) | (refine ⟨_, rfl, ?_⟩))
  · refine iteF (decide_eq_false fun q => h (V.int.inj q)) ?_
    rw [am_odd h] at hQ
    repeat ((conv => whnf); first | exact hd | exact hQ | (refine And.intro (by first | exact hd | exact hQ | exact rfl | exact List.cons_ne_nil _ _ | exact True.intro | exact Nat.le_of_ble_eq_true rfl | decide | (simp; done) | omega) ?_) | (refine ⟨_, rfl, ?_⟩))
theorem sp__law_halves (h : S__law_halves ws Q Y) : m__law_halves (store0 ["amount"] ws) (fun x _ => Y x) (T0 Q) := by
  obtain ⟨z, rfl, hz, hQ⟩ := h
  obtain ⟨a, b, e, hb, hab, hb2, ha⟩ := low2_halves (z := z)
  rw [e]
  have hm : CMulW 2 a := Bd.cmul (m := 100) (n := 100) (by unfold Bd; decide) (by
    have := bd9_bd hz
    unfold Bd at *
    omega) (by decide) (by decide) (by decide)
  have hd : CDivG (2 * a) b := by
    rcases (by omega : b = 1 ∨ b = 2) with rfl | rfl
    · exact ⟨by decide, by decide⟩
    · exact ⟨by decide, by decide⟩
  have e2 : (2 * a).fdiv b = z := by
    rw [Int.mul_comm 2 a, hab]
    exact Int.mul_fdiv_cancel z (by omega)
  rw [← e2] at hQ
  repeat ((conv => whnf); first | exact hm | exact hd | exact hQ | (refine And.intro (by first | exact hm | exact hd | exact hQ | exact rfl | exact List.cons_ne_nil _ _ | exact True.intro | exact Nat.le_of_ble_eq_true rfl | decide | (simp; done) | omega) ?_) | (refine ⟨_, rfl, ?_⟩))
end
end K48

namespace K48
open PySem PySem.Spec PyProof.Rows L2 PL
variable [Hand]
section
variable {ws : List W} {Q : D → Prop} {Y : Str → Prop} {n : Nat}
def kp : Kd → PyData
  | .int => .str "int"
  | .flag => .str "flag"
  | .list k => .tuple [.str "list", kp k]
  | .tree k => .tuple [.str "tree", kp k]
  | .pair a b => .tuple [.str "pair", kp a, kp b]
  | .either a b => .tuple [.str "either", kp a, kp b]
theorem kd_py : ∀ k : Kd, k.d.py = some (kp k)
  | .int | .flag => rfl
  | .list k | .tree k => by
    show (match (match (some (.str _) : Option PyData), (match k.d.py, (some [] : Option (List PyData)) with | some p, some ps => some (p :: ps) | _, _ => none) with | some p, some ps => some (p :: ps) | _, _ => none) with | some ps => some (PyData.tuple ps) | none => none) = _
    rw [kd_py k]
    rfl
  | .pair a b | .either a b => by
    show (match (match (some (.str _) : Option PyData), (match a.d.py, (match b.d.py, (some [] : Option (List PyData)) with | some p, some ps => some (p :: ps) | _, _ => none) with | some p, some ps => some (p :: ps) | _, _ => none) with | some p, some ps => some (p :: ps) | _, _ => none) with | some ps => some (PyData.tuple ps) | none => none) = _
    rw [kd_py a, kd_py b]
    rfl
theorem kp_lay : ∀ k : Kd, (kp k).canLay0 = true ∧ (kp k).depth ≤ k.ht
  | .int | .flag => ⟨by decide +kernel, Nat.le_refl _⟩
  | .list k | .tree k => by
    obtain ⟨h1, h2⟩ := kp_lay k
    unfold kp Kd.ht
    simp only [PyData.canLay0, PyData.canLayAll0, PyData.depth, PyData.depthAll, h1]
    exact ⟨by decide +kernel, by omega⟩
  | .pair a b | .either a b => by
    obtain ⟨h1, h2⟩ := kp_lay a
    obtain ⟨h3, h4⟩ := kp_lay b
    unfold kp Kd.ht
    simp only [PyData.canLay0, PyData.canLayAll0, PyData.depth, PyData.depthAll, h1, h3]
    exact ⟨by decide +kernel, by omega⟩
theorem kp_shaped {k : Kd} (h : k.ht ≤ 2) : SeqAt.shaped (kp k) = true := by
  obtain ⟨h1, h2⟩ := kp_lay k
  unfold SeqAt.shaped
  rw [h1, decide_eq_true (by omega)]
  rfl
theorem words_shaped : SeqAt.shaped (.tuple [.str "int", .str "flag"]) = true := by decide +kernel
theorem sp__law_kind (h : S__law_kind (n + 1) ws Q Y) : m__law_kind (S__law_kind n) (store0 ["hand", "height", "word"] ws) (fun x _ => Y x) (T0 Q) := by
  obtain ⟨h, rfl, hn, hQ⟩ := h
  repeat ((conv => whnf); first | (refine And.intro (by first | exact rfl | exact List.cons_ne_nil _ _ | exact True.intro | exact Nat.le_of_ble_eq_true rfl | decide | (simp; done) | omega) ?_) | (refine ⟨_, rfl, ?_⟩))
  intro d hd
  simp only [List.mem_cons, List.not_mem_nil, or_false] at hd
  cases h with
  | zero =>
    have q1 : Q (.str "int") := hQ .int (Nat.le_refl _)
    have q2 : Q (.str "flag") := hQ .flag (Nat.le_refl _)
    rcases hd with rfl | rfl | rfl | rfl | rfl | rfl <;> repeat ((conv => whnf); first | exact q1 | exact q2 | (refine And.intro (by first | exact q1 | exact q2 | exact rfl | exact List.cons_ne_nil _ _ | exact True.intro | exact Nat.le_of_ble_eq_true rfl | decide | (simp; done) | omega) ?_) | (refine ⟨_, rfl, ?_⟩))
  | succ h =>
    have q1 : Q (.str "int") := hQ .int (Nat.zero_le _)
    have q2 : Q (.str "flag") := hQ .flag (Nat.zero_le _)
    rcases hd with rfl | rfl | rfl | rfl | rfl | rfl
    · repeat ((conv => whnf); first | exact q1 | (refine And.intro (by first | exact q1 | exact rfl | exact List.cons_ne_nil _ _ | exact True.intro | exact Nat.le_of_ble_eq_true rfl | decide | (simp; done) | omega) ?_) | (refine ⟨_, rfl, ?_⟩))
    · repeat ((conv => whnf); first | exact q2 | (refine And.intro (by first | exact q2 | exact rfl | exact List.cons_ne_nil _ _ | exact True.intro | exact Nat.le_of_ble_eq_true rfl | decide | (simp; done) | omega) ?_) | (refine ⟨_, rfl, ?_⟩))
    · repeat ((conv => whnf); first | (refine And.intro (by first | exact rfl | exact List.cons_ne_nil _ _ | exact True.intro | exact Nat.le_of_ble_eq_true rfl | decide | (simp; done) | omega) ?_) | (refine ⟨_, rfl, ?_⟩))
      refine ⟨h, by rw [show ((h + 1 : Nat) : Int) - 1 = (h : Int) by omega]; rfl, by omega, fun k hk => ?_⟩
      have hQ : Q (Kd.list k).d := hQ _ (by unfold Kd.ht; omega)
      repeat ((conv => whnf); first | exact hQ | (refine And.intro (by first | exact hQ | exact rfl | exact List.cons_ne_nil _ _ | exact True.intro | exact Nat.le_of_ble_eq_true rfl | decide | (simp; done) | omega) ?_) | (refine ⟨_, rfl, ?_⟩))
    · repeat ((conv => whnf); first | (refine And.intro (by first | exact rfl | exact List.cons_ne_nil _ _ | exact True.intro | exact Nat.le_of_ble_eq_true rfl | decide | (simp; done) | omega) ?_) | (refine ⟨_, rfl, ?_⟩))
      refine ⟨h, by rw [show ((h + 1 : Nat) : Int) - 1 = (h : Int) by omega]; rfl, by omega, fun k hk => ?_⟩
      have hQ : Q (Kd.tree k).d := hQ _ (by unfold Kd.ht; omega)
      repeat ((conv => whnf); first | exact hQ | (refine And.intro (by first | exact hQ | exact rfl | exact List.cons_ne_nil _ _ | exact True.intro | exact Nat.le_of_ble_eq_true rfl | decide | (simp; done) | omega) ?_) | (refine ⟨_, rfl, ?_⟩))
    · repeat ((conv => whnf); first | (refine And.intro (by first | exact rfl | exact List.cons_ne_nil _ _ | exact True.intro | exact Nat.le_of_ble_eq_true rfl | decide | (simp; done) | omega) ?_) | (refine ⟨_, rfl, ?_⟩))
      refine ⟨h, by rw [show ((h + 1 : Nat) : Int) - 1 = (h : Int) by omega]; rfl, by omega, fun k hk => ?_⟩
      repeat ((conv => whnf); first | (refine And.intro (by first | exact rfl | exact List.cons_ne_nil _ _ | exact True.intro | exact Nat.le_of_ble_eq_true rfl | decide | (simp; done) | omega) ?_) | (refine ⟨_, rfl, ?_⟩))
      refine ⟨h, by rw [show ((h + 1 : Nat) : Int) - 1 = (h : Int) by omega]; rfl, by omega, fun k2 hk2 => ?_⟩
      have hQ : Q (Kd.pair k k2).d := hQ _ (by unfold Kd.ht; omega)
      repeat ((conv => whnf); first | exact hQ | (refine And.intro (by first | exact hQ | exact rfl | exact List.cons_ne_nil _ _ | exact True.intro | exact Nat.le_of_ble_eq_true rfl | decide | (simp; done) | omega) ?_) | (refine ⟨_, rfl, ?_⟩))
    · repeat ((conv => whnf); first | (refine And.intro (by first | exact rfl | exact List.cons_ne_nil _ _ | exact True.intro | exact Nat.le_of_ble_eq_true rfl | decide | (simp; done) | omega) ?_) | (refine ⟨_, rfl, ?_⟩))
      refine ⟨h, by rw [show ((h + 1 : Nat) : Int) - 1 = (h : Int) by omega]; rfl, by omega, fun k hk => ?_⟩
      repeat ((conv => whnf); first | (refine And.intro (by first | exact rfl | exact List.cons_ne_nil _ _ | exact True.intro | exact Nat.le_of_ble_eq_true rfl | decide | (simp; done) | omega) ?_) | (refine ⟨_, rfl, ?_⟩))
      refine ⟨h, by rw [show ((h + 1 : Nat) : Int) - 1 = (h : Int) by omega]; rfl, by omega, fun k2 hk2 => ?_⟩
      have hQ : Q (Kd.either k k2).d := hQ _ (by unfold Kd.ht; omega)
      repeat ((conv => whnf); first | exact hQ | (refine And.intro (by first | exact hQ | exact rfl | exact List.cons_ne_nil _ _ | exact True.intro | exact Nat.le_of_ble_eq_true rfl | decide | (simp; done) | omega) ?_) | (refine ⟨_, rfl, ?_⟩))
theorem sp__law_rich (hn : n ≤ 2) (h : S__law_rich (n + 1) ws Q Y) : m__law_rich (S__law_rich n) (store0 ["hand", "kind", "one"] ws) (fun x _ => Y x) (T0 Q) := by
  obtain ⟨k, rfl, hk, hQ⟩ := h
  have hs := kp_shaped (k := k) (by omega)
  have wsh := words_shaped
  match k, hk, hs, hQ with
  | .int, _, hs, hQ =>
    have hQ : Q (.tup []) := hQ .leaf True.intro
    repeat ((conv => whnf); first | exact hQ | exact hs | exact wsh | (refine And.intro (by first | exact hQ | exact hs | exact wsh | exact rfl | exact List.cons_ne_nil _ _ | exact True.intro | exact Nat.le_of_ble_eq_true rfl | decide | (simp; done) | omega) ?_) | (refine ⟨_, rfl, ?_⟩))
  | .flag, _, hs, hQ =>
    have hQ : Q (.tup []) := hQ .leaf True.intro
    repeat ((conv => whnf); first | exact hQ | exact hs | exact wsh | (refine And.intro (by first | exact hQ | exact hs | exact wsh | exact rfl | exact List.cons_ne_nil _ _ | exact True.intro | exact Nat.le_of_ble_eq_true rfl | decide | (simp; done) | omega) ?_) | (refine ⟨_, rfl, ?_⟩))
  | .list k, hk, hs, hQ =>
    have hp := kd_py (Kd.list k)
    have hk1 : k.ht < n := by unfold Kd.ht at hk; omega
    repeat ((conv => whnf); first | exact hs | exact wsh | (refine And.intro (by first | exact hs | exact wsh | exact rfl | exact List.cons_ne_nil _ _ | exact True.intro | exact Nat.le_of_ble_eq_true rfl | decide | (simp; done) | omega) ?_) | (refine ⟨_, rfl, ?_⟩))
    conv => whnf
    rw [hp]
    repeat ((conv => whnf); first | exact hs | exact wsh | (refine And.intro (by first | exact hs | exact wsh | exact rfl | exact List.cons_ne_nil _ _ | exact True.intro | exact Nat.le_of_ble_eq_true rfl | decide | (simp; done) | omega) ?_) | (refine ⟨_, rfl, ?_⟩))
    intro i i0 i1
    have b : bd9 i := by unfold bd9; omega
    repeat ((conv => whnf); first | exact b | exact hk1 | (refine And.intro (by first | exact b | exact hk1 | exact rfl | exact List.cons_ne_nil _ _ | exact True.intro | exact Nat.le_of_ble_eq_true rfl | decide | (simp; done) | omega) ?_) | (refine ⟨_, rfl, ?_⟩))
    intro r hr
    have hQ : Q (Rc.one i r).d := hQ (.one i r) ⟨⟨i0, by omega⟩, hr⟩
    repeat ((conv => whnf); first | exact hQ | (refine And.intro (by first | exact hQ | exact rfl | exact List.cons_ne_nil _ _ | exact True.intro | exact Nat.le_of_ble_eq_true rfl | decide | (simp; done) | omega) ?_) | (refine ⟨_, rfl, ?_⟩))
  | .tree k, hk, hs, hQ =>
    have hp := kd_py (Kd.tree k)
    have hk1 : k.ht < n := by unfold Kd.ht at hk; omega
    repeat ((conv => whnf); first | exact hs | exact wsh | (refine And.intro (by first | exact hs | exact wsh | exact rfl | exact List.cons_ne_nil _ _ | exact True.intro | exact Nat.le_of_ble_eq_true rfl | decide | (simp; done) | omega) ?_) | (refine ⟨_, rfl, ?_⟩))
    conv => whnf
    rw [hp]
    repeat ((conv => whnf); first | exact hs | exact wsh | (refine And.intro (by first | exact hs | exact wsh | exact rfl | exact List.cons_ne_nil _ _ | exact True.intro | exact Nat.le_of_ble_eq_true rfl | decide | (simp; done) | omega) ?_) | (refine ⟨_, rfl, ?_⟩))
    intro i i0 i1
    have b : bd9 i := by unfold bd9; omega
    repeat ((conv => whnf); first | exact b | exact hk1 | (refine And.intro (by first | exact b | exact hk1 | exact rfl | exact List.cons_ne_nil _ _ | exact True.intro | exact Nat.le_of_ble_eq_true rfl | decide | (simp; done) | omega) ?_) | (refine ⟨_, rfl, ?_⟩))
    intro r hr
    have hQ : Q (Rc.one i r).d := hQ (.one i r) ⟨⟨i0, by omega⟩, hr⟩
    repeat ((conv => whnf); first | exact hQ | (refine And.intro (by first | exact hQ | exact rfl | exact List.cons_ne_nil _ _ | exact True.intro | exact Nat.le_of_ble_eq_true rfl | decide | (simp; done) | omega) ?_) | (refine ⟨_, rfl, ?_⟩))
  | .pair a b, hk, hs, hQ =>
    have hp := kd_py (Kd.pair a b)
    have hk1 : a.ht < n := by unfold Kd.ht at hk; omega
    have hk2 : b.ht < n := by unfold Kd.ht at hk; omega
    repeat ((conv => whnf); first | exact hs | exact wsh | (refine And.intro (by first | exact hs | exact wsh | exact rfl | exact List.cons_ne_nil _ _ | exact True.intro | exact Nat.le_of_ble_eq_true rfl | decide | (simp; done) | omega) ?_) | (refine ⟨_, rfl, ?_⟩))
    conv => whnf
    rw [hp]
    repeat ((conv => whnf); first | exact hs | exact wsh | exact hk1 | (refine And.intro (by first | exact hs | exact wsh | exact hk1 | exact rfl | exact List.cons_ne_nil _ _ | exact True.intro | exact Nat.le_of_ble_eq_true rfl | decide | (simp; done) | omega) ?_) | (refine ⟨_, rfl, ?_⟩))
    intro r hr
    repeat ((conv => whnf); first | exact hk2 | (refine And.intro (by first | exact hk2 | exact rfl | exact List.cons_ne_nil _ _ | exact True.intro | exact Nat.le_of_ble_eq_true rfl | decide | (simp; done) | omega) ?_) | (refine ⟨_, rfl, ?_⟩))
    intro r2 hr2
    have hQ : Q (Rc.two r r2).d := hQ (.two r r2) ⟨hr, hr2⟩
    repeat ((conv => whnf); first | exact hQ | (refine And.intro (by first | exact hQ | exact rfl | exact List.cons_ne_nil _ _ | exact True.intro | exact Nat.le_of_ble_eq_true rfl | decide | (simp; done) | omega) ?_) | (refine ⟨_, rfl, ?_⟩))
  | .either a b, hk, hs, hQ =>
    have hp := kd_py (Kd.either a b)
    have hk1 : a.ht < n := by unfold Kd.ht at hk; omega
    have hk2 : b.ht < n := by unfold Kd.ht at hk; omega
    repeat ((conv => whnf); first | exact hs | exact wsh | (refine And.intro (by first | exact hs | exact wsh | exact rfl | exact List.cons_ne_nil _ _ | exact True.intro | exact Nat.le_of_ble_eq_true rfl | decide | (simp; done) | omega) ?_) | (refine ⟨_, rfl, ?_⟩))
    conv => whnf
    rw [hp]
    repeat ((conv => whnf); first | exact hs | exact wsh | (refine And.intro (by first | exact hs | exact wsh | exact rfl | exact List.cons_ne_nil _ _ | exact True.intro | exact Nat.le_of_ble_eq_true rfl | decide | (simp; done) | omega) ?_) | (refine ⟨_, rfl, ?_⟩))
    intro i i0 i1
    have b1 : bd9 i := by unfold bd9; omega
    repeat ((conv => whnf); first | exact b1 | exact hk1 | (refine And.intro (by first | exact b1 | exact hk1 | exact rfl | exact List.cons_ne_nil _ _ | exact True.intro | exact Nat.le_of_ble_eq_true rfl | decide | (simp; done) | omega) ?_) | (refine ⟨_, rfl, ?_⟩))
    intro r hr
    repeat ((conv => whnf); first | (refine And.intro (by first | exact rfl | exact List.cons_ne_nil _ _ | exact True.intro | exact Nat.le_of_ble_eq_true rfl | decide | (simp; done) | omega) ?_) | (refine ⟨_, rfl, ?_⟩))
    intro i2 i3 i4
    have b2 : bd9 i2 := by unfold bd9; omega
    repeat ((conv => whnf); first | exact b2 | exact hk2 | (refine And.intro (by first | exact b2 | exact hk2 | exact rfl | exact List.cons_ne_nil _ _ | exact True.intro | exact Nat.le_of_ble_eq_true rfl | decide | (simp; done) | omega) ?_) | (refine ⟨_, rfl, ?_⟩))
    intro r2 hr2
    have hQ : Q (Rc.four i r i2 r2).d := hQ (.four i r i2 r2) ⟨⟨⟨i0, by omega⟩, ⟨i3, by omega⟩⟩, hr, hr2⟩
    repeat ((conv => whnf); first | exact hQ | (refine And.intro (by first | exact hQ | exact rfl | exact List.cons_ne_nil _ _ | exact True.intro | exact Nat.le_of_ble_eq_true rfl | decide | (simp; done) | omega) ?_) | (refine ⟨_, rfl, ?_⟩))
theorem sp__law_flat (hn : n ≤ 2) (h : S__law_flat (n + 1) ws Q Y) : m__law_flat (S__law_flat n) (store0 ["kind", "rich"] ws) (fun x _ => Y x) (T0 Q) := by
  obtain ⟨k, r, rfl, hk, hr, hQ⟩ := h
  have hs := kp_shaped (k := k) (by omega)
  have wsh := words_shaped
  match k, r, hk, hs, hr, hQ with
  | .int, .leaf, _, hs, _, hQ => repeat ((conv => whnf); first | exact hQ | exact hs | exact wsh | (refine And.intro (by first | exact hQ | exact hs | exact wsh | exact rfl | exact List.cons_ne_nil _ _ | exact True.intro | exact Nat.le_of_ble_eq_true rfl | decide | (simp; done) | omega) ?_) | (refine ⟨_, rfl, ?_⟩))
  | .flag, .leaf, _, hs, _, hQ => repeat ((conv => whnf); first | exact hQ | exact hs | exact wsh | (refine And.intro (by first | exact hQ | exact hs | exact wsh | exact rfl | exact List.cons_ne_nil _ _ | exact True.intro | exact Nat.le_of_ble_eq_true rfl | decide | (simp; done) | omega) ?_) | (refine ⟨_, rfl, ?_⟩))
  | .list k, .one z r, hk, hs, hr, hQ =>
    have hp := kd_py (Kd.list k)
    have b1 := sm_bd hr.1
    have hl := flat14 hr.2 (by unfold Kd.ht at hk; omega)
    repeat ((conv => whnf); first | exact hs | exact wsh | (refine And.intro (by first | exact hs | exact wsh | exact rfl | exact List.cons_ne_nil _ _ | exact True.intro | exact Nat.le_of_ble_eq_true rfl | decide | (simp; done) | omega) ?_) | (refine ⟨_, rfl, ?_⟩))
    conv => whnf
    rw [hp]
    repeat ((conv => whnf); first | exact hs | exact wsh | exact b1 | (refine And.intro (by first | exact hs | exact wsh | exact b1 | exact rfl | exact List.cons_ne_nil _ _ | exact True.intro | exact Nat.le_of_ble_eq_true rfl | decide | (simp; done) | omega) ?_) | (refine ⟨_, rfl, ?_⟩))
    refine ⟨k, r, rfl, by unfold Kd.ht at hk; omega, hr.2, ?_⟩
    repeat ((conv => whnf); first | (refine And.intro (by first | exact rfl | exact List.cons_ne_nil _ _ | exact True.intro | exact Nat.le_of_ble_eq_true rfl | decide | (simp; done) | omega) ?_) | (refine ⟨_, rfl, ?_⟩))
    exact And.intro (by simp; omega) (by repeat ((conv => whnf); first | exact hQ | (refine And.intro (by first | exact hQ | exact rfl | exact List.cons_ne_nil _ _ | exact True.intro | exact Nat.le_of_ble_eq_true rfl | decide | (simp; done) | omega) ?_) | (refine ⟨_, rfl, ?_⟩)))
  | .tree k, .one z r, hk, hs, hr, hQ =>
    have hp := kd_py (Kd.tree k)
    have b1 := sm_bd hr.1
    have hl := flat14 hr.2 (by unfold Kd.ht at hk; omega)
    repeat ((conv => whnf); first | exact hs | exact wsh | (refine And.intro (by first | exact hs | exact wsh | exact rfl | exact List.cons_ne_nil _ _ | exact True.intro | exact Nat.le_of_ble_eq_true rfl | decide | (simp; done) | omega) ?_) | (refine ⟨_, rfl, ?_⟩))
    conv => whnf
    rw [hp]
    repeat ((conv => whnf); first | exact hs | exact wsh | exact b1 | (refine And.intro (by first | exact hs | exact wsh | exact b1 | exact rfl | exact List.cons_ne_nil _ _ | exact True.intro | exact Nat.le_of_ble_eq_true rfl | decide | (simp; done) | omega) ?_) | (refine ⟨_, rfl, ?_⟩))
    refine ⟨k, r, rfl, by unfold Kd.ht at hk; omega, hr.2, ?_⟩
    repeat ((conv => whnf); first | (refine And.intro (by first | exact rfl | exact List.cons_ne_nil _ _ | exact True.intro | exact Nat.le_of_ble_eq_true rfl | decide | (simp; done) | omega) ?_) | (refine ⟨_, rfl, ?_⟩))
    exact And.intro (by simp; omega) (by repeat ((conv => whnf); first | exact hQ | (refine And.intro (by first | exact hQ | exact rfl | exact List.cons_ne_nil _ _ | exact True.intro | exact Nat.le_of_ble_eq_true rfl | decide | (simp; done) | omega) ?_) | (refine ⟨_, rfl, ?_⟩)))
  | .pair a b, .two r s, hk, hs, hr, hQ =>
    have hp := kd_py (Kd.pair a b)
    have hl := flat14 hr.1 (by unfold Kd.ht at hk; omega)
    have hl2 := flat14 hr.2 (by unfold Kd.ht at hk; omega)
    repeat ((conv => whnf); first | exact hs | exact wsh | (refine And.intro (by first | exact hs | exact wsh | exact rfl | exact List.cons_ne_nil _ _ | exact True.intro | exact Nat.le_of_ble_eq_true rfl | decide | (simp; done) | omega) ?_) | (refine ⟨_, rfl, ?_⟩))
    conv => whnf
    rw [hp]
    repeat ((conv => whnf); first | exact hs | exact wsh | (refine And.intro (by first | exact hs | exact wsh | exact rfl | exact List.cons_ne_nil _ _ | exact True.intro | exact Nat.le_of_ble_eq_true rfl | decide | (simp; done) | omega) ?_) | (refine ⟨_, rfl, ?_⟩))
    refine ⟨a, r, rfl, by unfold Kd.ht at hk; omega, hr.1, ?_⟩
    repeat ((conv => whnf); first | (refine And.intro (by first | exact rfl | exact List.cons_ne_nil _ _ | exact True.intro | exact Nat.le_of_ble_eq_true rfl | decide | (simp; done) | omega) ?_) | (refine ⟨_, rfl, ?_⟩))
    refine ⟨b, s, rfl, by unfold Kd.ht at hk; omega, hr.2, ?_⟩
    conv => whnf
    refine And.intro (by simp; omega) ?_
    have e : D.lst ((Rc.two r s).flat.map D.int) = .lst (r.flat.map D.int ++ s.flat.map D.int) := by simp [Rc.flat]
    rw [e] at hQ
    repeat ((conv => whnf); first | exact hQ | (refine And.intro (by first | exact hQ | exact rfl | exact List.cons_ne_nil _ _ | exact True.intro | exact Nat.le_of_ble_eq_true rfl | decide | (simp; done) | omega) ?_) | (refine ⟨_, rfl, ?_⟩))
  | .either a b, .four z r m s, hk, hs, hr, hQ =>
    have hp := kd_py (Kd.either a b)
    have hl := flat14 hr.2.1 (by unfold Kd.ht at hk; omega)
    have hl2 := flat14 hr.2.2 (by unfold Kd.ht at hk; omega)
    repeat ((conv => whnf); first | exact hs | exact wsh | (refine And.intro (by first | exact hs | exact wsh | exact rfl | exact List.cons_ne_nil _ _ | exact True.intro | exact Nat.le_of_ble_eq_true rfl | decide | (simp; done) | omega) ?_) | (refine ⟨_, rfl, ?_⟩))
    conv => whnf
    rw [hp]
    have b1 := sm_bd hr.1.1
    have b2 := sm_bd hr.1.2
    repeat ((conv => whnf); first | exact hs | exact wsh | exact b1 | (refine And.intro (by first | exact hs | exact wsh | exact b1 | exact rfl | exact List.cons_ne_nil _ _ | exact True.intro | exact Nat.le_of_ble_eq_true rfl | decide | (simp; done) | omega) ?_) | (refine ⟨_, rfl, ?_⟩))
    refine ⟨a, r, rfl, by unfold Kd.ht at hk; omega, hr.2.1, ?_⟩
    repeat ((conv => whnf); first | (refine And.intro (by first | exact rfl | exact List.cons_ne_nil _ _ | exact True.intro | exact Nat.le_of_ble_eq_true rfl | decide | (simp; done) | omega) ?_) | (refine ⟨_, rfl, ?_⟩))
    refine And.intro (by simp; omega) ?_
    repeat ((conv => whnf); first | exact b2 | (refine And.intro (by first | exact b2 | exact rfl | exact List.cons_ne_nil _ _ | exact True.intro | exact Nat.le_of_ble_eq_true rfl | decide | (simp; done) | omega) ?_) | (refine ⟨_, rfl, ?_⟩))
    refine And.intro (by simp; omega) ?_
    repeat ((conv => whnf); first | (refine And.intro (by first | exact rfl | exact List.cons_ne_nil _ _ | exact True.intro | exact Nat.le_of_ble_eq_true rfl | decide | (simp; done) | omega) ?_) | (refine ⟨_, rfl, ?_⟩))
    refine ⟨b, s, rfl, by unfold Kd.ht at hk; omega, hr.2.2, ?_⟩
    conv => whnf
    refine And.intro (by simp; omega) ?_
    have e : D.lst ((Rc.four z r m s).flat.map D.int) = .lst ((([.int z] ++ r.flat.map D.int) ++ [.int m]) ++ s.flat.map D.int) := by simp [Rc.flat]
    rw [e] at hQ
    repeat ((conv => whnf); first | exact hQ | (refine And.intro (by first | exact hQ | exact rfl | exact List.cons_ne_nil _ _ | exact True.intro | exact Nat.le_of_ble_eq_true rfl | decide | (simp; done) | omega) ?_) | (refine ⟨_, rfl, ?_⟩))
end
end K48

namespace K48
open PySem PySem.Spec PyProof.Rows L2 PL
variable [Hand]
/-- a comprehension over kinds that draws a rich of each -/
theorem lc_fit {un : D → Option (List D)} {elt : List D → (D → Prop) → Prop} : ∀ {ks : List Kd} {acc : List D} {K : List D → Prop}, (∀ k ∈ ks, ∀ K : D → Prop, (∀ r : Rc, r.fits k → K r.d) → ∃ ds, un k.d = some ds ∧ elt ds K) →
    (∀ rs, fitAll ks rs → K (acc ++ rs.map Rc.d)) → LcW un (fun _ K => K true) elt (ks.map Kd.d) acc K
  | [], acc, K, _, hk => by
    have := hk [] True.intro
    rw [List.map_nil, List.append_nil] at this
    exact this
  | k :: ks, acc, K, h, hk => by
    obtain ⟨ds, h1, h2⟩ := h k List.mem_cons_self (fun d => LcW un (fun _ K => K true) elt (ks.map Kd.d) (acc ++ [d]) K) (fun r hr => lc_fit (ks := ks) (acc := acc ++ [r.d]) (K := K) (fun x hx => h x (List.mem_cons_of_mem _ hx)) fun rs hrs => by
      rw [List.append_assoc]
      exact hk (r :: rs) ⟨hr, hrs⟩)
    exact ⟨ds, h1, (if_pos rfl).mpr h2⟩
theorem zipInt : ∀ (xs ys : List Int), List.zipWith (fun x y => D.tup [x, y]) (xs.map D.int) (ys.map D.int) = (xs.zip ys).map fun p => D.tup [.int p.1, .int p.2]
  | [], _ => rfl
  | _ :: _, [] => rfl
  | x :: xs, y :: ys => by simp only [List.map_cons, List.zipWith_cons_cons, List.zip_cons_cons, zipInt xs ys]
section
variable {ws : List W} {Q : D → Prop} {Y : Str → Prop} {n : Nat}
theorem sp__law_drawn (h : S__law_drawn ws Q Y) : m__law_drawn (store0 ["hand", "kinds", "kind", "ins", "one"] ws) (fun x _ => Y x) (T0 Q) := by
  obtain ⟨ks, k, rfl, hks, hk, hQ⟩ := h
  have hl4 := hks.1
  have hk3 : k.ht < 3 := by unfold kOk at hk; omega
  repeat ((conv => whnf); first | (refine And.intro (by first | exact rfl | exact List.cons_ne_nil _ _ | exact True.intro | exact Nat.le_of_ble_eq_true rfl | decide | (simp; done) | omega) ?_) | (refine ⟨_, rfl, ?_⟩))
  refine And.intro (by simp; omega) (And.intro rfl ?_)
  refine lc_fit (fun k' hm K hK => ?_) fun rs hrs => ?_
  · have hk' : k'.ht < 3 := by have := hks.2 k' hm; unfold kOk at this; omega
    repeat ((conv => whnf); first | exact hk' | (refine And.intro (by first | exact hk' | exact rfl | exact List.cons_ne_nil _ _ | exact True.intro | exact Nat.le_of_ble_eq_true rfl | decide | (simp; done) | omega) ?_) | (refine ⟨_, rfl, ?_⟩))
    intro r hr
    have hK := hK r hr
    repeat ((conv => whnf); first | exact hK | (refine And.intro (by first | exact hK | exact rfl | exact List.cons_ne_nil _ _ | exact True.intro | exact Nat.le_of_ble_eq_true rfl | decide | (simp; done) | omega) ?_) | (refine ⟨_, rfl, ?_⟩))
  · repeat ((conv => whnf); first | (refine And.intro (by first | exact rfl | exact List.cons_ne_nil _ _ | exact True.intro | exact Nat.le_of_ble_eq_true rfl | decide | (simp; done) | omega) ?_) | (refine ⟨_, rfl, ?_⟩))
    intro p p0 p1
    have bp : bd9 p := by unfold bd9; omega
    repeat ((conv => whnf); first | exact bp | exact hk3 | (refine And.intro (by first | exact bp | exact hk3 | exact rfl | exact List.cons_ne_nil _ _ | exact True.intro | exact Nat.le_of_ble_eq_true rfl | decide | (simp; done) | omega) ?_) | (refine ⟨_, rfl, ?_⟩))
    intro r hr
    repeat ((conv => whnf); first | (refine And.intro (by first | exact rfl | exact List.cons_ne_nil _ _ | exact True.intro | exact Nat.le_of_ble_eq_true rfl | decide | (simp; done) | omega) ?_) | (refine ⟨_, rfl, ?_⟩))
    intro q q0 q1
    have bq : bd9 q := by unfold bd9; omega
    have hQ : Q (Cd.d ⟨rs, p, r, q⟩) := hQ ⟨rs, p, r, q⟩ ⟨hrs, ⟨p0, by show p ≤ 100000; omega⟩, hr, ⟨q0, by show q ≤ 100000; omega⟩⟩ (by show p ≤ 1000; omega) (by show q ≤ 1000; omega)
    rw [List.nil_append]
    repeat ((conv => whnf); first | exact bq | exact hQ | (refine And.intro (by first | exact bq | exact hQ | exact rfl | exact List.cons_ne_nil _ _ | exact True.intro | exact Nat.le_of_ble_eq_true rfl | decide | (simp; done) | omega) ?_) | (refine ⟨_, rfl, ?_⟩))
theorem two_of {α : Type} {P : α → Prop} {x y d : α} (h : d ∈ [x, x, y]) (hx : P x) (hy : P y) : P d := by
  simp only [List.mem_cons, List.not_mem_nil, or_false] at h
  rcases h with rfl | rfl | rfl
  · exact hx
  · exact hx
  · exact hy
theorem sp__law_near (h : S__law_near ws Q Y) : m__law_near (store0 ["hand", "kinds", "kind", "card", "other", "at"] ws) (fun x _ => Y x) (T0 Q) := by
  obtain ⟨ks, k, c, rfl, hks, hk, ⟨hc, c1, c2⟩, hQ⟩ := h
  repeat ((conv => whnf); first | (refine And.intro (by first | exact rfl | exact List.cons_ne_nil _ _ | exact True.intro | exact Nat.le_of_ble_eq_true rfl | decide | (simp; done) | omega) ?_) | (refine ⟨_, rfl, ?_⟩))
  refine ⟨ks, k, rfl, hks, hk, fun e he e1 e2 => ?_⟩
  repeat ((conv => whnf); first | (refine And.intro (by first | exact rfl | exact List.cons_ne_nil _ _ | exact True.intro | exact Nat.le_of_ble_eq_true rfl | decide | (simp; done) | omega) ?_) | (refine ⟨_, rfl, ?_⟩))
  intro d1 h1
  repeat ((conv => whnf); first | (refine And.intro (by first | exact rfl | exact List.cons_ne_nil _ _ | exact True.intro | exact Nat.le_of_ble_eq_true rfl | decide | (simp; done) | omega) ?_) | (refine ⟨_, rfl, ?_⟩))
  intro d2 h2
  repeat ((conv => whnf); first | (refine And.intro (by first | exact rfl | exact List.cons_ne_nil _ _ | exact True.intro | exact Nat.le_of_ble_eq_true rfl | decide | (simp; done) | omega) ?_) | (refine ⟨_, rfl, ?_⟩))
  intro d3 h3
  repeat ((conv => whnf); first | (refine And.intro (by first | exact rfl | exact List.cons_ne_nil _ _ | exact True.intro | exact Nat.le_of_ble_eq_true rfl | decide | (simp; done) | omega) ?_) | (refine ⟨_, rfl, ?_⟩))
  intro d4 h4
  obtain ⟨rs, rfl, hrs⟩ : ∃ rs, d1 = .tup (rs.map Rc.d) ∧ fitAll ks rs := two_of (P := fun d => ∃ rs, d = D.tup (rs.map Rc.d) ∧ fitAll ks rs) h1 ⟨_, rfl, hc.ins⟩ ⟨_, rfl, he.ins⟩
  obtain ⟨p, rfl, hp, hp2⟩ : ∃ p, d2 = am p ∧ sm2 p ∧ p ≤ 1000 := two_of (P := fun d => ∃ p, d = am p ∧ sm2 p ∧ p ≤ 1000) h2 ⟨_, rfl, hc.paid, c1⟩ ⟨_, rfl, he.paid, e1⟩
  obtain ⟨r, rfl, hr⟩ : ∃ r : Rc, d3 = r.d ∧ r.fits k := two_of (P := fun d => ∃ r : Rc, d = r.d ∧ r.fits k) h3 ⟨_, rfl, hc.out⟩ ⟨_, rfl, he.out⟩
  obtain ⟨q, rfl, hq, hq2⟩ : ∃ p, d4 = am p ∧ sm2 p ∧ p ≤ 1000 := two_of (P := fun d => ∃ p, d = am p ∧ sm2 p ∧ p ≤ 1000) h4 ⟨_, rfl, hc.left, c2⟩ ⟨_, rfl, he.left, e2⟩
  have hQ : Q (Cd.d ⟨rs, p, r, q⟩) := hQ ⟨rs, p, r, q⟩ ⟨hrs, hp, hr, hq⟩ hp2 hq2
  repeat ((conv => whnf); first | exact hQ | (refine And.intro (by first | exact hQ | exact rfl | exact List.cons_ne_nil _ _ | exact True.intro | exact Nat.le_of_ble_eq_true rfl | decide | (simp; done) | omega) ?_) | (refine ⟨_, rfl, ?_⟩))
/-- the rows of _law_fits -/
def rowD (p : Kd × Rc × Rc) : D := .tup [p.1.d, p.2.1.d, p.2.2.d]
theorem cov_eq (r s : Rc) : cov r s = ((r.flat.zip s.flat).map fun p => decide (p.1 ≥ p.2)).all id := by
  unfold cov
  rw [zipMapB (fun a b => decide (a ≥ b))]
theorem fits_rows (R : List (Kd × Rc × Rc)) (hl : R.length ≤ 10) (hR : ∀ p ∈ R, p.1.ht ≤ 2 ∧ p.2.1.fits p.1 ∧ p.2.2.fits p.1) {w0 w1 w2 w3 : W} (cl : clean [some w0, some w1, some w2, some w3] = true) (hQ : Q (.bl (R.all fun p => cov p.2.1 p.2.2))) :
    sCons (sFor un3 [5, 6, 7] (iLst (xSlot 4)) (sIf (PL.tNot (tVal (xUn gAll (xOf (mLc un2 [10, 11] [10, 11] (iZipL (aCons (xCall (S__law_flat 3) 2 (aCons (xSlot 5) (aCons (xSlot 6) aNil))) (aCons (xCall (S__law_flat 3) 2 (aCons (xSlot 5) (aCons (xSlot 7) aNil))) aNil))) (xBin fGe (xSlot 10) (xSlot 11))))))) (sRet (xVal (.bl false))) sNil))
      (sRet (xVal (.bl true))) [some w0, some w1, some w2, some w3, some (v (.lst (R.map rowD))), none, none, none, none, none, none, none] (fun x _ => Y x) (T0 Q) := by
  conv => whnf
  refine ⟨fun i ρ => (∀ p ∈ R.take i, cov p.2.1 p.2.2 = true) ∧ ∃ o1 o2 o3 : Option D, ρ = [some w0, some w1, some w2, some w3, some (v (.lst (R.map rowD))), o1.map W.val, o2.map W.val, o3.map W.val, none, none, none, none], ⟨fun p hp => by simp at hp, none, none, none, rfl⟩, ?_, ?_⟩
  · rintro i d ρ2 hi ⟨hf, o1, o2, o3, rfl⟩
    rw [List.getElem?_map] at hi
    cases hRi : R[i]? with
    | none =>
      rw [hRi] at hi
      cases hi
    | some p =>
      rw [hRi] at hi
      cases hi
      obtain ⟨f0, f1, f2⟩ := hR p (List.mem_of_getElem? hRi)
      have g1 := flat14 f1 f0
      have g2 := flat14 f2 f0
      have hcl : clean [some w0, some w1, some w2, some w3, some (v (.lst (R.map rowD))), some (v p.1.d), some (v p.2.1.d), some (v p.2.2.d), none, none, none, none] = true := by
        unfold clean at cl ⊢
        simp only [List.all_cons, List.all_nil, Bool.and_true] at cl ⊢
        exact cl
      repeat ((conv => whnf); first | exact hcl | (refine And.intro (by first | exact hcl | exact rfl | exact List.cons_ne_nil _ _ | exact True.intro | exact Nat.le_of_ble_eq_true rfl | decide | (simp; done) | omega) ?_) | (refine ⟨_, rfl, ?_⟩))
      refine ⟨p.1, p.2.1, rfl, by omega, f1, ?_⟩
      repeat ((conv => whnf); first | exact hcl | (refine And.intro (by first | exact hcl | exact rfl | exact List.cons_ne_nil _ _ | exact True.intro | exact Nat.le_of_ble_eq_true rfl | decide | (simp; done) | omega) ?_) | (refine ⟨_, rfl, ?_⟩))
      refine ⟨p.1, p.2.2, rfl, by omega, f2, ?_⟩
      repeat ((conv => whnf); first | (refine And.intro (by first | exact rfl | exact List.cons_ne_nil _ _ | exact True.intro | exact Nat.le_of_ble_eq_true rfl | decide | (simp; done) | omega) ?_) | (refine ⟨_, rfl, ?_⟩))
      refine And.intro (by simp; omega) (And.intro (by unfold freeOwn; exact Bool.and_eq_true_iff.mpr ⟨hcl, rfl⟩) ?_)
      rw [zipInt]
      refine lc_of _ (fun q : Int × Int => D.bl (decide (q.1 ≥ q.2))) (fun q hq K hK => ?_) ?_
      · repeat ((conv => whnf); first | exact hK | (refine And.intro (by first | exact hK | exact rfl | exact List.cons_ne_nil _ _ | exact True.intro | exact Nat.le_of_ble_eq_true rfl | decide | (simp; done) | omega) ?_) | (refine ⟨_, rfl, ?_⟩))
      · conv => whnf
        rw [List.nil_append, bools_of]
        conv => whnf
        rw [← cov_eq]
        have ht : R.take (i + 1) = R.take i ++ [p] := by
          rw [List.take_succ, hRi]
          rfl
        by_cases hb : cov p.2.1 p.2.2 = true
        · refine iteF (by rw [hb]; rfl) ?_
          refine ⟨fun q hq => ?_, some _, some _, some _, rfl⟩
          rw [ht] at hq
          rcases List.mem_append.mp hq with hq | hq
          · exact hf q hq
          · rcases List.mem_singleton.mp hq with rfl
            exact hb
        · rw [Bool.not_eq_true] at hb
          refine iteT (by rw [hb]; rfl) ?_
          have e : (R.all fun p => cov p.2.1 p.2.2) = false := by
            rw [List.all_eq_false]
            exact ⟨p, List.mem_of_getElem? hRi, by rw [hb]; exact Bool.false_ne_true⟩
          rw [e] at hQ
          repeat ((conv => whnf); first | exact hQ | (refine And.intro (by first | exact hQ | exact rfl | exact List.cons_ne_nil _ _ | exact True.intro | exact Nat.le_of_ble_eq_true rfl | decide | (simp; done) | omega) ?_) | (refine ⟨_, rfl, ?_⟩))
  · rintro ρ2 ⟨hf, o1, o2, o3, rfl⟩
    rw [List.length_map, List.take_length] at hf
    have e : (R.all fun p => cov p.2.1 p.2.2) = true := List.all_eq_true.mpr hf
    rw [e] at hQ
    repeat ((conv => whnf); first | exact hQ | (refine And.intro (by first | exact hQ | exact rfl | exact List.cons_ne_nil _ _ | exact True.intro | exact Nat.le_of_ble_eq_true rfl | decide | (simp; done) | omega) ?_) | (refine ⟨_, rfl, ?_⟩))
theorem all3 {ks : List Kd} {rs ss : List Rc} {k : Kd} {r s : Rc} (h1 : fitAll ks rs) (h2 : fitAll ks ss) : ((ks.zip (rs.zip ss) ++ [(k, r, s)]).all fun p => cov p.2.1 p.2.2) = ((List.zipWith (fun a b => cov a b) rs ss).all id && cov r s) := by
  rw [List.all_append, ← map3 (fun a b => cov a b) h1 h2, List.all_map]
  simp
theorem fit_comm : ∀ (rs ss : List Rc), List.zipWith (fun a b => cov a b) ss rs = List.zipWith (fun a b => cov b a) rs ss
  | [], [] => rfl
  | [], _ :: _ => rfl
  | _ :: _, [] => rfl
  | r :: rs, s :: ss => by rw [List.zipWith_cons_cons, List.zipWith_cons_cons, fit_comm rs ss]
theorem sp__law_fits (h : S__law_fits ws Q Y) : m__law_fits (store0 ["kinds", "kind", "one", "other", "rows", "its", "high", "low", "two", "here", "a", "b"] ws) (fun x _ => Y x) (T0 Q) := by
  rcases h with ⟨ks, k, c, e, rfl, hks, hk, hc, he, hQ⟩ | ⟨ks, k, c, e, rfl, hks, hk, hc, he, hQ⟩
  · have hl4 := hks.1
    have l1 := fit_len hc.ins
    have l2 := fit_len he.ins
    repeat ((conv => whnf); first | (refine And.intro (by first | exact rfl | exact List.cons_ne_nil _ _ | exact True.intro | exact Nat.le_of_ble_eq_true rfl | decide | (simp; done) | omega) ?_) | (refine ⟨_, rfl, ?_⟩))
    refine And.intro (by simp; omega) (And.intro (by simp; omega) ?_)
    conv => whnf
    refine And.intro (by rw [zip3K]; simp; omega) (And.intro rfl ?_)
    rw [zip3K]
    refine lc_of _ rowD (fun p hp K hK => ?_) ?_
    · repeat ((conv => whnf); first | exact hK | (refine And.intro (by first | exact hK | exact rfl | exact List.cons_ne_nil _ _ | exact True.intro | exact Nat.le_of_ble_eq_true rfl | decide | (simp; done) | omega) ?_) | (refine ⟨_, rfl, ?_⟩))
    · rw [List.nil_append]
      repeat ((conv => whnf); first | (refine And.intro (by first | exact rfl | exact List.cons_ne_nil _ _ | exact True.intro | exact Nat.le_of_ble_eq_true rfl | decide | (simp; done) | omega) ?_) | (refine ⟨_, rfl, ?_⟩))
      refine And.intro (by simp; omega) ?_
      have er : (ks.zip (e.ins.zip c.ins)).map rowD ++ [.tup [k.d, c.out.d, e.out.d]] = ((ks.zip (e.ins.zip c.ins)) ++ [(k, c.out, e.out)]).map rowD := by
        rw [List.map_append]
        rfl
      rw [er]
      refine fits_rows _ (by simp; omega) (fun p hp => ?_) rfl ?_
      · rcases List.mem_append.mp hp with hp | hp
        · obtain ⟨f1, f2⟩ := fit3 he.ins hc.ins p hp
          exact ⟨hks.2 _ (mem3 hp), f1, f2⟩
        · rcases List.mem_singleton.mp hp with rfl
          exact ⟨hk, hc.out, he.out⟩
      · rw [all3 he.ins hc.ins, fit_comm]
        exact hQ
  · repeat ((conv => whnf); first | (refine And.intro (by first | exact rfl | exact List.cons_ne_nil _ _ | exact True.intro | exact Nat.le_of_ble_eq_true rfl | decide | (simp; done) | omega) ?_) | (refine ⟨_, rfl, ?_⟩))
    refine fits_rows [(k, c.out, e.out)] (by simp) (fun p hp => ?_) rfl ?_
    · rcases List.mem_singleton.mp hp with rfl
      exact ⟨hk, hc.out, he.out⟩
    · have e1 : ([(k, c.out, e.out)].all fun p => cov p.2.1 p.2.2) = cov c.out e.out := by simp
      rw [e1]
      exact hQ
theorem sp__law_lack (h : S__law_lack ws Q Y) : m__law_lack (store0 ["one", "other", "paid", "left"] ws) (fun x _ => Y x) (T0 Q) := by
  obtain ⟨ks, k, c, e, rfl, hks, hk, hc, he, hQ⟩ := h
  have hQ : Q (.int (lack c e)) := hQ
  have b1 := sm2_bd hc.paid
  have b2 := sm2_bd he.paid
  have b3 := sm2_bd hc.left
  have b4 := sm2_bd he.left
  have em : lack c e = max (max 0 (c.paid - e.paid)) (c.paid - e.paid + (e.left - c.left)) := by
    unfold lack
    omega
  rw [em] at hQ
  repeat ((conv => whnf); first | exact b1 | exact b2 | exact b3 | exact b4 | exact hQ | (refine And.intro (by first | exact b1 | exact b2 | exact b3 | exact b4 | exact hQ | exact rfl | exact List.cons_ne_nil _ _ | exact True.intro | exact Nat.le_of_ble_eq_true rfl | decide | (simp; done) | omega) ?_) | (refine ⟨_, rfl, ?_⟩))
theorem sp__law_raised (h : S__law_raised ws Q Y) : m__law_raised (store0 ["card", "two"] ws) (fun x _ => Y x) (T0 Q) := by
  obtain ⟨ks, k, c, z, rfl, hc, hz, hz2, hQ⟩ := h
  have b1 := sm2_bd hc.paid
  have b2 : bd9 (c.paid + z) := by
    obtain ⟨p1, p2⟩ := hc.paid
    unfold bd9
    omega
  repeat ((conv => whnf); first | exact b1 | exact b2 | exact hQ | (refine And.intro (by first | exact b1 | exact b2 | exact hQ | exact rfl | exact List.cons_ne_nil _ _ | exact True.intro | exact Nat.le_of_ble_eq_true rfl | decide | (simp; done) | omega) ?_) | (refine ⟨_, rfl, ?_⟩))
theorem sp__law_both (h : S__law_both ws Q Y) : m__law_both (store0 ["kinds", "kind", "one", "other", "ins", "paid", "left", "card", "its", "a", "b"] ws) (fun x _ => Y x) (T0 Q) := by
  obtain ⟨ks, k, c, e, rfl, hks, hk, hc, he, hQ⟩ := h
  have hl4 := hks.1
  have l1 := fit_len hc.ins
  have l2 := fit_len he.ins
  have b1 := sm2_bd hc.paid
  have b2 := sm2_bd he.paid
  have b3 := sm2_bd hc.left
  have b4 := sm2_bd he.left
  obtain ⟨p1, p2⟩ := hc.paid
  obtain ⟨p3, p4⟩ := he.paid
  obtain ⟨p5, p6⟩ := hc.left
  obtain ⟨p7, p8⟩ := he.left
  have hQ : Q (both c e).d := hQ
  repeat ((conv => whnf); first | (refine And.intro (by first | exact rfl | exact List.cons_ne_nil _ _ | exact True.intro | exact Nat.le_of_ble_eq_true rfl | decide | (simp; done) | omega) ?_) | (refine ⟨_, rfl, ?_⟩))
  refine And.intro (by simp; omega) (And.intro (by simp; omega) ?_)
  conv => whnf
  refine And.intro (by rw [zip3K]; simp; omega) (And.intro rfl ?_)
  rw [zip3K]
  refine lc_of _ (fun p : Kd × Rc × Rc => (Rc.zip max p.2.1 p.2.2).d) (fun p hp K hK => ?_) ?_
  · obtain ⟨f1, f2⟩ := fit3 hc.ins he.ins p hp
    repeat ((conv => whnf); first | (refine And.intro (by first | exact rfl | exact List.cons_ne_nil _ _ | exact True.intro | exact Nat.le_of_ble_eq_true rfl | decide | (simp; done) | omega) ?_) | (refine ⟨_, rfl, ?_⟩))
    exact ⟨p.1, p.2.1, p.2.2, rfl, hks.2 _ (mem3 hp), f1, f2, by repeat ((conv => whnf); first | exact hK | (refine And.intro (by first | exact hK | exact rfl | exact List.cons_ne_nil _ _ | exact True.intro | exact Nat.le_of_ble_eq_true rfl | decide | (simp; done) | omega) ?_) | (refine ⟨_, rfl, ?_⟩))⟩
  · rw [List.nil_append, map3 (fun a b => (Rc.zip max a b).d) hc.ins he.ins]
    have em : List.zipWith (fun a b => (Rc.zip max a b).d) c.ins e.ins = (both c e).ins.map Rc.d := by
      unfold both
      rw [List.map_zipWith]
    rw [em]
    have b5 : bd9 (max c.paid e.paid) := by unfold bd9; omega
    have el : (both c e).left = min (max c.paid e.paid - c.paid + c.left) (max c.paid e.paid - e.paid + e.left) := by
      unfold both
      show min (c.left + (max c.paid e.paid - c.paid)) (e.left + (max c.paid e.paid - e.paid)) = _
      omega
    have b6 : bd9 (min (max c.paid e.paid - c.paid + c.left) (max c.paid e.paid - e.paid + e.left)) := by unfold bd9; omega
    repeat ((conv => whnf); first | exact b1 | exact b2 | exact b3 | exact b4 | exact b5 | exact b6 | (refine And.intro (by first | exact b1 | exact b2 | exact b3 | exact b4 | exact b5 | exact b6 | exact rfl | exact List.cons_ne_nil _ _ | exact True.intro | exact Nat.le_of_ble_eq_true rfl | decide | (simp; done) | omega) ?_) | (refine ⟨_, rfl, ?_⟩))
    refine ⟨k, c.out, e.out, rfl, hk, hc.out, he.out, ?_⟩
    have hQ : Q (.tup [.tup ((both c e).ins.map Rc.d), am (max c.paid e.paid), (Rc.zip min c.out e.out).d, am (both c e).left]) := hQ
    rw [el] at hQ
    repeat ((conv => whnf); first | exact b6 | exact hQ | (refine And.intro (by first | exact b6 | exact hQ | exact rfl | exact List.cons_ne_nil _ _ | exact True.intro | exact Nat.le_of_ble_eq_true rfl | decide | (simp; done) | omega) ?_) | (refine ⟨_, rfl, ?_⟩))
end
end K48

namespace K48
open PySem PySem.Spec PyProof.Rows L2 PL
variable [Hand]
/-! ### the plain law of cards -/
def lv (xs ys : List Int) : Bool := (List.zipWith (fun a b => decide (b ≤ a)) xs ys).all id
theorem lv_cons {x y : Int} {xs ys : List Int} : lv (x :: xs) (y :: ys) = true ↔ y ≤ x ∧ lv xs ys = true := by
  unfold lv
  simp
theorem lv_nil : lv [] [] = true := rfl
theorem lv_max_l : ∀ {xs ys : List Int}, xs.length = ys.length → lv (List.zipWith max xs ys) xs = true
  | [], [], _ => rfl
  | x :: xs, y :: ys, h => lv_cons.mpr ⟨by omega, lv_max_l (by simpa using h)⟩
theorem lv_max_r : ∀ {xs ys : List Int}, xs.length = ys.length → lv (List.zipWith max xs ys) ys = true
  | [], [], _ => rfl
  | x :: xs, y :: ys, h => lv_cons.mpr ⟨by omega, lv_max_r (by simpa using h)⟩
theorem lv_min_l : ∀ {xs ys : List Int}, xs.length = ys.length → lv xs (List.zipWith min xs ys) = true
  | [], [], _ => rfl
  | x :: xs, y :: ys, h => lv_cons.mpr ⟨by omega, lv_min_l (by simpa using h)⟩
theorem lv_min_r : ∀ {xs ys : List Int}, xs.length = ys.length → lv ys (List.zipWith min xs ys) = true
  | [], [], _ => rfl
  | x :: xs, y :: ys, h => lv_cons.mpr ⟨by omega, lv_min_r (by simpa using h)⟩
theorem lv_trans : ∀ {xs ys zs : List Int}, xs.length = ys.length → ys.length = zs.length → lv xs ys = true → lv ys zs = true → lv xs zs = true
  | [], [], [], _, _, _, _ => rfl
  | x :: xs, y :: ys, z :: zs, h1, h2, a, b => by
    obtain ⟨a1, a2⟩ := lv_cons.mp a
    obtain ⟨b1, b2⟩ := lv_cons.mp b
    exact lv_cons.mpr ⟨by omega, lv_trans (by simpa using h1) (by simpa using h2) a2 b2⟩
theorem lv_max : ∀ {xs ys zs : List Int}, xs.length = ys.length → zs.length = xs.length → lv zs xs = true → lv zs ys = true → lv zs (List.zipWith max xs ys) = true
  | [], [], [], _, _, _, _ => rfl
  | x :: xs, y :: ys, z :: zs, h1, h2, a, b => by
    obtain ⟨a1, a2⟩ := lv_cons.mp a
    obtain ⟨b1, b2⟩ := lv_cons.mp b
    exact lv_cons.mpr ⟨by omega, lv_max (by simpa using h1) (by simpa using h2) a2 b2⟩
theorem lv_min : ∀ {xs ys zs : List Int}, xs.length = ys.length → zs.length = xs.length → lv xs zs = true → lv ys zs = true → lv (List.zipWith min xs ys) zs = true
  | [], [], [], _, _, _, _ => rfl
  | x :: xs, y :: ys, z :: zs, h1, h2, a, b => by
    obtain ⟨a1, a2⟩ := lv_cons.mp a
    obtain ⟨b1, b2⟩ := lv_cons.mp b
    exact lv_cons.mpr ⟨by omega, lv_min (by simpa using h1) (by simpa using h2) a2 b2⟩
theorem cov_lv (r s : Rc) : cov r s = lv r.flat s.flat := rfl
section
variable {k : Kd} {r s t : Rc} (hr : r.fits k) (hs : s.fits k) (ht : t.fits k)
theorem len2 {k : Kd} {r s : Rc} (hr : r.fits k) (hs : s.fits k) : r.flat.length = s.flat.length := by rw [Rc.len hr, Rc.len hs]
theorem cov_max_l {k : Kd} {r s : Rc} (hr : r.fits k) (hs : s.fits k) : cov (Rc.zip max r s) r = true := by
  rw [cov_lv, flat_zip max hr hs]
  exact lv_max_l (len2 hr hs)
theorem cov_max_r {k : Kd} {r s : Rc} (hr : r.fits k) (hs : s.fits k) : cov (Rc.zip max r s) s = true := by
  rw [cov_lv, flat_zip max hr hs]
  exact lv_max_r (len2 hr hs)
theorem cov_min_l {k : Kd} {r s : Rc} (hr : r.fits k) (hs : s.fits k) : cov r (Rc.zip min r s) = true := by
  rw [cov_lv, flat_zip min hr hs]
  exact lv_min_l (len2 hr hs)
theorem cov_min_r {k : Kd} {r s : Rc} (hr : r.fits k) (hs : s.fits k) : cov s (Rc.zip min r s) = true := by
  rw [cov_lv, flat_zip min hr hs]
  exact lv_min_r (len2 hr hs)
theorem cov_trans {k : Kd} {r s t : Rc} (hr : r.fits k) (hs : s.fits k) (ht : t.fits k) (h1 : cov r s = true) (h2 : cov s t = true) : cov r t = true := lv_trans (len2 hr hs) (len2 hs ht) h1 h2
theorem cov_max {k : Kd} {r s t : Rc} (hr : r.fits k) (hs : s.fits k) (ht : t.fits k) (h1 : cov t r = true) (h2 : cov t s = true) : cov t (Rc.zip max r s) = true := by
  rw [cov_lv, flat_zip max hr hs]
  exact lv_max (len2 hr hs) (len2 ht hr) h1 h2
theorem cov_min {k : Kd} {r s t : Rc} (hr : r.fits k) (hs : s.fits k) (ht : t.fits k) (h1 : cov r t = true) (h2 : cov s t = true) : cov (Rc.zip min r s) t = true := by
  rw [cov_lv, flat_zip min hr hs]
  exact lv_min (len2 hr hs) (len2 ht hr) h1 h2
end
/-- the ins: each of the one is covered by that of the other -/
def insB (rs ss : List Rc) : Bool := (List.zipWith (fun mine its => cov its mine) rs ss).all id
theorem ins_cons {r s : Rc} {rs ss : List Rc} : insB (r :: rs) (s :: ss) = true ↔ cov s r = true ∧ insB rs ss = true := by
  unfold insB
  simp
theorem ins_l : ∀ {ks : List Kd} {rs ss : List Rc}, fitAll ks rs → fitAll ks ss → insB rs (List.zipWith (Rc.zip max) rs ss) = true
  | [], [], [], _, _ => rfl
  | k :: ks, r :: rs, s :: ss, h, g => ins_cons.mpr ⟨cov_max_l h.1 g.1, ins_l h.2 g.2⟩
  | [], _ :: _, _, h, _ => h.elim
  | [], [], _ :: _, _, h => h.elim
  | _ :: _, [], _, h, _ => h.elim
  | _ :: _, _ :: _, [], _, h => h.elim
theorem ins_r : ∀ {ks : List Kd} {rs ss : List Rc}, fitAll ks rs → fitAll ks ss → insB ss (List.zipWith (Rc.zip max) rs ss) = true
  | [], [], [], _, _ => rfl
  | k :: ks, r :: rs, s :: ss, h, g => ins_cons.mpr ⟨cov_max_r h.1 g.1, ins_r h.2 g.2⟩
  | [], _ :: _, _, h, _ => h.elim
  | [], [], _ :: _, _, h => h.elim
  | _ :: _, [], _, h, _ => h.elim
  | _ :: _, _ :: _, [], _, h => h.elim
theorem ins_trans : ∀ {ks : List Kd} {rs ss ts : List Rc}, fitAll ks rs → fitAll ks ss → fitAll ks ts → insB rs ss = true → insB ss ts = true → insB rs ts = true
  | [], [], [], [], _, _, _, _, _ => rfl
  | k :: ks, r :: rs, s :: ss, t :: ts, h, g, f, a, b => by
    obtain ⟨a1, a2⟩ := ins_cons.mp a
    obtain ⟨b1, b2⟩ := ins_cons.mp b
    exact ins_cons.mpr ⟨cov_trans f.1 g.1 h.1 b1 a1, ins_trans h.2 g.2 f.2 a2 b2⟩
  | [], _ :: _, _, _, h, _, _, _, _ => h.elim
  | [], [], _ :: _, _, _, h, _, _, _ => h.elim
  | [], [], [], _ :: _, _, _, h, _, _ => h.elim
  | _ :: _, [], _, _, h, _, _, _, _ => h.elim
  | _ :: _, _ :: _, [], _, _, h, _, _, _ => h.elim
  | _ :: _, _ :: _, _ :: _, [], _, _, h, _, _ => h.elim
theorem ins_max : ∀ {ks : List Kd} {rs ss ts : List Rc}, fitAll ks rs → fitAll ks ss → fitAll ks ts → insB rs ts = true → insB ss ts = true → insB (List.zipWith (Rc.zip max) rs ss) ts = true
  | [], [], [], [], _, _, _, _, _ => rfl
  | k :: ks, r :: rs, s :: ss, t :: ts, h, g, f, a, b => by
    obtain ⟨a1, a2⟩ := ins_cons.mp a
    obtain ⟨b1, b2⟩ := ins_cons.mp b
    exact ins_cons.mpr ⟨cov_max h.1 g.1 f.1 a1 b1, ins_max h.2 g.2 f.2 a2 b2⟩
  | [], _ :: _, _, _, h, _, _, _, _ => h.elim
  | [], [], _ :: _, _, _, h, _, _, _ => h.elim
  | [], [], [], _ :: _, _, _, h, _, _ => h.elim
  | _ :: _, [], _, _, h, _, _, _, _ => h.elim
  | _ :: _, _ :: _, [], _, _, h, _, _, _ => h.elim
  | _ :: _, _ :: _, _ :: _, [], _, _, h, _, _ => h.elim
theorem so_iff {c e : Cd} : soB c e = true ↔ insB c.ins e.ins = true ∧ cov c.out e.out = true := by
  unfold soB insB
  rw [Bool.and_eq_true]
theorem srv_iff {c e : Cd} : srv c e = true ↔ soB c e = true ∧ c.paid ≤ e.paid ∧ c.paid - e.paid + (e.left - c.left) ≤ 0 := by
  unfold srv lack
  rw [Bool.and_eq_true, decide_eq_true_eq]
  constructor
  · rintro ⟨h1, h2⟩
    exact ⟨h1, by omega, by omega⟩
  · rintro ⟨h1, h2, h3⟩
    exact ⟨h1, by omega⟩
section
variable {ks : List Kd} {k : Kd} {c e t : Cd}
theorem both_fits (hc : c.fits ks k) (he : e.fits ks k) (h1 : c.paid ≤ 1000) (h2 : e.paid ≤ 1000) (h3 : c.left ≤ 1000) (h4 : e.left ≤ 1000) : (both c e).fits ks k := by
  obtain ⟨p1, p2⟩ := hc.paid
  obtain ⟨p3, p4⟩ := he.paid
  obtain ⟨p5, p6⟩ := hc.left
  obtain ⟨p7, p8⟩ := he.left
  refine ⟨fit_zip (fun _ _ => sm_max) hc.ins he.ins, ⟨?_, ?_⟩, fits_zip (fun _ _ => sm_min) hc.out he.out, ⟨?_, ?_⟩⟩
  · show 0 ≤ max c.paid e.paid
    omega
  · show max c.paid e.paid ≤ 100000
    omega
  · show 0 ≤ min (c.left + (max c.paid e.paid - c.paid)) (e.left + (max c.paid e.paid - e.paid))
    omega
  · show min (c.left + (max c.paid e.paid - c.paid)) (e.left + (max c.paid e.paid - e.paid)) ≤ 100000
    omega
theorem srv_l (hc : c.fits ks k) (he : e.fits ks k) : srv c (both c e) = true := by
  refine srv_iff.mpr ⟨so_iff.mpr ⟨ins_l hc.ins he.ins, cov_min_l hc.out he.out⟩, ?_, ?_⟩
  · show c.paid ≤ max c.paid e.paid
    omega
  · show c.paid - max c.paid e.paid + (min (c.left + (max c.paid e.paid - c.paid)) (e.left + (max c.paid e.paid - e.paid)) - c.left) ≤ 0
    omega
theorem srv_r (hc : c.fits ks k) (he : e.fits ks k) : srv e (both c e) = true := by
  refine srv_iff.mpr ⟨so_iff.mpr ⟨ins_r hc.ins he.ins, cov_min_r hc.out he.out⟩, ?_, ?_⟩
  · show e.paid ≤ max c.paid e.paid
    omega
  · show e.paid - max c.paid e.paid + (min (c.left + (max c.paid e.paid - c.paid)) (e.left + (max c.paid e.paid - e.paid)) - e.left) ≤ 0
    omega
theorem srv_both (hc : c.fits ks k) (he : e.fits ks k) (ht : t.fits ks k) (h1 : srv c t = true) (h2 : srv e t = true) : srv (both c e) t = true := by
  obtain ⟨a1, a2, a3⟩ := srv_iff.mp h1
  obtain ⟨b1, b2, b3⟩ := srv_iff.mp h2
  obtain ⟨a4, a5⟩ := so_iff.mp a1
  obtain ⟨b4, b5⟩ := so_iff.mp b1
  refine srv_iff.mpr ⟨so_iff.mpr ⟨ins_max hc.ins he.ins ht.ins a4 b4, cov_min hc.out he.out ht.out a5 b5⟩, ?_, ?_⟩
  · show max c.paid e.paid ≤ t.paid
    omega
  · show max c.paid e.paid - t.paid + (t.left - min (c.left + (max c.paid e.paid - c.paid)) (e.left + (max c.paid e.paid - e.paid))) ≤ 0
    omega
theorem srv_trans (hc : c.fits ks k) (he : e.fits ks k) (ht : t.fits ks k) (h1 : srv c e = true) (h2 : srv e t = true) : srv c t = true := by
  obtain ⟨a1, a2, a3⟩ := srv_iff.mp h1
  obtain ⟨b1, b2, b3⟩ := srv_iff.mp h2
  obtain ⟨a4, a5⟩ := so_iff.mp a1
  obtain ⟨b4, b5⟩ := so_iff.mp b1
  exact srv_iff.mpr ⟨so_iff.mpr ⟨ins_trans hc.ins he.ins ht.ins a4 b4, cov_trans hc.out he.out ht.out a5 b5⟩, by omega, by omega⟩
theorem raised_srv (h : soB c e = true) : srv c { e with paid := e.paid + lack c e } = true := by
  refine srv_iff.mpr ⟨h, ?_, ?_⟩
  · show c.paid ≤ e.paid + lack c e
    unfold lack
    omega
  · show c.paid - (e.paid + lack c e) + (e.left - c.left) ≤ 0
    unfold lack
    omega
theorem raised_not (hp : 0 < lack c e) : srv c { e with paid := e.paid + (lack c e - 1) } = false := by
  rw [← Bool.not_eq_true]
  intro h
  obtain ⟨h1, h2, h3⟩ := srv_iff.mp h
  have h2 : c.paid ≤ e.paid + (lack c e - 1) := h2
  have h3 : c.paid - (e.paid + (lack c e - 1)) + (e.left - c.left) ≤ 0 := h3
  have : lack c e = max 0 (max (c.paid - e.paid) (c.paid - e.paid + (e.left - c.left))) := rfl
  omega
theorem lack_le (hc : c.fits ks k) (he : e.fits ks k) (h1 : c.paid ≤ 1000) (h4 : e.left ≤ 1000) : 0 ≤ lack c e ∧ lack c e ≤ 2000 := by
  obtain ⟨p1, p2⟩ := hc.paid
  obtain ⟨p3, p4⟩ := he.paid
  obtain ⟨p5, p6⟩ := hc.left
  obtain ⟨p7, p8⟩ := he.left
  unfold lack
  omega
end
end K48

namespace K48
open PySem PySem.Spec PyProof.Rows L2 PL
variable [Hand]
/-! ### data that are shown in few signs -/
structure Nc (p : PyData) (w dp : Nat) : Prop where
  ls : PyData.leavesShort 13 p = true
  sh : PyData.showable p = true
  nd : PyData.hasDict p = false
  cl : PyData.canLay0 p = true
  wt : PyData.weight p ≤ w
  dp : PyData.depth p ≤ dp
structure Ncs (ps : List PyData) (w dp : Nat) : Prop where
  ls : PyData.leavesShortAll 13 ps = true
  sh : PyData.showableAll ps = true
  nd : PyData.hasDictAll ps = false
  cl : PyData.canLayAll0 ps = true
  wt : PyData.weightAll ps ≤ w
  dp : PyData.depthAll ps ≤ dp
theorem ncs_nil {dp : Nat} : Ncs [] 0 dp := ⟨rfl, rfl, rfl, rfl, Nat.le_refl _, Nat.zero_le _⟩
theorem ncs_cons {p : PyData} {ps : List PyData} {w w' dp : Nat} (h : Nc p w dp) (k : Ncs ps w' dp) : Ncs (p :: ps) (w + 1 + w') dp := by
  refine ⟨?_, ?_, ?_, ?_, ?_, ?_⟩
  · show (PyData.leavesShort 13 p && PyData.leavesShortAll 13 ps) = true
    rw [h.ls, k.ls]
    rfl
  · show (PyData.showable p && PyData.showableAll ps) = true
    rw [h.sh, k.sh]
    rfl
  · show (PyData.hasDict p || PyData.hasDictAll ps) = false
    rw [h.nd, k.nd]
    rfl
  · show (PyData.canLay0 p && PyData.canLayAll0 ps) = true
    rw [h.cl, k.cl]
    rfl
  · show PyData.weight p + 1 + PyData.weightAll ps ≤ _
    have := h.wt
    have := k.wt
    omega
  · show max (PyData.depth p) (PyData.depthAll ps) ≤ _
    have := h.dp
    have := k.dp
    omega
theorem nc_tup {ps : List PyData} {w dp : Nat} (h : Ncs ps w dp) : Nc (.tuple ps) w (dp + 1) := ⟨h.ls, h.sh, h.nd, h.cl, h.wt, Nat.succ_le_succ h.dp⟩
theorem nc_lst {ps : List PyData} {w dp : Nat} (h : Ncs ps w dp) : Nc (.list ps) w (dp + 1) := ⟨h.ls, h.sh, h.nd, h.cl, h.wt, Nat.succ_le_succ h.dp⟩
theorem Nc.to {p : PyData} {w w' dp dp' : Nat} (h : Nc p w dp) (h1 : w ≤ w') (h2 : dp ≤ dp') : Nc p w' dp' := ⟨h.ls, h.sh, h.nd, h.cl, Nat.le_trans h.wt h1, Nat.le_trans h.dp h2⟩
theorem Ncs.to {p : List PyData} {w w' dp dp' : Nat} (h : Ncs p w dp) (h1 : w ≤ w') (h2 : dp ≤ dp') : Ncs p w' dp' := ⟨h.ls, h.sh, h.nd, h.cl, Nat.le_trans h.wt h1, Nat.le_trans h.dp h2⟩
theorem log_le {n : Nat} (h : n ≤ 10000000) : n.log2 ≤ 24 := by
  by_cases h0 : n = 0
  · rw [h0]
    decide
  · have : n.log2 < 25 := (Nat.log2_lt h0).mpr (by omega)
    omega
theorem nc_int {i : Int} (h : i.natAbs ≤ 10000000) : Nc (.int i) 25 0 := by
  have h2 := log_le h
  refine ⟨?_, ?_, rfl, rfl, ?_, Nat.le_refl _⟩
  · show decide ((PyData.shown (.int i)).length ≤ 13) = true
    exact decide_eq_true (PyData.shown_int_le (by omega))
  · show decide (i.natAbs.log2 < 1920) = true
    exact decide_eq_true (by omega)
  · show (if i == 0 then 0 else i.natAbs.log2 + 1) ≤ 25
    split <;> omega
theorem nc_non : Nc .none 0 0 := ⟨rfl, rfl, rfl, rfl, Nat.le_refl _, Nat.le_refl _⟩
theorem nc_bl (b : Bool) : Nc (.bool b) 0 0 := ⟨rfl, rfl, rfl, rfl, Nat.le_refl _, Nat.le_refl _⟩
theorem py_tup {ds : List D} {ps : List PyData} (h : D.pys ds = some ps) : (D.tup ds).py = some (.tuple ps) := by
  show (match D.pys ds with | some ps => some (PyData.tuple ps) | none => none) = _
  rw [h]
theorem py_lst {ds : List D} {ps : List PyData} (h : D.pys ds = some ps) : (D.lst ds).py = some (.list ps) := by
  show (match D.pys ds with | some ps => some (PyData.list ps) | none => none) = _
  rw [h]
theorem pys_cons {d : D} {ds : List D} {p : PyData} {ps : List PyData} (h : d.py = some p) (k : D.pys ds = some ps) : D.pys (d :: ds) = some (p :: ps) := by
  show (match D.py d, D.pys ds with | some p, some ps => some (p :: ps) | _, _ => none) = _
  rw [h, k]
/-- data with a small picture -/
def Pic (d : D) (w dp : Nat) : Prop := ∃ p, d.py = some p ∧ Nc p w dp
def Pics (ds : List D) (w dp : Nat) : Prop := ∃ ps, D.pys ds = some ps ∧ Ncs ps w dp
theorem pics_nil {dp : Nat} : Pics [] 0 dp := ⟨[], rfl, ncs_nil⟩
theorem pics_cons {d : D} {ds : List D} {w w' dp : Nat} : Pic d w dp → Pics ds w' dp → Pics (d :: ds) (w + 1 + w') dp
  | ⟨p, h1, h2⟩, ⟨ps, k1, k2⟩ => ⟨p :: ps, pys_cons h1 k1, ncs_cons h2 k2⟩
theorem pic_tup {ds : List D} {w dp : Nat} : Pics ds w dp → Pic (.tup ds) w (dp + 1)
  | ⟨ps, h1, h2⟩ => ⟨.tuple ps, py_tup h1, nc_tup h2⟩
theorem pic_lst {ds : List D} {w dp : Nat} : Pics ds w dp → Pic (.lst ds) w (dp + 1)
  | ⟨ps, h1, h2⟩ => ⟨.list ps, py_lst h1, nc_lst h2⟩
theorem Pic.to {d : D} {w w' dp dp' : Nat} : Pic d w dp → w ≤ w' → dp ≤ dp' → Pic d w' dp'
  | ⟨p, h1, h2⟩, h3, h4 => ⟨p, h1, h2.to h3 h4⟩
theorem Pics.to {d : List D} {w w' dp dp' : Nat} : Pics d w dp → w ≤ w' → dp ≤ dp' → Pics d w' dp'
  | ⟨p, h1, h2⟩, h3, h4 => ⟨p, h1, h2.to h3 h4⟩
theorem pic_int {i : Int} (h : i.natAbs ≤ 10000000) : Pic (.int i) 25 0 := ⟨_, rfl, nc_int h⟩
theorem pic_am {z : Int} (h : bd9 z) : Pic (am z) 60 1 := by
  obtain ⟨a, b, e, hb, hab, hb2, ha⟩ := low2_halves (z := z)
  unfold bd9 at h
  rw [e]
  exact (pic_tup (pics_cons (pic_int (by omega)) (pics_cons (pic_int (by omega)) pics_nil))).to (by decide) (by decide)
theorem pic_rich : ∀ {k : Kd} {r : Rc}, r.fits k → Pic r.d (200 * k.sz) (k.ht + 2)
  | .int, .leaf, _ => (pic_tup (dp := 0) pics_nil).to (by decide) (by decide)
  | .flag, .leaf, _ => (pic_tup (dp := 0) pics_nil).to (by decide) (by decide)
  | .list k, .one n r, h => (pic_tup (dp := k.ht + 2) (pics_cons ((pic_am (sm_bd h.1)).to (Nat.le_refl _) (by omega)) (pics_cons (pic_rich h.2) pics_nil))).to (by show _ ≤ 200 * (k.sz + 1); omega) (by show _ ≤ (k.ht + 1) + 2; omega)
  | .tree k, .one n r, h => (pic_tup (dp := k.ht + 2) (pics_cons ((pic_am (sm_bd h.1)).to (Nat.le_refl _) (by omega)) (pics_cons (pic_rich h.2) pics_nil))).to (by show _ ≤ 200 * (k.sz + 1); omega) (by show _ ≤ (k.ht + 1) + 2; omega)
  | .pair a b, .two r s, h => (pic_tup (dp := max a.ht b.ht + 2) (pics_cons ((pic_rich h.1).to (Nat.le_refl _) (by omega)) (pics_cons ((pic_rich h.2).to (Nat.le_refl _) (by omega)) pics_nil))).to (by show _ ≤ 200 * (a.sz + b.sz + 1); omega) (by show _ ≤ (max a.ht b.ht + 1) + 2; omega)
  | .either a b, .four n r m s, h => (pic_tup (dp := max a.ht b.ht + 2) (pics_cons ((pic_am (sm_bd h.1.1)).to (Nat.le_refl _) (by omega)) (pics_cons ((pic_rich h.2.1).to (Nat.le_refl _) (by omega)) (pics_cons ((pic_am (sm_bd h.1.2)).to (Nat.le_refl _) (by omega)) (pics_cons ((pic_rich h.2.2).to (Nat.le_refl _) (by omega)) pics_nil))))).to (by show _ ≤ 200 * (a.sz + b.sz + 1); omega) (by show _ ≤ (max a.ht b.ht + 1) + 2; omega)
theorem sz7 {k : Kd} (h : k.ht ≤ 2) : k.sz ≤ 7 := by
  have h1 := Kd.sz_le k
  have h2 : 2 ^ (k.ht + 1) ≤ 2 ^ 3 := Nat.pow_le_pow_right (by decide) (by omega)
  omega
theorem pic_rich2 {k : Kd} {r : Rc} (h : r.fits k) (hk : k.ht ≤ 2) : Pic r.d 1400 4 := (pic_rich h).to (by have := sz7 hk; omega) (by omega)
theorem pics_ins : ∀ {ks : List Kd} {rs : List Rc}, (∀ k ∈ ks, k.ht ≤ 2) → fitAll ks rs → Pics (rs.map Rc.d) (1401 * ks.length) 4
  | [], [], _, _ => pics_nil
  | k :: ks, r :: rs, hk, h => (pics_cons (pic_rich2 h.1 (hk k List.mem_cons_self)) (pics_ins (fun k' hm => hk k' (List.mem_cons_of_mem _ hm)) h.2)).to (by rw [List.length_cons]; omega) (Nat.le_refl _)
  | [], _ :: _, _, h => h.elim
  | _ :: _, [], _, h => h.elim
theorem pic_card {ks : List Kd} {k : Kd} {c : Cd} (hks : ksOk ks) (hk : kOk k) (hc : c.fits ks k) : Pic c.d 10000 7 := by
  have h1 := pic_tup (pics_ins hks.2 hc.ins)
  have hl := hks.1
  exact (pic_tup (dp := 5) (pics_cons h1 (pics_cons ((pic_am (sm2_bd hc.paid)).to (Nat.le_refl _) (by decide)) (pics_cons ((pic_rich2 hc.out hk).to (Nat.le_refl _) (by decide)) (pics_cons ((pic_am (sm2_bd hc.left)).to (Nat.le_refl _) (by decide)) pics_nil))))).to (by omega) (by decide)
theorem rp_of {d : D} {w dp : Nat} (h : Pic d w dp) (hw : w ≤ 1000000) (hd : dp ≤ 64) (nb : ∀ b, d ≠ .bl b) (ns : ∀ x, d ≠ .str x) : ∃ p, D.rp d p := by
  obtain ⟨p, h1, h2⟩ := h
  refine ⟨p, h1, h2.sh, h2.nd, PyData.shown_fits (B := 13) (by decide) (by decide) h2.ls (Nat.le_trans h2.wt (by omega)), Nat.le_trans h2.dp (by omega), fun b e => ?_, fun x e => ?_⟩
  · subst e
    cases d <;> first | (cases h1; exact nb _ rfl) | (simp [D.py] at h1; done) | (unfold D.py at h1; split at h1 <;> cases h1)
  · subst e
    cases d <;> first | (cases h1; exact ns _ rfl) | (simp [D.py] at h1; done) | (unfold D.py at h1; split at h1 <;> cases h1)
theorem shaped_of {d : D} {w dp : Nat} (h : Pic d w dp) (hd : dp ≤ 64) : ∃ p, d.py = some p ∧ SeqAt.shaped p = true := by
  obtain ⟨p, h1, h2⟩ := h
  refine ⟨p, h1, ?_⟩
  unfold SeqAt.shaped
  rw [h2.cl, decide_eq_true (Nat.le_trans h2.dp hd)]
  rfl
theorem pics_ams : ∀ {zs : List Int}, (∀ z ∈ zs, sm z) → Pics (zs.map am) (61 * zs.length) 1
  | [], _ => pics_nil
  | z :: zs, h => (pics_cons (pic_am (sm_bd (h z List.mem_cons_self))) (pics_ams fun x hx => h x (List.mem_cons_of_mem _ hx))).to (by rw [List.length_cons]; omega) (Nat.le_refl _)
end K48

namespace K48
open PySem PySem.Spec PyProof.Rows L2 PL
variable [Hand]
structure Good (ks : List Kd) (k : Kd) (c : Cd) : Prop where
  fits : c.fits ks k
  paid : c.paid ≤ 1000
  left : c.left ≤ 1000
def S__law_pair_right : Sem1 := fun ws P _ => ∃ ks k c e t, ws = [v (ksD ks), v (Kd.d k), v (Cd.d c), v (Cd.d e), v (Cd.d t)] ∧ ksOk ks ∧ kOk k ∧ Good ks k c ∧ Good ks k e ∧ Good ks k t ∧ P (.bl true)
theorem dec_int (a b : Int) : decide (V.int a = V.int b) = decide (a = b) := by
  by_cases h : a = b
  · rw [decide_eq_true h, decide_eq_true (congrArg V.int h)]
  · rw [decide_eq_false h, decide_eq_false fun q => h (V.int.inj q)]
section
variable {ws : List W} {Q : D → Prop} {Y : Str → Prop} {n : Nat}
theorem end_amounts {k : Kd} {c : Cd} (hk : kOk k) (hc : c.out.fits k) {w0 w3 w4 w5 w6 w7 w8 : Option W} (cl : clean [w0, some (v k.d), some (v c.d), w3, w4, w5, w6, w7, w8, none, none] = true) (hQ : Q (.bl true)) :
    sRet (xBin fEqD (xCall S_amounts_of 2 (aCons (xSlot 1) (aCons (xBin fIx (xSlot 2) (xVal (.int 2))) aNil))) (xUn gTuple (xOf (mLc un1 [10] [10] (iLst (xCall (S__law_flat 3) 2 (aCons (xSlot 1) (aCons (xBin fIx (xSlot 2) (xVal (.int 2))) aNil)))) (xCall S__law_amount 1 (aCons (xSlot 10) aNil))))))
      [w0, some (v k.d), some (v c.d), w3, w4, w5, w6, w7, w8, none, none] (fun x _ => Y x) (T0 Q) := by
  have hfl := flat14 hc hk
  have hfs := flat_sm hc
  repeat ((conv => whnf); first | exact cl | (refine And.intro (by first | exact cl | exact rfl | exact List.cons_ne_nil _ _ | exact True.intro | exact Nat.le_of_ble_eq_true rfl | decide | (simp; done) | omega) ?_) | (refine ⟨_, rfl, ?_⟩))
  refine ⟨k, c.out, rfl, hk, hc, ?_⟩
  repeat ((conv => whnf); first | exact cl | (refine And.intro (by first | exact cl | exact rfl | exact List.cons_ne_nil _ _ | exact True.intro | exact Nat.le_of_ble_eq_true rfl | decide | (simp; done) | omega) ?_) | (refine ⟨_, rfl, ?_⟩))
  refine ⟨k, c.out, rfl, by unfold kOk at hk; omega, hc, ?_⟩
  repeat ((conv => whnf); first | (refine And.intro (by first | exact rfl | exact List.cons_ne_nil _ _ | exact True.intro | exact Nat.le_of_ble_eq_true rfl | decide | (simp; done) | omega) ?_) | (refine ⟨_, rfl, ?_⟩))
  refine And.intro (by simp; omega) (And.intro (by unfold freeOwn; exact Bool.and_eq_true_iff.mpr ⟨cl, rfl⟩) ?_)
  refine lc_of D.int am (fun z hz K hK => ?_) ?_
  · have b := sm_bd (hfs z hz)
    have cl2 : clean (setW (wipeW [w0, some (v k.d), some (v c.d), w3, w4, w5, w6, w7, w8, none, none] [10]) [10] [.int z]) = true := by
      unfold clean at cl ⊢
      simp only [setW, wipeW, List.set, List.all_cons, List.all_nil, Bool.and_true] at cl ⊢
      simpa using cl
    repeat ((conv => whnf); first | exact b | exact cl2 | exact hK | (refine And.intro (by first | exact b | exact cl2 | exact hK | exact rfl | exact List.cons_ne_nil _ _ | exact True.intro | exact Nat.le_of_ble_eq_true rfl | decide | (simp; done) | omega) ?_) | (refine ⟨_, rfl, ?_⟩))
  · rw [List.nil_append]
    obtain ⟨ps, hp, hn⟩ := pics_ams hfs
    have h1 : (D.tup (c.out.flat.map am)).py = some (.tuple ps) := py_tup hp
    have hs : SeqAt.shaped (.tuple ps) = true := by
      have h2 := nc_tup hn
      unfold SeqAt.shaped
      rw [h2.cl, decide_eq_true (Nat.le_trans h2.dp (by decide))]
      rfl
    conv => whnf
    rw [h1]
    conv => whnf
    refine And.intro hs (And.intro hs ?_)
    rw [SeqAt.eqv_refl _ (nc_tup hn).cl]
    repeat ((conv => whnf); first | exact hQ | (refine And.intro (by first | exact hQ | exact rfl | exact List.cons_ne_nil _ _ | exact True.intro | exact Nat.le_of_ble_eq_true rfl | decide | (simp; done) | omega) ?_) | (refine ⟨_, rfl, ?_⟩))
def pr_tail : MS :=
    (sCons (sAsg 8 (xCall S_both_serve 4 (aCons (xSlot 0) (aCons (xSlot 1) (aCons (xSlot 2) (aCons (xSlot 3) aNil))))))
    (sCons (sIf (tNot (tVal (xCall S__law_is 2 (aCons (xSlot 8) (aCons (xCall S__law_both 4 (aCons (xSlot 0) (aCons (xSlot 1) (aCons (xSlot 2) (aCons (xSlot 3) aNil))))) aNil))))) (sRet (xVal (.bl false))) sNil)
    (sCons (sIf (tCmp cNeD (xOf (mLc un1 [9] [9] (PL.iTup (xTup (aCons (xSlot 2) (aCons (xSlot 3) aNil)))) (xCall S_serves 4 (aCons (xSlot 0) (aCons (xSlot 1) (aCons (xSlot 9) (aCons (xSlot 8) aNil))))))) (xLst (aCons (xVal (.bl true)) (aCons (xVal (.bl true)) aNil)))) (sRet (xVal (.bl false))) sNil)
    (sCons (sIf (tAnd (tVal (xCall S_serves 4 (aCons (xSlot 0) (aCons (xSlot 1) (aCons (xSlot 2) (aCons (xSlot 4) aNil)))))) (tVal (xCall S_serves 4 (aCons (xSlot 0) (aCons (xSlot 1) (aCons (xSlot 3) (aCons (xSlot 4) aNil))))))) (sIf (tCmp cNotB (xCall S_serves 4 (aCons (xSlot 0) (aCons (xSlot 1) (aCons (xSlot 8) (aCons (xSlot 4) aNil))))) (xVal (.bl true))) (sRet (xVal (.bl false))) sNil) sNil)
    (sCons (sIf (tAnd (tVal (xCall S_serves 4 (aCons (xSlot 0) (aCons (xSlot 1) (aCons (xSlot 2) (aCons (xSlot 3) aNil)))))) (tVal (xCall S_serves 4 (aCons (xSlot 0) (aCons (xSlot 1) (aCons (xSlot 3) (aCons (xSlot 4) aNil))))))) (sIf (tCmp cNotB (xCall S_serves 4 (aCons (xSlot 0) (aCons (xSlot 1) (aCons (xSlot 2) (aCons (xSlot 4) aNil))))) (xVal (.bl true))) (sRet (xVal (.bl false))) sNil) sNil)
    (sRet (xBin fEqD (xCall S_amounts_of 2 (aCons (xSlot 1) (aCons (xBin fIx (xSlot 2) (xVal (.int 2))) aNil))) (xUn gTuple (xOf (mLc un1 [10] [10] (iLst (xCall (S__law_flat 3) 2 (aCons (xSlot 1) (aCons (xBin fIx (xSlot 2) (xVal (.int 2))) aNil)))) (xCall S__law_amount 1 (aCons (xSlot 10) aNil))))))))))))
theorem pic_bl (b : Bool) : Pic (.bl b) 0 0 := ⟨_, rfl, nc_bl b⟩
theorem pic_non : Pic .non 0 0 := ⟨_, rfl, nc_non⟩
def pr_tail2 : MS :=
    (sCons (sIf (tAnd (tVal (xCall S_serves 4 (aCons (xSlot 0) (aCons (xSlot 1) (aCons (xSlot 2) (aCons (xSlot 3) aNil)))))) (tVal (xCall S_serves 4 (aCons (xSlot 0) (aCons (xSlot 1) (aCons (xSlot 3) (aCons (xSlot 4) aNil))))))) (sIf (tCmp cNotB (xCall S_serves 4 (aCons (xSlot 0) (aCons (xSlot 1) (aCons (xSlot 2) (aCons (xSlot 4) aNil))))) (xVal (.bl true))) (sRet (xVal (.bl false))) sNil) sNil)
    (sRet (xBin fEqD (xCall S_amounts_of 2 (aCons (xSlot 1) (aCons (xBin fIx (xSlot 2) (xVal (.int 2))) aNil))) (xUn gTuple (xOf (mLc un1 [10] [10] (iLst (xCall (S__law_flat 3) 2 (aCons (xSlot 1) (aCons (xBin fIx (xSlot 2) (xVal (.int 2))) aNil)))) (xCall S__law_amount 1 (aCons (xSlot 10) aNil))))))))
theorem pr_two {ks : List Kd} {k : Kd} {c e t : Cd} {x5 x6 x7 x8 : D} (hks : ksOk ks) (hk : kOk k) (hc : c.fits ks k) (he : e.fits ks k) (ht : t.fits ks k) (hQ : Q (.bl true)) :
    pr_tail2 [some (v (ksD ks)), some (v k.d), some (v c.d), some (v e.d), some (v t.d), some (v x5), some (v x6), some (v x7), some (v x8), none, none] (fun x _ => Y x) (T0 Q) := by
  repeat ((conv => whnf); first | (refine And.intro (by first | exact rfl | exact List.cons_ne_nil _ _ | exact True.intro | exact Nat.le_of_ble_eq_true rfl | decide | (simp; done) | omega) ?_) | (refine ⟨_, rfl, ?_⟩))
  refine .inl ⟨ks, k, c, e, rfl, hks, hk, hc, he, ?_⟩
  conv => whnf
  by_cases h1 : srv c e = true
  · refine iteT h1 ?_
    repeat ((conv => whnf); first | (refine And.intro (by first | exact rfl | exact List.cons_ne_nil _ _ | exact True.intro | exact Nat.le_of_ble_eq_true rfl | decide | (simp; done) | omega) ?_) | (refine ⟨_, rfl, ?_⟩))
    refine .inl ⟨ks, k, e, t, rfl, hks, hk, he, ht, ?_⟩
    conv => whnf
    by_cases h2 : srv e t = true
    · refine iteT h2 ?_
      repeat ((conv => whnf); first | (refine And.intro (by first | exact rfl | exact List.cons_ne_nil _ _ | exact True.intro | exact Nat.le_of_ble_eq_true rfl | decide | (simp; done) | omega) ?_) | (refine ⟨_, rfl, ?_⟩))
      refine .inl ⟨ks, k, c, t, rfl, hks, hk, hc, ht, ?_⟩
      conv => whnf
      refine iteF (by rw [srv_trans hc he ht h1 h2]; rfl) ?_
      exact end_amounts hk hc.out rfl hQ
    · refine iteF (by rw [Bool.not_eq_true] at h2; exact h2) ?_
      exact end_amounts hk hc.out rfl hQ
  · refine iteF (by rw [Bool.not_eq_true] at h1; exact h1) ?_
    exact end_amounts hk hc.out rfl hQ
theorem pr_last {ks : List Kd} {k : Kd} {c e t : Cd} {x5 x6 x7 : D} (hks : ksOk ks) (hk : kOk k) (hc : c.fits ks k) (he : e.fits ks k) (ht : t.fits ks k) (hb : (both c e).fits ks k) (hQ : Q (.bl true)) :
    pr_tail [some (v (ksD ks)), some (v k.d), some (v c.d), some (v e.d), some (v t.d), some (v x5), some (v x6), some (v x7), none, none, none] (fun x _ => Y x) (T0 Q) := by
  obtain ⟨p, hp⟩ := rp_of (pic_card hks hk hb) (by decide) (by decide) (fun _ q => nomatch q) (fun _ q => nomatch q)
  repeat ((conv => whnf); first | (refine And.intro (by first | exact rfl | exact List.cons_ne_nil _ _ | exact True.intro | exact Nat.le_of_ble_eq_true rfl | decide | (simp; done) | omega) ?_) | (refine ⟨_, rfl, ?_⟩))
  refine .inl ⟨ks, k, c, e, rfl, hks, hk, hc, he, ?_⟩
  repeat ((conv => whnf); first | (refine And.intro (by first | exact rfl | exact List.cons_ne_nil _ _ | exact True.intro | exact Nat.le_of_ble_eq_true rfl | decide | (simp; done) | omega) ?_) | (refine ⟨_, rfl, ?_⟩))
  refine ⟨ks, k, c, e, rfl, hks, hk, hc, he, ?_⟩
  repeat ((conv => whnf); first | (refine And.intro (by first | exact rfl | exact List.cons_ne_nil _ _ | exact True.intro | exact Nat.le_of_ble_eq_true rfl | decide | (simp; done) | omega) ?_) | (refine ⟨_, rfl, ?_⟩))
  refine ⟨_, p, rfl, hp, ?_⟩
  repeat ((conv => whnf); first | (refine And.intro (by first | exact rfl | exact List.cons_ne_nil _ _ | exact True.intro | exact Nat.le_of_ble_eq_true rfl | decide | (simp; done) | omega) ?_) | (refine ⟨_, rfl, ?_⟩))
  refine .inl ⟨ks, k, c, both c e, rfl, hks, hk, hc, hb, ?_⟩
  repeat ((conv => whnf); first | (refine And.intro (by first | exact rfl | exact List.cons_ne_nil _ _ | exact True.intro | exact Nat.le_of_ble_eq_true rfl | decide | (simp; done) | omega) ?_) | (refine ⟨_, rfl, ?_⟩))
  refine .inl ⟨ks, k, e, both c e, rfl, hks, hk, he, hb, ?_⟩
  conv => whnf
  rw [srv_l hc he, srv_r hc he]
  repeat ((conv => whnf); first | (refine And.intro (by first | exact rfl | exact List.cons_ne_nil _ _ | exact True.intro | exact Nat.le_of_ble_eq_true rfl | decide | (simp; done) | omega) ?_) | (refine ⟨_, rfl, ?_⟩))
  refine .inl ⟨ks, k, c, t, rfl, hks, hk, hc, ht, ?_⟩
  conv => whnf
  by_cases h1 : srv c t = true
  · refine iteT h1 ?_
    repeat ((conv => whnf); first | (refine And.intro (by first | exact rfl | exact List.cons_ne_nil _ _ | exact True.intro | exact Nat.le_of_ble_eq_true rfl | decide | (simp; done) | omega) ?_) | (refine ⟨_, rfl, ?_⟩))
    refine .inl ⟨ks, k, e, t, rfl, hks, hk, he, ht, ?_⟩
    conv => whnf
    by_cases h2 : srv e t = true
    · refine iteT h2 ?_
      repeat ((conv => whnf); first | (refine And.intro (by first | exact rfl | exact List.cons_ne_nil _ _ | exact True.intro | exact Nat.le_of_ble_eq_true rfl | decide | (simp; done) | omega) ?_) | (refine ⟨_, rfl, ?_⟩))
      refine .inl ⟨ks, k, both c e, t, rfl, hks, hk, hb, ht, ?_⟩
      conv => whnf
      refine iteF (by rw [srv_both hc he ht h1 h2]; rfl) ?_
      exact pr_two hks hk hc he ht hQ
    · refine iteF (by rw [Bool.not_eq_true] at h2; exact h2) ?_
      exact pr_two hks hk hc he ht hQ
  · refine iteF (by rw [Bool.not_eq_true] at h1; exact h1) ?_
    exact pr_two hks hk hc he ht hQ
theorem sp__law_pair_right (h : S__law_pair_right ws Q Y) : m__law_pair_right (store0 ["kinds", "kind", "one", "other", "third", "fits", "lack", "told", "both", "card", "two"] ws) (fun x _ => Y x) (T0 Q) := by
  obtain ⟨ks, k, c, e, t, rfl, hks, hk, ⟨hc, c1, c2⟩, ⟨he, e1, e2⟩, ⟨ht, t1, t2⟩, hQ⟩ := h
  have hb := both_fits hc he c1 e1 c2 e2
  obtain ⟨n1, n2⟩ := lack_le hc he c1 e2
  have bl : bd9 (lack c e) := by unfold bd9; omega
  obtain ⟨p1, p2⟩ := he.paid
  repeat ((conv => whnf); first | (refine And.intro (by first | exact rfl | exact List.cons_ne_nil _ _ | exact True.intro | exact Nat.le_of_ble_eq_true rfl | decide | (simp; done) | omega) ?_) | (refine ⟨_, rfl, ?_⟩))
  refine .inl ⟨ks, k, c, e, rfl, hks, hk, hc, he, ?_⟩
  conv => whnf
  by_cases hso : soB c e = true
  · have hs : srv c e = decide (V.int (lack c e) = V.int 0) := by
      rw [dec_int]
      unfold srv
      rw [hso, Bool.true_and]
    have hsh : shortD c e = am (lack c e) := if_pos hso
    obtain ⟨p, hp⟩ := rp_of (d := .lst [.bl (srv c e), shortD c e]) (pic_lst (dp := 1) (pics_cons ((pic_bl _).to (Nat.le_refl _) (by decide)) (pics_cons (by rw [hsh]; exact pic_am bl) pics_nil))) (by decide) (by decide) (fun _ q => nomatch q) (fun _ q => nomatch q)
    rw [hso]
    repeat ((conv => whnf); first | (refine And.intro (by first | exact rfl | exact List.cons_ne_nil _ _ | exact True.intro | exact Nat.le_of_ble_eq_true rfl | decide | (simp; done) | omega) ?_) | (refine ⟨_, rfl, ?_⟩))
    refine ⟨ks, k, c, e, rfl, hks, hk, hc, he, ?_⟩
    repeat ((conv => whnf); first | (refine And.intro (by first | exact rfl | exact List.cons_ne_nil _ _ | exact True.intro | exact Nat.le_of_ble_eq_true rfl | decide | (simp; done) | omega) ?_) | (refine ⟨_, rfl, ?_⟩))
    refine .inl ⟨ks, k, c, e, rfl, hks, hk, hc, he, ?_⟩
    repeat ((conv => whnf); first | (refine And.intro (by first | exact rfl | exact List.cons_ne_nil _ _ | exact True.intro | exact Nat.le_of_ble_eq_true rfl | decide | (simp; done) | omega) ?_) | (refine ⟨_, rfl, ?_⟩))
    refine .inl ⟨ks, k, c, e, rfl, hks, hk, hc, he, ?_⟩
    repeat ((conv => whnf); first | exact bl | (refine And.intro (by first | exact bl | exact rfl | exact List.cons_ne_nil _ _ | exact True.intro | exact Nat.le_of_ble_eq_true rfl | decide | (simp; done) | omega) ?_) | (refine ⟨_, rfl, ?_⟩))
    refine ⟨_, p, ?_, hp, ?_⟩
    · show [v (.lst [.bl (srv c e), shortD c e]), v (.lst [.bl (decide (V.int (lack c e) = V.int 0)), am (lack c e)])] = _
      rw [← hs, ← hsh]
    repeat ((conv => whnf); first | (refine And.intro (by first | exact rfl | exact List.cons_ne_nil _ _ | exact True.intro | exact Nat.le_of_ble_eq_true rfl | decide | (simp; done) | omega) ?_) | (refine ⟨_, rfl, ?_⟩))
    refine ⟨ks, k, e, lack c e, rfl, he, by omega, by omega, ?_⟩
    repeat ((conv => whnf); first | (refine And.intro (by first | exact rfl | exact List.cons_ne_nil _ _ | exact True.intro | exact Nat.le_of_ble_eq_true rfl | decide | (simp; done) | omega) ?_) | (refine ⟨_, rfl, ?_⟩))
    refine .inl ⟨ks, k, c, _, rfl, hks, hk, hc, ⟨he.ins, ⟨by show 0 ≤ e.paid + lack c e; omega, by show e.paid + lack c e ≤ 100000; omega⟩, he.out, he.left⟩, ?_⟩
    conv => whnf
    refine iteF (by rw [raised_srv hso]; rfl) ?_
    conv => whnf
    by_cases hp : 0 < lack c e
    · refine iteT (decide_eq_true hp) ?_
      repeat ((conv => whnf); first | (refine And.intro (by first | exact rfl | exact List.cons_ne_nil _ _ | exact True.intro | exact Nat.le_of_ble_eq_true rfl | decide | (simp; done) | omega) ?_) | (refine ⟨_, rfl, ?_⟩))
      refine ⟨ks, k, e, lack c e - 1, rfl, he, by omega, by omega, ?_⟩
      repeat ((conv => whnf); first | (refine And.intro (by first | exact rfl | exact List.cons_ne_nil _ _ | exact True.intro | exact Nat.le_of_ble_eq_true rfl | decide | (simp; done) | omega) ?_) | (refine ⟨_, rfl, ?_⟩))
      refine .inl ⟨ks, k, c, _, rfl, hks, hk, hc, ⟨he.ins, ⟨by show 0 ≤ e.paid + (lack c e - 1); omega, by show e.paid + (lack c e - 1) ≤ 100000; omega⟩, he.out, he.left⟩, ?_⟩
      conv => whnf
      refine iteF (by rw [raised_not hp]; rfl) ?_
      exact pr_last hks hk hc he ht hb hQ
    · refine iteF (decide_eq_false hp) ?_
      exact pr_last hks hk hc he ht hb hQ
  · rw [Bool.not_eq_true] at hso
    have hs : srv c e = decide (V.non = V.int 0) := by
      unfold srv
      rw [hso, Bool.false_and]
      rfl
    have hsh : shortD c e = .non := by
      unfold shortD
      rw [hso]
      rfl
    obtain ⟨p, hp⟩ := rp_of (d := .lst [.bl (srv c e), shortD c e]) (pic_lst (dp := 1) (pics_cons ((pic_bl _).to (Nat.le_refl _) (by decide)) (pics_cons (by rw [hsh]; exact pic_non.to (Nat.le_refl _) (by decide)) pics_nil))) (by decide) (by decide) (fun _ q => nomatch q) (fun _ q => nomatch q)
    rw [hso]
    repeat ((conv => whnf); first | (refine And.intro (by first | exact rfl | exact List.cons_ne_nil _ _ | exact True.intro | exact Nat.le_of_ble_eq_true rfl | decide | (simp; done) | omega) ?_) | (refine ⟨_, rfl, ?_⟩))
    refine .inl ⟨ks, k, c, e, rfl, hks, hk, hc, he, ?_⟩
    repeat ((conv => whnf); first | (refine And.intro (by first | exact rfl | exact List.cons_ne_nil _ _ | exact True.intro | exact Nat.le_of_ble_eq_true rfl | decide | (simp; done) | omega) ?_) | (refine ⟨_, rfl, ?_⟩))
    refine .inl ⟨ks, k, c, e, rfl, hks, hk, hc, he, ?_⟩
    repeat ((conv => whnf); first | (refine And.intro (by first | exact rfl | exact List.cons_ne_nil _ _ | exact True.intro | exact Nat.le_of_ble_eq_true rfl | decide | (simp; done) | omega) ?_) | (refine ⟨_, rfl, ?_⟩))
    refine ⟨_, p, ?_, hp, ?_⟩
    · show [v (.lst [.bl (srv c e), shortD c e]), v (.lst [.bl (decide (V.non = V.int 0)), .non])] = _
      rw [← hs, ← hsh]
    exact pr_last hks hk hc he ht hb hQ
end
end K48

namespace PL
open PySem PySem.Spec PyProof.Rows L2
variable [Hand]
/-- an own list of slot i is data from here on -/
def sFrz (i : Nat) (m : MS) : MS := fun ρ Y T => match ρ[i]? with
  | some (some (.own ds)) => m (ρ.set i (some (.val (.lst ds)))) Y T
  | _ => False
theorem sb_frz {X : Cx} {body : List Stmt} {m : MS} (i : Nat) (hb : SndB X body m) : SndB X body (sFrz i m) := fun ρ Y T h => by
  unfold sFrz at h
  split at h
  · rename_i e
    exact wb_freeze i e (hb _ _ _ h)
  · exact h.elim
/-- a lambda handed to a def that tells its error by a word -/
def xLam (wd : Str → Option Str) (w0 : Str) (m : ME) : ME := fun ρ Y P => clean ρ = true ∧ m (dataOnly ρ) (fun y _ => ∃ r, wd y = some r ∧ P (.val (.str r)) ρ) fun _ _ => P (.val (.str w0)) ρ
end PL

namespace K48
open PySem PySem.Spec PyProof.Rows L2 PL LamX
variable [Hand]
/-- what a maker of lambdas needs: its code object's table -/
structure LamF (K : PySem.W.Frag) (mg : Str → Option Value) (base : Heap) (m : Str) : Prop where
  tb : TabB base mg (He.codeOf K (m, none)) (He.tabOf K (He.codeOf K (m, none)))
  mem : (He.tabOf K (He.codeOf K (m, none)), m ++ ".<locals>." ++ "<lambda>") ∈ Hand.T
  un : ∀ p ∈ Hand.T, p.1 = He.tabOf K (He.codeOf K (m, none)) → p.2 = m ++ ".<locals>." ++ "<lambda>"
def xWord (m : ME) : ME := xLam wd "told" m
theorem s_word {X : Cx} {g c P0 : Addr} {fdw : FuncData} {k : Nat} {params : Arguments} {body : Expr} {scope : Scope} {p lpos pos : Pos} {m : ME} (W : WordF X.K X.mg) (Fw : FnP X.K "_law_word" s__law_word g fdw) (hm : X.mg "_law_word" = some (.ref g))
    (TB : TabB X.base X.mg c P0) (hmT : (P0, X.env.qual ++ "<lambda>") ∈ Hand.T) (hu : ∀ p ∈ Hand.T, p.1 = P0 → p.2 = X.env.qual ++ "<lambda>") (hr : Room (k + 2) X.A) (hcode : X.env.code = .ref c) (hg : Gl X "_law_word") (L : lamSB X.env.scope scope = true) (hdef : defaultsOf params X.env = ([], []))
    (hbind : ∀ (q : Str) (cl : List (Str × Addr)) (pm cv ctv : Value), bindArgs (PySem.W.kla_fn "<lambda>" q params body scope cl pm cv ctv) ⟨[], []⟩ = pure [])
    (h : ∀ (A : Around) (outer : List PySem.Env) (s : Shared) (H : Hp) (E : XK) (f c' : Addr), Room k (A.deeper (lamEnv X scope s.heap.objs.size f c')) → Snd (lamCx X A outer s H E scope f c') body m) :
    Snd X (.Call (.Name "_law_word" p) [.Lambda params body scope lpos] [] pos) (xWord m) := fun ρ Y P q => by
  have hb : Binds X.K fdw ["call"] [] := FunD.bindsN (ps := ["call"]) Fw fun _ _ _ _ _ _ us hl => match us, hl with | [_], _ => rfl
  obtain ⟨oc, od, dV, kV, doc, pm, an, cdv, ct, osl, rfl, lk, hcd, _, _⟩ := Fw.ex
  exact we_lam (wd := wd) (w0 := "told") hm Fw.kp lk hcd hb sc_word rfl (.inl rfl) (word_gives W) TB hcode hmT hu hr q.1 hg (lamS_by L) hdef hbind fun A outer s H E f c' hr2 => h A outer s H E f c' hr2 _ _ _ q.2
def S__law_refused_right : Sem1 := fun ws P _ => ∃ ks k c, ws = [.hnd, v (ksD ks), v (Kd.d k), v (Cd.d c)] ∧ ksOk ks ∧ kOk k ∧ Good ks k c ∧ P (.bl true)
section
variable {P : Program} {w : World} {K : PySem.W.Frag} {mg : Str → Option Value} {base : Heap} {f : Addr} {k : Nat}
theorem sc__law_refused_right : FnScope ["hand", "kinds", "kind", "card", "odd", "bad", "told"] ["hand", "kinds", "kind", "card"] (defScope s__law_refused_right) := ⟨rfl, rfl, rfl, by decide +kernel, rfl, by decide +kernel, by decide +kernel⟩
def m__law_refused_right : MS :=
    (sCons (sAsg 4 (xCall S__law_any 2 (aCons (xSlot 0) (aCons (xLst (aCons (xVal .non) (aCons (xVal (.int 0)) (aCons (xTup (aCons (xVal (.str "list")) aNil)) (aCons (xTup (aCons (xVal (.str "int")) (aCons (xVal (.str "int")) aNil))) (aCons (xLst (aCons (xVal (.str "list")) (aCons (xVal (.str "int")) aNil))) aNil)))))) aNil))))
    (sCons (sAsg 5 (xCall S__law_any 2 (aCons (xSlot 0) (aCons (xLst (aCons (xVal .non) (aCons (xSlT (xSlot 3) oNone (oSome (xVal (.int 3)))) (aCons (xUn gList (xSlot 3)) (aCons (xBin fCatT (xTup (aCons (xBin fCatT (xBin fIx (xSlot 3) (xVal (.int 0))) (xTup (aCons (xTup aNil) aNil))) aNil)) (xSlT (xSlot 3) (oSome (xVal (.int 1))) oNone)) (aCons (xBin fCatT (xBin fCatT (xSlT (xSlot 3) oNone (oSome (xVal (.int 1)))) (xTup (aCons (xTup (aCons (xNeg (xVal (.int 1))) (aCons (xVal (.int 1)) aNil))) aNil))) (xSlT (xSlot 3) (oSome (xVal (.int 2))) oNone)) aNil)))))) aNil))))
    (sCons (sAsg 5 (xCall S__law_any 2 (aCons (xSlot 0) (aCons (xLst (aCons (xSlot 5) (aCons (xBin fCatT (xSlT (xSlot 3) oNone (oSome (xVal (.int 3)))) (xTup (aCons (xTup (aCons (xVal (.int 2)) (aCons (xVal (.int 2)) aNil))) aNil))) (aCons (xBin fCatT (xBin fCatT (xSlT (xSlot 3) oNone (oSome (xVal (.int 1)))) (xTup (aCons (xVal (.int 1)) aNil))) (xSlT (xSlot 3) (oSome (xVal (.int 2))) oNone)) aNil)))) aNil))))
    (sCons (sOwn 6 (lDisp (aCons (xWord (xCall S_serves 4 (aCons (xSlot 1) (aCons (xSlot 4) (aCons (xSlot 5) (aCons (xSlot 5) aNil)))))) aNil)))
    (sCons (sExpr (xAppS 6 (xWord (xCall S_shortfall 4 (aCons (xSlot 1) (aCons (xSlot 2) (aCons (xSlot 3) (aCons (xSlot 5) aNil))))))))
    (sCons (sExpr (xAppS 6 (xWord (xCall S_both_serve 4 (aCons (xTup (aCons (xSlot 4) aNil)) (aCons (xSlot 2) (aCons (xSlot 5) (aCons (xSlot 3) aNil))))))))
    (sCons (sExpr (xAppS 6 (xWord (xCall S_serving 4 (aCons (xSlot 1) (aCons (xSlot 2) (aCons (xBin fRepT (xTup (aCons (xSlot 3) aNil)) (xVal (.int 5))) (aCons (xSlot 5) aNil))))))))
    (sCons (sExpr (xAppS 6 (xWord (xCall S_serving 4 (aCons (xSlot 1) (aCons (xSlot 2) (aCons (xTup (aCons (xSlot 3) (aCons (xSlot 5) aNil))) (aCons (xSlot 3) aNil))))))))
    (sCons (sExpr (xAppS 6 (xWord (xCall S_serving 4 (aCons (xSlot 1) (aCons (xSlot 2) (aCons (xTup (aCons (xSlot 3) aNil)) (aCons (xSlot 5) aNil))))))))
    (sFrz 6 (sRet (xBin fEqD (xSlot 6) (xLst (aCons (xVal (.str "kind")) (aCons (xVal (.str "card")) (aCons (xVal (.str "kind")) (aCons (xVal (.str "cards")) (aCons (xVal (.str "cards")) (aCons (xVal (.str "card")) aNil)))))))))))))))))))
theorem w__law_refused_right (Z : Env K mg) (W : WordF K mg) (LF : LamF K mg base "_law_refused_right") {gw : Addr} {fdw : FuncData} (Fw : FnP K "_law_word" s__law_word gw fdw) (mw : mg "_law_word" = some (.ref gw)) (C__law_any : Cal P w K mg base k "_law_any" 2 S__law_any) (C_both_serve : Cal P w K mg base k "both_serve" 4 S_both_serve) (C_serves : Cal P w K mg base k "serves" 4 S_serves) (C_serving : Cal P w K mg base k "serving" 4 S_serving) (C_shortfall : Cal P w K mg base k "shortfall" 4 S_shortfall) {A : Around} {outer : List PySem.Env} {s : Shared} {H : Hp} {E : XK} (hr : Room (k + 2) (A.deeper (envOfC "_law_refused_right" (defScope s__law_refused_right) s.heap.objs.size f (.ref (He.codeOf K ("_law_refused_right", none)))))) : SndB (cxOf (L2.CX P w) P w K mg base ["hand", "kinds", "kind", "card", "odd", "bad", "told"] "_law_refused_right" (defScope s__law_refused_right) f (.ref (He.codeOf K ("_law_refused_right", none))) A outer s H E) (defBody s__law_refused_right) (m__law_refused_right) := by
  refine sb_cons ?_ ?_
  refine ss_asg 4 sc__law_refused_right.nd rfl (.inr rfl) ?_
  refine s_call C__law_any hr (Nat.le_add_right k 2) rfl ?_
  refine s_acons ?_ ?_
  exact s_slot 0 rfl (.inl rfl)
  refine s_acons ?_ ?_
  refine s_lst ?_
  refine s_acons ?_ ?_
  exact s_non
  refine s_acons ?_ ?_
  exact s_int
  refine s_acons ?_ ?_
  refine s_tup ?_
  refine s_acons ?_ ?_
  exact s_str
  exact s_anil
  refine s_acons ?_ ?_
  refine s_tup ?_
  refine s_acons ?_ ?_
  exact s_str
  refine s_acons ?_ ?_
  exact s_str
  exact s_anil
  refine s_acons ?_ ?_
  refine s_lst ?_
  refine s_acons ?_ ?_
  exact s_str
  refine s_acons ?_ ?_
  exact s_str
  exact s_anil
  exact s_anil
  exact s_anil
  refine sb_cons ?_ ?_
  refine ss_asg 5 sc__law_refused_right.nd rfl (.inr rfl) ?_
  refine s_call C__law_any hr (Nat.le_add_right k 2) rfl ?_
  refine s_acons ?_ ?_
  exact s_slot 0 rfl (.inl rfl)
  refine s_acons ?_ ?_
  refine s_lst ?_
  refine s_acons ?_ ?_
  exact s_non
  refine s_acons ?_ ?_
  refine s_slT ?_ ?_ ?_
  exact s_slot 3 rfl (.inr (.inl rfl))
  exact s_onone
  refine s_osome ?_
  exact s_int
  refine s_acons ?_ ?_
  refine s_list rfl Z.list ?_
  exact s_slot 3 rfl (.inr (.inl rfl))
  refine s_acons ?_ ?_
  refine s_catT ?_ ?_
  refine s_tup ?_
  refine s_acons ?_ ?_
  refine s_catT ?_ ?_
  refine s_ix ?_ ?_
  exact s_slot 3 rfl (.inr (.inl rfl))
  exact s_int
  refine s_tup ?_
  refine s_acons ?_ ?_
  refine s_tup ?_
  exact s_anil
  exact s_anil
  exact s_anil
  refine s_slT ?_ ?_ ?_
  exact s_slot 3 rfl (.inr (.inl rfl))
  refine s_osome ?_
  exact s_int
  exact s_onone
  refine s_acons ?_ ?_
  refine s_catT ?_ ?_
  refine s_catT ?_ ?_
  refine s_slT ?_ ?_ ?_
  exact s_slot 3 rfl (.inr (.inl rfl))
  exact s_onone
  refine s_osome ?_
  exact s_int
  refine s_tup ?_
  refine s_acons ?_ ?_
  refine s_tup ?_
  refine s_acons ?_ ?_
  refine s_neg ?_
  exact s_int
  refine s_acons ?_ ?_
  exact s_int
  exact s_anil
  exact s_anil
  refine s_slT ?_ ?_ ?_
  exact s_slot 3 rfl (.inr (.inl rfl))
  refine s_osome ?_
  exact s_int
  exact s_onone
  exact s_anil
  exact s_anil
  refine sb_cons ?_ ?_
  refine ss_asg 5 sc__law_refused_right.nd rfl (.inr rfl) ?_
  refine s_call C__law_any hr (Nat.le_add_right k 2) rfl ?_
  refine s_acons ?_ ?_
  exact s_slot 0 rfl (.inl rfl)
  refine s_acons ?_ ?_
  refine s_lst ?_
  refine s_acons ?_ ?_
  exact s_slot 5 rfl (.inr (.inl rfl))
  refine s_acons ?_ ?_
  refine s_catT ?_ ?_
  refine s_slT ?_ ?_ ?_
  exact s_slot 3 rfl (.inr (.inl rfl))
  exact s_onone
  refine s_osome ?_
  exact s_int
  refine s_tup ?_
  refine s_acons ?_ ?_
  refine s_tup ?_
  refine s_acons ?_ ?_
  exact s_int
  refine s_acons ?_ ?_
  exact s_int
  exact s_anil
  exact s_anil
  refine s_acons ?_ ?_
  refine s_catT ?_ ?_
  refine s_catT ?_ ?_
  refine s_slT ?_ ?_ ?_
  exact s_slot 3 rfl (.inr (.inl rfl))
  exact s_onone
  refine s_osome ?_
  exact s_int
  refine s_tup ?_
  refine s_acons ?_ ?_
  exact s_int
  exact s_anil
  refine s_slT ?_ ?_ ?_
  exact s_slot 3 rfl (.inr (.inl rfl))
  refine s_osome ?_
  exact s_int
  exact s_onone
  exact s_anil
  exact s_anil
  refine sb_cons ?_ ?_
  refine ss_own 6 sc__law_refused_right.nd rfl (.inl rfl) ?_
  refine so_list ?_
  refine s_acons ?_ ?_
  refine s_word W Fw mw LF.tb LF.mem LF.un hr rfl rfl rfl rfl (fun _ _ _ _ _ => rfl) ?_
  intro A2 outer2 s2 H2 E2 f2 c2 hr2
  refine s_call C_serves hr2 (Nat.le_refl _) rfl ?_
  refine s_acons ?_ ?_
  exact s_slot 1 rfl (.inr (.inr rfl))
  refine s_acons ?_ ?_
  exact s_slot 4 rfl (.inr (.inr rfl))
  refine s_acons ?_ ?_
  exact s_slot 5 rfl (.inr (.inr rfl))
  refine s_acons ?_ ?_
  exact s_slot 5 rfl (.inr (.inr rfl))
  exact s_anil
  exact s_anil
  refine sb_cons ?_ ?_
  refine ss_app 6 rfl (.inl rfl) ?_
  refine s_word W Fw mw LF.tb LF.mem LF.un hr rfl rfl rfl rfl (fun _ _ _ _ _ => rfl) ?_
  intro A2 outer2 s2 H2 E2 f2 c2 hr2
  refine s_call C_shortfall hr2 (Nat.le_refl _) rfl ?_
  refine s_acons ?_ ?_
  exact s_slot 1 rfl (.inr (.inr rfl))
  refine s_acons ?_ ?_
  exact s_slot 2 rfl (.inr (.inr rfl))
  refine s_acons ?_ ?_
  exact s_slot 3 rfl (.inr (.inr rfl))
  refine s_acons ?_ ?_
  exact s_slot 5 rfl (.inr (.inr rfl))
  exact s_anil
  refine sb_cons ?_ ?_
  refine ss_app 6 rfl (.inl rfl) ?_
  refine s_word W Fw mw LF.tb LF.mem LF.un hr rfl rfl rfl rfl (fun _ _ _ _ _ => rfl) ?_
  intro A2 outer2 s2 H2 E2 f2 c2 hr2
  refine s_call C_both_serve hr2 (Nat.le_refl _) rfl ?_
  refine s_acons ?_ ?_
  refine s_tup ?_
  refine s_acons ?_ ?_
  exact s_slot 4 rfl (.inr (.inr rfl))
  exact s_anil
  refine s_acons ?_ ?_
  exact s_slot 2 rfl (.inr (.inr rfl))
  refine s_acons ?_ ?_
  exact s_slot 5 rfl (.inr (.inr rfl))
  refine s_acons ?_ ?_
  exact s_slot 3 rfl (.inr (.inr rfl))
  exact s_anil
  refine sb_cons ?_ ?_
  refine ss_app 6 rfl (.inl rfl) ?_
  refine s_word W Fw mw LF.tb LF.mem LF.un hr rfl rfl rfl rfl (fun _ _ _ _ _ => rfl) ?_
  intro A2 outer2 s2 H2 E2 f2 c2 hr2
  refine s_call C_serving hr2 (Nat.le_refl _) rfl ?_
  refine s_acons ?_ ?_
  exact s_slot 1 rfl (.inr (.inr rfl))
  refine s_acons ?_ ?_
  exact s_slot 2 rfl (.inr (.inr rfl))
  refine s_acons ?_ ?_
  refine s_repT ?_ ?_
  refine s_tup ?_
  refine s_acons ?_ ?_
  exact s_slot 3 rfl (.inr (.inr rfl))
  exact s_anil
  exact s_int
  refine s_acons ?_ ?_
  exact s_slot 5 rfl (.inr (.inr rfl))
  exact s_anil
  refine sb_cons ?_ ?_
  refine ss_app 6 rfl (.inl rfl) ?_
  refine s_word W Fw mw LF.tb LF.mem LF.un hr rfl rfl rfl rfl (fun _ _ _ _ _ => rfl) ?_
  intro A2 outer2 s2 H2 E2 f2 c2 hr2
  refine s_call C_serving hr2 (Nat.le_refl _) rfl ?_
  refine s_acons ?_ ?_
  exact s_slot 1 rfl (.inr (.inr rfl))
  refine s_acons ?_ ?_
  exact s_slot 2 rfl (.inr (.inr rfl))
  refine s_acons ?_ ?_
  refine s_tup ?_
  refine s_acons ?_ ?_
  exact s_slot 3 rfl (.inr (.inr rfl))
  refine s_acons ?_ ?_
  exact s_slot 5 rfl (.inr (.inr rfl))
  exact s_anil
  refine s_acons ?_ ?_
  exact s_slot 3 rfl (.inr (.inr rfl))
  exact s_anil
  refine sb_cons ?_ ?_
  refine ss_app 6 rfl (.inl rfl) ?_
  refine s_word W Fw mw LF.tb LF.mem LF.un hr rfl rfl rfl rfl (fun _ _ _ _ _ => rfl) ?_
  intro A2 outer2 s2 H2 E2 f2 c2 hr2
  refine s_call C_serving hr2 (Nat.le_refl _) rfl ?_
  refine s_acons ?_ ?_
  exact s_slot 1 rfl (.inr (.inr rfl))
  refine s_acons ?_ ?_
  exact s_slot 2 rfl (.inr (.inr rfl))
  refine s_acons ?_ ?_
  refine s_tup ?_
  refine s_acons ?_ ?_
  exact s_slot 3 rfl (.inr (.inr rfl))
  exact s_anil
  refine s_acons ?_ ?_
  exact s_slot 5 rfl (.inr (.inr rfl))
  exact s_anil
  refine sb_frz 6 ?_
  refine sb_one ?_
  refine ss_ret ?_
  refine s_eqD hr ?_ ?_
  exact s_slot 6 rfl (.inl rfl)
  refine s_lst ?_
  refine s_acons ?_ ?_
  exact s_str
  refine s_acons ?_ ?_
  exact s_str
  refine s_acons ?_ ?_
  exact s_str
  refine s_acons ?_ ?_
  exact s_str
  refine s_acons ?_ ?_
  exact s_str
  refine s_acons ?_ ?_
  exact s_str
  exact s_anil
theorem sc__law_all : FnScope ["script", "hand", "turn", "kinds", "kind", "one", "cards", "some", "other", "third", "at", "card"] ["script"] (defScope s__law_all) := ⟨rfl, rfl, rfl, by decide +kernel, rfl, by decide +kernel, by decide +kernel⟩
def m__law_all : MS :=
    (sCons (sFor un1 [2] (iRng (xVal (.int 4))) (sCons (sAsg 3 (xUn gTuple (xOf (mLc un1 [10] [10] (iRng (xCall S__law_draw 2 (aCons (xSlot 1) (aCons (xVal (.int 4)) aNil)))) (xCall (S__law_kind 3) 2 (aCons (xSlot 1) (aCons (xVal (.int 2)) aNil)))))))
    (sCons (sAsg 4 (xCall (S__law_kind 3) 2 (aCons (xSlot 1) (aCons (xVal (.int 2)) aNil))))
    (sCons (sAsg 5 (xCall S__law_drawn 3 (aCons (xSlot 1) (aCons (xSlot 3) (aCons (xSlot 4) aNil)))))
    (sCons (sPar 8 9 (xCall S__law_near 4 (aCons (xSlot 1) (aCons (xSlot 3) (aCons (xSlot 4) (aCons (xSlot 5) aNil))))) (xCall S__law_near 4 (aCons (xSlot 1) (aCons (xSlot 3) (aCons (xSlot 4) (aCons (xSlot 5) aNil))))))
    (sCons (sIf (tOr (tNot (tVal (xCall S__law_pair_right 5 (aCons (xSlot 3) (aCons (xSlot 4) (aCons (xSlot 5) (aCons (xSlot 8) (aCons (xSlot 9) aNil)))))))) (tNot (tVal (xCall S__law_pair_right 5 (aCons (xSlot 3) (aCons (xSlot 4) (aCons (xSlot 8) (aCons (xSlot 5) (aCons (xSlot 5) aNil))))))))) (sRet (xVal (.bl false))) sNil)
    (sCons (sIf (tCmp cNeS (xCall S_covers 3 (aCons (xSlot 4) (aCons (xBin fIx (xSlot 5) (xVal (.int 2))) (aCons (xBin fIx (xSlot 8) (xVal (.int 2))) aNil)))) (xCall S__law_fits 4 (aCons (xTup aNil) (aCons (xSlot 4) (aCons (xSlot 5) (aCons (xSlot 8) aNil)))))) (sRet (xVal (.bl false))) sNil)
    (sCons (sAsg 6 (xUn gTuple (xOf (mLc un1 [10] [10] (iRng (xCall S__law_draw 2 (aCons (xSlot 1) (aCons (xVal (.int 5)) aNil)))) (xCall S__law_near 4 (aCons (xSlot 1) (aCons (xSlot 3) (aCons (xSlot 4) (aCons (xSlot 5) aNil)))))))))
    (sCons (sLc 7 (mLcIf un2 [10, 11] [10, 11] (PL.iEnum (xSlot 6)) (tVal (xCall S_serves 4 (aCons (xSlot 3) (aCons (xSlot 4) (aCons (xSlot 11) (aCons (xSlot 5) aNil)))))) (xSlot 10)))
    (sCons (sIf (tNot (tVal (xCall S__law_is 2 (aCons (xCall S_serving 4 (aCons (xSlot 3) (aCons (xSlot 4) (aCons (xSlot 6) (aCons (xSlot 5) aNil))))) (aCons (xIf (tCmp cGt (xUn gLen (xSlot 7)) (xVal (.int 0))) (xBin fIx (xSlot 7) (xVal (.int 0))) (xVal .non)) aNil))))) (sRet (xVal (.bl false))) sNil)
    (sIf (tNot (tVal (xCall S__law_refused_right 4 (aCons (xSlot 1) (aCons (xSlot 3) (aCons (xSlot 4) (aCons (xSlot 5) aNil))))))) (sRet (xVal (.bl false))) sNil)))))))))))
    (sRet (xVal (.bl true))))
theorem w__law_all (Z : Env K mg) (C__law_draw : Cal P w K mg base k "_law_draw" 2 S__law_draw) (C__law_drawn : Cal P w K mg base k "_law_drawn" 3 S__law_drawn) (C__law_fits : Cal P w K mg base k "_law_fits" 4 S__law_fits) (C__law_is : CalG P w K mg base k "_law_is" 2 S__law_is) (C__law_kind : Cal P w K mg base k "_law_kind" 2 (S__law_kind 3)) (C__law_near : Cal P w K mg base k "_law_near" 4 S__law_near) (C__law_pair_right : CalG P w K mg base k "_law_pair_right" 5 S__law_pair_right) (C__law_refused_right : Cal P w K mg base k "_law_refused_right" 4 S__law_refused_right) (C_covers : Cal P w K mg base k "covers" 3 S_covers) (C_serves : Cal P w K mg base k "serves" 4 S_serves) (C_serving : Cal P w K mg base k "serving" 4 S_serving) {cdv : Value} {A : Around} {outer : List PySem.Env} {s : Shared} {H : Hp} {E : XK} (hr : RoomG k (A.deeper (envOfC "_law_all" (defScope s__law_all) s.heap.objs.size f cdv))) : SndB (cxOf (L2.CX P w) P w K mg base ["script", "hand", "turn", "kinds", "kind", "one", "cards", "some", "other", "third", "at", "card"] "_law_all" (defScope s__law_all) f cdv A outer s H E) (defBody s__law_all).tail (m__law_all) := by
  refine sb_cons ?_ ?_
  refine ss_for (js := [2]) (un := un1) rfl (pg_name sc__law_all.nd rfl (.inl rfl)) tgt1 (show ∀ j ∈ ([2] : List Nat), j < 12 by decide) ?_ ?_
  refine si_rng rfl Z.range ?_
  exact s_int
  refine sb_cons ?_ ?_
  refine ss_asg 3 sc__law_all.nd rfl (.inr rfl) ?_
  refine s_tuple rfl Z.tuple ?_
  refine s_lc (js := [10]) (own := [("at", 10)]) (un := un1) rfl sc__law_all.nd (show BlkOk ["script", "hand", "turn", "kinds", "kind", "one", "cards", "some", "other", "third", "at", "card"] (defScope s__law_all) _ _ from blk_by (by decide +kernel)) (fun s H C cl fp => pg_name sc__law_all.nd rfl (.inl rfl)) tgt1 (by decide) (show ∀ j ∈ ([10] : List Nat), j < 12 by decide) ?_ ?_
  refine si_rng rfl Z.range ?_
  refine s_call C__law_draw hr.room (Nat.le_refl _) rfl ?_
  refine s_acons ?_ ?_
  exact s_slot 1 rfl (.inr (.inl rfl))
  refine s_acons ?_ ?_
  exact s_int
  exact s_anil
  intro s H C cl fp
  refine s_call C__law_kind hr.room (Nat.le_refl _) rfl ?_
  refine s_acons ?_ ?_
  exact s_slot 1 rfl (.inr (.inl rfl))
  refine s_acons ?_ ?_
  exact s_int
  exact s_anil
  refine sb_cons ?_ ?_
  refine ss_asg 4 sc__law_all.nd rfl (.inr rfl) ?_
  refine s_call C__law_kind hr.room (Nat.le_refl _) rfl ?_
  refine s_acons ?_ ?_
  exact s_slot 1 rfl (.inr (.inl rfl))
  refine s_acons ?_ ?_
  exact s_int
  exact s_anil
  refine sb_cons ?_ ?_
  refine ss_asg 5 sc__law_all.nd rfl (.inr rfl) ?_
  refine s_call C__law_drawn hr.room (Nat.le_refl _) rfl ?_
  refine s_acons ?_ ?_
  exact s_slot 1 rfl (.inr (.inl rfl))
  refine s_acons ?_ ?_
  exact s_slot 3 rfl (.inr (.inl rfl))
  refine s_acons ?_ ?_
  exact s_slot 4 rfl (.inr (.inl rfl))
  exact s_anil
  refine sb_cons ?_ ?_
  refine ss_par 8 9 rfl sc__law_all.nd rfl rfl (by decide) rfl rfl ?_ ?_
  refine s_call C__law_near hr.room (Nat.le_refl _) rfl ?_
  refine s_acons ?_ ?_
  exact s_slot 1 rfl (.inr (.inl rfl))
  refine s_acons ?_ ?_
  exact s_slot 3 rfl (.inr (.inl rfl))
  refine s_acons ?_ ?_
  exact s_slot 4 rfl (.inr (.inl rfl))
  refine s_acons ?_ ?_
  exact s_slot 5 rfl (.inr (.inl rfl))
  exact s_anil
  refine s_call C__law_near hr.room (Nat.le_refl _) rfl ?_
  refine s_acons ?_ ?_
  exact s_slot 1 rfl (.inr (.inl rfl))
  refine s_acons ?_ ?_
  exact s_slot 3 rfl (.inr (.inl rfl))
  refine s_acons ?_ ?_
  exact s_slot 4 rfl (.inr (.inl rfl))
  refine s_acons ?_ ?_
  exact s_slot 5 rfl (.inr (.inl rfl))
  exact s_anil
  refine sb_cons ?_ ?_
  refine ss_if ?_ ?_ ?_
  refine st_of ?_
  refine sw_or ?_ ?_
  refine st_not ?_
  refine st_val ?_
  refine s_callG C__law_pair_right hr (Nat.le_refl _) rfl ?_
  refine s_acons ?_ ?_
  exact s_slot 3 rfl (.inr (.inl rfl))
  refine s_acons ?_ ?_
  exact s_slot 4 rfl (.inr (.inl rfl))
  refine s_acons ?_ ?_
  exact s_slot 5 rfl (.inr (.inl rfl))
  refine s_acons ?_ ?_
  exact s_slot 8 rfl (.inl rfl)
  refine s_acons ?_ ?_
  exact s_slot 9 rfl (.inl rfl)
  exact s_anil
  refine sw_or1 ?_
  refine st_not ?_
  refine st_val ?_
  refine s_callG C__law_pair_right hr (Nat.le_refl _) rfl ?_
  refine s_acons ?_ ?_
  exact s_slot 3 rfl (.inr (.inl rfl))
  refine s_acons ?_ ?_
  exact s_slot 4 rfl (.inr (.inl rfl))
  refine s_acons ?_ ?_
  exact s_slot 8 rfl (.inl rfl)
  refine s_acons ?_ ?_
  exact s_slot 5 rfl (.inr (.inl rfl))
  refine s_acons ?_ ?_
  exact s_slot 5 rfl (.inr (.inl rfl))
  exact s_anil
  refine sb_one ?_
  refine ss_ret ?_
  exact s_bl
  exact sb_nil
  refine sb_cons ?_ ?_
  refine ss_if ?_ ?_ ?_
  refine st_neS ?_ ?_
  refine s_call C_covers hr.room (Nat.le_refl _) rfl ?_
  refine s_acons ?_ ?_
  exact s_slot 4 rfl (.inr (.inl rfl))
  refine s_acons ?_ ?_
  refine s_ix ?_ ?_
  exact s_slot 5 rfl (.inr (.inl rfl))
  exact s_int
  refine s_acons ?_ ?_
  refine s_ix ?_ ?_
  exact s_slot 8 rfl (.inl rfl)
  exact s_int
  exact s_anil
  refine s_call C__law_fits hr.room (Nat.le_refl _) rfl ?_
  refine s_acons ?_ ?_
  refine s_tup ?_
  exact s_anil
  refine s_acons ?_ ?_
  exact s_slot 4 rfl (.inr (.inl rfl))
  refine s_acons ?_ ?_
  exact s_slot 5 rfl (.inr (.inl rfl))
  refine s_acons ?_ ?_
  exact s_slot 8 rfl (.inl rfl)
  exact s_anil
  refine sb_one ?_
  refine ss_ret ?_
  exact s_bl
  exact sb_nil
  refine sb_cons ?_ ?_
  refine ss_asg 6 sc__law_all.nd rfl (.inl rfl) ?_
  refine s_tuple rfl Z.tuple ?_
  refine s_lc (js := [10]) (own := [("at", 10)]) (un := un1) rfl sc__law_all.nd (show BlkOk ["script", "hand", "turn", "kinds", "kind", "one", "cards", "some", "other", "third", "at", "card"] (defScope s__law_all) _ _ from blk_by (by decide +kernel)) (fun s H C cl fp => pg_name sc__law_all.nd rfl (.inl rfl)) tgt1 (by decide) (show ∀ j ∈ ([10] : List Nat), j < 12 by decide) ?_ ?_
  refine si_rng rfl Z.range ?_
  refine s_call C__law_draw hr.room (Nat.le_refl _) rfl ?_
  refine s_acons ?_ ?_
  exact s_slot 1 rfl (.inr (.inl rfl))
  refine s_acons ?_ ?_
  exact s_int
  exact s_anil
  intro s H C cl fp
  refine s_call C__law_near hr.room (Nat.le_refl _) rfl ?_
  refine s_acons ?_ ?_
  exact s_slot 1 rfl (.inr (.inl rfl))
  refine s_acons ?_ ?_
  exact s_slot 3 rfl (.inr (.inl rfl))
  refine s_acons ?_ ?_
  exact s_slot 4 rfl (.inr (.inl rfl))
  refine s_acons ?_ ?_
  exact s_slot 5 rfl (.inr (.inl rfl))
  exact s_anil
  refine sb_cons ?_ ?_
  refine ss_lcIf 7 rfl rfl (js := [10, 11]) (own := [("at", 10), ("card", 11)]) (un := un2) rfl sc__law_all.nd (show BlkOk ["script", "hand", "turn", "kinds", "kind", "one", "cards", "some", "other", "third", "at", "card"] (defScope s__law_all) _ _ from blk_by (by decide +kernel)) (fun s H C cl fp => pg_tup rfl (pgs_cons (pg_name sc__law_all.nd rfl (.inl rfl)) (pgs_cons (pg_name sc__law_all.nd rfl (.inl rfl)) pgs_nil))) tgt2 (by decide) (show ∀ j ∈ ([10, 11] : List Nat), j < 12 by decide) ?_ ?_ ?_ rfl
  refine si_enum rfl Z.enumerate ?_
  exact s_slot 6 rfl (.inl rfl)
  intro s H C cl fp
  refine st_val ?_
  refine s_call C_serves hr.room (Nat.le_refl _) rfl ?_
  refine s_acons ?_ ?_
  exact s_slot 3 rfl (.inr (.inl rfl))
  refine s_acons ?_ ?_
  exact s_slot 4 rfl (.inr (.inl rfl))
  refine s_acons ?_ ?_
  exact s_slot 11 rfl (.inl rfl)
  refine s_acons ?_ ?_
  exact s_slot 5 rfl (.inr (.inl rfl))
  exact s_anil
  intro s H C cl fp
  exact s_slot 10 rfl (.inl rfl)
  refine sb_cons ?_ ?_
  refine ss_if ?_ ?_ ?_
  refine st_not ?_
  refine st_val ?_
  refine s_callG C__law_is hr (Nat.le_refl _) rfl ?_
  refine s_acons ?_ ?_
  refine s_call C_serving hr.room (Nat.le_refl _) rfl ?_
  refine s_acons ?_ ?_
  exact s_slot 3 rfl (.inr (.inl rfl))
  refine s_acons ?_ ?_
  exact s_slot 4 rfl (.inr (.inl rfl))
  refine s_acons ?_ ?_
  exact s_slot 6 rfl (.inl rfl)
  refine s_acons ?_ ?_
  exact s_slot 5 rfl (.inr (.inl rfl))
  exact s_anil
  refine s_acons ?_ ?_
  refine s_if ?_ ?_ ?_
  refine st_gt ?_ ?_
  refine s_len rfl Z.len ?_
  exact s_slot 7 rfl (.inl rfl)
  exact s_int
  refine s_ix ?_ ?_
  exact s_slot 7 rfl (.inl rfl)
  exact s_int
  exact s_non
  exact s_anil
  refine sb_one ?_
  refine ss_ret ?_
  exact s_bl
  exact sb_nil
  refine sb_one ?_
  refine ss_if ?_ ?_ ?_
  refine st_not ?_
  refine st_val ?_
  refine s_call C__law_refused_right hr.room (Nat.le_refl _) rfl ?_
  refine s_acons ?_ ?_
  exact s_slot 1 rfl (.inr (.inl rfl))
  refine s_acons ?_ ?_
  exact s_slot 3 rfl (.inr (.inl rfl))
  refine s_acons ?_ ?_
  exact s_slot 4 rfl (.inr (.inl rfl))
  refine s_acons ?_ ?_
  exact s_slot 5 rfl (.inr (.inl rfl))
  exact s_anil
  refine sb_one ?_
  refine ss_ret ?_
  exact s_bl
  exact sb_nil
  refine sb_one ?_
  refine ss_ret ?_
  exact s_bl
end
end K48

namespace K48
open PySem PySem.Spec PyProof.Rows L2 PL
variable [Hand]
theorem fitAll_len : ∀ {ks : List Kd} {rs : List Rc}, fitAll ks rs → rs.length = ks.length
  | [], [], _ => rfl
  | k :: ks, r :: rs, h => congrArg (· + 1) (fitAll_len h.2)
  | [], _ :: _, h => h.elim
  | _ :: _, [], h => h.elim
section
variable {ws : List W} {Q : D → Prop} {Y : Str → Prop} {n : Nat}
theorem sp__law_refused_right (h : S__law_refused_right ws Q Y) : m__law_refused_right (store0 ["hand", "kinds", "kind", "card", "odd", "bad", "told"] ws) (fun x _ => Y x) (T0' Q) := by
  obtain ⟨ks, k, c, rfl, hks, hk, ⟨hc, c1, c2⟩, hQ⟩ := h
  have hl : (c.ins.map Rc.d).length ≤ 4 := by
    rw [List.length_map, fitAll_len hc.ins]
    exact hks.1
  have hl2 : (c.ins.map Rc.d).length + [D.tup []].length ≤ 100000 := by
    show (c.ins.map Rc.d).length + 1 ≤ 100000
    omega
  repeat ((conv => whnf); first | (refine And.intro (by first | exact rfl | exact List.cons_ne_nil _ _ | exact True.intro | exact Nat.le_of_ble_eq_true rfl | decide | (simp; done) | omega) ?_) | (refine ⟨_, rfl, ?_⟩))
  intro o ho
  have ho : odd o := by
    unfold odd
    simpa using ho
  repeat ((conv => whnf); first | exact hl2 | (refine And.intro (by first | exact hl2 | exact rfl | exact List.cons_ne_nil _ _ | exact True.intro | exact Nat.le_of_ble_eq_true rfl | decide | (simp; done) | omega) ?_) | (refine ⟨_, rfl, ?_⟩))
  intro b hb
  have hb : bad ks k b := by
    simp only [List.mem_cons, List.not_mem_nil, or_false] at hb
    rcases hb with rfl | rfl | rfl | rfl | rfl
    · exact .inl rfl
    · exact .inr ⟨c, hc, .inl rfl⟩
    · exact .inr ⟨c, hc, .inr (.inl rfl)⟩
    · exact .inr ⟨c, hc, .inr (.inr (.inl rfl))⟩
    · exact .inr ⟨c, hc, .inr (.inr (.inr (.inl rfl)))⟩
  repeat ((conv => whnf); first | (refine And.intro (by first | exact rfl | exact List.cons_ne_nil _ _ | exact True.intro | exact Nat.le_of_ble_eq_true rfl | decide | (simp; done) | omega) ?_) | (refine ⟨_, rfl, ?_⟩))
  intro b2 hb2
  have hb2 : bad ks k b2 := by
    simp only [List.mem_cons, List.not_mem_nil, or_false] at hb2
    rcases hb2 with rfl | rfl | rfl
    · exact hb
    · exact .inr ⟨c, hc, .inr (.inr (.inr (.inr (.inl rfl))))⟩
    · exact .inr ⟨c, hc, .inr (.inr (.inr (.inr (.inr rfl))))⟩
  repeat ((conv => whnf); first | (refine And.intro (by first | exact rfl | exact List.cons_ne_nil _ _ | exact True.intro | exact Nat.le_of_ble_eq_true rfl | decide | (simp; done) | omega) ?_) | (refine ⟨_, rfl, ?_⟩))
  refine .inr (.inl ⟨ks, o, b2, b2, rfl, hks, ho, ?_⟩)
  repeat ((conv => whnf); first | (refine And.intro (by first | exact rfl | exact List.cons_ne_nil _ _ | exact True.intro | exact Nat.le_of_ble_eq_true rfl | decide | (simp; done) | omega) ?_) | (refine ⟨_, rfl, ?_⟩))
  refine .inr (.inr (.inr ⟨ks, k, c, b2, rfl, hks, hk, hc, hb2, ?_⟩))
  repeat ((conv => whnf); first | (refine And.intro (by first | exact rfl | exact List.cons_ne_nil _ _ | exact True.intro | exact Nat.le_of_ble_eq_true rfl | decide | (simp; done) | omega) ?_) | (refine ⟨_, rfl, ?_⟩))
  refine .inr (.inr (.inl ⟨o, k, b2, _, rfl, ho, hk, ?_⟩))
  repeat ((conv => whnf); first | (refine And.intro (by first | exact rfl | exact List.cons_ne_nil _ _ | exact True.intro | exact Nat.le_of_ble_eq_true rfl | decide | (simp; done) | omega) ?_) | (refine ⟨_, rfl, ?_⟩))
  refine ⟨ks, k, _, b2, rfl, hks, hk, .inr (.inl ⟨by show 4 < 5; decide, ?_⟩)⟩
  repeat ((conv => whnf); first | (refine And.intro (by first | exact rfl | exact List.cons_ne_nil _ _ | exact True.intro | exact Nat.le_of_ble_eq_true rfl | decide | (simp; done) | omega) ?_) | (refine ⟨_, rfl, ?_⟩))
  refine ⟨ks, k, _, _, rfl, hks, hk, .inr (.inr (.inl ⟨c, b2, rfl, hc, hb2, ?_⟩))⟩
  repeat ((conv => whnf); first | (refine And.intro (by first | exact rfl | exact List.cons_ne_nil _ _ | exact True.intro | exact Nat.le_of_ble_eq_true rfl | decide | (simp; done) | omega) ?_) | (refine ⟨_, rfl, ?_⟩))
  refine ⟨ks, k, _, b2, rfl, hks, hk, .inr (.inr (.inr ⟨c, rfl, hc, hb2, ?_⟩))⟩
  repeat ((conv => whnf); first | (refine And.intro (by first | exact rfl | exact List.cons_ne_nil _ _ | exact True.intro | exact Nat.le_of_ble_eq_true rfl | decide | (simp; done) | omega) ?_) | (refine ⟨_, rfl, ?_⟩))
  have hs : SeqAt.shaped (.list [.str "kind", .str "card", .str "kind", .str "cards", .str "cards", .str "card"]) = true := by decide +kernel
  have he : PyData.eqv (.list [.str "kind", .str "card", .str "kind", .str "cards", .str "cards", .str "card"]) (.list [.str "kind", .str "card", .str "kind", .str "cards", .str "cards", .str "card"]) = true := by decide +kernel
  conv => whnf
  refine And.intro hs (And.intro hs ?_)
  rw [he]
  exact hQ
end
end K48

namespace K48
open PySem PySem.Spec PyProof.Rows L2 PL
variable [Hand]
def all_body : MS :=
    (sCons (sAsg 3 (xUn gTuple (xOf (mLc un1 [10] [10] (iRng (xCall S__law_draw 2 (aCons (xSlot 1) (aCons (xVal (.int 4)) aNil)))) (xCall (S__law_kind 3) 2 (aCons (xSlot 1) (aCons (xVal (.int 2)) aNil)))))))
    (sCons (sAsg 4 (xCall (S__law_kind 3) 2 (aCons (xSlot 1) (aCons (xVal (.int 2)) aNil))))
    (sCons (sAsg 5 (xCall S__law_drawn 3 (aCons (xSlot 1) (aCons (xSlot 3) (aCons (xSlot 4) aNil)))))
    (sCons (sPar 8 9 (xCall S__law_near 4 (aCons (xSlot 1) (aCons (xSlot 3) (aCons (xSlot 4) (aCons (xSlot 5) aNil))))) (xCall S__law_near 4 (aCons (xSlot 1) (aCons (xSlot 3) (aCons (xSlot 4) (aCons (xSlot 5) aNil))))))
    (sCons (sIf (tOr (tNot (tVal (xCall S__law_pair_right 5 (aCons (xSlot 3) (aCons (xSlot 4) (aCons (xSlot 5) (aCons (xSlot 8) (aCons (xSlot 9) aNil)))))))) (tNot (tVal (xCall S__law_pair_right 5 (aCons (xSlot 3) (aCons (xSlot 4) (aCons (xSlot 8) (aCons (xSlot 5) (aCons (xSlot 5) aNil))))))))) (sRet (xVal (.bl false))) sNil)
    (sCons (sIf (tCmp cNeS (xCall S_covers 3 (aCons (xSlot 4) (aCons (xBin fIx (xSlot 5) (xVal (.int 2))) (aCons (xBin fIx (xSlot 8) (xVal (.int 2))) aNil)))) (xCall S__law_fits 4 (aCons (xTup aNil) (aCons (xSlot 4) (aCons (xSlot 5) (aCons (xSlot 8) aNil)))))) (sRet (xVal (.bl false))) sNil)
    (sCons (sAsg 6 (xUn gTuple (xOf (mLc un1 [10] [10] (iRng (xCall S__law_draw 2 (aCons (xSlot 1) (aCons (xVal (.int 5)) aNil)))) (xCall S__law_near 4 (aCons (xSlot 1) (aCons (xSlot 3) (aCons (xSlot 4) (aCons (xSlot 5) aNil)))))))))
    (sCons (sLc 7 (mLcIf un2 [10, 11] [10, 11] (PL.iEnum (xSlot 6)) (tVal (xCall S_serves 4 (aCons (xSlot 3) (aCons (xSlot 4) (aCons (xSlot 11) (aCons (xSlot 5) aNil)))))) (xSlot 10)))
    (sCons (sIf (tNot (tVal (xCall S__law_is 2 (aCons (xCall S_serving 4 (aCons (xSlot 3) (aCons (xSlot 4) (aCons (xSlot 6) (aCons (xSlot 5) aNil))))) (aCons (xIf (tCmp cGt (xUn gLen (xSlot 7)) (xVal (.int 0))) (xBin fIx (xSlot 7) (xVal (.int 0))) (xVal .non)) aNil))))) (sRet (xVal (.bl false))) sNil)
    (sIf (tNot (tVal (xCall S__law_refused_right 4 (aCons (xSlot 1) (aCons (xSlot 3) (aCons (xSlot 4) (aCons (xSlot 5) aNil))))))) (sRet (xVal (.bl false))) sNil))))))))))
def all_tail : MS :=
    (sCons (sIf (tOr (tNot (tVal (xCall S__law_pair_right 5 (aCons (xSlot 3) (aCons (xSlot 4) (aCons (xSlot 5) (aCons (xSlot 8) (aCons (xSlot 9) aNil)))))))) (tNot (tVal (xCall S__law_pair_right 5 (aCons (xSlot 3) (aCons (xSlot 4) (aCons (xSlot 8) (aCons (xSlot 5) (aCons (xSlot 5) aNil))))))))) (sRet (xVal (.bl false))) sNil)
    (sCons (sIf (tCmp cNeS (xCall S_covers 3 (aCons (xSlot 4) (aCons (xBin fIx (xSlot 5) (xVal (.int 2))) (aCons (xBin fIx (xSlot 8) (xVal (.int 2))) aNil)))) (xCall S__law_fits 4 (aCons (xTup aNil) (aCons (xSlot 4) (aCons (xSlot 5) (aCons (xSlot 8) aNil)))))) (sRet (xVal (.bl false))) sNil)
    (sCons (sAsg 6 (xUn gTuple (xOf (mLc un1 [10] [10] (iRng (xCall S__law_draw 2 (aCons (xSlot 1) (aCons (xVal (.int 5)) aNil)))) (xCall S__law_near 4 (aCons (xSlot 1) (aCons (xSlot 3) (aCons (xSlot 4) (aCons (xSlot 5) aNil)))))))))
    (sCons (sLc 7 (mLcIf un2 [10, 11] [10, 11] (PL.iEnum (xSlot 6)) (tVal (xCall S_serves 4 (aCons (xSlot 3) (aCons (xSlot 4) (aCons (xSlot 11) (aCons (xSlot 5) aNil)))))) (xSlot 10)))
    (sCons (sIf (tNot (tVal (xCall S__law_is 2 (aCons (xCall S_serving 4 (aCons (xSlot 3) (aCons (xSlot 4) (aCons (xSlot 6) (aCons (xSlot 5) aNil))))) (aCons (xIf (tCmp cGt (xUn gLen (xSlot 7)) (xVal (.int 0))) (xBin fIx (xSlot 7) (xVal (.int 0))) (xVal .non)) aNil))))) (sRet (xVal (.bl false))) sNil)
    (sIf (tNot (tVal (xCall S__law_refused_right 4 (aCons (xSlot 1) (aCons (xSlot 3) (aCons (xSlot 4) (aCons (xSlot 5) aNil))))))) (sRet (xVal (.bl false))) sNil))))))
def all_tail2 : MS :=
    (sCons (sAsg 6 (xUn gTuple (xOf (mLc un1 [10] [10] (iRng (xCall S__law_draw 2 (aCons (xSlot 1) (aCons (xVal (.int 5)) aNil)))) (xCall S__law_near 4 (aCons (xSlot 1) (aCons (xSlot 3) (aCons (xSlot 4) (aCons (xSlot 5) aNil)))))))))
    (sCons (sLc 7 (mLcIf un2 [10, 11] [10, 11] (PL.iEnum (xSlot 6)) (tVal (xCall S_serves 4 (aCons (xSlot 3) (aCons (xSlot 4) (aCons (xSlot 11) (aCons (xSlot 5) aNil)))))) (xSlot 10)))
    (sCons (sIf (tNot (tVal (xCall S__law_is 2 (aCons (xCall S_serving 4 (aCons (xSlot 3) (aCons (xSlot 4) (aCons (xSlot 6) (aCons (xSlot 5) aNil))))) (aCons (xIf (tCmp cGt (xUn gLen (xSlot 7)) (xVal (.int 0))) (xBin fIx (xSlot 7) (xVal (.int 0))) (xVal .non)) aNil))))) (sRet (xVal (.bl false))) sNil)
    (sIf (tNot (tVal (xCall S__law_refused_right 4 (aCons (xSlot 1) (aCons (xSlot 3) (aCons (xSlot 4) (aCons (xSlot 5) aNil))))))) (sRet (xVal (.bl false))) sNil))))
/-- which of them serve -/
def idx (e : Cd) : List Cd → Nat → List Int
  | [], _ => []
  | c :: cs, i => if srv c e = true then (i : Int) :: idx e cs (i + 1) else idx e cs (i + 1)
theorem first_idx (e : Cd) : ∀ (cs : List Cd) (i : Nat), first e cs i = match idx e cs i with
    | [] => .non
    | x :: _ => .int x
  | [], i => rfl
  | c :: cs, i => by
    unfold first idx
    split
    · rfl
    · exact first_idx e cs (i + 1)
theorem idx_bd (e : Cd) : ∀ (cs : List Cd) (i : Nat), ∀ x ∈ idx e cs i, 0 ≤ x ∧ x < ((i + cs.length : Nat) : Int)
  | [], i, x, h => nomatch h
  | c :: cs, i, x, h => by
    unfold idx at h
    have hl : i + (c :: cs).length = (i + 1) + cs.length := by
      rw [List.length_cons]
      omega
    split at h
    · rcases List.mem_cons.mp h with rfl | h
      · rw [hl]
        omega
      · have := idx_bd e cs (i + 1) x h
        rw [hl]
        exact this
    · have := idx_bd e cs (i + 1) x h
      rw [hl]
      exact this
def rowsAt (cs : List Cd) (i : Nat) : List D := cs.mapIdx fun j c => .tup [.int ((i + j : Nat) : Int), c.d]
theorem rowsAt_cons (c : Cd) (cs : List Cd) (i : Nat) : rowsAt (c :: cs) i = .tup [.int (i : Int), c.d] :: rowsAt cs (i + 1) := by
  unfold rowsAt
  rw [List.mapIdx_cons]
  simp only [Nat.add_zero]
  congr 1
  congr 1
  funext j c
  rw [show i + (j + 1) = i + 1 + j from by omega]
theorem mapIdx_of {α β γ : Type} (g : α → β) : ∀ (l : List α) (f : Nat → β → γ), (l.map g).mapIdx f = l.mapIdx fun i a => f i (g a)
  | [], f => rfl
  | a :: l, f => by rw [List.map_cons, List.mapIdx_cons, List.mapIdx_cons, mapIdx_of g l]
theorem enumD_rows (cs : List Cd) : enumD (cs.map Cd.d) = rowsAt cs 0 := by
  unfold enumD rowsAt
  rw [mapIdx_of]
  congr 1
  funext j c
  simp
theorem lc_idx {un : D → Option (List D)} {t : List D → (Bool → Prop) → Prop} {elt : List D → (D → Prop) → Prop} (e : Cd) : ∀ {cs : List Cd} {i : Nat} {acc : List D} {K : List D → Prop}, (∀ c ∈ cs, ∀ (i : Int), ∃ ds, un (.tup [.int i, c.d]) = some ds ∧ (∀ K : Bool → Prop, K (srv c e) → t ds K) ∧ ∀ K : D → Prop, K (.int i) → elt ds K) →
    K (acc ++ (idx e cs i).map D.int) → LcW un t elt (rowsAt cs i) acc K
  | [], i, acc, K, _, hk => by
    have hk : K (acc ++ []) := hk
    rw [List.append_nil] at hk
    exact hk
  | c :: cs, i, acc, K, h, hk => by
    rw [rowsAt_cons]
    obtain ⟨ds, h1, h2, h3⟩ := h c List.mem_cons_self i
    refine ⟨ds, h1, h2 _ ?_⟩
    unfold idx at hk
    by_cases hs : srv c e = true
    · rw [if_pos hs] at hk
      rw [hs]
      refine (if_pos rfl).mpr (h3 _ (lc_idx e (fun x hx => h x (List.mem_cons_of_mem _ hx)) ?_))
      rw [List.append_assoc]
      exact hk
    · rw [if_neg hs] at hk
      refine (if_neg hs).mpr (lc_idx e (fun x hx => h x (List.mem_cons_of_mem _ hx)) hk)
theorem all_kinds : ∀ {ds : List D}, (∀ d ∈ ds, ∃ k : Kd, kOk k ∧ d = k.d) → ∃ ks : List Kd, ds = ks.map Kd.d ∧ ∀ k ∈ ks, kOk k
  | [], _ => ⟨[], rfl, fun _ h => nomatch h⟩
  | d :: ds, h => by
    obtain ⟨k, hk, rfl⟩ := h d List.mem_cons_self
    obtain ⟨ks, rfl, hks⟩ := all_kinds (ds := ds) fun x hx => h x (List.mem_cons_of_mem _ hx)
    exact ⟨k :: ks, rfl, fun x hx => by
      rcases List.mem_cons.mp hx with rfl | hx
      · exact hk
      · exact hks x hx⟩
theorem all_cards {ks : List Kd} {k : Kd} : ∀ {ds : List D}, (∀ d ∈ ds, ∃ c : Cd, c.fits ks k ∧ d = c.d) → ∃ cs : List Cd, ds = cs.map Cd.d ∧ ∀ c ∈ cs, c.fits ks k
  | [], _ => ⟨[], rfl, fun _ h => nomatch h⟩
  | d :: ds, h => by
    obtain ⟨c, hc, rfl⟩ := h d List.mem_cons_self
    obtain ⟨cs, rfl, hcs⟩ := all_cards (ds := ds) fun x hx => h x (List.mem_cons_of_mem _ hx)
    exact ⟨c :: cs, rfl, fun x hx => by
      rcases List.mem_cons.mp hx with rfl | hx
      · exact hc
      · exact hcs x hx⟩
section
variable {Y : Str → Store → Prop} {T : Pst}
/-- the cards, who serves, the refusals -/
theorem sp_all_tail2 {sc : D} {t : W} {ks : List Kd} {k : Kd} {c : Cd} {o6 o7 : Option W} {d8 d9 : D} (hks : ksOk ks) (hk : kOk k) (hc : Good ks k c)
    (cl : clean [some (v sc), some .hnd, some t, some (v (ksD ks)), some (v k.d), some (v c.d), o6, o7, some (v d8), some (v d9), none, none] = true)
    (cl2 : ∀ x : D, clean [some (v sc), some .hnd, some t, some (v (ksD ks)), some (v k.d), some (v c.d), some (v x), o7, some (v d8), some (v d9), none, none] = true)
    (cl3 : ∀ x y : D, clean [some (v sc), some .hnd, some t, some (v (ksD ks)), some (v k.d), some (v c.d), some (v x), some (v y), some (v d8), some (v d9), none, none] = true)
    (hT : ∀ d6 d7 : D, T.nx [some (v sc), some .hnd, some t, some (v (ksD ks)), some (v k.d), some (v c.d), some (v d6), some (v d7), some (v d8), some (v d9), none, none]) :
    all_tail2 [some (v sc), some .hnd, some t, some (v (ksD ks)), some (v k.d), some (v c.d), o6, o7, some (v d8), some (v d9), none, none] Y T := by
  repeat ((conv => whnf); first | exact cl | (refine And.intro (by first | exact cl | exact rfl | exact List.cons_ne_nil _ _ | exact True.intro | exact Nat.le_of_ble_eq_true rfl | decide | (simp; done) | omega) ?_) | (refine ⟨_, rfl, ?_⟩))
  intro i i0 i5
  repeat ((conv => whnf); first | (refine And.intro (by first | exact rfl | exact List.cons_ne_nil _ _ | exact True.intro | exact Nat.le_of_ble_eq_true rfl | decide | (simp; done) | omega) ?_) | (refine ⟨_, rfl, ?_⟩))
  refine And.intro (by simp; omega) (And.intro (by unfold freeOwn; exact Bool.and_eq_true_iff.mpr ⟨cl, rfl⟩) ?_)
  refine lc_any (I := fun d => ∃ e : Cd, e.fits ks k ∧ d = e.d) (fun it hit K hK => ?_) fun ds hl hds => ?_
  · obtain ⟨j, _, rfl⟩ := List.mem_map.mp hit
    have cl4 : clean (setW (wipeW [some (v sc), some .hnd, some t, some (v (ksD ks)), some (v k.d), some (v c.d), o6, o7, some (v d8), some (v d9), none, none] [10]) [10] [.int (0 + (j : Int))]) = true := by
      unfold clean at cl ⊢
      simp only [setW, wipeW, List.set, List.all_cons, List.all_nil, Bool.and_true] at cl ⊢
      simpa using cl
    repeat ((conv => whnf); first | exact cl4 | (refine And.intro (by first | exact cl4 | exact rfl | exact List.cons_ne_nil _ _ | exact True.intro | exact Nat.le_of_ble_eq_true rfl | decide | (simp; done) | omega) ?_) | (refine ⟨_, rfl, ?_⟩))
    refine ⟨ks, k, c, rfl, hks, hk, ⟨hc.fits, hc.paid, hc.left⟩, fun e he e1 e2 => ?_⟩
    have hK := hK e.d ⟨e, he, rfl⟩
    repeat ((conv => whnf); first | exact hK | (refine And.intro (by first | exact hK | exact rfl | exact List.cons_ne_nil _ _ | exact True.intro | exact Nat.le_of_ble_eq_true rfl | decide | (simp; done) | omega) ?_) | (refine ⟨_, rfl, ?_⟩))
  rw [List.nil_append]
  obtain ⟨cs, rfl, hcs⟩ := all_cards hds
  have hl4 : cs.length ≤ 4 := by
    simp at hl
    omega
  have cl2 := cl2 (.tup (cs.map Cd.d))
  repeat ((conv => whnf); first | exact cl2 | (refine And.intro (by first | exact cl2 | exact rfl | exact List.cons_ne_nil _ _ | exact True.intro | exact Nat.le_of_ble_eq_true rfl | decide | (simp; done) | omega) ?_) | (refine ⟨_, rfl, ?_⟩))
  refine And.intro (by unfold enumD; simp; omega) (And.intro (by unfold freeOwn; exact Bool.and_eq_true_iff.mpr ⟨cl2, rfl⟩) ?_)
  rw [enumD_rows]
  refine lc_idx c (fun e he i => ⟨_, rfl, fun K hK => ?_, fun K hK => ?_⟩) ?_
  · have cl4 : clean (setW (wipeW [some (v sc), some .hnd, some t, some (v (ksD ks)), some (v k.d), some (v c.d), some (v (.tup (cs.map Cd.d))), o7, some (v d8), some (v d9), none, none] [10, 11]) [10, 11] [.int i, e.d]) = true := by
      unfold clean at cl2 ⊢
      simp only [setW, wipeW, List.set, List.all_cons, List.all_nil, Bool.and_true] at cl2 ⊢
      simpa using cl2
    repeat ((conv => whnf); first | exact cl4 | (refine And.intro (by first | exact cl4 | exact rfl | exact List.cons_ne_nil _ _ | exact True.intro | exact Nat.le_of_ble_eq_true rfl | decide | (simp; done) | omega) ?_) | (refine ⟨_, rfl, ?_⟩))
    refine .inl ⟨ks, k, e, c, rfl, hks, hk, hcs e he, hc.fits, ?_⟩
    repeat ((conv => whnf); first | exact hK | (refine And.intro (by first | exact hK | exact rfl | exact List.cons_ne_nil _ _ | exact True.intro | exact Nat.le_of_ble_eq_true rfl | decide | (simp; done) | omega) ?_) | (refine ⟨_, rfl, ?_⟩))
  · repeat ((conv => whnf); first | exact hK | (refine And.intro (by first | exact hK | exact rfl | exact List.cons_ne_nil _ _ | exact True.intro | exact Nat.le_of_ble_eq_true rfl | decide | (simp; done) | omega) ?_) | (refine ⟨_, rfl, ?_⟩))
  rw [List.nil_append]
  have cl3 := cl3 (.tup (cs.map Cd.d)) (.lst ((idx c cs 0).map D.int))
  have hf := first_idx c cs 0
  have hbd := idx_bd c cs 0
  have hT := hT (.tup (cs.map Cd.d)) (.lst ((idx c cs 0).map D.int))
  repeat ((conv => whnf); first | exact cl3 | (refine And.intro (by first | exact cl3 | exact rfl | exact List.cons_ne_nil _ _ | exact True.intro | exact Nat.le_of_ble_eq_true rfl | decide | (simp; done) | omega) ?_) | (refine ⟨_, rfl, ?_⟩))
  refine ⟨ks, k, _, _, rfl, hks, hk, .inl ⟨cs, c, rfl, rfl, hl4, hcs, hc.fits, ?_⟩⟩
  cases hix : idx c cs 0 with
  | nil =>
    rw [hix] at hf hT cl3
    obtain ⟨p, hp⟩ := rp_of (d := .non) pic_non (by decide) (by decide) (fun _ q => nomatch q) (fun _ q => nomatch q)
    rw [hf]
    repeat ((conv => whnf); first | exact cl3 | (refine And.intro (by first | exact cl3 | exact rfl | exact List.cons_ne_nil _ _ | exact True.intro | exact Nat.le_of_ble_eq_true rfl | decide | (simp; done) | omega) ?_) | (refine ⟨_, rfl, ?_⟩))
    refine ⟨_, p, rfl, hp, ?_⟩
    repeat ((conv => whnf); first | exact cl3 | (refine And.intro (by first | exact cl3 | exact rfl | exact List.cons_ne_nil _ _ | exact True.intro | exact Nat.le_of_ble_eq_true rfl | decide | (simp; done) | omega) ?_) | (refine ⟨_, rfl, ?_⟩))
    refine ⟨ks, k, c, rfl, hks, hk, hc, ?_⟩
    repeat ((conv => whnf); first | exact hT | (refine And.intro (by first | exact hT | exact rfl | exact List.cons_ne_nil _ _ | exact True.intro | exact Nat.le_of_ble_eq_true rfl | decide | (simp; done) | omega) ?_) | (refine ⟨_, rfl, ?_⟩))
  | cons x xs =>
    rw [hix] at hf hT cl3 hbd
    have hx := hbd x List.mem_cons_self
    obtain ⟨p, hp⟩ := rp_of (d := .int x) (pic_int (by omega)) (by decide) (by decide) (fun _ q => nomatch q) (fun _ q => nomatch q)
    rw [hf]
    conv => whnf
    refine And.intro rfl ?_
    conv => whnf
    refine iteT (decide_eq_true (by simp <;> omega)) ?_
    conv => whnf
    rw [show atI (List.map D.int (x :: xs)) 0 = some (.int x) from by
      unfold atI ixN
      rw [if_pos (by decide), if_pos (by simp <;> omega)]
      rfl]
    repeat ((conv => whnf); first | exact cl3 | (refine And.intro (by first | exact cl3 | exact rfl | exact List.cons_ne_nil _ _ | exact True.intro | exact Nat.le_of_ble_eq_true rfl | decide | (simp; done) | omega) ?_) | (refine ⟨_, rfl, ?_⟩))
    refine ⟨_, p, rfl, hp, ?_⟩
    repeat ((conv => whnf); first | exact cl3 | (refine And.intro (by first | exact cl3 | exact rfl | exact List.cons_ne_nil _ _ | exact True.intro | exact Nat.le_of_ble_eq_true rfl | decide | (simp; done) | omega) ?_) | (refine ⟨_, rfl, ?_⟩))
    refine ⟨ks, k, c, rfl, hks, hk, hc, ?_⟩
    repeat ((conv => whnf); first | exact hT | (refine And.intro (by first | exact hT | exact rfl | exact List.cons_ne_nil _ _ | exact True.intro | exact Nat.le_of_ble_eq_true rfl | decide | (simp; done) | omega) ?_) | (refine ⟨_, rfl, ?_⟩))
end
end K48

namespace K48
open PySem PySem.Spec PyProof.Rows L2 PL
variable [Hand]
section
variable {Y : Str → Store → Prop} {T : Pst}
theorem sp_all_tail {sc : D} {t : W} {ks : List Kd} {k : Kd} {c e th : Cd} {o6 o7 : Option W} (hks : ksOk ks) (hk : kOk k) (hc : Good ks k c) (he : Good ks k e) (ht : Good ks k th)
    (cl : clean [some (v sc), some .hnd, some t, some (v (ksD ks)), some (v k.d), some (v c.d), o6, o7, some (v e.d), some (v th.d), none, none] = true)
    (cl2 : ∀ x : D, clean [some (v sc), some .hnd, some t, some (v (ksD ks)), some (v k.d), some (v c.d), some (v x), o7, some (v e.d), some (v th.d), none, none] = true)
    (cl3 : ∀ x y : D, clean [some (v sc), some .hnd, some t, some (v (ksD ks)), some (v k.d), some (v c.d), some (v x), some (v y), some (v e.d), some (v th.d), none, none] = true)
    (hT : ∀ d6 d7 : D, T.nx [some (v sc), some .hnd, some t, some (v (ksD ks)), some (v k.d), some (v c.d), some (v d6), some (v d7), some (v e.d), some (v th.d), none, none]) :
    all_tail [some (v sc), some .hnd, some t, some (v (ksD ks)), some (v k.d), some (v c.d), o6, o7, some (v e.d), some (v th.d), none, none] Y T := by
  repeat ((conv => whnf); first | exact cl | (refine And.intro (by first | exact cl | exact rfl | exact List.cons_ne_nil _ _ | exact True.intro | exact Nat.le_of_ble_eq_true rfl | decide | (simp; done) | omega) ?_) | (refine ⟨_, rfl, ?_⟩))
  refine ⟨ks, k, c, e, th, rfl, hks, hk, hc, he, ht, ?_⟩
  repeat ((conv => whnf); first | exact cl | (refine And.intro (by first | exact cl | exact rfl | exact List.cons_ne_nil _ _ | exact True.intro | exact Nat.le_of_ble_eq_true rfl | decide | (simp; done) | omega) ?_) | (refine ⟨_, rfl, ?_⟩))
  refine ⟨ks, k, e, c, c, rfl, hks, hk, he, hc, hc, ?_⟩
  repeat ((conv => whnf); first | exact cl | (refine And.intro (by first | exact cl | exact rfl | exact List.cons_ne_nil _ _ | exact True.intro | exact Nat.le_of_ble_eq_true rfl | decide | (simp; done) | omega) ?_) | (refine ⟨_, rfl, ?_⟩))
  refine ⟨k, c.out, e.out, rfl, hk, hc.fits.out, he.fits.out, ?_⟩
  repeat ((conv => whnf); first | exact cl | (refine And.intro (by first | exact cl | exact rfl | exact List.cons_ne_nil _ _ | exact True.intro | exact Nat.le_of_ble_eq_true rfl | decide | (simp; done) | omega) ?_) | (refine ⟨_, rfl, ?_⟩))
  refine .inr ⟨ks, k, c, e, rfl, hks, hk, hc.fits, he.fits, ?_⟩
  have hb : (!decide (V.bl (cov c.out e.out) = V.bl (cov c.out e.out))) = false := by simp
  repeat ((conv => whnf); first | (refine And.intro (by first | exact rfl | exact List.cons_ne_nil _ _ | exact True.intro | exact Nat.le_of_ble_eq_true rfl | decide | (simp; done) | omega) ?_) | (refine ⟨_, rfl, ?_⟩))
  conv => whnf
  refine iteF hb ?_
  exact sp_all_tail2 hks hk hc cl cl2 cl3 hT
theorem sp_all_turn {sc : D} {t : W} {o3 o4 o5 o6 o7 o8 o9 : Option W}
    (ho : ∀ w ∈ [o3, o4, o5, o6, o7, o8, o9], w = none ∨ ∃ d, w = some (.val d))
    (ct : (t = .hnd ∨ ∃ d, t = .val d))
    (hT : ∀ d3 d4 d5 d6 d7 d8 d9 : D, T.nx [some (v sc), some .hnd, some t, some (v d3), some (v d4), some (v d5), some (v d6), some (v d7), some (v d8), some (v d9), none, none]) :
    all_body [some (v sc), some .hnd, some t, o3, o4, o5, o6, o7, o8, o9, none, none] Y T := by
  have one : ∀ {w : Option W}, (w = none ∨ ∃ d, w = some (.val d)) → ∀ r : Store, clean r = true → clean (w :: r) = true := by
    rintro w (rfl | ⟨d, rfl⟩) r hr <;> (unfold clean at hr ⊢; rw [List.all_cons, hr]; rfl)
  have vv : ∀ d : D, (some (v d) : Option W) = none ∨ ∃ d', (some (v d) : Option W) = some (.val d') := fun d => .inr ⟨d, rfl⟩
  have hh : ∀ r : Store, clean r = true → clean (some t :: r) = true := by
    rcases ct with rfl | ⟨d, rfl⟩
    · intro r hr
      unfold clean at hr ⊢
      rw [List.all_cons, hr]
      rfl
    · exact one (vv d)
  have hnd : ∀ r : Store, clean r = true → clean (some .hnd :: r) = true := fun r hr => by
    unfold clean at hr ⊢
    rw [List.all_cons, hr]
    rfl
  have all_ : ∀ {a3 a4 a5 a6 a7 a8 a9 : Option W}, (∀ w ∈ [a3, a4, a5, a6, a7, a8, a9], w = none ∨ ∃ d, w = some (.val d)) → clean [some (v sc), some .hnd, some t, a3, a4, a5, a6, a7, a8, a9, none, none] = true := fun {a3 a4 a5 a6 a7 a8 a9} h =>
    one (vv sc) _ (hnd _ (hh _ (one (h a3 (by simp)) _ (one (h a4 (by simp)) _ (one (h a5 (by simp)) _ (one (h a6 (by simp)) _ (one (h a7 (by simp)) _ (one (h a8 (by simp)) _ (one (h a9 (by simp)) _ rfl)))))))))
  have g4 := ho o4 (by simp)
  have g5 := ho o5 (by simp)
  have g6 := ho o6 (by simp)
  have g7 := ho o7 (by simp)
  have g8 := ho o8 (by simp)
  have g9 := ho o9 (by simp)
  have cl := all_ ho
  repeat ((conv => whnf); first | exact cl | (refine And.intro (by first | exact cl | exact rfl | exact List.cons_ne_nil _ _ | exact True.intro | exact Nat.le_of_ble_eq_true rfl | decide | (simp; done) | omega) ?_) | (refine ⟨_, rfl, ?_⟩))
  intro i i0 i4
  repeat ((conv => whnf); first | (refine And.intro (by first | exact rfl | exact List.cons_ne_nil _ _ | exact True.intro | exact Nat.le_of_ble_eq_true rfl | decide | (simp; done) | omega) ?_) | (refine ⟨_, rfl, ?_⟩))
  refine And.intro (by simp; omega) (And.intro (by unfold freeOwn; exact Bool.and_eq_true_iff.mpr ⟨cl, rfl⟩) ?_)
  refine lc_any (I := fun d => ∃ k : Kd, kOk k ∧ d = k.d) (fun it hit K hK => ?_) fun ds hl hds => ?_
  · obtain ⟨j, _, rfl⟩ := List.mem_map.mp hit
    have cl4 : clean (setW (wipeW [some (v sc), some .hnd, some t, o3, o4, o5, o6, o7, o8, o9, none, none] [10]) [10] [.int (0 + (j : Int))]) = true := by
      unfold clean at cl ⊢
      simp only [setW, wipeW, List.set, List.all_cons, List.all_nil, Bool.and_true] at cl ⊢
      simpa using cl
    repeat ((conv => whnf); first | exact cl4 | (refine And.intro (by first | exact cl4 | exact rfl | exact List.cons_ne_nil _ _ | exact True.intro | exact Nat.le_of_ble_eq_true rfl | decide | (simp; done) | omega) ?_) | (refine ⟨_, rfl, ?_⟩))
    intro k hk
    have hK := hK k.d ⟨k, hk, rfl⟩
    repeat ((conv => whnf); first | exact hK | (refine And.intro (by first | exact hK | exact rfl | exact List.cons_ne_nil _ _ | exact True.intro | exact Nat.le_of_ble_eq_true rfl | decide | (simp; done) | omega) ?_) | (refine ⟨_, rfl, ?_⟩))
  rw [List.nil_append]
  obtain ⟨ks, rfl, hkk⟩ := all_kinds hds
  have hks : ksOk ks := ⟨by simp at hl; omega, hkk⟩
  have clA : clean [some (v sc), some .hnd, some t, some (v (ksD ks)), o4, o5, o6, o7, o8, o9, none, none] = true := all_ (by simp; exact ⟨g4, g5, g6, g7, g8, g9⟩)
  repeat ((conv => whnf); first | exact clA | (refine And.intro (by first | exact clA | exact rfl | exact List.cons_ne_nil _ _ | exact True.intro | exact Nat.le_of_ble_eq_true rfl | decide | (simp; done) | omega) ?_) | (refine ⟨_, rfl, ?_⟩))
  intro k hk
  have clB : clean [some (v sc), some .hnd, some t, some (v (ksD ks)), some (v k.d), o5, o6, o7, o8, o9, none, none] = true := all_ (by simp; exact ⟨g5, g6, g7, g8, g9⟩)
  repeat ((conv => whnf); first | exact clB | (refine And.intro (by first | exact clB | exact rfl | exact List.cons_ne_nil _ _ | exact True.intro | exact Nat.le_of_ble_eq_true rfl | decide | (simp; done) | omega) ?_) | (refine ⟨_, rfl, ?_⟩))
  refine ⟨ks, k, rfl, hks, hk, fun c hc c1 c2 => ?_⟩
  have clC : clean [some (v sc), some .hnd, some t, some (v (ksD ks)), some (v k.d), some (v c.d), o6, o7, o8, o9, none, none] = true := all_ (by simp; exact ⟨g6, g7, g8, g9⟩)
  repeat ((conv => whnf); first | exact clC | (refine And.intro (by first | exact clC | exact rfl | exact List.cons_ne_nil _ _ | exact True.intro | exact Nat.le_of_ble_eq_true rfl | decide | (simp; done) | omega) ?_) | (refine ⟨_, rfl, ?_⟩))
  refine ⟨ks, k, c, rfl, hks, hk, ⟨hc, c1, c2⟩, fun e he e1 e2 => ?_⟩
  repeat ((conv => whnf); first | exact clC | (refine And.intro (by first | exact clC | exact rfl | exact List.cons_ne_nil _ _ | exact True.intro | exact Nat.le_of_ble_eq_true rfl | decide | (simp; done) | omega) ?_) | (refine ⟨_, rfl, ?_⟩))
  refine ⟨ks, k, c, rfl, hks, hk, ⟨hc, c1, c2⟩, fun th ht t1 t2 => ?_⟩
  refine sp_all_tail hks hk ⟨hc, c1, c2⟩ ⟨he, e1, e2⟩ ⟨ht, t1, t2⟩ (all_ (by simp; exact ⟨g6, g7⟩)) (fun x => all_ (by simp; exact g7)) (fun x y => all_ (by simp)) fun d6 d7 => hT _ _ _ _ _ _ _
end
theorem sp__law_all {sc : D} {Q : D → Prop} {Y : Str → Store → Prop} (hQ : Q (.bl true)) : m__law_all [some (v sc), some .hnd, none, none, none, none, none, none, none, none, none, none] Y (T0' Q) := by
  repeat ((conv => whnf); first | (refine And.intro (by first | exact rfl | exact List.cons_ne_nil _ _ | exact True.intro | exact Nat.le_of_ble_eq_true rfl | decide | (simp; done) | omega) ?_) | (refine ⟨_, rfl, ?_⟩))
  refine ⟨fun i ρ => ∃ o2 o3 o4 o5 o6 o7 o8 o9, ρ = [some (v sc), some .hnd, o2, o3, o4, o5, o6, o7, o8, o9, none, none] ∧ ∀ w ∈ [o3, o4, o5, o6, o7, o8, o9], w = none ∨ ∃ d, w = some (.val d), ⟨_, _, _, _, _, _, _, _, rfl, by simp⟩, ?_, ?_⟩
  · rintro i d ρ2 hi ⟨o2, o3, o4, o5, o6, o7, o8, o9, rfl, ho⟩
    refine sp_all_turn (t := v d) ho (.inr ⟨_, rfl⟩) fun d3 d4 d5 d6 d7 d8 d9 => ⟨_, _, _, _, _, _, _, _, rfl, by simp⟩
  · rintro ρ2 ⟨o2, o3, o4, o5, o6, o7, o8, o9, rfl, ho⟩
    repeat ((conv => whnf); first | exact hQ | (refine And.intro (by first | exact hQ | exact rfl | exact List.cons_ne_nil _ _ | exact True.intro | exact Nat.le_of_ble_eq_true rfl | decide | (simp; done) | omega) ?_) | (refine ⟨_, rfl, ?_⟩))
end K48

namespace K48
open PySem PySem.Spec PyProof.Rows L2 PL LamX
variable [Hand]
section
variable {P : Program} {w : World} {K : PySem.W.Frag} {mg : Str → Option Value} {base : Heap} {f : Addr} {fd : FuncData} {k n : Nat} {x : Str} {S S' : Sem1}
theorem spS_imp {vs : List V} {H : Hp} {Q : VK} {E : XK} (h : ∀ ws P Y, S' ws P Y → S ws P Y) (q : spS K mg n S' vs H Q E) : spS K mg n S vs H Q E := by
  obtain ⟨hd, F, ws, P, Y, h1, h2, h3, h4, h5, h6, h7, h8, h9⟩ := q
  exact ⟨hd, F, ws, P, Y, h1, h2, h3, h4, h5, h6, h7, h _ _ _ h8, h9⟩
theorem Cal.imp (C : Cal P w K mg base k x n S) (h : ∀ ws P Y, S' ws P Y → S ws P Y) : Cal P w K mg base k x n S' := by
  obtain ⟨f, fd, ps, F, r⟩ := C.ex
  exact ⟨f, fd, ps, F.imp fun vs H Q E q => spS_imp h q, r⟩
theorem am_parts (z : Int) : ∃ a b, am z = fr a b ∧ 0 < b ∧ gcdI a b = 1 ∧ a.natAbs ≤ z.natAbs ∧ b.natAbs ≤ 2 ∧ a * 2 = z * b := by
  obtain ⟨x, y, h1, h2, h3, h4, h5, h6⟩ := low_isFr (a := z) (b := 2) (by decide)
  exact ⟨x, y, h1, h2, h3, h4, h5, h6⟩
theorem bd_of {z : Int} (h : z.natAbs ≤ 10000000) : Bd 2000 z := Bd.mono (m := 64) (by unfold Bd; exact Nat.lt_of_le_of_lt h (by decide)) (by decide)
theorem ok_fr (a b : Int) : (fr a b).ok = true := by simp [fr, D.ok, D.oks]
theorem two_sum {a b c d x y : Int} (h1 : a * 2 = x * b) (h2 : c * 2 = y * d) : (a * d + c * b) * 2 = (x + y) * (b * d) := by
  have e1 : (a * d + c * b) * 2 = (a * 2) * d + (c * 2) * b := by rw [Int.add_mul]; simp only [Int.mul_comm, Int.mul_left_comm, Int.mul_assoc]
  rw [e1, h1, h2, Int.add_mul]
  simp only [Int.mul_comm, Int.mul_left_comm, Int.mul_assoc]
theorem two_sub {a b c d x y : Int} (h1 : a * 2 = x * b) (h2 : c * 2 = y * d) : (a * d - c * b) * 2 = (x - y) * (b * d) := by
  have e1 : (a * d - c * b) * 2 = (a * 2) * d - (c * 2) * b := by rw [Int.sub_mul]; simp only [Int.mul_comm, Int.mul_left_comm, Int.mul_assoc]
  rw [e1, h1, h2, Int.sub_mul]
  simp only [Int.mul_comm, Int.mul_left_comm, Int.mul_assoc]
theorem am2_imp (ws : List W) (P : D → Prop) (Y : Str → Prop) (h : S_am2 ws P Y) : S_is_amount ws P Y := by
  rcases h with ⟨z, rfl, h0, hb, hP⟩ | ⟨d, rfl, hd, hP⟩
  · obtain ⟨a, b, e, b0, hg, _, _, he⟩ := am_parts z
    refine ⟨_, rfl, ?_, ?_⟩
    · rw [e]
      exact ok_fr a b
    · have ha : 0 ≤ a := by
        have : 0 ≤ a * 2 := by
          rw [he]
          exact Int.mul_nonneg h0 (by omega)
        omega
      rw [e]
      rw [show isAm (fr a b) = true from by
        unfold fr isAm
        simp only [Bool.and_eq_true, decide_eq_true_eq]
        exact ⟨⟨b0, hg⟩, ha⟩]
      exact hP
  · rcases hd with rfl | rfl | rfl
    · refine ⟨_, rfl, ok_fr _ _, ?_⟩
      rw [show isAm (fr (-1) 1) = false from by decide +kernel]
      exact hP
    · refine ⟨_, rfl, ok_fr _ _, ?_⟩
      rw [show isAm (fr 2 2) = false from by decide +kernel]
      exact hP
    · exact ⟨_, rfl, rfl, hP⟩
theorem plus2_imp (ws : List W) (P : D → Prop) (Y : Str → Prop) (h : S_plus2 ws P Y) : S_raw_plus ws P Y := by
  obtain ⟨x, y, rfl, hx, hy, hP⟩ := h
  obtain ⟨a, b, e1, b0, _, n1, n2, h1⟩ := am_parts x
  obtain ⟨c, d, e2, d0, _, n3, n4, h2⟩ := am_parts y
  unfold bd9 at hx hy
  refine ⟨a, b, c, d, by rw [e1, e2], bd_of (by omega), bd_of (by omega), bd_of (by omega), bd_of (by omega), ⟨by omega, by omega⟩, ?_⟩
  rw [show opPlus a b c d = am (x + y) from low_eq (Int.mul_ne_zero (by omega) (by omega)) (by decide) (two_sum h1 h2)]
  exact hP
theorem less2_imp (ws : List W) (P : D → Prop) (Y : Str → Prop) (h : S_less2 ws P Y) : S_raw_less ws P Y := by
  obtain ⟨x, y, rfl, hx, hy, hP⟩ := h
  obtain ⟨a, b, e1, b0, _, n1, n2, h1⟩ := am_parts x
  obtain ⟨c, d, e2, d0, _, n3, n4, h2⟩ := am_parts y
  unfold bd9 at hx hy
  refine ⟨a, b, c, d, by rw [e1, e2], bd_of (by omega), bd_of (by omega), bd_of (by omega), bd_of (by omega), ⟨by omega, by omega⟩, ?_⟩
  rw [show opLess a b c d = am (x - y) from low_eq (Int.mul_ne_zero (by omega) (by omega)) (by decide) (two_sub h1 h2)]
  exact hP
theorem most2_imp (ws : List W) (P : D → Prop) (Y : Str → Prop) (h : S_most2 ws P Y) : S_raw_at_most ws P Y := by
  obtain ⟨x, y, rfl, hx, hy, hP⟩ := h
  obtain ⟨a, b, e1, b0, _, n1, n2, h1⟩ := am_parts x
  obtain ⟨c, d, e2, d0, _, n3, n4, h2⟩ := am_parts y
  unfold bd9 at hx hy
  refine ⟨a, b, c, d, by rw [e1, e2], bd_of (by omega), bd_of (by omega), bd_of (by omega), bd_of (by omega), True.intro, ?_⟩
  have hs := two_sub h1 h2
  have hp : 0 < b * d := Int.mul_pos b0 d0
  have hiff : a * d ≤ c * b ↔ x ≤ y := by
    constructor
    · intro q
      refine Int.not_lt.mp fun hlt => ?_
      have : 0 < (x - y) * (b * d) := Int.mul_pos (by omega) hp
      omega
    · intro q
      have : 0 ≤ (y - x) * (b * d) := Int.mul_nonneg (by omega) (by omega)
      have e : (y - x) * (b * d) = - ((x - y) * (b * d)) := by rw [← Int.neg_mul]; congr 1; omega
      omega
  rw [show opAtMost a b c d = .bl (decide (x ≤ y)) from congrArg D.bl (decide_eq_decide.mpr hiff)]
  exact hP
theorem ok_raw_lesser (Z : Env K mg) (C_raw_at_most : Cal P w K mg base k "raw_at_most" 2 S_most2) (F : FnP K "raw_lesser" s_raw_lesser f fd) : FnOk P w K mg base (L2.CX P w) (k + 1) f fd ["x", "y"] (spS K mg 2 S_raw_lesser) := fn_ok F sc_raw_lesser fun cdv A outer s H E ws Q Y hr hS hl => w_raw_lesser Z C_raw_at_most hr _ _ _ (sp_raw_lesser hS)
theorem ok_raw_greater (Z : Env K mg) (C_raw_at_most : Cal P w K mg base k "raw_at_most" 2 S_most2) (F : FnP K "raw_greater" s_raw_greater f fd) : FnOk P w K mg base (L2.CX P w) (k + 1) f fd ["x", "y"] (spS K mg 2 S_raw_greater) := fn_ok F sc_raw_greater fun cdv A outer s H E ws Q Y hr hS hl => w_raw_greater Z C_raw_at_most hr _ _ _ (sp_raw_greater hS)
theorem ok_has_kind_form (Z : Env K mg) (SZ : Siz w K mg)  (F : FnP K "has_kind_form" s_has_kind_form f fd) : FnOk P w K mg base (L2.CX P w) (k + 1) f fd ["thing"] (spS K mg 1 S_has_kind_form) := fn_ok F sc_has_kind_form fun cdv A outer s H E ws Q Y hr hS hl => w_has_kind_form Z SZ hr _ _ _ (sp_has_kind_form hS)
theorem ok_is_kind (Z : Env K mg) (C_has_kind_form : Cal P w K mg base k "has_kind_form" 1 S_has_kind_form) (F : FnP K "is_kind" s_is_kind f fd) : FnOk P w K mg base (L2.CX P w) (k + 1) f fd ["thing"] (spS K mg 1 S_is_kind) := fn_ok F sc_is_kind fun cdv A outer s H E ws Q Y hr hS hl => w_is_kind Z C_has_kind_form hr _ _ _ (sp_is_kind hS)
theorem ok_check_kind (Z : Env K mg) (C_is_kind : Cal P w K mg base k "is_kind" 1 S_is_kind) (F : FnP K "check_kind" s_check_kind f fd) : FnOk P w K mg base (L2.CX P w) (k + 1) f fd ["kind"] (spS K mg 1 S_check_kind) := fn_ok F sc_check_kind fun cdv A outer s H E ws Q Y hr hS hl => w_check_kind Z C_is_kind hr _ _ _ (sp_check_kind hS)
theorem ok_raw_is_rich (Z : Env K mg) (C_is_amount : Cal P w K mg base k "is_amount" 1 S_am2) (C_raw_is_rich : Cal P w K mg base k "raw_is_rich" 2 (S_raw_is_rich n)) (F : FnP K "raw_is_rich" s_raw_is_rich f fd) : FnOk P w K mg base (L2.CX P w) (k + 1) f fd ["kind", "thing"] (spS K mg 2 (S_raw_is_rich (n + 1))) := fn_ok F sc_raw_is_rich fun cdv A outer s H E ws Q Y hr hS hl => w_raw_is_rich Z (S_raw_is_rich n) C_is_amount C_raw_is_rich hr _ _ _ (sp_raw_is_rich hS)
theorem ok_check_rich (Z : Env K mg) (C_raw_is_rich : Cal P w K mg base k "raw_is_rich" 2 (S_raw_is_rich 3)) (F : FnP K "check_rich" s_check_rich f fd) : FnOk P w K mg base (L2.CX P w) (k + 1) f fd ["kind", "thing"] (spS K mg 2 S_check_rich) := fn_ok F sc_check_rich fun cdv A outer s H E ws Q Y hr hS hl => w_check_rich Z C_raw_is_rich hr _ _ _ (sp_check_rich hS)
theorem ok_raw_amounts (hn : n ≤ 2) (Z : Env K mg) (C_raw_amounts : Cal P w K mg base k "raw_amounts" 2 (S_raw_amounts n)) (F : FnP K "raw_amounts" s_raw_amounts f fd) : FnOk P w K mg base (L2.CX P w) (k + 1) f fd ["kind", "rich"] (spS K mg 2 (S_raw_amounts (n + 1))) := fn_ok F sc_raw_amounts fun cdv A outer s H E ws Q Y hr hS hl => w_raw_amounts Z (S_raw_amounts n) C_raw_amounts hr _ _ _ (sp_raw_amounts hn hS)
theorem ok_raw_many (Z : Env K mg) (C_raw_many : Cal P w K mg base k "raw_many" 1 (S_raw_many n)) (F : FnP K "raw_many" s_raw_many f fd) : FnOk P w K mg base (L2.CX P w) (k + 1) f fd ["kind"] (spS K mg 1 (S_raw_many (n + 1))) := fn_ok F sc_raw_many fun cdv A outer s H E ws Q Y hr hS hl => w_raw_many Z (S_raw_many n) C_raw_many hr _ _ _ (sp_raw_many hS)
theorem ok_raw_rich (hn : n ≤ 2) (Z : Env K mg) (C_raw_many : Cal P w K mg base k "raw_many" 1 (S_raw_many n)) (C_raw_rich : Cal P w K mg base k "raw_rich" 2 (S_raw_rich n)) (F : FnP K "raw_rich" s_raw_rich f fd) : FnOk P w K mg base (L2.CX P w) (k + 1) f fd ["kind", "amounts"] (spS K mg 2 (S_raw_rich (n + 1))) := fn_ok F sc_raw_rich fun cdv A outer s H E ws Q Y hr hS hl => w_raw_rich Z (S_raw_rich n) (S_raw_many n) C_raw_many C_raw_rich hr _ _ _ (sp_raw_rich hn hS)
theorem ok_amounts_of (Z : Env K mg) (C_check_kind : Cal P w K mg base k "check_kind" 1 S_check_kind) (C_check_rich : Cal P w K mg base k "check_rich" 2 S_check_rich) (C_raw_amounts : Cal P w K mg base k "raw_amounts" 2 (S_raw_amounts 3)) (F : FnP K "amounts_of" s_amounts_of f fd) : FnOk P w K mg base (L2.CX P w) (k + 1) f fd ["kind", "rich"] (spS K mg 2 S_amounts_of) := fn_ok F sc_amounts_of fun cdv A outer s H E ws Q Y hr hS hl => w_amounts_of Z C_check_kind C_check_rich C_raw_amounts hr _ _ _ (sp_amounts_of hS)
theorem ok_raw_covers (Z : Env K mg) (C_raw_amounts : Cal P w K mg base k "raw_amounts" 2 (S_raw_amounts 3)) (C_raw_at_most : Cal P w K mg base k "raw_at_most" 2 S_most2) (F : FnP K "raw_covers" s_raw_covers f fd) : FnOk P w K mg base (L2.CX P w) (k + 1) f fd ["kind", "one", "other"] (spS K mg 3 S_raw_covers) := fn_ok F sc_raw_covers fun cdv A outer s H E ws Q Y hr hS hl => w_raw_covers Z C_raw_amounts C_raw_at_most hr _ _ _ (sp_raw_covers hS)
theorem ok_check_both (Z : Env K mg) (C_check_kind : Cal P w K mg base k "check_kind" 1 S_check_kind) (C_check_rich : Cal P w K mg base k "check_rich" 2 S_check_rich) (F : FnP K "check_both" s_check_both f fd) : FnOk P w K mg base (L2.CX P w) (k + 1) f fd ["kind", "one", "other"] (spS K mg 3 S_check_both) := fn_ok F sc_check_both fun cdv A outer s H E ws Q Y hr hS hl => w_check_both Z C_check_kind C_check_rich hr _ _ _ (sp_check_both hS)
theorem ok_covers (Z : Env K mg) (C_check_both : Cal P w K mg base k "check_both" 3 S_check_both) (C_raw_covers : Cal P w K mg base k "raw_covers" 3 S_raw_covers) (F : FnP K "covers" s_covers f fd) : FnOk P w K mg base (L2.CX P w) (k + 1) f fd ["kind", "one", "other"] (spS K mg 3 S_covers) := fn_ok F sc_covers fun cdv A outer s H E ws Q Y hr hS hl => w_covers Z C_check_both C_raw_covers hr _ _ _ (sp_covers hS)
theorem ok_joined (Z : Env K mg) (C_check_both : Cal P w K mg base k "check_both" 3 S_check_both) (C_raw_amounts : Cal P w K mg base k "raw_amounts" 2 (S_raw_amounts 3)) (C_raw_greater : Cal P w K mg base k "raw_greater" 2 S_raw_greater) (C_raw_rich : Cal P w K mg base k "raw_rich" 2 (S_raw_rich 3)) (F : FnP K "joined" s_joined f fd) : FnOk P w K mg base (L2.CX P w) (k + 1) f fd ["kind", "one", "other"] (spS K mg 3 S_joined) := fn_ok F sc_joined fun cdv A outer s H E ws Q Y hr hS hl => w_joined Z C_check_both C_raw_amounts C_raw_greater C_raw_rich hr _ _ _ (sp_joined hS)
theorem ok_met (Z : Env K mg) (C_check_both : Cal P w K mg base k "check_both" 3 S_check_both) (C_raw_amounts : Cal P w K mg base k "raw_amounts" 2 (S_raw_amounts 3)) (C_raw_lesser : Cal P w K mg base k "raw_lesser" 2 S_raw_lesser) (C_raw_rich : Cal P w K mg base k "raw_rich" 2 (S_raw_rich 3)) (F : FnP K "met" s_met f fd) : FnOk P w K mg base (L2.CX P w) (k + 1) f fd ["kind", "one", "other"] (spS K mg 3 S_met) := fn_ok F sc_met fun cdv A outer s H E ws Q Y hr hS hl => w_met Z C_check_both C_raw_amounts C_raw_lesser C_raw_rich hr _ _ _ (sp_met hS)
theorem ok_are_kinds (Z : Env K mg) (C_is_kind : Cal P w K mg base k "is_kind" 1 S_is_kind) (F : FnP K "are_kinds" s_are_kinds f fd) : FnOk P w K mg base (L2.CX P w) (k + 1) f fd ["thing"] (spS K mg 1 S_are_kinds) := fn_ok F sc_are_kinds fun cdv A outer s H E ws Q Y hr hS hl => w_are_kinds Z C_is_kind hr _ _ _ (sp_are_kinds hS)
theorem ok_is_card_by (Z : Env K mg) (C_is_amount : Cal P w K mg base k "is_amount" 1 S_am2) (C_raw_is_rich : Cal P w K mg base k "raw_is_rich" 2 (S_raw_is_rich 3)) (F : FnP K "is_card_by" s_is_card_by f fd) : FnOk P w K mg base (L2.CX P w) (k + 1) f fd ["kinds", "kind", "thing"] (spS K mg 3 S_is_card_by) := fn_ok F sc_is_card_by fun cdv A outer s H E ws Q Y hr hS hl => w_is_card_by Z C_is_amount C_raw_is_rich hr _ _ _ (sp_is_card_by hS)
theorem ok_are_cards_by (Z : Env K mg) (C_is_card_by : Cal P w K mg base k "is_card_by" 3 S_is_card_by) (F : FnP K "are_cards_by" s_are_cards_by f fd) : FnOk P w K mg base (L2.CX P w) (k + 1) f fd ["kinds", "kind", "thing"] (spS K mg 3 S_are_cards_by) := fn_ok F sc_are_cards_by fun cdv A outer s H E ws Q Y hr hS hl => w_are_cards_by Z C_is_card_by hr _ _ _ (sp_are_cards_by hS)
theorem ok_check_kinds (Z : Env K mg) (C_are_kinds : Cal P w K mg base k "are_kinds" 1 S_are_kinds) (C_is_kind : Cal P w K mg base k "is_kind" 1 S_is_kind) (F : FnP K "check_kinds" s_check_kinds f fd) : FnOk P w K mg base (L2.CX P w) (k + 1) f fd ["kinds", "kind"] (spS K mg 2 S_check_kinds) := fn_ok F sc_check_kinds fun cdv A outer s H E ws Q Y hr hS hl => w_check_kinds Z C_are_kinds C_is_kind hr _ _ _ (sp_check_kinds hS)
theorem ok_check_pair (Z : Env K mg) (C_check_kinds : Cal P w K mg base k "check_kinds" 2 S_check_kinds) (C_is_card_by : Cal P w K mg base k "is_card_by" 3 S_is_card_by) (F : FnP K "check_pair" s_check_pair f fd) : FnOk P w K mg base (L2.CX P w) (k + 1) f fd ["kinds", "kind", "one", "other"] (spS K mg 4 S_check_pair) := fn_ok F sc_check_pair fun cdv A outer s H E ws Q Y hr hS hl => w_check_pair Z C_check_kinds C_is_card_by hr _ _ _ (sp_check_pair hS)
theorem ok_are_riches_so (Z : Env K mg) (C_raw_covers : Cal P w K mg base k "raw_covers" 3 S_raw_covers) (F : FnP K "are_riches_so" s_are_riches_so f fd) : FnOk P w K mg base (L2.CX P w) (k + 1) f fd ["kinds", "kind", "one", "other"] (spS K mg 4 S_are_riches_so) := fn_ok F sc_are_riches_so fun cdv A outer s H E ws Q Y hr hS hl => w_are_riches_so Z C_raw_covers hr _ _ _ (sp_are_riches_so hS)
theorem ok_raw_shortfall (Z : Env K mg) (C_are_riches_so : Cal P w K mg base k "are_riches_so" 4 S_are_riches_so) (C_raw_greater : Cal P w K mg base k "raw_greater" 2 S_raw_greater) (C_raw_less : Cal P w K mg base k "raw_less" 2 S_less2) (C_raw_plus : Cal P w K mg base k "raw_plus" 2 S_plus2) (F : FnP K "raw_shortfall" s_raw_shortfall f fd) : FnOk P w K mg base (L2.CX P w) (k + 1) f fd ["kinds", "kind", "one", "other"] (spS K mg 4 S_raw_shortfall) := fn_ok F sc_raw_shortfall fun cdv A outer s H E ws Q Y hr hS hl => w_raw_shortfall Z C_are_riches_so C_raw_greater C_raw_less C_raw_plus hr _ _ _ (sp_raw_shortfall hS)
theorem ok_raw_serves (Z : Env K mg) (C_raw_shortfall : Cal P w K mg base k "raw_shortfall" 4 S_raw_shortfall) (F : FnP K "raw_serves" s_raw_serves f fd) : FnOk P w K mg base (L2.CX P w) (k + 1) f fd ["kinds", "kind", "one", "other"] (spS K mg 4 S_raw_serves) := fn_ok F sc_raw_serves fun cdv A outer s H E ws Q Y hr hS hl => w_raw_serves Z C_raw_shortfall hr _ _ _ (sp_raw_serves hS)
theorem ok_serves (Z : Env K mg) (C_check_pair : Cal P w K mg base k "check_pair" 4 S_check_pair) (C_raw_serves : Cal P w K mg base k "raw_serves" 4 S_raw_serves) (F : FnP K "serves" s_serves f fd) : FnOk P w K mg base (L2.CX P w) (k + 1) f fd ["kinds", "kind", "one", "other"] (spS K mg 4 S_serves) := fn_ok F sc_serves fun cdv A outer s H E ws Q Y hr hS hl => w_serves Z C_check_pair C_raw_serves hr _ _ _ (sp_serves hS)
theorem ok_shortfall (Z : Env K mg) (C_check_pair : Cal P w K mg base k "check_pair" 4 S_check_pair) (C_raw_shortfall : Cal P w K mg base k "raw_shortfall" 4 S_raw_shortfall) (F : FnP K "shortfall" s_shortfall f fd) : FnOk P w K mg base (L2.CX P w) (k + 1) f fd ["kinds", "kind", "one", "other"] (spS K mg 4 S_shortfall) := fn_ok F sc_shortfall fun cdv A outer s H E ws Q Y hr hS hl => w_shortfall Z C_check_pair C_raw_shortfall hr _ _ _ (sp_shortfall hS)
theorem ok_both_serve (Z : Env K mg) (C_check_pair : Cal P w K mg base k "check_pair" 4 S_check_pair) (C_joined : Cal P w K mg base k "joined" 3 S_joined) (C_met : Cal P w K mg base k "met" 3 S_met) (C_raw_greater : Cal P w K mg base k "raw_greater" 2 S_raw_greater) (C_raw_less : Cal P w K mg base k "raw_less" 2 S_less2) (C_raw_lesser : Cal P w K mg base k "raw_lesser" 2 S_raw_lesser) (C_raw_plus : Cal P w K mg base k "raw_plus" 2 S_plus2) (F : FnP K "both_serve" s_both_serve f fd) : FnOk P w K mg base (L2.CX P w) (k + 1) f fd ["kinds", "kind", "one", "other"] (spS K mg 4 S_both_serve) := fn_ok F sc_both_serve fun cdv A outer s H E ws Q Y hr hS hl => w_both_serve Z C_check_pair C_joined C_met C_raw_greater C_raw_less C_raw_lesser C_raw_plus hr _ _ _ (sp_both_serve hS)
theorem ok_raw_serving (Z : Env K mg) (C_raw_serves : Cal P w K mg base k "raw_serves" 4 S_raw_serves) (F : FnP K "raw_serving" s_raw_serving f fd) : FnOk P w K mg base (L2.CX P w) (k + 1) f fd ["kinds", "kind", "cards", "card"] (spS K mg 4 S_raw_serving) := fn_ok F sc_raw_serving fun cdv A outer s H E ws Q Y hr hS hl => w_raw_serving Z C_raw_serves hr _ _ _ (sp_raw_serving hS)
theorem ok_serving (Z : Env K mg) (C_are_cards_by : Cal P w K mg base k "are_cards_by" 3 S_are_cards_by) (C_check_kinds : Cal P w K mg base k "check_kinds" 2 S_check_kinds) (C_is_card_by : Cal P w K mg base k "is_card_by" 3 S_is_card_by) (C_raw_serving : Cal P w K mg base k "raw_serving" 4 S_raw_serving) (F : FnP K "serving" s_serving f fd) : FnOk P w K mg base (L2.CX P w) (k + 1) f fd ["kinds", "kind", "cards", "card"] (spS K mg 4 S_serving) := fn_ok F sc_serving fun cdv A outer s H E ws Q Y hr hS hl => w_serving Z C_are_cards_by C_check_kinds C_is_card_by C_raw_serving hr _ _ _ (sp_serving hS)
theorem ok__law_hand (Z : Env K mg)  (F : FnP K "_law_hand" s__law_hand f fd) : FnOk P w K mg base (L2.CX P w) (k + 1) f fd ["script"] (spS K mg 1 S__law_hand) := fn_ok F sc__law_hand fun cdv A outer s H E ws Q Y hr hS hl => w__law_hand Z  hr _ _ _ (sp__law_hand hS)
theorem ok__law_draw (Z : Env K mg) (HO : HandOk K mg)  (F : FnP K "_law_draw" s__law_draw f fd) : FnOk P w K mg base (L2.CX P w) (k + 1) f fd ["hand", "many"] (spS K mg 2 S__law_draw) := fn_ok F sc__law_draw fun cdv A outer s H E ws Q Y hr hS hl => by
  obtain ⟨many, rfl, h0, h1, hQ⟩ := hS
  exact wb_open 0 rfl HO.op fun ds hg => w__law_draw Z HO hr _ _ _ (sp__law_draw hg h0 h1 hQ)
theorem ok__law_any (Z : Env K mg) (C__law_draw : Cal P w K mg base k "_law_draw" 2 S__law_draw) (F : FnP K "_law_any" s__law_any f fd) : FnOk P w K mg base (L2.CX P w) (k + 1) f fd ["hand", "some"] (spS K mg 2 S__law_any) := fn_ok F sc__law_any fun cdv A outer s H E ws Q Y hr hS hl => w__law_any Z C__law_draw hr _ _ _ (sp__law_any hS)
theorem ok__law_is (Z : Env K mg)  (F : FnP K "_law_is" s__law_is f fd) : FnG P w K mg base (L2.CX P w) (k + 1) f fd ["one", "other"] (spS K mg 2 S__law_is) := fn_okG F sc__law_is fun cdv A outer s H E ws Q Y hr hS hl => w__law_is Z  hr _ _ _ (sp__law_is hS)
theorem ok__law_amount (Z : Env K mg)  (F : FnP K "_law_amount" s__law_amount f fd) : FnOk P w K mg base (L2.CX P w) (k + 1) f fd ["two"] (spS K mg 1 S__law_amount) := fn_ok F sc__law_amount fun cdv A outer s H E ws Q Y hr hS hl => w__law_amount Z  hr _ _ _ (sp__law_amount hS)
theorem ok__law_halves (Z : Env K mg)  (F : FnP K "_law_halves" s__law_halves f fd) : FnOk P w K mg base (L2.CX P w) (k + 1) f fd ["amount"] (spS K mg 1 S__law_halves) := fn_ok F sc__law_halves fun cdv A outer s H E ws Q Y hr hS hl => w__law_halves Z  hr _ _ _ (sp__law_halves hS)
theorem ok__law_kind (Z : Env K mg) (C__law_any : Cal P w K mg base k "_law_any" 2 S__law_any) (C__law_kind : Cal P w K mg base k "_law_kind" 2 (S__law_kind n)) (F : FnP K "_law_kind" s__law_kind f fd) : FnOk P w K mg base (L2.CX P w) (k + 1) f fd ["hand", "height"] (spS K mg 2 (S__law_kind (n + 1))) := fn_ok F sc__law_kind fun cdv A outer s H E ws Q Y hr hS hl => w__law_kind Z (S__law_kind n) C__law_any C__law_kind hr _ _ _ (sp__law_kind hS)
theorem ok__law_rich (hn : n ≤ 2) (Z : Env K mg) (C__law_amount : Cal P w K mg base k "_law_amount" 1 S__law_amount) (C__law_draw : Cal P w K mg base k "_law_draw" 2 S__law_draw) (C__law_rich : Cal P w K mg base k "_law_rich" 2 (S__law_rich n)) (F : FnP K "_law_rich" s__law_rich f fd) : FnOk P w K mg base (L2.CX P w) (k + 1) f fd ["hand", "kind"] (spS K mg 2 (S__law_rich (n + 1))) := fn_ok F sc__law_rich fun cdv A outer s H E ws Q Y hr hS hl => w__law_rich Z (S__law_rich n) C__law_amount C__law_draw C__law_rich hr _ _ _ (sp__law_rich hn hS)
theorem ok__law_flat (hn : n ≤ 2) (Z : Env K mg) (C__law_flat : Cal P w K mg base k "_law_flat" 2 (S__law_flat n)) (C__law_halves : Cal P w K mg base k "_law_halves" 1 S__law_halves) (F : FnP K "_law_flat" s__law_flat f fd) : FnOk P w K mg base (L2.CX P w) (k + 1) f fd ["kind", "rich"] (spS K mg 2 (S__law_flat (n + 1))) := fn_ok F sc__law_flat fun cdv A outer s H E ws Q Y hr hS hl => w__law_flat Z (S__law_flat n) C__law_flat C__law_halves hr _ _ _ (sp__law_flat hn hS)
theorem ok__law_drawn (Z : Env K mg) (C__law_amount : Cal P w K mg base k "_law_amount" 1 S__law_amount) (C__law_draw : Cal P w K mg base k "_law_draw" 2 S__law_draw) (C__law_rich : Cal P w K mg base k "_law_rich" 2 (S__law_rich 3)) (F : FnP K "_law_drawn" s__law_drawn f fd) : FnOk P w K mg base (L2.CX P w) (k + 1) f fd ["hand", "kinds", "kind"] (spS K mg 3 S__law_drawn) := fn_ok F sc__law_drawn fun cdv A outer s H E ws Q Y hr hS hl => w__law_drawn Z C__law_amount C__law_draw C__law_rich hr _ _ _ (sp__law_drawn hS)
theorem ok__law_near (Z : Env K mg) (C__law_any : Cal P w K mg base k "_law_any" 2 S__law_any) (C__law_drawn : Cal P w K mg base k "_law_drawn" 3 S__law_drawn) (F : FnP K "_law_near" s__law_near f fd) : FnOk P w K mg base (L2.CX P w) (k + 1) f fd ["hand", "kinds", "kind", "card"] (spS K mg 4 S__law_near) := fn_ok F sc__law_near fun cdv A outer s H E ws Q Y hr hS hl => w__law_near Z C__law_any C__law_drawn hr _ _ _ (sp__law_near hS)
theorem ok__law_fits (Z : Env K mg) (C__law_flat : Cal P w K mg base k "_law_flat" 2 (S__law_flat 3)) (F : FnP K "_law_fits" s__law_fits f fd) : FnOk P w K mg base (L2.CX P w) (k + 1) f fd ["kinds", "kind", "one", "other"] (spS K mg 4 S__law_fits) := fn_ok F sc__law_fits fun cdv A outer s H E ws Q Y hr hS hl => w__law_fits Z C__law_flat hr _ _ _ (sp__law_fits hS)
theorem ok__law_lack (Z : Env K mg) (C__law_halves : Cal P w K mg base k "_law_halves" 1 S__law_halves) (F : FnP K "_law_lack" s__law_lack f fd) : FnOk P w K mg base (L2.CX P w) (k + 1) f fd ["one", "other"] (spS K mg 2 S__law_lack) := fn_ok F sc__law_lack fun cdv A outer s H E ws Q Y hr hS hl => w__law_lack Z C__law_halves hr _ _ _ (sp__law_lack hS)
theorem ok__law_raised (Z : Env K mg) (C__law_amount : Cal P w K mg base k "_law_amount" 1 S__law_amount) (C__law_halves : Cal P w K mg base k "_law_halves" 1 S__law_halves) (F : FnP K "_law_raised" s__law_raised f fd) : FnOk P w K mg base (L2.CX P w) (k + 1) f fd ["card", "two"] (spS K mg 2 S__law_raised) := fn_ok F sc__law_raised fun cdv A outer s H E ws Q Y hr hS hl => w__law_raised Z C__law_amount C__law_halves hr _ _ _ (sp__law_raised hS)
theorem ok__law_both (Z : Env K mg) (C__law_amount : Cal P w K mg base k "_law_amount" 1 S__law_amount) (C__law_halves : Cal P w K mg base k "_law_halves" 1 S__law_halves) (C_joined : Cal P w K mg base k "joined" 3 S_joined) (C_met : Cal P w K mg base k "met" 3 S_met) (F : FnP K "_law_both" s__law_both f fd) : FnOk P w K mg base (L2.CX P w) (k + 1) f fd ["kinds", "kind", "one", "other"] (spS K mg 4 S__law_both) := fn_ok F sc__law_both fun cdv A outer s H E ws Q Y hr hS hl => w__law_both Z C__law_amount C__law_halves C_joined C_met hr _ _ _ (sp__law_both hS)
theorem ok__law_pair_right (Z : Env K mg) (C__law_amount : Cal P w K mg base k "_law_amount" 1 S__law_amount) (C__law_both : Cal P w K mg base k "_law_both" 4 S__law_both) (C__law_fits : Cal P w K mg base k "_law_fits" 4 S__law_fits) (C__law_flat : Cal P w K mg base k "_law_flat" 2 (S__law_flat 3)) (C__law_is : CalG P w K mg base k "_law_is" 2 S__law_is) (C__law_lack : Cal P w K mg base k "_law_lack" 2 S__law_lack) (C__law_raised : Cal P w K mg base k "_law_raised" 2 S__law_raised) (C_amounts_of : Cal P w K mg base k "amounts_of" 2 S_amounts_of) (C_both_serve : Cal P w K mg base k "both_serve" 4 S_both_serve) (C_serves : Cal P w K mg base k "serves" 4 S_serves) (C_shortfall : Cal P w K mg base k "shortfall" 4 S_shortfall) (F : FnP K "_law_pair_right" s__law_pair_right f fd) : FnG P w K mg base (L2.CX P w) (k + 1) f fd ["kinds", "kind", "one", "other", "third"] (spS K mg 5 S__law_pair_right) := fn_okG F sc__law_pair_right fun cdv A outer s H E ws Q Y hr hS hl => w__law_pair_right Z C__law_amount C__law_both C__law_fits C__law_flat C__law_is C__law_lack C__law_raised C_amounts_of C_both_serve C_serves C_shortfall hr _ _ _ (sp__law_pair_right hS)
theorem ok__law_refused_right (Z : Env K mg) (W : WordF K mg) (LF : LamF K mg base "_law_refused_right") {gw : Addr} {fdw : FuncData} (Fw : FnP K "_law_word" s__law_word gw fdw) (mw : mg "_law_word" = some (.ref gw)) (C__law_any : Cal P w K mg base k "_law_any" 2 S__law_any) (C_both_serve : Cal P w K mg base k "both_serve" 4 S_both_serve) (C_serves : Cal P w K mg base k "serves" 4 S_serves) (C_serving : Cal P w K mg base k "serving" 4 S_serving) (C_shortfall : Cal P w K mg base k "shortfall" 4 S_shortfall) (F : FnP K "_law_refused_right" s__law_refused_right f fd) (hf : f = He.fAd K ("_law_refused_right", none)) : FnOk P w K mg base (L2.CX P w) (k + 2 + 1) f fd ["hand", "kinds", "kind", "card"] (spS K mg 4 S__law_refused_right) := fn_okL F hf sc__law_refused_right fun A outer s H E ws Q Y hr hS hl => w__law_refused_right Z W LF Fw mw C__law_any C_both_serve C_serves C_serving C_shortfall hr _ _ _ (sp__law_refused_right hS)
end
end K48

/-! the end of a law whose def asks that no repr is under way -/
namespace PL
open PySem PySem.Spec PyProof.Rows L2 LamX
/-- what is tracked when the law is called: the tables, and the script where it is no object of the module -/
def entryH (K : PySem.W.Frag) (a : Addr) (T : List Addr) (ob : Obj) (xs : List V) : Hp := fun b =>
  if b ∈ T then some (.tbl #[]) else if b = a ∧ K.lookup a = none then some (.frz ob (.lst xs)) else none
section
variable {K : PySem.W.Frag} {a b : Addr} {T : List Addr} {ob : Obj} {xs : List V} {u : HO}
theorem entryH_tab (h : b ∈ T) : entryH K a T ob xs b = some (.tbl #[]) := if_pos h
theorem entryH_scr (h : a ∉ T) (k : K.lookup a = none) : entryH K a T ob xs a = some (.frz ob (.lst xs)) := (if_neg h).trans (if_pos ⟨rfl, k⟩)
theorem entryH_inv (h : entryH K a T ob xs b = some u) : (b ∈ T ∧ u = .tbl #[]) ∨ (b = a ∧ K.lookup a = none ∧ u = .frz ob (.lst xs)) := by
  unfold entryH at h
  split at h
  · rename_i hb
    exact .inl ⟨hb, (Option.some.inj h).symm⟩
  · split at h
    · rename_i hb
      exact .inr ⟨hb.1, hb.2, (Option.some.inj h).symm⟩
    · exact nomatch h
theorem entryH_none (h1 : b ∉ T) (h2 : b = a → K.lookup a ≠ none) : entryH K a T ob xs b = none := (if_neg h1).trans (if_neg fun q => h2 q.1 q.2)
end
theorem law_callG {P : Program} {w : World} {K : PySem.W.Frag} {mg mb : Str → Option Value} {CX : CXT} {k : Nat} {fa a : Addr} {cs : List (Addr × Addr)} {fd : FuncData} {x : Str} {sp : Sp} {s : Shared} {vs : List Value} {ns : List Int}
    (KX : K.In s.heap) (G : s.heap.Ns mainGlobals mg) (B : s.heap.Ns builtinsNs mb) (hB : ∀ x : Str, x ≠ "__name__" → mb x = bootBuiltins x) (L : s.heap.NoLimit) (hg : s.gens = #[])
    (hT : ∀ p ∈ cs, s.heap.get? p.2 = some { cls := .none, data := .fields #[] }) (nT : ∀ p ∈ cs, K.lookup p.2 = none) (C : ∀ p ∈ cs, PySem.W.CodeHd s.heap p.1 p.2)
    (bm : ∃ (bm : Addr) (ob : Obj), mg "__builtins__" = some (.ref bm) ∧ bm ≠ builtinsNs ∧ s.heap.get? bm = some ob ∧ ob.cls = .type "module" ∧ ob.dict = some builtinsNs ∧ ob.data = .plain)
    (ha : s.heap.get? a = some { cls := .type "list", data := .seq vs.toArray }) (hi : IntsAre vs ns) (hl : ns.length ≤ sizeLine) (hr : Room k callerA)
    (F : ∀ base : Heap, K.In base → base.Ns mainGlobals mg → (∀ p ∈ cs, TabB base mg p.1 p.2) → FnG P w K mg base CX k fa fd [x] sp) (bd : ∀ (s : Shared) (u : Value), BindsTo s fd ⟨[u], []⟩ [(x, u)])
    (hsp : ∀ H : Hp, (∀ p ∈ cs, H p.2 = some (.tbl #[])) → SqL K H a (ns.map V.int) → sp [.ref a] H (fun v _ => v = .bl true) fun _ _ _ => False)
    (hCX : ∀ H e s', CX [] H s (fun _ _ _ => False) e s' → False) :
    codeAny (model P w) callerA (.call (.ref fa) ⟨[.ref a], []⟩) (fun r s' => r = .ok (.ret (.bool true)) ∧ OldK s.heap s'.heap ∧ s'.os = s.os ∧ AllBare s'.gens) s := by
  have rv := vals_ints hi
  have tab : ∀ {b : Addr}, b ∈ cs.map (·.2) → ∃ p ∈ cs, p.2 = b := fun hb => List.mem_map.mp hb
  have inT : ∀ {p : Addr × Addr}, p ∈ cs → p.2 ∈ cs.map (·.2) := fun hp => List.mem_map.mpr ⟨_, hp, rfl⟩
  have aT : a ∉ cs.map (·.2) := fun hb => by
    obtain ⟨p, hp, e⟩ := tab hb
    have e2 := hT p hp
    rw [e, ha] at e2
    exact nomatch congrArg Obj.data (Option.some.inj e2)
  generalize hH : entryH K a (cs.map (·.2)) { cls := .type "list", data := .seq vs.toArray } (ns.map V.int) = H
  have hTab : ∀ p ∈ cs, H p.2 = some (.tbl #[]) := fun p hp => by
    rw [← hH]
    exact entryH_tab (inT hp)
  have inv : ∀ {b : Addr} {u : HO}, H b = some u → (b ∈ cs.map (·.2) ∧ u = .tbl #[]) ∨ (b = a ∧ K.lookup a = none ∧ u = .frz { cls := .type "list", data := .seq vs.toArray } (.lst (ns.map V.int))) := fun {b u} h => by
    rw [← hH] at h
    exact entryH_inv h
  -- an object that is neither a table nor the script is in the base
  have free : ∀ {b : Addr} {o : Obj}, s.heap.get? b = some o → (∀ us n, o.data ≠ .seq us n) → o.data ≠ .fields #[] → H b = none := fun {b o} e d1 d2 => by
    cases q : H b with
    | none => rfl
    | some u =>
      rcases inv q with ⟨hb, _⟩ | ⟨rfl, _⟩
      · obtain ⟨p, hp, rfl⟩ := tab hb
        rw [hT p hp] at e
        cases e
        exact absurd rfl d2
      · rw [ha] at e
        cases e
        exact absurd rfl (d1 _ _)
  have low : ∀ {b : Addr} {o : Obj}, s.heap.get? b = some o → (∀ us n, o.data ≠ .seq us n) → o.data ≠ .fields #[] → (hidT s.heap H).get? b = some o := fun e d1 d2 => hidT_get e (free e d1 d2)
  have lowN : ∀ {b : Addr} {m : Str → Option Value}, s.heap.Ns b m → (hidT s.heap H).Ns b m := fun {b m} ⟨o, es, ep, e, d, r⟩ =>
    ⟨o, es, ep, low e (fun us n q => by rw [d] at q; exact nomatch q) (fun q => by rw [d] at q; exact nomatch q), d, r⟩
  have lowK : K.In (hidT s.heap H) := fun b o e => hidT_get (KX b o e) (by
    cases q : H b with
    | none => rfl
    | some u =>
      rcases inv q with ⟨hb, _⟩ | ⟨rfl, hk, _⟩
      · obtain ⟨p, hp, rfl⟩ := tab hb
        rw [nT p hp] at e
        exact nomatch e
      · rw [hk] at e
        exact nomatch e)
  have TB : ∀ p ∈ cs, TabB (hidT s.heap H) mg p.1 p.2 := fun p hp => by
    have hTp := hT p hp
    obtain ⟨og, eg, pg, e3, d3, _⟩ := id G
    refine ⟨?_, ?_, fun q => ?_⟩
    · obtain ⟨o, us, f1, f2, f3, f4, f5, f6, f7, e1, r1, r2, r3, rest⟩ := C p hp
      refine ⟨o, us, f1, f2, f3, f4, f5, f6, f7, low e1 (fun _ _ q => ?_) (fun q => ?_), r1, r2, r3, rest⟩
      · rw [r2] at q
        exact nomatch q
      · rw [r2] at q
        cases q
        simp at r3
    · obtain ⟨m, o, b1, b2, b3, b4, b5, b6⟩ := bm
      refine ⟨m, o, b1, b2, fun q => ?_, fun q => ?_, low b3 (fun _ _ q => ?_) (fun q => ?_), b4, b5, b6⟩
      · rw [q, e3] at b3
        cases b3
        rw [d3] at b6
        exact nomatch b6
      · rw [q, hTp] at b3
        cases b3
        exact nomatch b6
      · rw [b6] at q
        exact nomatch q
      · rw [b6] at q
        exact nomatch q
    · rw [q, hTp] at e3
      cases e3
      exact nomatch d3
  have hok : HOk P w H s.heap := fun b u q => by
    rcases inv q with ⟨hb, rfl⟩ | ⟨rfl, _, rfl⟩
    · obtain ⟨p, hp, rfl⟩ := tab hb
      exact hT p hp
    · exact ⟨ha, by rw [List.length_map]; exact hl, vs, _, rv, ha⟩
  have hS : SqL K H a (ns.map V.int) := by
    cases hk : K.lookup a with
    | none => exact .inl (.inr ⟨_, by rw [← hH]; exact entryH_scr aT hk⟩)
    | some o =>
      have e := KX a o hk
      rw [ha] at e
      cases e
      exact .inr ⟨_, vs.toArray, _, hk, rfl, rfl, rfl, by rw [List.size_toArray, hi.length]; exact hl, by simpa using rv⟩
  have e0 : Env0 P w K mg (hidT s.heap H) callerA [] s H := by
    refine ⟨rfl, ⟨lowK, lowN G, ⟨mb, lowN B, hB⟩, ?_⟩, fun b o e => of_hidT e, Nat.le_of_eq (hidT_size _ _), trivial, fun b hb => (by cases (show b ∈ ([] : List Addr) from hb)), hok, .of_eq hg⟩
    obtain ⟨mc, h1, h2⟩ := L
    exact ⟨mc, lowN h1, h2⟩
  refine codeAny_mono ((F _ lowK (lowN G) TB).go callerA [] s H [.ref a] [.ref a] _ _ ⟨hr, rfl⟩ e0 (bd s (.ref a)) (.cons rfl .nil) (hsp H hTab hS)) fun r s' q => ?_
  match r, q with
  | .error e, q => exact (hCX H e s' q).elim
  | .ok (.ret u), ⟨v, H', os, bare, un, hok', rv', hv⟩ =>
    have hv : v = V.bl true := hv
    subst hv
    obtain rfl : u = Value.bool true := rv'
    have same : ∀ b o, b ∉ cs.map (·.2) → s.heap.get? b = some o → s'.heap.get? b = some o := fun b o nb e => by
      cases q : H b with
      | none => exact un.keep b o e q (fun z => nomatch z) (fun z => nomatch z)
      | some u =>
        rcases inv q with ⟨hb, _⟩ | ⟨rfl, _, rfl⟩
        · exact absurd hb nb
        · rw [ha] at e
          cases e
          exact (hok' b _ (un.frzs b _ _ q)).1
    have more : ∀ p ∈ cs, ∃ m : Array Value, s'.heap.get? p.2 = some { cls := .none, data := .fields m } := fun p hp => by
      obtain ⟨m, z⟩ := un.tbls p.2 #[] (hTab p hp)
      exact ⟨_, hok' p.2 _ z⟩
    refine ⟨rfl, ⟨fun b o e => ?_, fun b o e => ?_⟩, os, bare⟩
    · by_cases hb : b ∈ cs.map (·.2)
      · obtain ⟨p, hp, rfl⟩ := tab hb
        obtain ⟨m, hm⟩ := more p hp
        rw [hT p hp] at e
        cases e
        exact .inr (.inl ⟨((C p hp).tab (hT p hp)).isCodeTable, rfl, #[], m, rfl, by rw [Array.empty_append]; exact hm⟩)
      · exact .inl (same b o hb e)
    · by_cases hb : b ∈ cs.map (·.2)
      · obtain ⟨p, hp, rfl⟩ := tab hb
        obtain ⟨m, hm⟩ := more p hp
        exact ⟨_, hm⟩
      · exact ⟨o, same b o hb e⟩
/-- what is known of such a law's promise at the head's heap -/
def LawAtG (l : PySem.W.OpenLaw) (w : World) (K : PySem.W.Frag) (CX : CXT) (k n : Nat) (x : Str) (mg : Str → Option Value) (fa : Addr) (h : Heap) : Prop :=
  ∃ (fd : FuncData) (cs : List (Addr × Addr)) (sp : Sp), (∀ p ∈ cs, h.get? p.2 = some { cls := .none, data := .fields #[] } ∧ K.lookup p.2 = none ∧ PySem.W.CodeHd h p.1 p.2) ∧ (∀ (s : Shared) (u : Value), BindsTo s fd ⟨[u], []⟩ [(x, u)]) ∧
    (∀ (H : Hp) (a : Addr) (ns : List Int), ns.length ≤ n → (∀ p ∈ cs, H p.2 = some (.tbl #[])) → SqL K H a (ns.map V.int) → sp [.ref a] H (fun v _ => v = .bl true) fun _ _ _ => False) ∧
    ∀ base : Heap, K.In base → base.Ns mainGlobals mg → (∀ p ∈ cs, TabB base mg p.1 p.2) → FnG l.prog w K mg base CX k fa fd [x] sp
theorem walk_ofG {l : PySem.W.OpenLaw} {n k : Nat} {q : Program} {loose : List Str} {XP : (Str → Option Value) → Heap → Prop} {YP : World → Heap → Prop} {d : DefRec} {CX : World → CXT} {x : Str}
    (hn : l.most = some n) (hn2 : n ≤ sizeLine) (hdf : d.params.defaults = []) (hr : Room k callerA)
    (F : ∀ (w : World) (mg : Str → Option Value) (fa : Addr) (h : Heap), YP w h → h.Ns mainGlobals mg → mg d.name = some (.ref fa) → ∃ K : PySem.W.Frag, K.In h ∧ LawAtG l w K (CX w) k n x mg fa h)
    (hCX : ∀ (w : World) (H : Hp) (s : Shared) (e : Value) (s' : Shared), CX w [] H s (fun _ _ _ => False) e s' → False) :
    PySem.W.WalkO q loose XP YP l.row.toRowW d [] (fun f vs => PySem.call f vs) :=
  Att.attach_callB hn hdf fun w s₀ s mg mb fa o pm cd doc a vs ns G Y _ _ _ hm hobj hints hlen _ hg => by
    obtain ⟨K, KX, fd, cs, sp, hC, bd, hsp, hF⟩ := F w mg fa _ Y G.T.g hm
    exact law_callG KX G.T.g G.T.b G.T.builtins G.T.nolimit hg (fun p hp => (hC p hp).1) (fun p hp => (hC p hp).2.1) (fun p hp => (hC p hp).2.2) G.T.bmain hobj hints (Nat.le_trans hlen hn2) hr hF bd (fun H h1 h2 => hsp H a ns hlen h1 h2) fun H e s' => hCX w H s e s'
end PL

namespace K48
open PySem PySem.Spec PyProof.Rows L2 PL LamX
variable [Hand]
abbrev NA : List Str := ["script", "hand", "turn", "kinds", "kind", "one", "cards", "some", "other", "third", "at", "card"]
def ρ1 (sc : D) : Store := [some (v sc), some .hnd, none, none, none, none, none, none, none, none, none, none]
theorem rds_ints {K : PySem.W.Frag} {mg : Str → Option Value} {F : Hp} : ∀ ns : List Int, RDs K mg F (ns.map D.int) (ns.map V.int)
  | [] => .nil
  | n :: ns => .cons (.int n) (rds_ints ns)
theorem script_F {K : PySem.W.Frag} {H : Hp} {a : Addr} {xs : List V} (h : SqL K H a xs) : ∃ F : Hp, Ext F H ∧ (∀ x o, F x = some o → NoT o) ∧ SqL K F a xs := by
  rcases h with (h | ⟨o, h⟩) | h
  · refine ⟨fun x => if x = a then some (.lst xs) else none, fun x o e => ?_, fun x o e => ?_, .inl (.inl (if_pos rfl))⟩
    · by_cases hx : x = a
      · subst hx
        have e : (if x = x then some (HO.lst xs) else none) = some o := e
        rw [if_pos rfl] at e
        cases e
        exact h
      · have e : (if x = a then some (HO.lst xs) else none) = some o := e
        rw [if_neg hx] at e
        cases e
    · have e : (if x = a then some (HO.lst xs) else none) = some o := e
      split at e
      · cases e
        exact noT_lst _
      · cases e
  · refine ⟨fun x => if x = a then some (.frz o (.lst xs)) else none, fun x u e => ?_, fun x u e => ?_, .inl (.inr ⟨o, if_pos rfl⟩)⟩
    · by_cases hx : x = a
      · subst hx
        have e : (if x = x then some (HO.frz o (.lst xs)) else none) = some u := e
        rw [if_pos rfl] at e
        cases e
        exact h
      · have e : (if x = a then some (HO.frz o (.lst xs)) else none) = some u := e
        rw [if_neg hx] at e
        cases e
    · have e : (if x = a then some (HO.frz o (.lst xs)) else none) = some u := e
      split at e
      · cases e
        exact fun _ q => nomatch q
      · cases e
  · exact ⟨fun _ => none, (fun _ _ e => nomatch e), (fun _ _ e => nomatch e), .inr h⟩
def spLaw (K : PySem.W.Frag) : Sp := fun vs H Q _ => ∃ (a : Addr) (ns : List Int), vs = [.ref a] ∧ SqL K H a (ns.map V.int) ∧ ns.length ≤ 1000 ∧ Tabs Hand.T H ∧ ∀ H', Q (.bl true) H'
section
variable {P : Program} {w : World} {K : PySem.W.Frag} {mg : Str → Option Value} {base : Heap} {f : Addr} {fd : FuncData} {k : Nat}
theorem ok__law_all (HO' : HandOk K mg) (Z : Env K mg) (C__law_draw : Cal P w K mg base k "_law_draw" 2 S__law_draw) (C__law_drawn : Cal P w K mg base k "_law_drawn" 3 S__law_drawn) (C__law_fits : Cal P w K mg base k "_law_fits" 4 S__law_fits) (C__law_is : CalG P w K mg base k "_law_is" 2 S__law_is) (C__law_kind : Cal P w K mg base k "_law_kind" 2 (S__law_kind 3)) (C__law_near : Cal P w K mg base k "_law_near" 4 S__law_near) (C__law_pair_right : CalG P w K mg base k "_law_pair_right" 5 S__law_pair_right) (C__law_refused_right : Cal P w K mg base k "_law_refused_right" 4 S__law_refused_right) (C_covers : Cal P w K mg base k "covers" 3 S_covers) (C_serves : Cal P w K mg base k "serves" 4 S_serves) (C_serving : Cal P w K mg base k "serving" 4 S_serving) (C__law_hand : Cal P w K mg base k "_law_hand" 1 S__law_hand) (F : FnP K "_law_all" s__law_all f fd) : FnG P w K mg base (L2.CX P w) (k + 1) f fd ["script"] (spLaw K) := by
  obtain ⟨oc, od, dV, kV, doc, pm, an, cdv, ct, osl, rfl, lk, hcd, _, _⟩ := F.ex
  refine fnG_of sc__law_all hcd lk (fun vs H Q E h => ?_) fun A outer s H vs Q E hr h => ?_
  · obtain ⟨a, ns, rfl, _⟩ := h
    rfl
  obtain ⟨a, ns, rfl, hS, hz, hT, hQ⟩ := h
  obtain ⟨F0, fe, fn, fs⟩ := script_F hS
  have R0 := rel0 (K := K) (mg := mg) (hd := none) (F := F0) (H := H) (W := fun _ _ _ _ => False) (N := NA) (ws := [.val (.ro (ns.map D.int))]) (vs := [.ref a]) (n0 := s.heap.objs.size) (fs := frs outer) fe fn hT (fun _ q => nomatch q) (.cons (.ro fs (rds_ints ns)) .nil) (datas_of rfl)
  have lk0 : ∀ (hd : Option Addr) (F H' : Hp), Lk (cxOf (L2.CX P w) P w K mg base NA "_law_all" (defScope s__law_all) f cdv A outer s H E) (cfg0 hd F H' (fun _ _ _ _ => False) s.heap.objs.size (frs outer)) (fun _ _ => False) := fun hd F H' =>
    ⟨⟨LamX.takes0, passes_of rfl, fun _ => ⟨rfl, rfl⟩⟩, fun _ _ _ _ _ _ h => h.elim⟩
  refine bstB (pss_cons ps_best pss_best) ?_
  have h1 : WS (cxOf (L2.CX P w) P w K mg base NA "_law_all" (defScope s__law_all) f cdv A outer s H E) ((defBody s__law_all).headD (.Pass ⟨0, 0, 0, 0⟩)) (store0 NA [.val (.ro (ns.map D.int))]) (fun _ _ => False) { nx := fun ρ => ∃ (cs : List Int) (m : Int), (∀ c ∈ cs, 0 ≤ c) ∧ 0 ≤ m ∧ ρ = [some (.val (.ro (ns.map D.int))), some (.val (.lst [.lst (cs.map D.int), .int 0, .int 0, .int m, .int 0])), none, none, none, none, none, none, none, none, none, none], rt := fun _ => False } := by
    refine ws_asg 1 sc__law_all.nd rfl (.inr rfl) ?_
    refine we_call C__law_hand hr.room (Nat.le_refl _) rfl ?_
    refine wa_cons ?_
    refine we_slot 0 rfl (.inl rfl) rfl rfl ?_
    refine ⟨rfl, ?_⟩
    refine wa_nil ?_
    exact ⟨rfl, rfl, ns, rfl, hz, fun cs m hcs hm => ⟨_, rfl, cs, m, hcs, hm, rfl⟩⟩
  refine bS.imp (h1 _ F0 H _ ⟨rfl, rfl⟩ R0 (lk0 none F0 H)) (fun σ1 H1 ⟨F1, ρ, R1, cs, m, hcs, hm, eρ⟩ => ?_) (fun v H1 ⟨_, _, _, _, q⟩ => q.elim) (fun _ _ ⟨_, _, _, q⟩ => q.elim) (fun _ _ ⟨_, _, _, q⟩ => q.elim)
  subst eρ
  obtain ⟨_, v0, s0, r0⟩ := R1.slot 0 _ rfl
  obtain ⟨_, v1, s1, r1⟩ := R1.slot 1 _ rfl
  obtain ⟨p, xs, rfl, hp, rx⟩ := RD.lst_inv r1
  have hg : GoodH [.lst (cs.map D.int), .int 0, .int 0, .int m, .int 0] := ⟨cs, 0, 0, m, 0, rfl, hcs, by omega, by omega, hm, by omega⟩
  have rcons : ∃ q i r mm t, xs = [q, i, r, mm, t] ∧ RD K mg F1 (.lst (cs.map D.int)) q ∧ i = .int 0 ∧ r = .int 0 ∧ mm = .int m ∧ t = .int 0 := by
    cases rx with
    | cons y1 y2 =>
    cases y2 with
    | cons z1 z2 =>
    cases z2 with
    | cons u1 u2 =>
    cases u2 with
    | cons w1 w2 =>
    cases w2 with
    | cons t1 t2 =>
    cases t2
    exact ⟨_, _, _, _, _, rfl, y1, RD.int_inv z1, RD.int_inv u1, RD.int_inv w1, RD.int_inv t1⟩
  obtain ⟨q, _, _, _, _, rfl, rq, rfl, rfl, rfl, rfl⟩ := rcons
  obtain ⟨qa, ys, rfl, hq, ry⟩ := RD.lst_inv rq
  have intsN : ∀ (zs : List V) (l : List Int), zs = l.map V.int → ∀ (x : Addr) r, zs ≠ V.ref x :: r := fun zs l e x r e2 => by
    rw [e] at e2
    cases l with
    | nil => cases e2
    | cons _ _ => cases e2
  have eys : ys = cs.map V.int := by
    clear hq rq rx hp r1
    have gen : ∀ {l : List Int} {zs : List V}, RDs K mg F1 (l.map D.int) zs → zs = l.map V.int := by
      intro l
      induction l with
      | nil =>
        intro zs h
        cases h
        rfl
      | cons n l ih =>
        intro zs h
        cases h with
        | cons h1 h2 => rw [RD.int_inv h1, ih h2, List.map_cons]
    exact gen ry
  have hqp : qa ≠ p := fun e => by
    rw [e, hp] at hq
    have := HO.lst.inj (Option.some.inj hq)
    exact intsN ys cs eys _ _ this.symm
  have gen : ∀ {F : Hp} {l : List Int} {zs : List V}, RDs K mg F (l.map D.int) zs → zs = l.map V.int := by
    intro F l
    induction l with
    | nil =>
      intro zs h
      cases h
      rfl
    | cons n l ih =>
      intro zs h
      cases h with
      | cons h1 h2 => rw [RD.int_inv h1, ih h2, List.map_cons]
  have f2ne : ∀ x, x ≠ p → (fun x => if x = p then none else F1 x : Hp) x = F1 x := fun x hx => if_neg hx
  have f2p : (fun x => if x = p then none else F1 x : Hp) p = none := if_pos rfl
  generalize (fun x => if x = p then none else F1 x : Hp) = F2 at f2ne f2p
  have f2some : ∀ x o, F2 x = some o → F1 x = some o := fun x o hx => by
    have hne : x ≠ p := fun q => by
      rw [q, f2p] at hx
      cases hx
    rw [← f2ne x hne]
    exact hx
  have rc : RDs K mg F2 [.lst (cs.map D.int), .int 0, .int 0, .int m, .int 0] [.ref qa, .int 0, .int 0, .int m, .int 0] := by
    refine .cons (.lst (xs := ys) (by rw [f2ne qa hqp]; exact hq) ?_) (.cons (.int 0) (.cons (.int 0) (.cons (.int m) (.cons (.int 0) .nil))))
    rw [eys]
    exact rds_ints cs
  have r02 : RD K mg F2 (.ro (ns.map D.int)) v0 := by
    have r0 : RD K mg F1 (.ro (ns.map D.int)) v0 := r0
    cases r0 with
    | ro h k =>
      have ex := gen k
      subst ex
      refine .ro ?_ (rds_ints ns)
      rcases h with (h | ⟨o, h⟩) | h
      · refine .inl (.inl ?_)
        rw [f2ne _ fun q => ?_]
        · exact h
        · rw [q, hp] at h
          exact intsN _ ns rfl _ _ (HO.lst.inj (Option.some.inj h)).symm
      · refine .inl (.inr ⟨o, ?_⟩)
        rw [f2ne _ fun q => ?_]
        · exact h
        · rw [q, hp] at h
          exact nomatch h
      · exact .inr h
  have R2 : Rel K mg (cfg0 (some p) F2 H1 (fun _ _ _ _ => False) s.heap.objs.size (frs outer)) F2 H1 σ1 (ρ1 (.ro (ns.map D.int))) := by
    refine ⟨⟨fun x o h => R1.aft.sub x o (f2some x o h), .refl F2, fun x o h => (hide_some.mp h).2.1, fun x o h hn => hide_some.mpr ⟨hn, noTb_some.mp h⟩, fun x o h => .inl h, fun x o h => ⟨o, noTb_some.mp h⟩, fun _ => rfl, fun p' hp' => ?_, ⟨fun x o h => R1.aft.tb.nF x o (f2some x o h), fun x o h => (hide_some.mp h).2.2, R1.aft.tb.tabs⟩⟩, fun i w hi => ?_, fun i j ds es v _ hi _ _ _ => ?_⟩
    · cases hp'
      refine ⟨f2p, ?_, _, R1.aft.sub p _ hp, HO'.cl F2 _ _ rc hg⟩
      cases e : hide H1 (some p) p with
      | none => exact e
      | some o' => exact absurd rfl (hide_some.mp e).1
    · match i, hi with
      | 0, hi =>
        cases hi
        exact ⟨(fun _ q => nomatch q), v0, s0, r02⟩
      | 1, hi =>
        cases hi
        exact ⟨(fun _ q => nomatch q), _, s1, p, rfl, rfl⟩
      | 2, hi => cases hi
      | 3, hi => cases hi
      | 4, hi => cases hi
      | 5, hi => cases hi
      | 6, hi => cases hi
      | 7, hi => cases hi
      | 8, hi => cases hi
      | 9, hi => cases hi
      | 10, hi => cases hi
      | 11, hi => cases hi
      | n + 12, hi => cases hi
    · match i, hi with
      | 0, hi => cases hi
      | 1, hi => cases hi
      | 2, hi => cases hi
      | 3, hi => cases hi
      | 4, hi => cases hi
      | 5, hi => cases hi
      | 6, hi => cases hi
      | 7, hi => cases hi
      | 8, hi => cases hi
      | 9, hi => cases hi
      | 10, hi => cases hi
      | 11, hi => cases hi
      | n + 12, hi => cases hi
  have h2 := w__law_all Z C__law_draw C__law_drawn C__law_fits C__law_is C__law_kind C__law_near C__law_pair_right C__law_refused_right C_covers C_serves C_serving (cdv := cdv) (A := A) (outer := outer) (s := s) (H := H) (E := E) hr _ _ _ (sp__law_all (sc := .ro (ns.map D.int)) (Q := fun d => d = .bl true) (Y := fun _ _ => False) rfl) _ F2 H1 σ1 ⟨rfl, rfl⟩ R2 (lk0 (some p) F2 H1)
  refine bB.impI h2 (fun _ _ _ ⟨_, _, _, q⟩ => nomatch q) (fun v H2 ⟨F', d, _, rd, hd⟩ => ?_) (fun _ _ ⟨_, _, _, q⟩ => q.elim) (fun _ _ _ ⟨_, _, _, q⟩ => q.elim)
  subst hd
  rw [RD.bl_inv rd]
  exact hQ H2
theorem sc_law : FnScope ["script"] ["script"] (defScope s_law) := ⟨rfl, rfl, rfl, by decide +kernel, rfl, by decide +kernel, by decide +kernel⟩
theorem ok_law {fa : Addr} {fda : FuncData} (FA : FnG P w K mg base (L2.CX P w) k fa fda ["script"] (spLaw K)) (Fa : FnP K "_law_all" s__law_all fa fda) (ma : mg "_law_all" = some (.ref fa)) (F : FnP K "law" s_law f fd) : FnG P w K mg base (L2.CX P w) (k + 1) f fd ["script"] (spLaw K) := by
  have ba : Binds K fda ["script"] [] := FunD.bindsN (ps := ["script"]) Fa fun _ _ _ _ _ _ us hl => match us, hl with | [_], _ => rfl
  obtain ⟨oc, od, dV, kV, doc, pm, an, cdv, ct, osl, rfl, lk, hcd, _, _⟩ := F.ex
  refine fnG_of sc_law hcd lk (fun vs H Q E h => ?_) fun A outer s H vs Q E hr h => ?_
  · obtain ⟨a, ns, rfl, _⟩ := h
    rfl
  obtain ⟨a, ns, rfl, hS, hz, hT, hQ⟩ := h
  refine bstB (pss_one (ps_try_thru0 (pss_one (ps_ret (pe_callG (X := (cxOf (L2.CX P w) P w K mg base ["script"] "law" (defScope s_law) f cdv A outer s H E).nox) (x := "_law_all") (E := fun _ _ _ _ => False) FA hr rfl ma Fa.kp ba (fun σ pins H s e s' I c => ?_) (pa_cons (pe_var (i := 0) rfl (.inl rfl)) pa_nil)))))) ?_
  · obtain ⟨_, _, _, _, _, _, _, _, _, _, _, _, z⟩ := c
    exact z
  · exact ⟨_, rfl, a, ns, rfl, hS, hz, hT, hQ⟩
end
end K48

namespace K48
open PySem PySem.Spec PySem.W PySem.Calls PyProof.Rows L2
def dd (x : Str) (st : Stmt) : He.DefD := ⟨(x, none), x, x, defArgs st, defBody st, defScope st, [], []⟩
def fn : List He.DefD := [dd "is_integer" s_is_integer, dd "divisor" s_divisor, dd "is_fraction" s_is_fraction, dd "is_amount" s_is_amount, dd "made" s_made, dd "raw_plus" s_raw_plus, dd "raw_less" s_raw_less, dd "raw_at_most" s_raw_at_most, dd "raw_lesser" s_raw_lesser, dd "raw_greater" s_raw_greater, dd "has_kind_form" s_has_kind_form, dd "is_kind" s_is_kind, dd "check_kind" s_check_kind, dd "raw_is_rich" s_raw_is_rich, dd "check_rich" s_check_rich, dd "raw_amounts" s_raw_amounts, dd "raw_many" s_raw_many, dd "raw_rich" s_raw_rich, dd "amounts_of" s_amounts_of, dd "raw_covers" s_raw_covers, dd "check_both" s_check_both, dd "covers" s_covers, dd "joined" s_joined, dd "met" s_met, dd "are_kinds" s_are_kinds, dd "is_card_by" s_is_card_by, dd "are_cards_by" s_are_cards_by, dd "check_kinds" s_check_kinds, dd "check_pair" s_check_pair, dd "are_riches_so" s_are_riches_so, dd "raw_shortfall" s_raw_shortfall, dd "raw_serves" s_raw_serves, dd "serves" s_serves, dd "shortfall" s_shortfall, dd "both_serve" s_both_serve, dd "raw_serving" s_raw_serving, dd "serving" s_serving, dd "_law_hand" s__law_hand, dd "_law_draw" s__law_draw, dd "_law_any" s__law_any, dd "_law_is" s__law_is, dd "_law_amount" s__law_amount, dd "_law_halves" s__law_halves, dd "_law_word" s__law_word, dd "_law_kind" s__law_kind, dd "_law_rich" s__law_rich, dd "_law_flat" s__law_flat, dd "_law_drawn" s__law_drawn, dd "_law_near" s__law_near, dd "_law_fits" s__law_fits, dd "_law_lack" s__law_lack, dd "_law_raised" s__law_raised, dd "_law_both" s__law_both, dd "_law_pair_right" s__law_pair_right, dd "_law_refused_right" s__law_refused_right, dd "_law_all" s__law_all, dd "law" s_law]
def fa : List He.Fa := [.glo "is_integer",
  .glo "divisor",
  .glo "is_fraction",
  .glo "is_amount",
  .glo "made",
  .glo "raw_plus",
  .glo "raw_less",
  .glo "raw_at_most",
  .glo "raw_lesser",
  .glo "raw_greater",
  .glo "has_kind_form",
  .glo "is_kind",
  .glo "check_kind",
  .glo "raw_is_rich",
  .glo "check_rich",
  .glo "raw_amounts",
  .glo "raw_many",
  .glo "raw_rich",
  .glo "amounts_of",
  .glo "raw_covers",
  .glo "check_both",
  .glo "covers",
  .glo "joined",
  .glo "met",
  .glo "are_kinds",
  .glo "is_card_by",
  .glo "are_cards_by",
  .glo "check_kinds",
  .glo "check_pair",
  .glo "are_riches_so",
  .glo "raw_shortfall",
  .glo "raw_serves",
  .glo "serves",
  .glo "shortfall",
  .glo "both_serve",
  .glo "raw_serving",
  .glo "serving",
  .glo "_law_hand",
  .glo "_law_draw",
  .glo "_law_any",
  .glo "_law_is",
  .glo "_law_amount",
  .glo "_law_halves",
  .glo "_law_word",
  .glo "_law_kind",
  .glo "_law_rich",
  .glo "_law_flat",
  .glo "_law_drawn",
  .glo "_law_near",
  .glo "_law_fits",
  .glo "_law_lack",
  .glo "_law_raised",
  .glo "_law_both",
  .glo "_law_pair_right",
  .glo "_law_refused_right",
  .glo "_law_all",
  .glo "law",
  .glo "PaidError",
  .glo "NoKind",
  .glo "NoRich",
  .glo "NoCard",
  .glo "TooMany",
  .glo "NoCards",
  .free "abs",
  .free "all",
  .free "bool",
  .free "enumerate",
  .free "int",
  .free "isinstance",
  .free "len",
  .free "list",
  .free "max",
  .free "min",
  .free "range",
  .free "repr",
  .free "str",
  .free "sum",
  .free "tuple",
  .free "zip",
  .glo "NOUGHT",
  .str "INT" "int",
  .str "FLAG" "flag",
  .str "PAIR" "pair",
  .str "EITHER" "either",
  .str "LIST" "list",
  .str "TREE" "tree",
  .int "MOST_PARTS" 8,
  .glo "SIZES",
  .int "MOST_CARDS" 4,
  .int "MOST_PARAMS" 8,
  .exc "PaidError",
  .exc "NoKind",
  .exc "NoRich",
  .exc "NoCard",
  .exc "NoCards",
  .exm "NoKind" "TooMany" false,
  .exm "NoKind" "PaidError" true,
  .exm "NoCard" "TooMany" false,
  .exm "NoCard" "PaidError" true,
  .exm "NoCards" "TooMany" false,
  .exm "NoCards" "PaidError" true]
def tf : List He.Defn := [("_law_refused_right", none)]
def nm0 : List PySem.Str := ["PaidError", "NoKind", "NoRich", "NoCard", "TooMany", "NoCards", "NOUGHT", "is_integer", "divisor", "is_fraction", "is_amount", "made", "raw_plus", "raw_less", "raw_at_most", "raw_lesser", "raw_greater", "INT", "FLAG", "PAIR", "EITHER", "LIST", "TREE", "MOST_PARTS", "SIZES", "has_kind_form", "is_kind", "check_kind", "raw_is_rich", "check_rich"]
def nm1 : List PySem.Str := ["raw_amounts", "raw_many", "raw_rich", "amounts_of", "raw_covers", "check_both", "covers", "joined", "met", "MOST_CARDS", "MOST_PARAMS", "are_kinds", "is_card_by", "are_cards_by", "check_kinds", "check_pair", "are_riches_so", "raw_shortfall", "raw_serves", "serves", "shortfall", "both_serve", "raw_serving", "serving", "_law_hand", "_law_draw", "_law_any", "_law_is", "_law_amount", "_law_halves"]
def nm2 : List PySem.Str := ["_law_word", "_law_kind", "_law_rich", "_law_flat", "_law_drawn", "_law_near", "_law_fits", "_law_lack", "_law_raised", "_law_both", "_law_pair_right", "_law_refused_right", "_law_all"]
def names : List PySem.Str := nm0 ++ nm1 ++ nm2
def lawI : Nat := 80
abbrev R : PySem.W.OpenRow := PySem.W.OpenLaw.row PySem.Challenge.rw_forepaid_k48_whole_cards_compared
def ts : List He.Tab := [(fun K => He.ga K "SIZES", ["pair", "either", "list", "tree"])]
def excB (K : PySem.W.Frag) (D : Addr) : Bool := He.eqO (PySem.W.findIn K (.ref D) "__getattribute__") (some (some (.builtin "BaseException.__getattribute__"))) && (He.eqO (PySem.W.findIn K (.ref D) "__getattr__") (some none) && (decide (PySem.W.subIn K (.ref D) (.type "BaseException") = some true) && (PySem.W.hasDictIn K D && (He.eqO (PySem.W.findIn K (.ref D) "__class__") (some (some (.builtin "object.__class__"))) &&
  (He.eqO (PySem.W.specialIn K (.builtin "object.__class__") "__get__") (some (some (.builtin "getset_descriptor.__get__"))) && (decide (PySem.W.takesIn K (.builtin "object.__class__") = some true) && decide (PySem.W.mroIn K D (.type "object") = some true)))))))
def kitB (K : PySem.W.Frag) (x y : PySem.Str) (b : Bool) : Bool := decide (PySem.W.kitOne K (.ref (He.ga K x)) (.ref (He.ga K y)) = some b)
def noneB (K : PySem.W.Frag) (x y : PySem.Str) : Bool := match PySem.W.nsIn K (He.ga K x) y with
  | some none => true
  | _ => false
def ex (K : PySem.W.Frag) : Bool := He.tupB K "NOUGHT" [.int 0, .int 1] && (He.valsB K (He.ga K "SIZES") [("pair", .int 2), ("either", .int 2), ("list", .int 1), ("tree", .int 1)] && (noneB K "SIZES" "int" && (kitB K "NoKind" "NoKind" true && (kitB K "NoKind" "NoCard" false && (kitB K "NoKind" "NoCards" false && (kitB K "NoCard" "NoKind" false && (kitB K "NoCard" "NoCard" true && (kitB K "NoCard" "NoCards" false && (kitB K "NoCards" "NoKind" false && (kitB K "NoCards" "NoCard" false && (kitB K "NoCards" "NoCards" true && (excB K (He.ga K "NoKind") && (excB K (He.ga K "NoCard") && (excB K (He.ga K "NoCards")))))))))))))))
abbrev hk : PySem.W.Hook := He.hookX 6 fa fn ts tf ex
def ob (s : PySem.W.SharedT) : He.AlX := He.obsX 6 fa fn ts tf ex (HandSHeadRun.getT s)
theorem ob_eq (s : PySem.W.SharedT) : ob s = hk.obs s.abs := He.obsX_eq (HandSHeadRun.getT_eq s)
theorem runF (w : World) : HandSHeadRun.RunEq R (PySem.W.view R.prog [lawI]) hk ob 4000 names (w.withFollow "special-get-raises" false) := by
  intro os
  kernel_rfl
end K48

namespace K48
open PySem PySem.Spec PySem.W PySem.Calls PyProof.Rows L2
theorem runT (w : World) : HandSHeadRun.RunEq R (PySem.W.view R.prog [lawI]) hk ob 4000 names (w.withFollow "special-get-raises" true) := by
  intro os
  kernel_rfl
theorem run (w : World) : HandSHeadRun.RunEq R (PySem.W.view R.prog [lawI]) hk ob 4000 names w :=
  byRow2 "special-get-raises" (P := fun w => HandSHeadRun.RunEq R (PySem.W.view R.prog [lawI]) hk ob 4000 names w) runF runT w
end K48

namespace K48
open PySem PySem.Spec PyProof.Rows L2 PL LamX
section
variable {K : PySem.W.Frag} {h : Heap} {mg : Str → Option Value}
theorem exc1_of (X : K.In h) (G : h.Ns mainGlobals mg) (c : He.SaysD fa fn K) {x : Str} (h1 : He.Fa.exc x ∈ fa) (h2 : He.Fa.glo x ∈ fa) : Exc1 K mg x := by
  obtain ⟨a1, a2, a3, a4⟩ := He.exc_ok (c.facts h1)
  exact ⟨He.ga K x, He.glo_ok X G (c.facts h2), a1, a2, a3, a4⟩
theorem env_of (X : K.In h) (G : h.Ns mainGlobals mg) (c : He.SaysD fa fn K) (hN : He.tupB K "NOUGHT" [.int 0, .int 1] = true) : Env K mg where
  isinstance := He.free_ok X G (c.facts (by simp [fa]))
  int := He.free_ok X G (c.facts (by simp [fa]))
  bool := He.free_ok X G (c.facts (by simp [fa]))
  abs := He.free_ok X G (c.facts (by simp [fa]))
  len := He.free_ok X G (c.facts (by simp [fa]))
  tuple := He.free_ok X G (c.facts (by simp [fa]))
  list := He.free_ok X G (c.facts (by simp [fa]))
  str := He.free_ok X G (c.facts (by simp [fa]))
  range := He.free_ok X G (c.facts (by simp [fa]))
  zip := He.free_ok X G (c.facts (by simp [fa]))
  all := He.free_ok X G (c.facts (by simp [fa]))
  sum := He.free_ok X G (c.facts (by simp [fa]))
  enumerate := He.free_ok X G (c.facts (by simp [fa]))
  max := He.free_ok X G (c.facts (by simp [fa]))
  min := He.free_ok X G (c.facts (by simp [fa]))
  repr := He.free_ok X G (c.facts (by simp [fa]))
  X_NoKind := exc1_of X G c (by simp [fa]) (by simp [fa])
  X_NoRich := exc1_of X G c (by simp [fa]) (by simp [fa])
  X_NoCard := exc1_of X G c (by simp [fa]) (by simp [fa])
  X_NoCards := exc1_of X G c (by simp [fa]) (by simp [fa])
  INT := He.str_ok X G (c.facts (by simp [fa]))
  FLAG := He.str_ok X G (c.facts (by simp [fa]))
  PAIR := He.str_ok X G (c.facts (by simp [fa]))
  EITHER := He.str_ok X G (c.facts (by simp [fa]))
  LIST := He.str_ok X G (c.facts (by simp [fa]))
  TREE := He.str_ok X G (c.facts (by simp [fa]))
  MOST_PARTS := He.int_ok X G (c.facts (by simp [fa]))
  MOST_CARDS := He.int_ok X G (c.facts (by simp [fa]))
  MOST_PARAMS := He.int_ok X G (c.facts (by simp [fa]))
  NOUGHT := ⟨He.ga K "NOUGHT", [.int 0, .int 1], He.glo_ok X G (c.facts (by simp [fa])), fun F => He.tupB_ok hN F, fun F => .cons (.int 0) (.cons (.int 1) .nil)⟩
theorem noneB_ok {x y : Str} (h : noneB K x y = true) : PySem.W.nsIn K (He.ga K x) y = some none := by
  unfold noneB at h
  split at h
  · assumption
  · cases h
theorem siz_of {w : World} (X : K.In h) (G : h.Ns mainGlobals mg) (c : He.SaysT fa fn ts w K) (hV : He.valsB K (He.ga K "SIZES") [("pair", .int 2), ("either", .int 2), ("list", .int 1), ("tree", .int 1)] = true) (hN : noneB K "SIZES" "int" = true) : Siz w K mg := by
  obtain ⟨es, n, kd⟩ := c.tab 0 (t := (fun K => He.ga K "SIZES", ["pair", "either", "list", "tree"])) rfl
  have g := He.glo_ok X G (c.d.facts (f := .glo "SIZES") (by simp [fa]))
  refine ⟨⟨_, es, n, g, kd⟩, fun p hp => ?_⟩
  unfold SIZES_says at hp
  simp only [List.mem_cons, List.not_mem_nil, or_false] at hp
  rcases hp with rfl | rfl | rfl | rfl | rfl
  · obtain ⟨u, h1, h2⟩ := He.valsB_ok hV (q := ("pair", .int 2)) (by simp)
    exact ⟨He.ga K "SIZES", g, u, h1, fun F => ⟨.int 2, h2, .int 2⟩⟩
  · obtain ⟨u, h1, h2⟩ := He.valsB_ok hV (q := ("either", .int 2)) (by simp)
    exact ⟨He.ga K "SIZES", g, u, h1, fun F => ⟨.int 2, h2, .int 2⟩⟩
  · obtain ⟨u, h1, h2⟩ := He.valsB_ok hV (q := ("list", .int 1)) (by simp)
    exact ⟨He.ga K "SIZES", g, u, h1, fun F => ⟨.int 1, h2, .int 1⟩⟩
  · obtain ⟨u, h1, h2⟩ := He.valsB_ok hV (q := ("tree", .int 1)) (by simp)
    exact ⟨He.ga K "SIZES", g, u, h1, fun F => ⟨.int 1, h2, .int 1⟩⟩
  · exact ⟨He.ga K "SIZES", g, noneB_ok hN⟩
theorem excC_of {D : Addr} (hb : excB K D = true) : ExcC K D := by
  unfold excB at hb
  obtain ⟨h1, hb⟩ := He.ba hb
  obtain ⟨h2, hb⟩ := He.ba hb
  obtain ⟨h3, hb⟩ := He.ba hb
  obtain ⟨h4, hb⟩ := He.ba hb
  obtain ⟨h5, hb⟩ := He.ba hb
  obtain ⟨h6, hb⟩ := He.ba hb
  obtain ⟨h7, h8⟩ := He.ba hb
  exact ⟨He.eqO_ok h1, He.eqO_ok h2, of_decide_eq_true h3, h4, He.eqO_ok h5, He.eqO_ok h6, of_decide_eq_true h7, of_decide_eq_true h8⟩
theorem wordF_of (X : K.In h) (G : h.Ns mainGlobals mg) (c : He.SaysD fa fn K) (k00 : kitB K "NoKind" "NoKind" true = true) (k01 : kitB K "NoKind" "NoCard" false = true) (k02 : kitB K "NoKind" "NoCards" false = true) (k10 : kitB K "NoCard" "NoKind" false = true) (k11 : kitB K "NoCard" "NoCard" true = true) (k12 : kitB K "NoCard" "NoCards" false = true) (k20 : kitB K "NoCards" "NoKind" false = true) (k21 : kitB K "NoCards" "NoCard" false = true) (k22 : kitB K "NoCards" "NoCards" true = true) (e0 : excB K (He.ga K "NoKind") = true) (e1 : excB K (He.ga K "NoCard") = true) (e2 : excB K (He.ga K "NoCards") = true) : WordF K mg :=
  ⟨He.free_ok X G (c.facts (by simp [fa])), He.ga K "TooMany", He.ga K "PaidError", He.glo_ok X G (c.facts (f := .glo "TooMany") (by simp [fa])), He.glo_ok X G (c.facts (f := .glo "PaidError") (by simp [fa])), ⟨⟨He.ga K "NoKind", He.ga K "NoKind", He.ga K "NoCard", He.ga K "NoCards", He.glo_ok X G (c.facts (f := .glo "NoKind") (by simp [fa])), He.glo_ok X G (c.facts (f := .glo "NoKind") (by simp [fa])), He.glo_ok X G (c.facts (f := .glo "NoCard") (by simp [fa])), He.glo_ok X G (c.facts (f := .glo "NoCards") (by simp [fa])), He.exm_ok (c.facts (f := .exm "NoKind" "TooMany" false) (by simp [fa])), He.exm_ok (c.facts (f := .exm "NoKind" "PaidError" true) (by simp [fa])), excC_of e0, of_decide_eq_true k00, of_decide_eq_true k01, of_decide_eq_true k02⟩⟩, ⟨⟨He.ga K "NoCard", He.ga K "NoKind", He.ga K "NoCard", He.ga K "NoCards", He.glo_ok X G (c.facts (f := .glo "NoCard") (by simp [fa])), He.glo_ok X G (c.facts (f := .glo "NoKind") (by simp [fa])), He.glo_ok X G (c.facts (f := .glo "NoCard") (by simp [fa])), He.glo_ok X G (c.facts (f := .glo "NoCards") (by simp [fa])), He.exm_ok (c.facts (f := .exm "NoCard" "TooMany" false) (by simp [fa])), He.exm_ok (c.facts (f := .exm "NoCard" "PaidError" true) (by simp [fa])), excC_of e1, of_decide_eq_true k10, of_decide_eq_true k11, of_decide_eq_true k12⟩⟩, ⟨⟨He.ga K "NoCards", He.ga K "NoKind", He.ga K "NoCard", He.ga K "NoCards", He.glo_ok X G (c.facts (f := .glo "NoCards") (by simp [fa])), He.glo_ok X G (c.facts (f := .glo "NoKind") (by simp [fa])), He.glo_ok X G (c.facts (f := .glo "NoCard") (by simp [fa])), He.glo_ok X G (c.facts (f := .glo "NoCards") (by simp [fa])), He.exm_ok (c.facts (f := .exm "NoCards" "TooMany" false) (by simp [fa])), He.exm_ok (c.facts (f := .exm "NoCards" "PaidError" true) (by simp [fa])), excC_of e2, of_decide_eq_true k20, of_decide_eq_true k21, of_decide_eq_true k22⟩⟩⟩
end
end K48

namespace K48
open PySem PySem.Spec PyProof.Rows L2 PL LamX
theorem chain [Hand] {P : Program} {w : World} {K : PySem.W.Frag} {h : Heap} {mg : Str → Option Value} (X : K.In h) (G : h.Ns mainGlobals mg) (c : He.SaysD fa fn K) (Z : Env K mg) (SZ : Siz w K mg) (W : WordF K mg) (HO : HandOk K mg) :
    ∃ fd : FuncData, (∀ (s : Shared) (v : Value), BindsTo s fd ⟨[v], []⟩ [("script", v)]) ∧ ∀ base : Heap, LamF K mg base "_law_refused_right" → FnG P w K mg base (L2.CX P w) 15 (He.ga K "law") fd ["script"] (spLaw K) := by
  obtain ⟨fd__law_all, F__law_all⟩ := c.def_ 55 (d := dd "_law_all" s__law_all) rfl
  have F__law_all : FnP K "_law_all" s__law_all (He.ga K "_law_all") fd__law_all := F__law_all
  have M__law_all := He.glo_ok X G (c.facts (f := .glo "_law_all") (by simp [fa]))
  obtain ⟨fd__law_amount, F__law_amount⟩ := c.def_ 41 (d := dd "_law_amount" s__law_amount) rfl
  have F__law_amount : FnP K "_law_amount" s__law_amount (He.ga K "_law_amount") fd__law_amount := F__law_amount
  have M__law_amount := He.glo_ok X G (c.facts (f := .glo "_law_amount") (by simp [fa]))
  obtain ⟨fd__law_any, F__law_any⟩ := c.def_ 39 (d := dd "_law_any" s__law_any) rfl
  have F__law_any : FnP K "_law_any" s__law_any (He.ga K "_law_any") fd__law_any := F__law_any
  have M__law_any := He.glo_ok X G (c.facts (f := .glo "_law_any") (by simp [fa]))
  obtain ⟨fd__law_both, F__law_both⟩ := c.def_ 52 (d := dd "_law_both" s__law_both) rfl
  have F__law_both : FnP K "_law_both" s__law_both (He.ga K "_law_both") fd__law_both := F__law_both
  have M__law_both := He.glo_ok X G (c.facts (f := .glo "_law_both") (by simp [fa]))
  obtain ⟨fd__law_draw, F__law_draw⟩ := c.def_ 38 (d := dd "_law_draw" s__law_draw) rfl
  have F__law_draw : FnP K "_law_draw" s__law_draw (He.ga K "_law_draw") fd__law_draw := F__law_draw
  have M__law_draw := He.glo_ok X G (c.facts (f := .glo "_law_draw") (by simp [fa]))
  obtain ⟨fd__law_drawn, F__law_drawn⟩ := c.def_ 47 (d := dd "_law_drawn" s__law_drawn) rfl
  have F__law_drawn : FnP K "_law_drawn" s__law_drawn (He.ga K "_law_drawn") fd__law_drawn := F__law_drawn
  have M__law_drawn := He.glo_ok X G (c.facts (f := .glo "_law_drawn") (by simp [fa]))
  obtain ⟨fd__law_fits, F__law_fits⟩ := c.def_ 49 (d := dd "_law_fits" s__law_fits) rfl
  have F__law_fits : FnP K "_law_fits" s__law_fits (He.ga K "_law_fits") fd__law_fits := F__law_fits
  have M__law_fits := He.glo_ok X G (c.facts (f := .glo "_law_fits") (by simp [fa]))
  obtain ⟨fd__law_flat, F__law_flat⟩ := c.def_ 46 (d := dd "_law_flat" s__law_flat) rfl
  have F__law_flat : FnP K "_law_flat" s__law_flat (He.ga K "_law_flat") fd__law_flat := F__law_flat
  have M__law_flat := He.glo_ok X G (c.facts (f := .glo "_law_flat") (by simp [fa]))
  obtain ⟨fd__law_halves, F__law_halves⟩ := c.def_ 42 (d := dd "_law_halves" s__law_halves) rfl
  have F__law_halves : FnP K "_law_halves" s__law_halves (He.ga K "_law_halves") fd__law_halves := F__law_halves
  have M__law_halves := He.glo_ok X G (c.facts (f := .glo "_law_halves") (by simp [fa]))
  obtain ⟨fd__law_hand, F__law_hand⟩ := c.def_ 37 (d := dd "_law_hand" s__law_hand) rfl
  have F__law_hand : FnP K "_law_hand" s__law_hand (He.ga K "_law_hand") fd__law_hand := F__law_hand
  have M__law_hand := He.glo_ok X G (c.facts (f := .glo "_law_hand") (by simp [fa]))
  obtain ⟨fd__law_is, F__law_is⟩ := c.def_ 40 (d := dd "_law_is" s__law_is) rfl
  have F__law_is : FnP K "_law_is" s__law_is (He.ga K "_law_is") fd__law_is := F__law_is
  have M__law_is := He.glo_ok X G (c.facts (f := .glo "_law_is") (by simp [fa]))
  obtain ⟨fd__law_kind, F__law_kind⟩ := c.def_ 44 (d := dd "_law_kind" s__law_kind) rfl
  have F__law_kind : FnP K "_law_kind" s__law_kind (He.ga K "_law_kind") fd__law_kind := F__law_kind
  have M__law_kind := He.glo_ok X G (c.facts (f := .glo "_law_kind") (by simp [fa]))
  obtain ⟨fd__law_lack, F__law_lack⟩ := c.def_ 50 (d := dd "_law_lack" s__law_lack) rfl
  have F__law_lack : FnP K "_law_lack" s__law_lack (He.ga K "_law_lack") fd__law_lack := F__law_lack
  have M__law_lack := He.glo_ok X G (c.facts (f := .glo "_law_lack") (by simp [fa]))
  obtain ⟨fd__law_near, F__law_near⟩ := c.def_ 48 (d := dd "_law_near" s__law_near) rfl
  have F__law_near : FnP K "_law_near" s__law_near (He.ga K "_law_near") fd__law_near := F__law_near
  have M__law_near := He.glo_ok X G (c.facts (f := .glo "_law_near") (by simp [fa]))
  obtain ⟨fd__law_pair_right, F__law_pair_right⟩ := c.def_ 53 (d := dd "_law_pair_right" s__law_pair_right) rfl
  have F__law_pair_right : FnP K "_law_pair_right" s__law_pair_right (He.ga K "_law_pair_right") fd__law_pair_right := F__law_pair_right
  have M__law_pair_right := He.glo_ok X G (c.facts (f := .glo "_law_pair_right") (by simp [fa]))
  obtain ⟨fd__law_raised, F__law_raised⟩ := c.def_ 51 (d := dd "_law_raised" s__law_raised) rfl
  have F__law_raised : FnP K "_law_raised" s__law_raised (He.ga K "_law_raised") fd__law_raised := F__law_raised
  have M__law_raised := He.glo_ok X G (c.facts (f := .glo "_law_raised") (by simp [fa]))
  obtain ⟨fd__law_refused_right, F__law_refused_right⟩ := c.def_ 54 (d := dd "_law_refused_right" s__law_refused_right) rfl
  have F__law_refused_right : FnP K "_law_refused_right" s__law_refused_right (He.ga K "_law_refused_right") fd__law_refused_right := F__law_refused_right
  have M__law_refused_right := He.glo_ok X G (c.facts (f := .glo "_law_refused_right") (by simp [fa]))
  obtain ⟨fd__law_rich, F__law_rich⟩ := c.def_ 45 (d := dd "_law_rich" s__law_rich) rfl
  have F__law_rich : FnP K "_law_rich" s__law_rich (He.ga K "_law_rich") fd__law_rich := F__law_rich
  have M__law_rich := He.glo_ok X G (c.facts (f := .glo "_law_rich") (by simp [fa]))
  obtain ⟨fd__law_word, F__law_word⟩ := c.def_ 43 (d := dd "_law_word" s__law_word) rfl
  have F__law_word : FnP K "_law_word" s__law_word (He.ga K "_law_word") fd__law_word := F__law_word
  have M__law_word := He.glo_ok X G (c.facts (f := .glo "_law_word") (by simp [fa]))
  obtain ⟨fd_amounts_of, F_amounts_of⟩ := c.def_ 18 (d := dd "amounts_of" s_amounts_of) rfl
  have F_amounts_of : FnP K "amounts_of" s_amounts_of (He.ga K "amounts_of") fd_amounts_of := F_amounts_of
  have M_amounts_of := He.glo_ok X G (c.facts (f := .glo "amounts_of") (by simp [fa]))
  obtain ⟨fd_are_cards_by, F_are_cards_by⟩ := c.def_ 26 (d := dd "are_cards_by" s_are_cards_by) rfl
  have F_are_cards_by : FnP K "are_cards_by" s_are_cards_by (He.ga K "are_cards_by") fd_are_cards_by := F_are_cards_by
  have M_are_cards_by := He.glo_ok X G (c.facts (f := .glo "are_cards_by") (by simp [fa]))
  obtain ⟨fd_are_kinds, F_are_kinds⟩ := c.def_ 24 (d := dd "are_kinds" s_are_kinds) rfl
  have F_are_kinds : FnP K "are_kinds" s_are_kinds (He.ga K "are_kinds") fd_are_kinds := F_are_kinds
  have M_are_kinds := He.glo_ok X G (c.facts (f := .glo "are_kinds") (by simp [fa]))
  obtain ⟨fd_are_riches_so, F_are_riches_so⟩ := c.def_ 29 (d := dd "are_riches_so" s_are_riches_so) rfl
  have F_are_riches_so : FnP K "are_riches_so" s_are_riches_so (He.ga K "are_riches_so") fd_are_riches_so := F_are_riches_so
  have M_are_riches_so := He.glo_ok X G (c.facts (f := .glo "are_riches_so") (by simp [fa]))
  obtain ⟨fd_both_serve, F_both_serve⟩ := c.def_ 34 (d := dd "both_serve" s_both_serve) rfl
  have F_both_serve : FnP K "both_serve" s_both_serve (He.ga K "both_serve") fd_both_serve := F_both_serve
  have M_both_serve := He.glo_ok X G (c.facts (f := .glo "both_serve") (by simp [fa]))
  obtain ⟨fd_check_both, F_check_both⟩ := c.def_ 20 (d := dd "check_both" s_check_both) rfl
  have F_check_both : FnP K "check_both" s_check_both (He.ga K "check_both") fd_check_both := F_check_both
  have M_check_both := He.glo_ok X G (c.facts (f := .glo "check_both") (by simp [fa]))
  obtain ⟨fd_check_kind, F_check_kind⟩ := c.def_ 12 (d := dd "check_kind" s_check_kind) rfl
  have F_check_kind : FnP K "check_kind" s_check_kind (He.ga K "check_kind") fd_check_kind := F_check_kind
  have M_check_kind := He.glo_ok X G (c.facts (f := .glo "check_kind") (by simp [fa]))
  obtain ⟨fd_check_kinds, F_check_kinds⟩ := c.def_ 27 (d := dd "check_kinds" s_check_kinds) rfl
  have F_check_kinds : FnP K "check_kinds" s_check_kinds (He.ga K "check_kinds") fd_check_kinds := F_check_kinds
  have M_check_kinds := He.glo_ok X G (c.facts (f := .glo "check_kinds") (by simp [fa]))
  obtain ⟨fd_check_pair, F_check_pair⟩ := c.def_ 28 (d := dd "check_pair" s_check_pair) rfl
  have F_check_pair : FnP K "check_pair" s_check_pair (He.ga K "check_pair") fd_check_pair := F_check_pair
  have M_check_pair := He.glo_ok X G (c.facts (f := .glo "check_pair") (by simp [fa]))
  obtain ⟨fd_check_rich, F_check_rich⟩ := c.def_ 14 (d := dd "check_rich" s_check_rich) rfl
  have F_check_rich : FnP K "check_rich" s_check_rich (He.ga K "check_rich") fd_check_rich := F_check_rich
  have M_check_rich := He.glo_ok X G (c.facts (f := .glo "check_rich") (by simp [fa]))
  obtain ⟨fd_covers, F_covers⟩ := c.def_ 21 (d := dd "covers" s_covers) rfl
  have F_covers : FnP K "covers" s_covers (He.ga K "covers") fd_covers := F_covers
  have M_covers := He.glo_ok X G (c.facts (f := .glo "covers") (by simp [fa]))
  obtain ⟨fd_divisor, F_divisor⟩ := c.def_ 1 (d := dd "divisor" s_divisor) rfl
  have F_divisor : FnP K "divisor" s_divisor (He.ga K "divisor") fd_divisor := F_divisor
  have M_divisor := He.glo_ok X G (c.facts (f := .glo "divisor") (by simp [fa]))
  obtain ⟨fd_has_kind_form, F_has_kind_form⟩ := c.def_ 10 (d := dd "has_kind_form" s_has_kind_form) rfl
  have F_has_kind_form : FnP K "has_kind_form" s_has_kind_form (He.ga K "has_kind_form") fd_has_kind_form := F_has_kind_form
  have M_has_kind_form := He.glo_ok X G (c.facts (f := .glo "has_kind_form") (by simp [fa]))
  obtain ⟨fd_is_amount, F_is_amount⟩ := c.def_ 3 (d := dd "is_amount" s_is_amount) rfl
  have F_is_amount : FnP K "is_amount" s_is_amount (He.ga K "is_amount") fd_is_amount := F_is_amount
  have M_is_amount := He.glo_ok X G (c.facts (f := .glo "is_amount") (by simp [fa]))
  obtain ⟨fd_is_card_by, F_is_card_by⟩ := c.def_ 25 (d := dd "is_card_by" s_is_card_by) rfl
  have F_is_card_by : FnP K "is_card_by" s_is_card_by (He.ga K "is_card_by") fd_is_card_by := F_is_card_by
  have M_is_card_by := He.glo_ok X G (c.facts (f := .glo "is_card_by") (by simp [fa]))
  obtain ⟨fd_is_fraction, F_is_fraction⟩ := c.def_ 2 (d := dd "is_fraction" s_is_fraction) rfl
  have F_is_fraction : FnP K "is_fraction" s_is_fraction (He.ga K "is_fraction") fd_is_fraction := F_is_fraction
  have M_is_fraction := He.glo_ok X G (c.facts (f := .glo "is_fraction") (by simp [fa]))
  obtain ⟨fd_is_integer, F_is_integer⟩ := c.def_ 0 (d := dd "is_integer" s_is_integer) rfl
  have F_is_integer : FnP K "is_integer" s_is_integer (He.ga K "is_integer") fd_is_integer := F_is_integer
  have M_is_integer := He.glo_ok X G (c.facts (f := .glo "is_integer") (by simp [fa]))
  obtain ⟨fd_is_kind, F_is_kind⟩ := c.def_ 11 (d := dd "is_kind" s_is_kind) rfl
  have F_is_kind : FnP K "is_kind" s_is_kind (He.ga K "is_kind") fd_is_kind := F_is_kind
  have M_is_kind := He.glo_ok X G (c.facts (f := .glo "is_kind") (by simp [fa]))
  obtain ⟨fd_joined, F_joined⟩ := c.def_ 22 (d := dd "joined" s_joined) rfl
  have F_joined : FnP K "joined" s_joined (He.ga K "joined") fd_joined := F_joined
  have M_joined := He.glo_ok X G (c.facts (f := .glo "joined") (by simp [fa]))
  obtain ⟨fd_law, F_law⟩ := c.def_ 56 (d := dd "law" s_law) rfl
  have F_law : FnP K "law" s_law (He.ga K "law") fd_law := F_law
  have M_law := He.glo_ok X G (c.facts (f := .glo "law") (by simp [fa]))
  obtain ⟨fd_made, F_made⟩ := c.def_ 4 (d := dd "made" s_made) rfl
  have F_made : FnP K "made" s_made (He.ga K "made") fd_made := F_made
  have M_made := He.glo_ok X G (c.facts (f := .glo "made") (by simp [fa]))
  obtain ⟨fd_met, F_met⟩ := c.def_ 23 (d := dd "met" s_met) rfl
  have F_met : FnP K "met" s_met (He.ga K "met") fd_met := F_met
  have M_met := He.glo_ok X G (c.facts (f := .glo "met") (by simp [fa]))
  obtain ⟨fd_raw_amounts, F_raw_amounts⟩ := c.def_ 15 (d := dd "raw_amounts" s_raw_amounts) rfl
  have F_raw_amounts : FnP K "raw_amounts" s_raw_amounts (He.ga K "raw_amounts") fd_raw_amounts := F_raw_amounts
  have M_raw_amounts := He.glo_ok X G (c.facts (f := .glo "raw_amounts") (by simp [fa]))
  obtain ⟨fd_raw_at_most, F_raw_at_most⟩ := c.def_ 7 (d := dd "raw_at_most" s_raw_at_most) rfl
  have F_raw_at_most : FnP K "raw_at_most" s_raw_at_most (He.ga K "raw_at_most") fd_raw_at_most := F_raw_at_most
  have M_raw_at_most := He.glo_ok X G (c.facts (f := .glo "raw_at_most") (by simp [fa]))
  obtain ⟨fd_raw_covers, F_raw_covers⟩ := c.def_ 19 (d := dd "raw_covers" s_raw_covers) rfl
  have F_raw_covers : FnP K "raw_covers" s_raw_covers (He.ga K "raw_covers") fd_raw_covers := F_raw_covers
  have M_raw_covers := He.glo_ok X G (c.facts (f := .glo "raw_covers") (by simp [fa]))
  obtain ⟨fd_raw_greater, F_raw_greater⟩ := c.def_ 9 (d := dd "raw_greater" s_raw_greater) rfl
  have F_raw_greater : FnP K "raw_greater" s_raw_greater (He.ga K "raw_greater") fd_raw_greater := F_raw_greater
  have M_raw_greater := He.glo_ok X G (c.facts (f := .glo "raw_greater") (by simp [fa]))
  obtain ⟨fd_raw_is_rich, F_raw_is_rich⟩ := c.def_ 13 (d := dd "raw_is_rich" s_raw_is_rich) rfl
  have F_raw_is_rich : FnP K "raw_is_rich" s_raw_is_rich (He.ga K "raw_is_rich") fd_raw_is_rich := F_raw_is_rich
  have M_raw_is_rich := He.glo_ok X G (c.facts (f := .glo "raw_is_rich") (by simp [fa]))
  obtain ⟨fd_raw_less, F_raw_less⟩ := c.def_ 6 (d := dd "raw_less" s_raw_less) rfl
  have F_raw_less : FnP K "raw_less" s_raw_less (He.ga K "raw_less") fd_raw_less := F_raw_less
  have M_raw_less := He.glo_ok X G (c.facts (f := .glo "raw_less") (by simp [fa]))
  obtain ⟨fd_raw_lesser, F_raw_lesser⟩ := c.def_ 8 (d := dd "raw_lesser" s_raw_lesser) rfl
  have F_raw_lesser : FnP K "raw_lesser" s_raw_lesser (He.ga K "raw_lesser") fd_raw_lesser := F_raw_lesser
  have M_raw_lesser := He.glo_ok X G (c.facts (f := .glo "raw_lesser") (by simp [fa]))
  obtain ⟨fd_raw_many, F_raw_many⟩ := c.def_ 16 (d := dd "raw_many" s_raw_many) rfl
  have F_raw_many : FnP K "raw_many" s_raw_many (He.ga K "raw_many") fd_raw_many := F_raw_many
  have M_raw_many := He.glo_ok X G (c.facts (f := .glo "raw_many") (by simp [fa]))
  obtain ⟨fd_raw_plus, F_raw_plus⟩ := c.def_ 5 (d := dd "raw_plus" s_raw_plus) rfl
  have F_raw_plus : FnP K "raw_plus" s_raw_plus (He.ga K "raw_plus") fd_raw_plus := F_raw_plus
  have M_raw_plus := He.glo_ok X G (c.facts (f := .glo "raw_plus") (by simp [fa]))
  obtain ⟨fd_raw_rich, F_raw_rich⟩ := c.def_ 17 (d := dd "raw_rich" s_raw_rich) rfl
  have F_raw_rich : FnP K "raw_rich" s_raw_rich (He.ga K "raw_rich") fd_raw_rich := F_raw_rich
  have M_raw_rich := He.glo_ok X G (c.facts (f := .glo "raw_rich") (by simp [fa]))
  obtain ⟨fd_raw_serves, F_raw_serves⟩ := c.def_ 31 (d := dd "raw_serves" s_raw_serves) rfl
  have F_raw_serves : FnP K "raw_serves" s_raw_serves (He.ga K "raw_serves") fd_raw_serves := F_raw_serves
  have M_raw_serves := He.glo_ok X G (c.facts (f := .glo "raw_serves") (by simp [fa]))
  obtain ⟨fd_raw_serving, F_raw_serving⟩ := c.def_ 35 (d := dd "raw_serving" s_raw_serving) rfl
  have F_raw_serving : FnP K "raw_serving" s_raw_serving (He.ga K "raw_serving") fd_raw_serving := F_raw_serving
  have M_raw_serving := He.glo_ok X G (c.facts (f := .glo "raw_serving") (by simp [fa]))
  obtain ⟨fd_raw_shortfall, F_raw_shortfall⟩ := c.def_ 30 (d := dd "raw_shortfall" s_raw_shortfall) rfl
  have F_raw_shortfall : FnP K "raw_shortfall" s_raw_shortfall (He.ga K "raw_shortfall") fd_raw_shortfall := F_raw_shortfall
  have M_raw_shortfall := He.glo_ok X G (c.facts (f := .glo "raw_shortfall") (by simp [fa]))
  obtain ⟨fd_serves, F_serves⟩ := c.def_ 32 (d := dd "serves" s_serves) rfl
  have F_serves : FnP K "serves" s_serves (He.ga K "serves") fd_serves := F_serves
  have M_serves := He.glo_ok X G (c.facts (f := .glo "serves") (by simp [fa]))
  obtain ⟨fd_serving, F_serving⟩ := c.def_ 36 (d := dd "serving" s_serving) rfl
  have F_serving : FnP K "serving" s_serving (He.ga K "serving") fd_serving := F_serving
  have M_serving := He.glo_ok X G (c.facts (f := .glo "serving") (by simp [fa]))
  obtain ⟨fd_shortfall, F_shortfall⟩ := c.def_ 33 (d := dd "shortfall" s_shortfall) rfl
  have F_shortfall : FnP K "shortfall" s_shortfall (He.ga K "shortfall") fd_shortfall := F_shortfall
  have M_shortfall := He.glo_ok X G (c.facts (f := .glo "shortfall") (by simp [fa]))
  have b := FunD.bindsA (ps := ["script"]) F_law fun _ _ _ _ _ _ us hl => match us, hl with | [_], _ => rfl
  refine ⟨fd_law, fun s v => b s [v] rfl, fun base LF => ?_⟩
  have C__law_draw : Cal P w K mg base 1 "_law_draw" 2 S__law_draw := cal_of (st := s__law_draw) F__law_draw M__law_draw (FunD.bindsN (ps := ["hand", "many"]) F__law_draw fun _ _ _ _ _ _ us hl => match us, hl with | [_, _], _ => rfl) (ok__law_draw (k := 0) Z HO  F__law_draw)
  have C__law_amount : Cal P w K mg base 1 "_law_amount" 1 S__law_amount := cal_of (st := s__law_amount) F__law_amount M__law_amount (FunD.bindsN (ps := ["two"]) F__law_amount fun _ _ _ _ _ _ us hl => match us, hl with | [_], _ => rfl) (ok__law_amount (k := 0) Z  F__law_amount)
  have C__law_rich_0 : Cal P w K mg base 0 "_law_rich" 2 (S__law_rich 0) := K48.Cal.imp (cal_none M__law_rich F__law_rich.kp (FunD.bindsN (ps := ["hand", "kind"]) F__law_rich fun _ _ _ _ _ _ us hl => match us, hl with | [_, _], _ => rfl)) fun ws P Y ⟨k, _, h, _⟩ => absurd h (Nat.not_lt_zero _)
  have C__law_rich_1 : Cal P w K mg base 2 "_law_rich" 2 (S__law_rich 1) := cal_of (st := s__law_rich) F__law_rich M__law_rich (FunD.bindsN (ps := ["hand", "kind"]) F__law_rich fun _ _ _ _ _ _ us hl => match us, hl with | [_, _], _ => rfl) (ok__law_rich (k := 1) (n := 0) (by decide) Z (C__law_amount.mono (by decide)) (C__law_draw.mono (by decide)) (C__law_rich_0.mono (by decide)) F__law_rich)
  have C__law_rich_2 : Cal P w K mg base 3 "_law_rich" 2 (S__law_rich 2) := cal_of (st := s__law_rich) F__law_rich M__law_rich (FunD.bindsN (ps := ["hand", "kind"]) F__law_rich fun _ _ _ _ _ _ us hl => match us, hl with | [_, _], _ => rfl) (ok__law_rich (k := 2) (n := 1) (by decide) Z (C__law_amount.mono (by decide)) (C__law_draw.mono (by decide)) (C__law_rich_1.mono (by decide)) F__law_rich)
  have C__law_rich_3 : Cal P w K mg base 4 "_law_rich" 2 (S__law_rich 3) := cal_of (st := s__law_rich) F__law_rich M__law_rich (FunD.bindsN (ps := ["hand", "kind"]) F__law_rich fun _ _ _ _ _ _ us hl => match us, hl with | [_, _], _ => rfl) (ok__law_rich (k := 3) (n := 2) (by decide) Z (C__law_amount.mono (by decide)) (C__law_draw.mono (by decide)) (C__law_rich_2.mono (by decide)) F__law_rich)
  have C__law_drawn : Cal P w K mg base 5 "_law_drawn" 3 S__law_drawn := cal_of (st := s__law_drawn) F__law_drawn M__law_drawn (FunD.bindsN (ps := ["hand", "kinds", "kind"]) F__law_drawn fun _ _ _ _ _ _ us hl => match us, hl with | [_, _, _], _ => rfl) (ok__law_drawn (k := 4) Z (C__law_amount.mono (by decide)) (C__law_draw.mono (by decide)) (C__law_rich_3.mono (by decide)) F__law_drawn)
  have C__law_flat_0 : Cal P w K mg base 0 "_law_flat" 2 (S__law_flat 0) := K48.Cal.imp (cal_none M__law_flat F__law_flat.kp (FunD.bindsN (ps := ["kind", "rich"]) F__law_flat fun _ _ _ _ _ _ us hl => match us, hl with | [_, _], _ => rfl)) fun ws P Y ⟨k, r, _, h, _⟩ => absurd h (Nat.not_lt_zero _)
  have C__law_halves : Cal P w K mg base 1 "_law_halves" 1 S__law_halves := cal_of (st := s__law_halves) F__law_halves M__law_halves (FunD.bindsN (ps := ["amount"]) F__law_halves fun _ _ _ _ _ _ us hl => match us, hl with | [_], _ => rfl) (ok__law_halves (k := 0) Z  F__law_halves)
  have C__law_flat_1 : Cal P w K mg base 2 "_law_flat" 2 (S__law_flat 1) := cal_of (st := s__law_flat) F__law_flat M__law_flat (FunD.bindsN (ps := ["kind", "rich"]) F__law_flat fun _ _ _ _ _ _ us hl => match us, hl with | [_, _], _ => rfl) (ok__law_flat (k := 1) (n := 0) (by decide) Z (C__law_flat_0.mono (by decide)) (C__law_halves.mono (by decide)) F__law_flat)
  have C__law_flat_2 : Cal P w K mg base 3 "_law_flat" 2 (S__law_flat 2) := cal_of (st := s__law_flat) F__law_flat M__law_flat (FunD.bindsN (ps := ["kind", "rich"]) F__law_flat fun _ _ _ _ _ _ us hl => match us, hl with | [_, _], _ => rfl) (ok__law_flat (k := 2) (n := 1) (by decide) Z (C__law_flat_1.mono (by decide)) (C__law_halves.mono (by decide)) F__law_flat)
  have C__law_flat_3 : Cal P w K mg base 4 "_law_flat" 2 (S__law_flat 3) := cal_of (st := s__law_flat) F__law_flat M__law_flat (FunD.bindsN (ps := ["kind", "rich"]) F__law_flat fun _ _ _ _ _ _ us hl => match us, hl with | [_, _], _ => rfl) (ok__law_flat (k := 3) (n := 2) (by decide) Z (C__law_flat_2.mono (by decide)) (C__law_halves.mono (by decide)) F__law_flat)
  have C__law_fits : Cal P w K mg base 5 "_law_fits" 4 S__law_fits := cal_of (st := s__law_fits) F__law_fits M__law_fits (FunD.bindsN (ps := ["kinds", "kind", "one", "other"]) F__law_fits fun _ _ _ _ _ _ us hl => match us, hl with | [_, _, _, _], _ => rfl) (ok__law_fits (k := 4) Z (C__law_flat_3.mono (by decide)) F__law_fits)
  have C__law_is : CalG P w K mg base 1 "_law_is" 2 S__law_is := ⟨_, _, _, ok__law_is (k := 0) Z  F__law_is, M__law_is, F__law_is.kp, FunD.bindsN (ps := ["one", "other"]) F__law_is fun _ _ _ _ _ _ us hl => match us, hl with | [_, _], _ => rfl⟩
  have C__law_any : Cal P w K mg base 2 "_law_any" 2 S__law_any := cal_of (st := s__law_any) F__law_any M__law_any (FunD.bindsN (ps := ["hand", "some"]) F__law_any fun _ _ _ _ _ _ us hl => match us, hl with | [_, _], _ => rfl) (ok__law_any (k := 1) Z (C__law_draw.mono (by decide)) F__law_any)
  have C__law_kind_0 : Cal P w K mg base 0 "_law_kind" 2 (S__law_kind 0) := K48.Cal.imp (cal_none M__law_kind F__law_kind.kp (FunD.bindsN (ps := ["hand", "height"]) F__law_kind fun _ _ _ _ _ _ us hl => match us, hl with | [_, _], _ => rfl)) fun ws P Y ⟨k, _, h, _⟩ => absurd h (Nat.not_lt_zero _)
  have C__law_kind_1 : Cal P w K mg base 3 "_law_kind" 2 (S__law_kind 1) := cal_of (st := s__law_kind) F__law_kind M__law_kind (FunD.bindsN (ps := ["hand", "height"]) F__law_kind fun _ _ _ _ _ _ us hl => match us, hl with | [_, _], _ => rfl) (ok__law_kind (k := 2) (n := 0) Z (C__law_any.mono (by decide)) (C__law_kind_0.mono (by decide)) F__law_kind)
  have C__law_kind_2 : Cal P w K mg base 4 "_law_kind" 2 (S__law_kind 2) := cal_of (st := s__law_kind) F__law_kind M__law_kind (FunD.bindsN (ps := ["hand", "height"]) F__law_kind fun _ _ _ _ _ _ us hl => match us, hl with | [_, _], _ => rfl) (ok__law_kind (k := 3) (n := 1) Z (C__law_any.mono (by decide)) (C__law_kind_1.mono (by decide)) F__law_kind)
  have C__law_kind_3 : Cal P w K mg base 5 "_law_kind" 2 (S__law_kind 3) := cal_of (st := s__law_kind) F__law_kind M__law_kind (FunD.bindsN (ps := ["hand", "height"]) F__law_kind fun _ _ _ _ _ _ us hl => match us, hl with | [_, _], _ => rfl) (ok__law_kind (k := 4) (n := 2) Z (C__law_any.mono (by decide)) (C__law_kind_2.mono (by decide)) F__law_kind)
  have C__law_near : Cal P w K mg base 6 "_law_near" 4 S__law_near := cal_of (st := s__law_near) F__law_near M__law_near (FunD.bindsN (ps := ["hand", "kinds", "kind", "card"]) F__law_near fun _ _ _ _ _ _ us hl => match us, hl with | [_, _, _, _], _ => rfl) (ok__law_near (k := 5) Z (C__law_any.mono (by decide)) (C__law_drawn.mono (by decide)) F__law_near)
  have C_has_kind_form : Cal P w K mg base 1 "has_kind_form" 1 S_has_kind_form := cal_of (st := s_has_kind_form) F_has_kind_form M_has_kind_form (FunD.bindsN (ps := ["thing"]) F_has_kind_form fun _ _ _ _ _ _ us hl => match us, hl with | [_], _ => rfl) (ok_has_kind_form (k := 0) Z SZ  F_has_kind_form)
  have C_is_kind : Cal P w K mg base 2 "is_kind" 1 S_is_kind := cal_of (st := s_is_kind) F_is_kind M_is_kind (FunD.bindsN (ps := ["thing"]) F_is_kind fun _ _ _ _ _ _ us hl => match us, hl with | [_], _ => rfl) (ok_is_kind (k := 1) Z (C_has_kind_form.mono (by decide)) F_is_kind)
  have C_check_kind : Cal P w K mg base 3 "check_kind" 1 S_check_kind := cal_of (st := s_check_kind) F_check_kind M_check_kind (FunD.bindsN (ps := ["kind"]) F_check_kind fun _ _ _ _ _ _ us hl => match us, hl with | [_], _ => rfl) (ok_check_kind (k := 2) Z (C_is_kind.mono (by decide)) F_check_kind)
  have C_divisor : Cal P w K mg base 1 "divisor" 2 S_divisor := cal_of (st := s_divisor) F_divisor M_divisor (FunD.bindsN (ps := ["x", "y"]) F_divisor fun _ _ _ _ _ _ us hl => match us, hl with | [_, _], _ => rfl) (ok_divisor (k := 0) Z  F_divisor)
  have C_is_integer : Cal P w K mg base 1 "is_integer" 1 S_is_integer := cal_of (st := s_is_integer) F_is_integer M_is_integer (FunD.bindsN (ps := ["thing"]) F_is_integer fun _ _ _ _ _ _ us hl => match us, hl with | [_], _ => rfl) (ok_is_integer (k := 0) Z  F_is_integer)
  have C_is_fraction : Cal P w K mg base 2 "is_fraction" 1 S_is_fraction := cal_of (st := s_is_fraction) F_is_fraction M_is_fraction (FunD.bindsN (ps := ["thing"]) F_is_fraction fun _ _ _ _ _ _ us hl => match us, hl with | [_], _ => rfl) (ok_is_fraction (k := 1) Z (C_divisor.mono (by decide)) (C_is_integer.mono (by decide)) F_is_fraction)
  have C_is_amount : Cal P w K mg base 3 "is_amount" 1 S_is_amount := cal_of (st := s_is_amount) F_is_amount M_is_amount (FunD.bindsN (ps := ["thing"]) F_is_amount fun _ _ _ _ _ _ us hl => match us, hl with | [_], _ => rfl) (ok_is_amount (k := 2) Z (C_is_fraction.mono (by decide)) F_is_amount)
  have C_is_amount_S_am2 : Cal P w K mg base 3 "is_amount" 1 S_am2 := K48.Cal.imp C_is_amount am2_imp
  have C_raw_is_rich_0 : Cal P w K mg base 0 "raw_is_rich" 2 (S_raw_is_rich 0) := K48.Cal.imp (cal_none M_raw_is_rich F_raw_is_rich.kp (FunD.bindsN (ps := ["kind", "thing"]) F_raw_is_rich fun _ _ _ _ _ _ us hl => match us, hl with | [_, _], _ => rfl)) fun ws P Y ⟨k, r, _, h, _⟩ => absurd h (Nat.not_lt_zero _)
  have C_raw_is_rich_1 : Cal P w K mg base 4 "raw_is_rich" 2 (S_raw_is_rich 1) := cal_of (st := s_raw_is_rich) F_raw_is_rich M_raw_is_rich (FunD.bindsN (ps := ["kind", "thing"]) F_raw_is_rich fun _ _ _ _ _ _ us hl => match us, hl with | [_, _], _ => rfl) (ok_raw_is_rich (k := 3) (n := 0) Z (C_is_amount_S_am2.mono (by decide)) (C_raw_is_rich_0.mono (by decide)) F_raw_is_rich)
  have C_raw_is_rich_2 : Cal P w K mg base 5 "raw_is_rich" 2 (S_raw_is_rich 2) := cal_of (st := s_raw_is_rich) F_raw_is_rich M_raw_is_rich (FunD.bindsN (ps := ["kind", "thing"]) F_raw_is_rich fun _ _ _ _ _ _ us hl => match us, hl with | [_, _], _ => rfl) (ok_raw_is_rich (k := 4) (n := 1) Z (C_is_amount_S_am2.mono (by decide)) (C_raw_is_rich_1.mono (by decide)) F_raw_is_rich)
  have C_raw_is_rich_3 : Cal P w K mg base 6 "raw_is_rich" 2 (S_raw_is_rich 3) := cal_of (st := s_raw_is_rich) F_raw_is_rich M_raw_is_rich (FunD.bindsN (ps := ["kind", "thing"]) F_raw_is_rich fun _ _ _ _ _ _ us hl => match us, hl with | [_, _], _ => rfl) (ok_raw_is_rich (k := 5) (n := 2) Z (C_is_amount_S_am2.mono (by decide)) (C_raw_is_rich_2.mono (by decide)) F_raw_is_rich)
  have C_check_rich : Cal P w K mg base 7 "check_rich" 2 S_check_rich := cal_of (st := s_check_rich) F_check_rich M_check_rich (FunD.bindsN (ps := ["kind", "thing"]) F_check_rich fun _ _ _ _ _ _ us hl => match us, hl with | [_, _], _ => rfl) (ok_check_rich (k := 6) Z (C_raw_is_rich_3.mono (by decide)) F_check_rich)
  have C_check_both : Cal P w K mg base 8 "check_both" 3 S_check_both := cal_of (st := s_check_both) F_check_both M_check_both (FunD.bindsN (ps := ["kind", "one", "other"]) F_check_both fun _ _ _ _ _ _ us hl => match us, hl with | [_, _, _], _ => rfl) (ok_check_both (k := 7) Z (C_check_kind.mono (by decide)) (C_check_rich.mono (by decide)) F_check_both)
  have C_raw_amounts_0 : Cal P w K mg base 0 "raw_amounts" 2 (S_raw_amounts 0) := K48.Cal.imp (cal_none M_raw_amounts F_raw_amounts.kp (FunD.bindsN (ps := ["kind", "rich"]) F_raw_amounts fun _ _ _ _ _ _ us hl => match us, hl with | [_, _], _ => rfl)) fun ws P Y ⟨k, r, _, h, _⟩ => absurd h (Nat.not_lt_zero _)
  have C_raw_amounts_1 : Cal P w K mg base 1 "raw_amounts" 2 (S_raw_amounts 1) := cal_of (st := s_raw_amounts) F_raw_amounts M_raw_amounts (FunD.bindsN (ps := ["kind", "rich"]) F_raw_amounts fun _ _ _ _ _ _ us hl => match us, hl with | [_, _], _ => rfl) (ok_raw_amounts (k := 0) (n := 0) (by decide) Z (C_raw_amounts_0.mono (by decide)) F_raw_amounts)
  have C_raw_amounts_2 : Cal P w K mg base 2 "raw_amounts" 2 (S_raw_amounts 2) := cal_of (st := s_raw_amounts) F_raw_amounts M_raw_amounts (FunD.bindsN (ps := ["kind", "rich"]) F_raw_amounts fun _ _ _ _ _ _ us hl => match us, hl with | [_, _], _ => rfl) (ok_raw_amounts (k := 1) (n := 1) (by decide) Z (C_raw_amounts_1.mono (by decide)) F_raw_amounts)
  have C_raw_amounts_3 : Cal P w K mg base 3 "raw_amounts" 2 (S_raw_amounts 3) := cal_of (st := s_raw_amounts) F_raw_amounts M_raw_amounts (FunD.bindsN (ps := ["kind", "rich"]) F_raw_amounts fun _ _ _ _ _ _ us hl => match us, hl with | [_, _], _ => rfl) (ok_raw_amounts (k := 2) (n := 2) (by decide) Z (C_raw_amounts_2.mono (by decide)) F_raw_amounts)
  have C_raw_at_most : Cal P w K mg base 1 "raw_at_most" 2 S_raw_at_most := cal_of (st := s_raw_at_most) F_raw_at_most M_raw_at_most (FunD.bindsN (ps := ["x", "y"]) F_raw_at_most fun _ _ _ _ _ _ us hl => match us, hl with | [_, _], _ => rfl) (ok_raw_at_most (k := 0) Z  F_raw_at_most)
  have C_raw_at_most_S_most2 : Cal P w K mg base 1 "raw_at_most" 2 S_most2 := K48.Cal.imp C_raw_at_most most2_imp
  have C_raw_greater : Cal P w K mg base 2 "raw_greater" 2 S_raw_greater := cal_of (st := s_raw_greater) F_raw_greater M_raw_greater (FunD.bindsN (ps := ["x", "y"]) F_raw_greater fun _ _ _ _ _ _ us hl => match us, hl with | [_, _], _ => rfl) (ok_raw_greater (k := 1) Z (C_raw_at_most_S_most2.mono (by decide)) F_raw_greater)
  have C_raw_many_0 : Cal P w K mg base 0 "raw_many" 1 (S_raw_many 0) := K48.Cal.imp (cal_none M_raw_many F_raw_many.kp (FunD.bindsN (ps := ["kind"]) F_raw_many fun _ _ _ _ _ _ us hl => match us, hl with | [_], _ => rfl)) fun ws P Y ⟨k, _, h, _⟩ => absurd h (Nat.not_lt_zero _)
  have C_raw_many_1 : Cal P w K mg base 1 "raw_many" 1 (S_raw_many 1) := cal_of (st := s_raw_many) F_raw_many M_raw_many (FunD.bindsN (ps := ["kind"]) F_raw_many fun _ _ _ _ _ _ us hl => match us, hl with | [_], _ => rfl) (ok_raw_many (k := 0) (n := 0) Z (C_raw_many_0.mono (by decide)) F_raw_many)
  have C_raw_many_2 : Cal P w K mg base 2 "raw_many" 1 (S_raw_many 2) := cal_of (st := s_raw_many) F_raw_many M_raw_many (FunD.bindsN (ps := ["kind"]) F_raw_many fun _ _ _ _ _ _ us hl => match us, hl with | [_], _ => rfl) (ok_raw_many (k := 1) (n := 1) Z (C_raw_many_1.mono (by decide)) F_raw_many)
  have C_raw_rich_0 : Cal P w K mg base 0 "raw_rich" 2 (S_raw_rich 0) := K48.Cal.imp (cal_none M_raw_rich F_raw_rich.kp (FunD.bindsN (ps := ["kind", "amounts"]) F_raw_rich fun _ _ _ _ _ _ us hl => match us, hl with | [_, _], _ => rfl)) fun ws P Y ⟨k, r, _, h, _⟩ => absurd h (Nat.not_lt_zero _)
  have C_raw_rich_1 : Cal P w K mg base 1 "raw_rich" 2 (S_raw_rich 1) := cal_of (st := s_raw_rich) F_raw_rich M_raw_rich (FunD.bindsN (ps := ["kind", "amounts"]) F_raw_rich fun _ _ _ _ _ _ us hl => match us, hl with | [_, _], _ => rfl) (ok_raw_rich (k := 0) (n := 0) (by decide) Z (C_raw_many_0.mono (by decide)) (C_raw_rich_0.mono (by decide)) F_raw_rich)
  have C_raw_rich_2 : Cal P w K mg base 2 "raw_rich" 2 (S_raw_rich 2) := cal_of (st := s_raw_rich) F_raw_rich M_raw_rich (FunD.bindsN (ps := ["kind", "amounts"]) F_raw_rich fun _ _ _ _ _ _ us hl => match us, hl with | [_, _], _ => rfl) (ok_raw_rich (k := 1) (n := 1) (by decide) Z (C_raw_many_1.mono (by decide)) (C_raw_rich_1.mono (by decide)) F_raw_rich)
  have C_raw_rich_3 : Cal P w K mg base 3 "raw_rich" 2 (S_raw_rich 3) := cal_of (st := s_raw_rich) F_raw_rich M_raw_rich (FunD.bindsN (ps := ["kind", "amounts"]) F_raw_rich fun _ _ _ _ _ _ us hl => match us, hl with | [_, _], _ => rfl) (ok_raw_rich (k := 2) (n := 2) (by decide) Z (C_raw_many_2.mono (by decide)) (C_raw_rich_2.mono (by decide)) F_raw_rich)
  have C_joined : Cal P w K mg base 9 "joined" 3 S_joined := cal_of (st := s_joined) F_joined M_joined (FunD.bindsN (ps := ["kind", "one", "other"]) F_joined fun _ _ _ _ _ _ us hl => match us, hl with | [_, _, _], _ => rfl) (ok_joined (k := 8) Z (C_check_both.mono (by decide)) (C_raw_amounts_3.mono (by decide)) (C_raw_greater.mono (by decide)) (C_raw_rich_3.mono (by decide)) F_joined)
  have C_raw_lesser : Cal P w K mg base 2 "raw_lesser" 2 S_raw_lesser := cal_of (st := s_raw_lesser) F_raw_lesser M_raw_lesser (FunD.bindsN (ps := ["x", "y"]) F_raw_lesser fun _ _ _ _ _ _ us hl => match us, hl with | [_, _], _ => rfl) (ok_raw_lesser (k := 1) Z (C_raw_at_most_S_most2.mono (by decide)) F_raw_lesser)
  have C_met : Cal P w K mg base 9 "met" 3 S_met := cal_of (st := s_met) F_met M_met (FunD.bindsN (ps := ["kind", "one", "other"]) F_met fun _ _ _ _ _ _ us hl => match us, hl with | [_, _, _], _ => rfl) (ok_met (k := 8) Z (C_check_both.mono (by decide)) (C_raw_amounts_3.mono (by decide)) (C_raw_lesser.mono (by decide)) (C_raw_rich_3.mono (by decide)) F_met)
  have C__law_both : Cal P w K mg base 10 "_law_both" 4 S__law_both := cal_of (st := s__law_both) F__law_both M__law_both (FunD.bindsN (ps := ["kinds", "kind", "one", "other"]) F__law_both fun _ _ _ _ _ _ us hl => match us, hl with | [_, _, _, _], _ => rfl) (ok__law_both (k := 9) Z (C__law_amount.mono (by decide)) (C__law_halves.mono (by decide)) (C_joined.mono (by decide)) (C_met.mono (by decide)) F__law_both)
  have C__law_lack : Cal P w K mg base 2 "_law_lack" 2 S__law_lack := cal_of (st := s__law_lack) F__law_lack M__law_lack (FunD.bindsN (ps := ["one", "other"]) F__law_lack fun _ _ _ _ _ _ us hl => match us, hl with | [_, _], _ => rfl) (ok__law_lack (k := 1) Z (C__law_halves.mono (by decide)) F__law_lack)
  have C__law_raised : Cal P w K mg base 2 "_law_raised" 2 S__law_raised := cal_of (st := s__law_raised) F__law_raised M__law_raised (FunD.bindsN (ps := ["card", "two"]) F__law_raised fun _ _ _ _ _ _ us hl => match us, hl with | [_, _], _ => rfl) (ok__law_raised (k := 1) Z (C__law_amount.mono (by decide)) (C__law_halves.mono (by decide)) F__law_raised)
  have C_amounts_of : Cal P w K mg base 8 "amounts_of" 2 S_amounts_of := cal_of (st := s_amounts_of) F_amounts_of M_amounts_of (FunD.bindsN (ps := ["kind", "rich"]) F_amounts_of fun _ _ _ _ _ _ us hl => match us, hl with | [_, _], _ => rfl) (ok_amounts_of (k := 7) Z (C_check_kind.mono (by decide)) (C_check_rich.mono (by decide)) (C_raw_amounts_3.mono (by decide)) F_amounts_of)
  have C_are_kinds : Cal P w K mg base 3 "are_kinds" 1 S_are_kinds := cal_of (st := s_are_kinds) F_are_kinds M_are_kinds (FunD.bindsN (ps := ["thing"]) F_are_kinds fun _ _ _ _ _ _ us hl => match us, hl with | [_], _ => rfl) (ok_are_kinds (k := 2) Z (C_is_kind.mono (by decide)) F_are_kinds)
  have C_check_kinds : Cal P w K mg base 4 "check_kinds" 2 S_check_kinds := cal_of (st := s_check_kinds) F_check_kinds M_check_kinds (FunD.bindsN (ps := ["kinds", "kind"]) F_check_kinds fun _ _ _ _ _ _ us hl => match us, hl with | [_, _], _ => rfl) (ok_check_kinds (k := 3) Z (C_are_kinds.mono (by decide)) (C_is_kind.mono (by decide)) F_check_kinds)
  have C_is_card_by : Cal P w K mg base 7 "is_card_by" 3 S_is_card_by := cal_of (st := s_is_card_by) F_is_card_by M_is_card_by (FunD.bindsN (ps := ["kinds", "kind", "thing"]) F_is_card_by fun _ _ _ _ _ _ us hl => match us, hl with | [_, _, _], _ => rfl) (ok_is_card_by (k := 6) Z (C_is_amount_S_am2.mono (by decide)) (C_raw_is_rich_3.mono (by decide)) F_is_card_by)
  have C_check_pair : Cal P w K mg base 8 "check_pair" 4 S_check_pair := cal_of (st := s_check_pair) F_check_pair M_check_pair (FunD.bindsN (ps := ["kinds", "kind", "one", "other"]) F_check_pair fun _ _ _ _ _ _ us hl => match us, hl with | [_, _, _, _], _ => rfl) (ok_check_pair (k := 7) Z (C_check_kinds.mono (by decide)) (C_is_card_by.mono (by decide)) F_check_pair)
  have C_made : Cal P w K mg base 2 "made" 2 S_made := cal_of (st := s_made) F_made M_made (FunD.bindsN (ps := ["top", "bottom"]) F_made fun _ _ _ _ _ _ us hl => match us, hl with | [_, _], _ => rfl) (ok_made (k := 1) Z (C_divisor.mono (by decide)) F_made)
  have C_raw_less : Cal P w K mg base 3 "raw_less" 2 S_raw_less := cal_of (st := s_raw_less) F_raw_less M_raw_less (FunD.bindsN (ps := ["x", "y"]) F_raw_less fun _ _ _ _ _ _ us hl => match us, hl with | [_, _], _ => rfl) (ok_raw_less (k := 2) Z (C_made.mono (by decide)) F_raw_less)
  have C_raw_less_S_less2 : Cal P w K mg base 3 "raw_less" 2 S_less2 := K48.Cal.imp C_raw_less less2_imp
  have C_raw_plus : Cal P w K mg base 3 "raw_plus" 2 S_raw_plus := cal_of (st := s_raw_plus) F_raw_plus M_raw_plus (FunD.bindsN (ps := ["x", "y"]) F_raw_plus fun _ _ _ _ _ _ us hl => match us, hl with | [_, _], _ => rfl) (ok_raw_plus (k := 2) Z (C_made.mono (by decide)) F_raw_plus)
  have C_raw_plus_S_plus2 : Cal P w K mg base 3 "raw_plus" 2 S_plus2 := K48.Cal.imp C_raw_plus plus2_imp
  have C_both_serve : Cal P w K mg base 10 "both_serve" 4 S_both_serve := cal_of (st := s_both_serve) F_both_serve M_both_serve (FunD.bindsN (ps := ["kinds", "kind", "one", "other"]) F_both_serve fun _ _ _ _ _ _ us hl => match us, hl with | [_, _, _, _], _ => rfl) (ok_both_serve (k := 9) Z (C_check_pair.mono (by decide)) (C_joined.mono (by decide)) (C_met.mono (by decide)) (C_raw_greater.mono (by decide)) (C_raw_less_S_less2.mono (by decide)) (C_raw_lesser.mono (by decide)) (C_raw_plus_S_plus2.mono (by decide)) F_both_serve)
  have C_raw_covers : Cal P w K mg base 4 "raw_covers" 3 S_raw_covers := cal_of (st := s_raw_covers) F_raw_covers M_raw_covers (FunD.bindsN (ps := ["kind", "one", "other"]) F_raw_covers fun _ _ _ _ _ _ us hl => match us, hl with | [_, _, _], _ => rfl) (ok_raw_covers (k := 3) Z (C_raw_amounts_3.mono (by decide)) (C_raw_at_most_S_most2.mono (by decide)) F_raw_covers)
  have C_are_riches_so : Cal P w K mg base 5 "are_riches_so" 4 S_are_riches_so := cal_of (st := s_are_riches_so) F_are_riches_so M_are_riches_so (FunD.bindsN (ps := ["kinds", "kind", "one", "other"]) F_are_riches_so fun _ _ _ _ _ _ us hl => match us, hl with | [_, _, _, _], _ => rfl) (ok_are_riches_so (k := 4) Z (C_raw_covers.mono (by decide)) F_are_riches_so)
  have C_raw_shortfall : Cal P w K mg base 6 "raw_shortfall" 4 S_raw_shortfall := cal_of (st := s_raw_shortfall) F_raw_shortfall M_raw_shortfall (FunD.bindsN (ps := ["kinds", "kind", "one", "other"]) F_raw_shortfall fun _ _ _ _ _ _ us hl => match us, hl with | [_, _, _, _], _ => rfl) (ok_raw_shortfall (k := 5) Z (C_are_riches_so.mono (by decide)) (C_raw_greater.mono (by decide)) (C_raw_less_S_less2.mono (by decide)) (C_raw_plus_S_plus2.mono (by decide)) F_raw_shortfall)
  have C_raw_serves : Cal P w K mg base 7 "raw_serves" 4 S_raw_serves := cal_of (st := s_raw_serves) F_raw_serves M_raw_serves (FunD.bindsN (ps := ["kinds", "kind", "one", "other"]) F_raw_serves fun _ _ _ _ _ _ us hl => match us, hl with | [_, _, _, _], _ => rfl) (ok_raw_serves (k := 6) Z (C_raw_shortfall.mono (by decide)) F_raw_serves)
  have C_serves : Cal P w K mg base 9 "serves" 4 S_serves := cal_of (st := s_serves) F_serves M_serves (FunD.bindsN (ps := ["kinds", "kind", "one", "other"]) F_serves fun _ _ _ _ _ _ us hl => match us, hl with | [_, _, _, _], _ => rfl) (ok_serves (k := 8) Z (C_check_pair.mono (by decide)) (C_raw_serves.mono (by decide)) F_serves)
  have C_shortfall : Cal P w K mg base 9 "shortfall" 4 S_shortfall := cal_of (st := s_shortfall) F_shortfall M_shortfall (FunD.bindsN (ps := ["kinds", "kind", "one", "other"]) F_shortfall fun _ _ _ _ _ _ us hl => match us, hl with | [_, _, _, _], _ => rfl) (ok_shortfall (k := 8) Z (C_check_pair.mono (by decide)) (C_raw_shortfall.mono (by decide)) F_shortfall)
  have C__law_pair_right : CalG P w K mg base 11 "_law_pair_right" 5 S__law_pair_right := ⟨_, _, _, ok__law_pair_right (k := 10) Z (C__law_amount.mono (by decide)) (C__law_both.mono (by decide)) (C__law_fits.mono (by decide)) (C__law_flat_3.mono (by decide)) (C__law_is.mono (by decide)) (C__law_lack.mono (by decide)) (C__law_raised.mono (by decide)) (C_amounts_of.mono (by decide)) (C_both_serve.mono (by decide)) (C_serves.mono (by decide)) (C_shortfall.mono (by decide)) F__law_pair_right, M__law_pair_right, F__law_pair_right.kp, FunD.bindsN (ps := ["kinds", "kind", "one", "other", "third"]) F__law_pair_right fun _ _ _ _ _ _ us hl => match us, hl with | [_, _, _, _, _], _ => rfl⟩
  have C_are_cards_by : Cal P w K mg base 8 "are_cards_by" 3 S_are_cards_by := cal_of (st := s_are_cards_by) F_are_cards_by M_are_cards_by (FunD.bindsN (ps := ["kinds", "kind", "thing"]) F_are_cards_by fun _ _ _ _ _ _ us hl => match us, hl with | [_, _, _], _ => rfl) (ok_are_cards_by (k := 7) Z (C_is_card_by.mono (by decide)) F_are_cards_by)
  have C_raw_serving : Cal P w K mg base 8 "raw_serving" 4 S_raw_serving := cal_of (st := s_raw_serving) F_raw_serving M_raw_serving (FunD.bindsN (ps := ["kinds", "kind", "cards", "card"]) F_raw_serving fun _ _ _ _ _ _ us hl => match us, hl with | [_, _, _, _], _ => rfl) (ok_raw_serving (k := 7) Z (C_raw_serves.mono (by decide)) F_raw_serving)
  have C_serving : Cal P w K mg base 9 "serving" 4 S_serving := cal_of (st := s_serving) F_serving M_serving (FunD.bindsN (ps := ["kinds", "kind", "cards", "card"]) F_serving fun _ _ _ _ _ _ us hl => match us, hl with | [_, _, _, _], _ => rfl) (ok_serving (k := 8) Z (C_are_cards_by.mono (by decide)) (C_check_kinds.mono (by decide)) (C_is_card_by.mono (by decide)) (C_raw_serving.mono (by decide)) F_serving)
  have C__law_refused_right : Cal P w K mg base 13 "_law_refused_right" 4 S__law_refused_right := cal_of (st := s__law_refused_right) F__law_refused_right M__law_refused_right (FunD.bindsN (ps := ["hand", "kinds", "kind", "card"]) F__law_refused_right fun _ _ _ _ _ _ us hl => match us, hl with | [_, _, _, _], _ => rfl) (ok__law_refused_right (k := 10) Z W LF F__law_word M__law_word (C__law_any.mono (by decide)) (C_both_serve.mono (by decide)) (C_serves.mono (by decide)) (C_serving.mono (by decide)) (C_shortfall.mono (by decide)) F__law_refused_right rfl)
  have C_covers : Cal P w K mg base 9 "covers" 3 S_covers := cal_of (st := s_covers) F_covers M_covers (FunD.bindsN (ps := ["kind", "one", "other"]) F_covers fun _ _ _ _ _ _ us hl => match us, hl with | [_, _, _], _ => rfl) (ok_covers (k := 8) Z (C_check_both.mono (by decide)) (C_raw_covers.mono (by decide)) F_covers)
  have C__law_hand : Cal P w K mg base 1 "_law_hand" 1 S__law_hand := cal_of (st := s__law_hand) F__law_hand M__law_hand (FunD.bindsN (ps := ["script"]) F__law_hand fun _ _ _ _ _ _ us hl => match us, hl with | [_], _ => rfl) (ok__law_hand (k := 0) Z  F__law_hand)
  exact ok_law (k := 14) (ok__law_all (k := 13) HO Z (C__law_draw.mono (by decide)) (C__law_drawn.mono (by decide)) (C__law_fits.mono (by decide)) (C__law_is.mono (by decide)) (C__law_kind_3.mono (by decide)) (C__law_near.mono (by decide)) (C__law_pair_right.mono (by decide)) (C__law_refused_right.mono (by decide)) (C_covers.mono (by decide)) (C_serves.mono (by decide)) (C_serving.mono (by decide)) (C__law_hand.mono (by decide)) F__law_all) F__law_all M__law_all F_law
end K48

namespace K48
open PySem PySem.Spec PyProof.Rows L2 PL LamX
def handI (K : PySem.W.Frag) (mg : Str → Option Value) (T : List (Addr × Str)) : Hand where
  HI := fun F o => ∃ ds xs, o = .lst xs ∧ RDs K mg F ds xs ∧ GoodH ds
  mono := fun F F' o e ⟨ds, xs, h, r, g⟩ => ⟨ds, xs, h, r.ext e, g⟩
  nt := fun F o ⟨ds, xs, h, _, _⟩ ps q => by
    rw [h] at q
    cases q
  T := T
theorem handOk (K : PySem.W.Frag) (mg : Str → Option Value) (T : List (Addr × Str)) : @HandOk (handI K mg T) K mg :=
  @HandOk.mk (handI K mg T) K mg (fun F o h => h) (fun F ds xs r g => ⟨ds, xs, rfl, r, g⟩)
def TT (K : PySem.W.Frag) : List (Addr × Str) := [((He.cT K ("_law_refused_right", none)).2, "_law_refused_right.<locals>.<lambda>")]
theorem lamF {K : PySem.W.Frag} {mg : Str → Option Value} {base : Heap} (tb : ∀ p ∈ tf.map (He.cT K), TabB base mg p.1 p.2) : @LamF (handI K mg (TT K)) K mg base "_law_refused_right" :=
  @LamF.mk (handI K mg (TT K)) K mg base "_law_refused_right" (tb (He.cT K ("_law_refused_right", none)) (by simp [tf])) (List.mem_cons_self) (fun p hp e => by
    have hp : p ∈ TT K := hp
    simp only [TT, List.mem_cons, List.not_mem_nil, or_false] at hp
    rw [hp]
    rfl)
theorem lawAt (w : World) (mg : Str → Option Value) (fa0 : Addr) (h : Heap) (Yh : hk.says w h) (G : h.Ns mainGlobals mg) (hmg : mg "law" = some (.ref fa0)) : ∃ K : PySem.W.Frag, K.In h ∧ LawAtG PySem.Challenge.rw_forepaid_k48_whole_cards_compared w K (L2.CX PySem.Challenge.rw_forepaid_k48_whole_cards_compared.prog w) 15 63 "script" mg fa0 h := by
  obtain ⟨K, KX, c⟩ := Yh
  have cD := c.t.d
  obtain ⟨x1, mr⟩ := He.ba c.more
  obtain ⟨x2, mr⟩ := He.ba mr
  obtain ⟨x3, mr⟩ := He.ba mr
  obtain ⟨x4, mr⟩ := He.ba mr
  obtain ⟨x5, mr⟩ := He.ba mr
  obtain ⟨x6, mr⟩ := He.ba mr
  obtain ⟨x7, mr⟩ := He.ba mr
  obtain ⟨x8, mr⟩ := He.ba mr
  obtain ⟨x9, mr⟩ := He.ba mr
  obtain ⟨x10, mr⟩ := He.ba mr
  obtain ⟨x11, mr⟩ := He.ba mr
  obtain ⟨x12, mr⟩ := He.ba mr
  obtain ⟨x13, mr⟩ := He.ba mr
  obtain ⟨x14, x15⟩ := He.ba mr
  have Z := env_of KX G cD x1
  have SZ := siz_of KX G c.t x2 x3
  have W := wordF_of KX G cD x4 x5 x6 x7 x8 x9 x10 x11 x12 x13 x14 x15
  have ml := He.glo_ok KX G (cD.facts (f := .glo "law") (by simp [fa]))
  rw [hmg] at ml
  cases ml
  letI : Hand := handI K mg (TT K)
  obtain ⟨fd, hb, hF⟩ := chain (P := PySem.Challenge.rw_forepaid_k48_whole_cards_compared.prog) KX G cD Z SZ W (handOk K mg (TT K))
  refine ⟨K, KX, fd, tf.map (He.cT K), spLaw K, fun p hp => ?_, hb, fun H a ns hl hT hS => ⟨a, ns, rfl, hS, by omega, fun p hp => ?_, fun _ => rfl⟩, fun base hB hG tb => hF base (lamF tb)⟩
  · obtain ⟨q, hq, rfl⟩ := List.mem_map.mp hp
    exact ⟨c.empty q hq, c.out q hq, PySem.W.codeHd_of_K KX (c.hd q hq)⟩
  · have hp : p ∈ TT K := hp
    simp only [TT, List.mem_cons, List.not_mem_nil, or_false] at hp
    subst hp
    exact TabS.nil (hT (He.cT K ("_law_refused_right", none)) (by simp [tf]))
end K48

open PySem PySem.W PySem.Calls PyProof.Rows
theorem PySem.Challenge.cw_forepaid_k48_whole_cards_compared_holds : PySem.Challenge.rw_forepaid_k48_whole_cards_compared.Holds := by
  w_on; o_law
  refine HandSHeadRun.head_any (r := OpenLaw.row PySem.Challenge.rw_forepaid_k48_whole_cards_compared) (q := view (OpenLaw.row PySem.Challenge.rw_forepaid_k48_whole_cards_compared).prog [80]) (H := K48.hk) (ob := K48.ob) (M := 4000) (loose := K48.names) (d := HandSHeadRun.topDef (OpenLaw.row PySem.Challenge.rw_forepaid_k48_whole_cards_compared).prog 80) (kwd := []) K48.ob_eq
    (by kernel_rfl) (fun s => by kernel_rfl) K48.run (by kernel_rfl) (by kernel_rfl) (by kernel_rfl) (by rfl) (by first | assumption | decide +kernel) (by decide +kernel) ⟨rfl, rfl, rfl, rfl, rfl, by decide +kernel⟩ ?hw ?hc
  case hw => w_witness2
  case hc =>
    refine PL.walk_ofG (l := PySem.Challenge.rw_forepaid_k48_whole_cards_compared) (n := 63) (k := 15) (x := "script") (CX := L2.CX PySem.Challenge.rw_forepaid_k48_whole_cards_compared.prog) rfl (by decide) (by kernel_rfl) ⟨rfl, by decide, by decide⟩ ?F ?CX
    · intro w mg fa h Y G hmg0
      have hmg : mg ("law" : PySem.Str) = some (.ref fa) := by
        have e : (HandSHeadRun.topDef (OpenLaw.row PySem.Challenge.rw_forepaid_k48_whole_cards_compared).prog 80).name = ("law" : PySem.Str) := by kernel_rfl
        rw [← e]
        exact hmg0
      exact K48.lawAt w mg fa h Y G hmg
    · rintro w H s e s' ⟨_, _, _, _, _, _, _, _, _, _, _, _, z⟩
      exact z

#print axioms PySem.Challenge.cw_forepaid_k48_whole_cards_compared_holds
