import PyProof.Rows.All
import Wide.All
import OpenK.AllK
import Wide.FinOn
import HandS.Base
import HandS.Call
import HandS.List
import HandS.Comp
import HandS.Dict
import HandS.Iter
import HandS.Text
import HandS.Flow
import HandS.Conv
import HandS.Exc
import HandS.Words
import HandS.WordsExc
import HandS.IsInst
import HandS.Property
import HandS.OwnEq
import HandS.Lambda
import HandS.ExcOwn
import HandS.Defaults
import HandS.Style
import HandS.TupAny
import HandS.TupMul
import KE.GoesEnum
import HandS.Zip
import HandS.Flt
import HandS.EndTab
import KE.KStateDown
import Lean
import HandS.Head0
import HandS.Head1
import HandS.Head2
import HandS.HeadEnd
import HandS.HeadHook1
import HandS.HeadHook2
import KE.KRaiseC
import KE.KTreeB
import KE.RegKTryDeep
import KE.KRaiseIn
import HandS.ExcInit
import HandS.ExcIs
import HandS.ExcField
import KE.KTryMore
import KE.KIsAll
import HandS.SetFor
import PyProof.ReprRoads
import KE.KNestM
import PyProof.InstNe
import KE.KRevSl
import HandS.FStr
import HandS.RaiseMore
import KE.KCallOwn
import HandS.DictComp
import HandS.SortRule
import HandS.SortInts
import KE.DataEq
import HandS.GenCall
import HandS.GenList
import PyProof.Rows.FactsExc_KeyError
import PyProof.ExcBaseAll.LookupError
import HandS.ExcValue
import HandS.DeepEq
import KE.KEqNest
import HandS.Codes
import HandS.TryOnly
import HandS.ListItems
import KE.Datum
import PyProof.StrOps2
import HandS.HeadHook3
import HandS.Star
import KE.KSortTupAny
import PyProof.Rows.SortShellAny
import PySem.Challenge.RW_tiltmarks_k14_all_charts
set_option Elab.async false
set_option linter.all false
set_option maxRecDepth 100000
set_option maxHeartbeats 0
/-! A program's values as plain data: what a run yields is reckoned by plain functions over data and a store of changing things; each rule of the hand layer is held against such a function. -/
namespace T5
open PySem PySem.Spec PyProof.Rows L2
/-- a value: data that no one changes any more, or a place of the store -/
inductive D where
  | non | bl (b : Bool) | int (i : Int) | str (s : List Nat) | ty (n : String)
  | tup (l : List D) | lst (l : List D) | scr (l : List D) | obj (n : Nat)
  | dic (t : Bool) (ks vs : List D) | ins (c : String) (ks : List String) (vs : List D) | exc (c : String) (ks : List String) (vs : List D)
  | cls (c : String) | fn (a c : Nat) (q : Str) (ds : List D) (us : List V)
/-- what changes -/
inductive Ob where
  | lst (l : List D) | dic (t : Bool) (ks vs : List D) | ins (c : String) (ks : List String) (vs : List D) | fdc (ks vs : List D)
abbrev Store : Type := List Ob
abbrev DEnv : Type := List (Option D)
/-- the end of an expression -/
inductive R (α : Type) where
  | ok (a : α) (st : Store) | ex (c : String) (ks : List String) (vs : List D) (st : Store) | bad
/-- the end of a statement -/
inductive SR where
  | nx (e : DEnv) (st : Store) | rt (d : D) (st : Store) | bk (e : DEnv) (st : Store) | ct (e : DEnv) (st : Store)
  | ex (c : String) (ks : List String) (vs : List D) (e : DEnv) (st : Store) | bad
def R.bind {α β : Type} (r : R α) (f : α → Store → R β) : R β := match r with
  | .ok a st => f a st
  | .ex c ks vs st => .ex c ks vs st
  | .bad => .bad
@[simp] theorem bind_ok {α β : Type} {a : α} {st : Store} {f : α → Store → R β} : (R.ok a st).bind f = f a st := rfl
@[simp] theorem bind_ex {α β : Type} {c ks vs} {st : Store} {f : α → Store → R β} : (R.ex c ks vs st : R α).bind f = .ex c ks vs st := rfl
@[simp] theorem bind_bad {α β : Type} {f : α → Store → R β} : (R.bad : R α).bind f = .bad := rfl
/-! ### keys -/
def toStr (l : List Nat) : Str := ⟨l.toArray⟩
def keyD : Key → D
  | .inl i => .int i
  | .inr x => .str x.cps.toList
def keyTD (l : List Key) : D := .tup (l.map keyD)
/-- a dict's object; t: its keys are tuples -/
def DicHO (t : Bool) (ks : List D) (vs : List V) (u : HO) : Prop :=
  (t = false ∧ ∃ kk : List Key, ks = kk.map keyD ∧ kk.length = vs.length ∧ u = .dK (kk.zip vs)) ∨ (t = true ∧ ∃ kk : List (List Key), ks = kk.map keyTD ∧ kk.length = vs.length ∧ u = .dT (kk.zip vs))
/-- the tables of code objects that grow, each with its only name -/
class TabC where
  T : List (Addr × Str)
variable [TabC]
/-- where the changing things stand: those of the store, by number; those held back; tables of code objects -/
structure Mu where
  l : List Addr
  r : List Addr
  t : List (Addr × Str)
/-- a table -/
def Mu.isT (μ : Mu) (a : Addr) : Prop := ∃ q, (a, q) ∈ μ.t
instance : Membership Addr Mu := ⟨fun μ a => a ∈ μ.l ∨ a ∈ μ.r ∨ μ.isT a⟩
def Mu.get (μ : Mu) (n : Nat) : Option Addr := μ.l[n]?
def Mu.push (μ : Mu) (p : Addr) : Mu := ⟨μ.l ++ [p], μ.r, μ.t⟩
def Mu.hold (μ : Mu) (p : Addr) : Mu := ⟨μ.l, p :: μ.r, μ.t⟩
theorem Mu.mem {μ : Mu} {a : Addr} : a ∈ μ ↔ a ∈ μ.l ∨ a ∈ μ.r ∨ μ.isT a := Iff.rfl
/-- an exception's object, its class, its dict -/
def exV (a C dx : Addr) : HO := .ext fun h => ∃ (oe : Obj) (vs : Array Value), h.get? a = some oe ∧ Zc (.ref C) (some dx) oe ∧ oe.data = .fields vs
/-- one that has no dict -/
def exN (a C : Addr) : HO := .ext fun h => ∃ (oe : Obj) (vs : Array Value), h.get? a = some oe ∧ Zc (.ref C) none oe ∧ oe.data = .fields vs
theorem Mu.mem_get {μ : Mu} {n : Nat} {a : Addr} (h : μ.get n = some a) : a ∈ μ := .inl (List.mem_of_getElem? h)
/-- a dict that is changed no more is locked -/
def RdT (_ : Bool) (H : Hp) (a : Addr) (u : HO) : Prop := ∃ o, H a = some (.frz o u)
theorem RdT.rd {t : Bool} {H : Hp} {a : Addr} {u : HO} (h : RdT t H a u) : Rd H a u := .inr h
/-- no list and no dict -/
def oddO : HO → Bool
  | .ext _ => true
  | .tup _ => true
  | _ => false
/-! ### data in the heap -/
section
variable (K : PySem.W.Frag) (mg : Str → Option Value) (μ : Mu) (H : Hp)
mutual
def Rep : D → V → Prop
  | .non, v => v = .non
  | .bl b, v => v = .bl b
  | .int i, v => v = .int i
  | .str s, v => v = .str (toStr s)
  | .ty n, v => v = .ty n
  | .tup l, v => ∃ a vs, v = .ref a ∧ a ∉ μ ∧ H a = some (.tup vs) ∧ RepL l vs
  | .lst l, v => ∃ a vs, v = .ref a ∧ a ∉ μ ∧ H a = some (.lst vs) ∧ RepL l vs
  | .scr l, v => ∃ a vs, v = .ref a ∧ ((a ∉ μ ∧ ∃ o, H a = some (.frz o (.lst vs))) ∨ SqL K (fun _ => none) a vs) ∧ RepL l vs
  | .obj n, v => ∃ a, v = .ref a ∧ μ.get n = some a
  | .dic t ks ds, v => ∃ a vs u, v = .ref a ∧ a ∉ μ ∧ RepL ds vs ∧ DicHO t ks vs u ∧ RdT t H a u
  | .ins c ks ds, v => ∃ a C dx vs, v = .ref a ∧ a ∉ μ ∧ mg (Str.ofString c) = some (.ref C) ∧ ks.length = vs.length ∧ H a = some (.ins C dx ((ks.map Str.ofString).zip vs)) ∧ RepL ds vs
  | .exc c ks ds, v => ∃ a C dx us, v = .ref a ∧ a ∉ μ ∧ mg (Str.ofString c) = some (.ref C) ∧ ks.length = us.length ∧ ((H a = some (exV a C dx) ∧ dx ∉ μ ∧ H dx = some (.xd ((ks.map Str.ofString).zip us))) ∨ (ks = [] ∧ H a = some (exN a C))) ∧ RepL ds us
  | .cls c, v => ∃ C, v = .ref C ∧ mg (Str.ofString c) = some (.ref C)
  | .fn a c q ds us, v => v = .ref a ∧ c ∉ μ ∧ H c = some (LamX.CodeO c q) ∧ RepL ds us
def RepL : List D → List V → Prop
  | [], vs => vs = []
  | d :: ds, vs => ∃ v r, vs = v :: r ∧ Rep d v ∧ RepL ds r
end
/-- an object of the store -/
def ObR (a : Addr) : Ob → Prop
  | .lst l => ∃ vs, H a = some (.lst vs) ∧ RepL K mg μ H l vs
  | .dic t ks ds => ∃ vs u, RepL K mg μ H ds vs ∧ DicHO t ks vs u ∧ H a = some u
  | .ins c ks ds => ∃ C dx vs, mg (Str.ofString c) = some (.ref C) ∧ ks.length = vs.length ∧ H a = some (.ins C dx ((ks.map Str.ofString).zip vs)) ∧ RepL K mg μ H ds vs
  | .fdc ks ds => ∃ vs u o, RepL K mg μ H ds vs ∧ DicHO false ks vs u ∧ H a = some (.frz o u)
structure Rel (st : Store) : Prop where
  len : μ.l.length = st.length
  nd : μ.l.Nodup
  ob : ∀ (n : Nat) (o : Ob) (a : Addr), st[n]? = some o → μ.get n = some a → ObR K mg μ H a o
  apart : ∀ a, a ∈ μ.l → a ∉ μ.r
  held : ∀ a, a ∈ μ.r → ∃ o, H a = some o
  tab : LamX.Tabs μ.t H
  tc : μ.t = TabC.T
  rt : ∀ a, a ∈ μ.r → ¬ μ.isT a ∧ ∀ u, oddO u = true → H a ≠ some u
end
/-- what was data stays -/
structure Ext (μ : Mu) (H : Hp) (μ' : Mu) (H' : Hp) : Prop where
  more : ∃ m, μ'.l = μ.l ++ m
  res : ∀ a, a ∈ μ.r → a ∈ μ'.r
  keep : ∀ a o, a ∉ μ → H a = some o → a ∉ μ' ∧ H' a = some o
  held : ∀ a, a ∈ μ.r → H' a = H a
  tabs : μ'.t = μ.t
theorem Ext.refl {μ : Mu} {H : Hp} : Ext μ H μ H := ⟨⟨[], by simp⟩, fun _ h => h, fun _ _ h e => ⟨h, e⟩, fun _ _ => rfl, rfl⟩
theorem Ext.trans {μ μ1 μ2 : Mu} {H H1 H2 : Hp} (a : Ext μ H μ1 H1) (b : Ext μ1 H1 μ2 H2) : Ext μ H μ2 H2 := by
  obtain ⟨m, e1⟩ := a.more
  obtain ⟨m', e2⟩ := b.more
  exact ⟨⟨m ++ m', by rw [e2, e1, List.append_assoc]⟩, fun c h => b.res c (a.res c h), fun c o h e => by
    obtain ⟨h1, e1⟩ := a.keep c o h e
    exact b.keep c o h1 e1, fun c h => (b.held c (a.res c h)).trans (a.held c h), b.tabs.trans a.tabs⟩
section
variable {K : PySem.W.Frag} {mg : Str → Option Value} {μ μ' : Mu} {H H' : Hp}
theorem Ext.rd (x : Ext μ H μ' H') {a : Addr} {o : HO} (h : a ∉ μ) (r : Rd H a o) : a ∉ μ' ∧ Rd H' a o := by
  rcases r with r | ⟨ob, r⟩
  · obtain ⟨h1, h2⟩ := x.keep _ _ h r
    exact ⟨h1, .inl h2⟩
  · obtain ⟨h1, h2⟩ := x.keep _ _ h r
    exact ⟨h1, .inr ⟨ob, h2⟩⟩
theorem Ext.rdT (x : Ext μ H μ' H') {t : Bool} {a : Addr} {o : HO} (h : a ∉ μ) (r : RdT t H a o) : a ∉ μ' ∧ RdT t H' a o := by
  obtain ⟨ob, r⟩ := r
  obtain ⟨h1, h2⟩ := x.keep _ _ h r
  exact ⟨h1, ob, h2⟩
mutual
theorem Rep.ext (x : Ext μ H μ' H') : ∀ {d : D} {v : V}, Rep K mg μ H d v → Rep K mg μ' H' d v
  | .non, _, h => h
  | .bl _, _, h => h
  | .int _, _, h => h
  | .str _, _, h => h
  | .ty _, _, h => h
  | .tup l, v, h => by
    simp only [Rep] at h ⊢
    obtain ⟨a, vs, e, n, r, q⟩ := h
    obtain ⟨n', r'⟩ := x.keep _ _ n r
    exact ⟨a, vs, e, n', r', RepL.ext x q⟩
  | .lst l, v, h => by
    simp only [Rep] at h ⊢
    obtain ⟨a, vs, e, n, r, q⟩ := h
    obtain ⟨n', r'⟩ := x.keep _ _ n r
    exact ⟨a, vs, e, n', r', RepL.ext x q⟩
  | .scr l, v, h => by
    simp only [Rep] at h ⊢
    obtain ⟨a, vs, e, n, q⟩ := h
    refine ⟨a, vs, e, ?_, RepL.ext x q⟩
    rcases n with ⟨n, o, r⟩ | n
    · obtain ⟨n', r'⟩ := x.keep _ _ n r
      exact .inl ⟨n', o, r'⟩
    · exact .inr n
  | .obj n, v, h => by
    simp only [Rep] at h ⊢
    obtain ⟨a, e, q⟩ := h
    obtain ⟨m, em⟩ := x.more
    refine ⟨a, e, ?_⟩
    show μ'.l[n]? = some a
    rw [em, List.getElem?_append_left]
    · exact q
    · exact (List.getElem?_eq_some_iff.mp q).1
  | .dic t ks ds, v, h => by
    simp only [Rep] at h ⊢
    obtain ⟨a, vs, u, e, n, q, hh, r⟩ := h
    obtain ⟨n', r'⟩ := x.rdT n r
    exact ⟨a, vs, u, e, n', RepL.ext x q, hh, r'⟩
  | .ins c ks ds, v, h => by
    simp only [Rep] at h ⊢
    obtain ⟨a, C, dx, vs, e, n, g, l, r, q⟩ := h
    obtain ⟨n', r'⟩ := x.keep _ _ n r
    exact ⟨a, C, dx, vs, e, n', g, l, r', RepL.ext x q⟩
  | .exc c ks ds, v, h => by
    simp only [Rep] at h ⊢
    obtain ⟨a, C, dx, us, e, n, g, l, r, q⟩ := h
    rcases r with ⟨r, nd, rd⟩ | ⟨r0, r⟩
    · obtain ⟨n', r'⟩ := x.keep _ _ n r
      obtain ⟨nd', rd'⟩ := x.keep _ _ nd rd
      exact ⟨a, C, dx, us, e, n', g, l, .inl ⟨r', nd', rd'⟩, RepL.ext x q⟩
    · obtain ⟨n', r'⟩ := x.keep _ _ n r
      exact ⟨a, C, dx, us, e, n', g, l, .inr ⟨r0, r'⟩, RepL.ext x q⟩
  | .cls _, _, h => h
  | .fn a c q ds us, v, h => by
    simp only [Rep] at h ⊢
    obtain ⟨e, n, r, y⟩ := h
    obtain ⟨n', r'⟩ := x.keep _ _ n r
    exact ⟨e, n', r', RepL.ext x y⟩
theorem RepL.ext (x : Ext μ H μ' H') : ∀ {ds : List D} {vs : List V}, RepL K mg μ H ds vs → RepL K mg μ' H' ds vs
  | [], _, h => h
  | d :: ds, vs, h => by
    simp only [RepL] at h ⊢
    obtain ⟨v, r, e, h1, h2⟩ := h
    exact ⟨v, r, e, Rep.ext x h1, RepL.ext x h2⟩
end
end
end T5
namespace T5
open PySem PySem.Spec PyProof.Rows L2
variable [TabC]
/-- the slots -/
structure REnv (K : PySem.W.Frag) (mg : Str → Option Value) (μ : Mu) (H : Hp) (env : DEnv) (σ : L2.St) : Prop where
  len : env.length = σ.length
  at_ : ∀ (i : Nat) (d : D), env[i]? = some (some d) → ∃ v, σ[i]? = some (some v) ∧ Rep K mg μ H d v
section
variable {K : PySem.W.Frag} {mg : Str → Option Value} {μ μ' : Mu} {H H' : Hp} {env : DEnv} {σ : L2.St}
theorem REnv.ext (x : Ext μ H μ' H') (r : REnv K mg μ H env σ) : REnv K mg μ' H' env σ :=
  ⟨r.len, fun i d e => let ⟨v, h1, h2⟩ := r.at_ i d e; ⟨v, h1, h2.ext x⟩⟩
theorem REnv.set (r : REnv K mg μ H env σ) {d : D} {v : V} (h : Rep K mg μ H d v) (i : Nat) : REnv K mg μ H (env.set i (some d)) (σ.set i (some v)) := by
  refine ⟨by simp [r.len], fun j e hj => ?_⟩
  by_cases q : i = j
  · subst q
    have hl : i < env.length := by
      have := (List.getElem?_eq_some_iff.mp hj).1
      simpa using this
    rw [List.getElem?_set_self hl] at hj
    cases hj
    exact ⟨v, by rw [List.getElem?_set_self (by rw [← r.len]; exact hl)], h⟩
  · rw [List.getElem?_set_ne q] at hj
    rw [List.getElem?_set_ne q]
    exact r.at_ j e hj
theorem REnv.none (r : REnv K mg μ H env σ) (i : Nat) (o : Option V) : REnv K mg μ H (env.set i none) (σ.set i o) := by
  refine ⟨by simp [r.len], fun j e hj => ?_⟩
  by_cases q : i = j
  · subst q
    have hl : i < env.length := by
      have := (List.getElem?_eq_some_iff.mp hj).1
      simpa using this
    rw [List.getElem?_set_self hl] at hj
    cases hj
  · rw [List.getElem?_set_ne q] at hj
    rw [List.getElem?_set_ne q]
    exact r.at_ j e hj
end
/-- what is asked behind a result -/
def Aft {α : Type} (K : PySem.W.Frag) (mg : Str → Option Value) (W : WX) (σ : L2.St) (μ : Mu) (H : Hp) (r : R α) (k : α → Store → Mu → Hp → Prop) : Prop := match r with
  | .ok a st => ∀ μ' H', Ext μ H μ' H' → Rel K mg μ' H' st → k a st μ' H'
  | .ex c ks ds st => ∀ μ' H' C dx us, Ext μ H μ' H' → Rel K mg μ' H' st → mg (Str.ofString c) = some (.ref C) → ks.length = us.length → H' dx = some (.xd ((ks.map Str.ofString).zip us)) → dx ∉ μ' → RepL K mg μ' H' ds us → W (.ref C) (some dx) σ H'
  | .bad => False
section
variable {α β : Type} {K : PySem.W.Frag} {mg : Str → Option Value} {W : WX} {σ : L2.St} {μ μ1 : Mu} {H H1 : Hp} {r : R α} {k k' : α → Store → Mu → Hp → Prop}
theorem Aft.ext (x : Ext μ H μ1 H1) (h : Aft K mg W σ μ H r k) : Aft K mg W σ μ1 H1 r k := by
  cases r with
  | ok a st => exact fun μ' H' e q => h μ' H' (x.trans e) q
  | ex c ks ds st => exact fun μ' H' C dx us e q1 q2 q3 q4 q5 q6 => h μ' H' C dx us (x.trans e) q1 q2 q3 q4 q5 q6
  | bad => exact h
theorem Aft.imp (h : Aft K mg W σ μ H r k) (f : ∀ a st μ' H', Ext μ H μ' H' → Rel K mg μ' H' st → k a st μ' H' → k' a st μ' H') : Aft K mg W σ μ H r k' := by
  cases r with
  | ok a st => exact fun μ' H' e q => f a st μ' H' e q (h μ' H' e q)
  | ex c ks ds st => exact h
  | bad => exact h
theorem Aft.bind {f : α → Store → R β} {k : β → Store → Mu → Hp → Prop} (h : Aft K mg W σ μ H (r.bind f) k) : Aft K mg W σ μ H r fun a st μ' H' => Aft K mg W σ μ' H' (f a st) k := by
  cases r with
  | ok a st => exact fun μ' H' e _ => Aft.ext e h
  | ex c ks ds st => exact h
  | bad => exact h
end
/-! ### expressions -/
abbrev ME := DEnv → Store → R D
abbrev MT := DEnv → Store → R Bool
abbrev MA := DEnv → Store → R (List D)
def tM (K : PySem.W.Frag) (mg : Str → Option Value) (W : WX) (m : ME) : TE := fun σ H Q => ∃ μ env st, Rel K mg μ H st ∧ REnv K mg μ H env σ ∧ Aft K mg W σ μ H (m env st) fun d _ μ' H' => ∀ v, Rep K mg μ' H' d v → Q v H'
def tMT (K : PySem.W.Frag) (mg : Str → Option Value) (W : WX) (m : MT) : TT := fun σ H Q => ∃ μ env st, Rel K mg μ H st ∧ REnv K mg μ H env σ ∧ Aft K mg W σ μ H (m env st) fun b _ _ H' => Q b H'
def tMA (K : PySem.W.Frag) (mg : Str → Option Value) (W : WX) (m : MA) : TA := fun σ H Q => ∃ μ env st, Rel K mg μ H st ∧ REnv K mg μ H env σ ∧ Aft K mg W σ μ H (m env st) fun ds _ μ' H' => ∀ vs, RepL K mg μ' H' ds vs → Q vs H'
/-- e does as m tells, whatever is wished of exceptions -/
def SE (X : Cx) (e : Expr) (m : ME) : Prop := ∀ pn xe W, Takes (X.tr pn xe) W → PE (X.tr pn xe) e (tM X.K X.mg W m)
def ST (X : Cx) (e : Expr) (m : MT) : Prop := ∀ pn xe W, Takes (X.tr pn xe) W → PT (X.tr pn xe) e (tMT X.K X.mg W m)
def SW (X : Cx) (e : Expr) (m : MT) : Prop := ∀ pn xe W, Takes (X.tr pn xe) W → PW (X.tr pn xe) e (tMT X.K X.mg W m)
def SA (X : Cx) (es : List Expr) (m : MA) : Prop := ∀ pn xe W, Takes (X.tr pn xe) W → PA (X.tr pn xe) es (tMA X.K X.mg W m)
section
variable {X : Cx} {e : Expr} {es : List Expr} {t t' : TE} {u u' : TA} {c c' : TT}
theorem PE.imp (h : PE X e t) (f : ∀ σ H Q, t' σ H Q → t σ H Q) : PE X e t' := ⟨fun pins s σ H Q I q => h.run pins s σ H Q I (f σ H Q q)⟩
theorem PA.imp (h : PA X es u) (f : ∀ σ H Q, u' σ H Q → u σ H Q) : PA X es u' := ⟨fun pos pins s σ H Q I q => h.run pos pins s σ H Q I (f σ H Q q)⟩
theorem PT.imp (h : PT X e c) (f : ∀ σ H Q, c' σ H Q → c σ H Q) : PT X e c' := ⟨fun pins s σ H Q I q => h.run pins s σ H Q I (f σ H Q q)⟩
theorem PW.imp (h : PW X e c) (f : ∀ σ H Q, c' σ H Q → c σ H Q) : PW X e c' := ⟨fun wh pins s σ H Q I q => h.run wh pins s σ H Q I (f σ H Q q)⟩
end
/-! names and constants -/
def eVar (i : Nat) : ME := fun env st => match env[i]? with
  | some (some d) => .ok d st
  | _ => .bad
def eC (d : D) : ME := fun _ st => .ok d st
section
variable {X : Cx} {pos : Pos}
theorem se_var (i : Nat) {x : Str} (hN : X.N[i]? = some x := by rfl) (hv : Vis X.env.scope x := by first | exact Or.inl rfl | exact Or.inr (Or.inl rfl) | exact Or.inr (Or.inr rfl)) (hd : (x == ("__debug__" : Str)) = false := by decide)
    (hcd : (x == ("__classdict__" : Str)) = false := by decide) : SE X (.Name x pos) (eVar i) := fun pn xe W _ => by
  refine PE.imp (pe_var (i := i) (X := X.tr pn xe) hN hv hd hcd) fun σ H Q h => ?_
  obtain ⟨μ, env, st, r, re, a⟩ := h
  unfold eVar at a
  split at a
  · rename_i d hd
    obtain ⟨v, h1, h2⟩ := re.at_ i d hd
    exact ⟨v, h1, a μ H Ext.refl r v h2⟩
  · exact False.elim a
/-- a constant of which the heap knows nothing -/
def Flat : D → V → Prop
  | .non, v => v = .non
  | .bl b, v => v = .bl b
  | .int i, v => v = .int i
  | .str s, v => v = .str (toStr s)
  | .ty n, v => v = .ty n
  | _, _ => False
theorem Flat.rep {K : PySem.W.Frag} {mg : Str → Option Value} {μ : Mu} {H : Hp} : ∀ {d : D} {v : V}, Flat d v → Rep K mg μ H d v
  | .non, _, h => h
  | .bl _, _, h => h
  | .int _, _, h => h
  | .str _, _, h => h
  | .ty _, _, h => h
theorem se_const {e : Expr} {v : V} {d : D} (h : ∀ pn xe, PE (X.tr pn xe) e (tC v)) (f : Flat d v) : SE X e (eC d) := fun pn xe W _ => by
  refine PE.imp (h pn xe) fun σ H Q h => ?_
  obtain ⟨μ, env, st, r, re, a⟩ := h
  exact a μ H Ext.refl r v f.rep
theorem se_int {i : Int} {j} : SE X (.Constant (.int i) j pos) (eC (.int i)) := se_const (fun _ _ => pe_int) rfl
theorem se_bl {b : Bool} {j} : SE X (.Constant (.bool b) j pos) (eC (.bl b)) := se_const (fun _ _ => pe_bl) rfl
theorem se_non {j} : SE X (.Constant .none j pos) (eC .non) := se_const (fun _ _ => pe_non) rfl
theorem se_str {x : Str} {j} (l : List Nat) (h : x = toStr l := by rfl) : SE X (.Constant (.str x) j pos) (eC (.str l)) := se_const (fun _ _ => pe_str) (by rw [h]; rfl)
/-- a module's int, a module's text -/
theorem se_gint {x : Str} {i : Int} (hg : Gl X x) (hm : ∃ t, X.mg x = some (.int i t)) (hd : (x == ("__debug__" : Str)) = false := by decide) : SE X (.Name x pos) (eC (.int i)) := by
  obtain ⟨t, hm⟩ := hm
  exact se_const (v := .int i) (fun pn xe => pe_glob (X := X.tr pn xe) hg hm ⟨_, rfl⟩ hd) rfl
end
/-! two in a row -/
section
variable {K : PySem.W.Frag} {mg : Str → Option Value} {W : WX} {σ : L2.St} {H : Hp}
theorem tM_seq {ma : ME} {k : D → DEnv → Store → R D} {Q : VK} {Q' : V → Hp → Prop} (h : tM K mg W (fun env st => (ma env st).bind fun d st1 => k d env st1) σ H Q)
    (f : ∀ d v μ env st H1, Rel K mg μ H1 st → REnv K mg μ H1 env σ → Rep K mg μ H1 d v → Aft K mg W σ μ H1 (k d env st) (fun d _ μ' H' => ∀ v, Rep K mg μ' H' d v → Q v H') → Q' v H1) : tM K mg W ma σ H Q' := by
  obtain ⟨μ, env, st, r, re, a⟩ := h
  refine ⟨μ, env, st, r, re, (Aft.bind a).imp fun d st1 μ1 H1 x r1 a1 v hv => ?_⟩
  exact f d v μ1 env st1 H1 r1 (re.ext x) hv a1
end
/-! operators by values -/
abbrev BO := Store → D → D → Option D
def ofO {α : Type} (o : Option α) (st : Store) : R α := match o with
  | some d => .ok d st
  | none => .bad
@[simp] theorem ofO_some {α : Type} {a : α} {st : Store} : ofO (some a) st = .ok a st := rfl
@[simp] theorem ofO_none {α : Type} {st : Store} : (ofO none st : R α) = .bad := rfl
/-- the operator's reading follows from the data -/
def OpD (K : PySem.W.Frag) (mg : Str → Option Value) (r : V → V → Hp → VK → Prop) (g : BO) : Prop :=
  ∀ (μ : Mu) (H : Hp) (st : Store) (d1 d2 d : D) (x y : V) (Q : VK), Rel K mg μ H st → Rep K mg μ H d1 x → Rep K mg μ H d2 y → g st d1 d2 = some d →
    (∀ H' v, Ext μ H μ H' → Rel K mg μ H' st → Rep K mg μ H' d v → Q v H') → r x y H Q
def eBin (g : BO) (ma mb : ME) : ME := fun env st => (ma env st).bind fun d1 st1 => (mb env st1).bind fun d2 st2 => ofO (g st2 d1 d2) st2
section
variable {X : Cx} {a b : Expr} {ma mb : ME} {pos : Pos}
theorem tOp_of {K : PySem.W.Frag} {mg : Str → Option Value} {W : WX} {r : V → V → Hp → VK → Prop} {g : BO} (hd : OpD K mg r g) {σ : L2.St} {H : Hp} {Q : VK} (h : tM K mg W (eBin g ma mb) σ H Q) : tOp r (tM K mg W ma) (tM K mg W mb) σ H Q := by
  refine tM_seq h fun d1 x μ1 env st1 H1 r1 re1 h1 a1 => ?_
  refine ⟨μ1, env, st1, r1, re1, (Aft.bind a1).imp fun d2 st2 μ2 H2 x2 r2 a2 y h2 => ?_⟩
  cases q : g st2 d1 d2 with
  | none => rw [q] at a2; exact a2.elim
  | some d =>
    rw [q] at a2
    exact hd μ2 H2 st2 d1 d2 d x y Q r2 (h1.ext x2) h2 q fun H' v e r' h' => a2 μ2 H' e r' v h'
theorem se_bin {op : Operator} {r : V → V → Hp → VK → Prop} {g : BO} (ho : ∀ pn xe, OpR (X.tr pn xe) (binaryOp op) r) (hd : OpD X.K X.mg r g) (ha : SE X a ma) (hb : SE X b mb) : SE X (.BinOp a op b pos) (eBin g ma mb) := fun pn xe W tk =>
  PE.imp (pe_op (ho pn xe) (ha pn xe W tk) (hb pn xe W tk)) fun σ H Q h => tOp_of hd h
theorem se_cmp {op : CmpOp} {r : V → V → Hp → VK → Prop} {g : BO} (ho : ∀ pn xe, OpR (X.tr pn xe) (compareOp op) r) (hd : OpD X.K X.mg r g) (ha : SE X a ma) (hb : SE X b mb) (hm : behindInMarks op b = false) : SE X (.Compare a [op] [b] pos) (eBin g ma mb) := fun pn xe W tk =>
  PE.imp (pe_cmpR (ho pn xe) (ha pn xe W tk) (hb pn xe W tk) hm) fun σ H Q h => tOp_of hd h
theorem se_ix {r : V → V → Hp → VK → Prop} {g : BO} (ho : ∀ pn xe, IxR (X.tr pn xe) r) (hd : OpD X.K X.mg r g) (ha : SE X a ma) (hb : SE X b mb) (hs : PlainIx b) : SE X (.Subscript a b pos) (eBin g ma mb) := fun pn xe W tk =>
  PE.imp (pe_ix (ho pn xe) (ha pn xe W tk) (hb pn xe W tk) hs) fun σ H Q h => tOp_of hd h
end
end T5
namespace T5
open PySem PySem.Spec PyProof.Rows L2
variable [TabC]
/-! ### heaps -/
section
variable {K : PySem.W.Frag} {mg : Str → Option Value} {μ : Mu} {H H' : Hp} {st : Store} {p : Addr} {o : HO}
theorem Rel.there (r : Rel K mg μ H st) {a : Addr} (h : a ∈ μ) : ∃ o, H a = some o := by
  rcases h with h | h | ⟨q, h⟩
  · obtain ⟨n, hn⟩ := List.mem_iff_getElem?.mp h
    have hl : n < st.length := by
      rw [← r.len]
      exact (List.getElem?_eq_some_iff.mp hn).1
    have q := r.ob n st[n] a (List.getElem?_eq_getElem hl) hn
    cases e : st[n] with
    | lst l => rw [e] at q; obtain ⟨vs, h, _⟩ := q; exact ⟨_, h⟩
    | dic t ks ds => rw [e] at q; obtain ⟨_, _, _, _, h⟩ := q; exact ⟨_, h⟩
    | ins c ks ds => rw [e] at q; obtain ⟨_, _, _, _, _, h, _⟩ := q; exact ⟨_, h⟩
    | fdc ks ds => rw [e] at q; obtain ⟨_, _, _, _, _, h⟩ := q; exact ⟨_, h⟩
  · exact r.held a h
  · obtain ⟨ps, e, _⟩ := r.tab _ h
    exact ⟨_, e⟩
/-- what changes is no table and no code object -/
theorem Rel.plain (r : Rel K mg μ H st) {n : Nat} {a : Addr} (hn : μ.get n = some a) : ∃ o, H a = some o ∧ (∀ ps, o ≠ .tbl ps) ∧ ∀ φ, o ≠ .ext φ := by
  have hl : n < st.length := by
    rw [← r.len]
    exact (List.getElem?_eq_some_iff.mp hn).1
  have q := r.ob n st[n] a (List.getElem?_eq_getElem hl) hn
  cases e : st[n] with
  | lst l => rw [e] at q; obtain ⟨vs, h, _⟩ := q; exact ⟨_, h, fun _ z => HO.noConfusion z, fun _ z => HO.noConfusion z⟩
  | dic t ks ds =>
    rw [e] at q
    obtain ⟨vs, u, _, d, h⟩ := q
    rcases d with ⟨_, _, _, _, rfl⟩ | ⟨_, _, _, _, rfl⟩
    · exact ⟨_, h, fun _ z => HO.noConfusion z, fun _ z => HO.noConfusion z⟩
    · exact ⟨_, h, fun _ z => HO.noConfusion z, fun _ z => HO.noConfusion z⟩
  | ins c ks ds => rw [e] at q; obtain ⟨_, _, _, _, _, h, _⟩ := q; exact ⟨_, h, fun _ z => HO.noConfusion z, fun _ z => HO.noConfusion z⟩
  | fdc ks ds => rw [e] at q; obtain ⟨_, _, _, _, _, h⟩ := q; exact ⟨_, h, fun _ z => HO.noConfusion z, fun _ z => HO.noConfusion z⟩
theorem tabs_upd {T : List (Addr × Str)} {a : Addr} (t : LamX.Tabs T H) (h : ∃ u, H a = some u ∧ (∀ ps, u ≠ .tbl ps) ∧ ∀ φ, u ≠ .ext φ) : LamX.Tabs T (upd H a o) := fun p hp => by
  obtain ⟨u, hu, h1, h2⟩ := h
  obtain ⟨ps, e1, e2, e3⟩ := t p hp
  refine ⟨ps, by rw [upd_ne (fun z => by rw [z, hu] at e1; exact h1 _ (Option.some.inj e1))]; exact e1, e2, fun pos cv hc => ?_⟩
  obtain ⟨c, q1, q2⟩ := e3 pos cv hc
  exact ⟨c, q1, by rw [upd_ne (fun z => by rw [z, hu] at q2; exact h2 _ (Option.some.inj q2))]; exact q2⟩
theorem Rel.nin (r : Rel K mg μ H st) {a : Addr} (h : H a = none) : a ∉ μ := fun q => by
  obtain ⟨o, e⟩ := r.there q
  rw [h] at e
  cases e
theorem ObR.ext {μ' : Mu} {a : Addr} (x : Ext μ H μ' H') (e : H' a = H a) : ∀ {o : Ob}, ObR K mg μ H a o → ObR K mg μ' H' a o
  | .lst l, ⟨vs, h, q⟩ => ⟨vs, e.trans h, q.ext x⟩
  | .dic t ks ds, ⟨vs, u, q, d, h⟩ => ⟨vs, u, q.ext x, d, e.trans h⟩
  | .ins c ks ds, ⟨C, dx, vs, g, l, h, q⟩ => ⟨C, dx, vs, g, l, e.trans h, q.ext x⟩
  | .fdc ks ds, ⟨vs, u, o, q, d, h⟩ => ⟨vs, u, o, q.ext x, d, e.trans h⟩
/-- new things beside what is tracked -/
theorem Ext.same (r : Rel K mg μ H st) (s : Same H H') : Ext μ H μ H' := ⟨⟨[], by simp⟩, fun _ h => h, fun a o h e => ⟨h, s a o e⟩, fun a h => by
  obtain ⟨o, e⟩ := r.held a h
  rw [e]
  exact s a o e, rfl⟩
theorem Rel.rtS (r : Rel K mg μ H st) (s : Same H H') : ∀ a, a ∈ μ.r → ¬ μ.isT a ∧ ∀ u, oddO u = true → H' a ≠ some u := fun a ha => ⟨(r.rt a ha).1, fun φ hφ z => by
  obtain ⟨o, e⟩ := r.held a ha
  have w := s a o e
  rw [z] at w
  cases w
  exact (r.rt a ha).2 _ hφ e⟩
theorem Rel.same (r : Rel K mg μ H st) (s : Same H H') : Rel K mg μ H' st :=
  ⟨r.len, r.nd, fun n o a h1 h2 => by
    obtain ⟨ob, e⟩ := r.there (Mu.mem_get h2)
    exact (r.ob n o a h1 h2).ext (Ext.same r s) ((s a ob e).trans e.symm), r.apart, fun a h => by
    obtain ⟨o, e⟩ := r.held a h
    exact ⟨o, s a o e⟩, r.tab.ext s, r.tc, r.rtS s⟩
theorem same_upd (h : H p = none) : Same H (upd H p o) := fun b x e => by
  rw [upd_ne (ne_of_none e h)]
  exact e
/-- a changing thing is laid -/
theorem Ext.push (r : Rel K mg μ H st) (s : Same H H') (h : H p = none) : Ext μ H (μ.push p) H' :=
  ⟨⟨[p], rfl⟩, fun _ h => h, fun a o n e => ⟨(fun q => by
    rcases q with q | q
    · rcases List.mem_append.mp q with q | q
      · exact n (.inl q)
      · have : a = p := by simpa using q
        rw [this, h] at e
        cases e
    · exact n (.inr q)), s a o e⟩, fun a h => by
    obtain ⟨o, e⟩ := r.held a h
    rw [e]
    exact s a o e, rfl⟩
theorem Rel.push (r : Rel K mg μ H st) (s : Same H H') (h : H p = none) {ob : Ob} (q : ObR K mg (μ.push p) H' p ob) : Rel K mg (μ.push p) H' (st ++ [ob]) := by
  refine ⟨by show (μ.l ++ [p]).length = _; simp [r.len], ?_, fun n o a h1 h2 => ?_, fun a ha => ?_, fun a h => ?_, r.tab.ext s, r.tc, r.rtS s⟩
  · show (μ.l ++ [p]).Nodup
    rw [List.nodup_append]
    refine ⟨r.nd, by simp, fun a ha b hb => ?_⟩
    have : b = p := by simpa using hb
    subst this
    intro z
    subst z
    exact r.nin h (.inl ha)
  · have h2' : (μ.l ++ [p])[n]? = some a := h2
    by_cases hn : n < st.length
    · rw [List.getElem?_append_left hn] at h1
      rw [List.getElem?_append_left (by rw [r.len]; exact hn)] at h2'
      obtain ⟨ob', e⟩ := r.there (Mu.mem_get h2')
      exact (r.ob n o a h1 h2').ext (Ext.push r s h) ((s a ob' e).trans e.symm)
    · have hl := (List.getElem?_eq_some_iff.mp h1).1
      have e : n = st.length := by simp at hl; omega
      subst e
      rw [List.getElem?_append_right (Nat.le_refl _)] at h1
      rw [List.getElem?_append_right (by rw [r.len]; exact Nat.le_refl _), r.len] at h2'
      simp at h1 h2'
      subst h1 h2'
      exact q
  · rcases List.mem_append.mp (show a ∈ μ.l ++ [p] from ha) with z | z
    · exact r.apart a z
    · have : a = p := by simpa using z
      subst this
      exact fun w => r.nin h (.inr (.inl w))
  · obtain ⟨o, e⟩ := r.held a h
    exact ⟨o, s a o e⟩
/-- a changing thing is changed -/
theorem Ext.change (r : Rel K mg μ H st) {n : Nat} {a : Addr} (hn : μ.get n = some a) : Ext μ H μ (upd H a o) := ⟨⟨[], by simp⟩, fun _ h => h, fun b u h e => ⟨h, by
    have ne : b ≠ a := by
      intro z
      subst z
      exact h (Mu.mem_get hn)
    rw [upd_ne ne]
    exact e⟩, fun b h => upd_ne (fun z => by
    subst z
    exact r.apart _ (List.mem_of_getElem? hn) h), rfl⟩
theorem Rel.change (r : Rel K mg μ H st) {n : Nat} {a : Addr} (hn : μ.get n = some a) {ob : Ob} (q : ObR K mg μ (upd H a o) a ob) : Rel K mg μ (upd H a o) (st.set n ob) := by
  refine ⟨by simp [r.len], r.nd, fun m u b h1 h2 => ?_, r.apart, fun b h => ?_, tabs_upd r.tab (r.plain hn), r.tc, fun b hb => ⟨(r.rt b hb).1, fun φ => by
    rw [upd_ne (fun z => by
      subst z
      exact r.apart _ (List.mem_of_getElem? hn) hb)]
    exact (r.rt b hb).2 φ⟩⟩
  · by_cases e : n = m
    · subst e
      rw [hn] at h2
      cases h2
      have hl : n < st.length := by have := (List.getElem?_eq_some_iff.mp h1).1; simpa using this
      rw [List.getElem?_set_self hl] at h1
      cases h1
      exact q
    · rw [List.getElem?_set_ne e] at h1
      have ne : b ≠ a := fun z => by
        subst z
        exact e ((List.getElem?_inj (List.getElem?_eq_some_iff.mp (show μ.l[n]? = some b from hn)).1 r.nd).mp (hn.trans h2.symm))
      exact (r.ob m u b h1 h2).ext (Ext.change r hn) (upd_ne ne)
  · obtain ⟨o', e⟩ := r.held b h
    rw [upd_ne (fun z => by
      subst z
      exact r.apart _ (List.mem_of_getElem? hn) h)]
    exact ⟨o', e⟩
end
/-! ### argument lists, displays -/
def aNil : MA := fun _ st => .ok [] st
def aCons (m : ME) (r : MA) : MA := fun env st => (m env st).bind fun d st1 => (r env st1).bind fun ds st2 => .ok (d :: ds) st2
def eTup (m : MA) : ME := fun env st => (m env st).bind fun ds st1 => if ds.length ≤ 1000 then .ok (.tup ds) st1 else .bad
def eLst (m : MA) : ME := fun env st => (m env st).bind fun ds st1 => if ds.length ≤ 1000 then .ok (.lst ds) st1 else .bad
/-- a list that changes later -/
def eLstM (m : MA) : ME := fun env st => (m env st).bind fun ds st1 => if ds.length ≤ 1000 then .ok (.obj st1.length) (st1 ++ [.lst ds]) else .bad
section
variable {X : Cx} {e : Expr} {es : List Expr} {m : ME} {ma : MA} {pos : Pos}
theorem tMA_run {K : PySem.W.Frag} {mg : Str → Option Value} {W : WX} {σ : L2.St} {H : Hp} {k : List D → DEnv → Store → R D} {Q : VK} {Q' : List V → Hp → Prop} (h : tM K mg W (fun env st => (ma env st).bind fun d st1 => k d env st1) σ H Q)
    (f : ∀ ds vs μ env st H1, Rel K mg μ H1 st → REnv K mg μ H1 env σ → RepL K mg μ H1 ds vs → Aft K mg W σ μ H1 (k ds env st) (fun d _ μ' H' => ∀ v, Rep K mg μ' H' d v → Q v H') → Q' vs H1) : tMA K mg W ma σ H Q' := by
  obtain ⟨μ, env, st, r, re, a⟩ := h
  refine ⟨μ, env, st, r, re, (Aft.bind a).imp fun d st1 μ1 H1 x r1 a1 v hv => ?_⟩
  exact f d v μ1 env st1 H1 r1 (re.ext x) hv a1
theorem sa_nil : SA X [] aNil := fun pn xe W tk => PA.imp pa_nil fun σ H Q h => by
  obtain ⟨μ, env, st, r, re, a⟩ := h
  exact a μ H Ext.refl r [] rfl
theorem sa_cons (he : SE X e m) (hr : SA X es ma) (hs : starEach (e :: es) X.env = (false, eval e X.env) :: starEach es X.env := by rfl) : SA X (e :: es) (aCons m ma) := fun pn xe W tk => by
  refine PA.imp (pa_cons (he pn xe W tk) (hr pn xe W tk) hs) fun σ H Q h => ?_
  obtain ⟨μ, env, st, r, re, a⟩ := h
  refine ⟨μ, env, st, r, re, (Aft.bind a).imp fun d st1 μ1 H1 x r1 a1 v hv => ?_⟩
  refine ⟨μ1, env, st1, r1, re.ext x, (Aft.bind a1).imp fun ds st2 μ2 H2 x2 r2 a2 vs hvs => ?_⟩
  exact a2 μ2 H2 Ext.refl r2 (v :: vs) ⟨v, vs, rfl, hv.ext x2, hvs⟩
theorem RepL.length {K : PySem.W.Frag} {mg : Str → Option Value} {μ : Mu} {H : Hp} : ∀ {ds : List D} {vs : List V}, RepL K mg μ H ds vs → ds.length = vs.length
  | [], vs, h => by
    have e : vs = [] := h
    rw [e] <;> rfl
  | d :: ds, vs, h => by
    obtain ⟨v, r, e, _, q⟩ := h
    rw [e, List.length_cons, List.length_cons, RepL.length q]
theorem small_line {n : Nat} (h : n ≤ 1000) : n ≤ sizeLine := Nat.le_trans h (by decide)
theorem se_tup {x1} (ha : SA X es ma) : SE X (.Tuple es x1 pos) (eTup ma) := fun pn xe W tk => by
  refine PE.imp (pe_tup (ha pn xe W tk)) fun σ H Q h => ?_
  refine tMA_run h fun ds vs μ env st H1 r re hd a => ?_
  by_cases c : ds.length ≤ 1000
  · rw [if_pos c] at a
    refine ⟨by rw [← hd.length]; exact small_line c, fun p hp => ?_⟩
    have s := same_upd (o := HO.tup vs) hp
    refine a μ _ (Ext.same r s) (r.same s) _ ⟨p, vs, rfl, r.nin hp, upd_same, hd.ext (Ext.same r s)⟩
  · rw [if_neg c] at a
    exact a.elim
theorem se_lst (ha : SA X es ma) : SE X (.List es pos) (eLst ma) := fun pn xe W tk => by
  refine PE.imp (pe_lst (ha pn xe W tk)) fun σ H Q h => ?_
  refine tMA_run h fun ds vs μ env st H1 r re hd a => ?_
  by_cases c : ds.length ≤ 1000
  · rw [if_pos c] at a
    refine ⟨by rw [← hd.length]; exact small_line c, fun p hp => ?_⟩
    have s := same_upd (o := HO.lst vs) hp
    refine a μ _ (Ext.same r s) (r.same s) _ ⟨p, vs, rfl, r.nin hp, upd_same, hd.ext (Ext.same r s)⟩
  · rw [if_neg c] at a
    exact a.elim
theorem se_lstM (ha : SA X es ma) : SE X (.List es pos) (eLstM ma) := fun pn xe W tk => by
  refine PE.imp (pe_lst (ha pn xe W tk)) fun σ H Q h => ?_
  refine tMA_run h fun ds vs μ env st H1 r re hd a => ?_
  by_cases c : ds.length ≤ 1000
  · rw [if_pos c] at a
    refine ⟨by rw [← hd.length]; exact small_line c, fun p hp => ?_⟩
    have s := same_upd (o := HO.lst vs) hp
    have x := Ext.push r s hp
    refine a _ _ x (r.push s hp ⟨vs, upd_same, hd.ext x⟩) _ ⟨p, rfl, ?_⟩
    show (μ.l ++ [p])[st.length]? = some p
    rw [List.getElem?_append_right (by rw [r.len]; exact Nat.le_refl _), r.len]
    simp
  · rw [if_neg c] at a
    exact a.elim
end
/-! ### tests -/
def bTru (st : Store) : D → Option Bool
  | .non => some false
  | .bl b => some b
  | .int i => some (i != 0)
  | .str s => if s.length ≤ 16000000 then some (!s.isEmpty) else none
  | .tup l => some (!l.isEmpty)
  | .lst l => some (!l.isEmpty)
  | .obj n => match st[n]? with
    | some (.lst l) => some (!l.isEmpty)
    | _ => none
  | _ => none
def cTru (m : ME) : MT := fun env st => (m env st).bind fun d st1 => ofO (bTru st1 d) st1
def cBool (m : ME) : MT := fun env st => (m env st).bind fun d st1 => match d with
  | .bl b => .ok b st1
  | _ => .bad
def cAnd (a b : MT) : MT := fun env st => (a env st).bind fun c st1 => if c = true then b env st1 else .ok false st1
def cOr (a b : MT) : MT := fun env st => (a env st).bind fun c st1 => if c = true then .ok true st1 else b env st1
def cNot (a : MT) : MT := fun env st => (a env st).bind fun c st1 => .ok (!c) st1
section
variable {X : Cx} {e a b : Expr} {rest : List Expr} {m ma mb : ME} {ca cb : MT} {pos : Pos}
theorem emptyV {l : List D} {vs : List V} (h : l.length = vs.length) : (!l.isEmpty) = !vs.isEmpty := by
  cases l <;> cases vs <;> simp at h ⊢
theorem tru_rep {K : PySem.W.Frag} {mg : Str → Option Value} {μ : Mu} {H : Hp} {st : Store} {d : D} {v : V} {b : Bool} (r : Rel K mg μ H st) (h : Rep K mg μ H d v) (q : bTru st d = some b) : TruV K v H b := by
  cases d with
  | non => cases h; cases q; rfl
  | bl c => cases h; cases q; rfl
  | int i => cases h; cases q; rfl
  | str s =>
    have e : v = .str (toStr s) := h
    subst e
    have q' : (if s.length ≤ 16000000 then some (!s.isEmpty) else none) = some b := q
    split at q'
    · rename_i hl
      have hz : (toStr s).length = s.length := by simp [toStr, Str.length]
      refine ⟨by rw [hz]; exact Nat.le_trans hl (by decide : 16000000 ≤ sizeLine), ?_⟩
      cases q'
      rw [hz]
      cases s with
      | nil => rfl
      | cons x xs =>
        have : ((x :: xs).length : Int) ≠ 0 := by simp only [List.length_cons]; omega
        exact (bne_iff_ne.mpr this).symm
    · cases q'
  | tup l =>
    obtain ⟨a, vs, e, n, rd, hl⟩ := h
    subst e
    cases q
    exact .inr (.inl ⟨vs, .inl (.inl rd), emptyV hl.length⟩)
  | lst l =>
    obtain ⟨a, vs, e, n, r, hl⟩ := h
    subst e
    cases q
    exact .inl ⟨vs, .inl (.inl r), emptyV hl.length⟩
  | obj n =>
    obtain ⟨a, e, hn⟩ := h
    subst e
    cases ho : st[n]? with
    | none => simp [bTru, ho] at q
    | some o =>
      cases o with
      | lst l =>
        simp only [bTru, ho] at q
        cases q
        obtain ⟨vs, hh, hl⟩ := r.ob n _ a ho hn
        exact .inl ⟨vs, .inl (.inl hh), emptyV hl.length⟩
      | _ => simp [bTru, ho] at q
  | _ => cases q
theorem st_tru (he : SE X e m) (hi : ∀ whole, isTrue e X.env whole = (do let v ← whole; standAt e.pos; holding [v] (truthy v)) := by intro _; rfl) : ST X e (cTru m) := fun pn xe W tk => by
  refine PT.imp (pt_truth (he pn xe W tk) hi) fun σ H Q h => ?_
  obtain ⟨μ, env, st, r, re, a⟩ := h
  refine ⟨μ, env, st, r, re, (Aft.bind a).imp fun d st1 μ1 H1 x r1 a1 v hv => ?_⟩
  cases q : bTru st1 d with
  | none => rw [q] at a1; exact a1.elim
  | some b =>
    rw [q] at a1
    exact ⟨b, tru_rep r1 hv q, a1 μ1 H1 Ext.refl r1⟩
/-- a test by a comparison: pt_cmpR of the same rule -/
theorem st_cmp {op : CmpOp} {r : V → V → Hp → VK → Prop} {g : BO} (ho : ∀ pn xe, OpR (X.tr pn xe) (compareOp op) r) (hd : OpD X.K X.mg r g) (ha : SE X a ma) (hb : SE X b mb) (hm : behindInMarks op b = false) : ST X (.Compare a [op] [b] pos) (cBool (eBin g ma mb)) := fun pn xe W tk => by
  refine PT.imp (pt_cmpR (ho pn xe) (ha pn xe W tk) (hb pn xe W tk) hm) fun σ H Q h => ?_
  refine tOp_of hd ?_
  obtain ⟨μ, env, st, r, re, a⟩ := h
  refine ⟨μ, env, st, r, re, (Aft.bind a).imp fun d st1 μ1 H1 x r1 a1 v hv => ?_⟩
  cases d with
  | bl c =>
    cases hv
    exact ⟨c, rfl, a1 μ1 H1 Ext.refl r1⟩
  | _ => exact a1.elim
theorem sw_and1 (ha : ST X a ca) : SW X (.BoolOp .And [a] pos) ca := fun pn xe W tk => pw_and1 (ha pn xe W tk)
theorem sw_or1 (ha : ST X a ca) : SW X (.BoolOp .Or [a] pos) ca := fun pn xe W tk => pw_or1 (ha pn xe W tk)
theorem tMT_seq {K : PySem.W.Frag} {mg : Str → Option Value} {W : WX} {σ : L2.St} {H : Hp} {k : Bool → DEnv → Store → R Bool} {Q : Bool → Hp → Prop} {Q' : Bool → Hp → Prop} (h : tMT K mg W (fun env st => (ca env st).bind fun d st1 => k d env st1) σ H Q)
    (f : ∀ c μ env st H1, Rel K mg μ H1 st → REnv K mg μ H1 env σ → Aft K mg W σ μ H1 (k c env st) (fun b _ _ H' => Q b H') → Q' c H1) : tMT K mg W ca σ H Q' := by
  obtain ⟨μ, env, st, r, re, a⟩ := h
  refine ⟨μ, env, st, r, re, (Aft.bind a).imp fun d st1 μ1 H1 x r1 a1 => ?_⟩
  exact f d μ1 env st1 H1 r1 (re.ext x) a1
theorem sw_and (ha : ST X a ca) (hb : SW X (.BoolOp .And (b :: rest) pos) cb) : SW X (.BoolOp .And (a :: b :: rest) pos) (cAnd ca cb) := fun pn xe W tk => by
  refine PW.imp (pw_and (ha pn xe W tk) (hb pn xe W tk)) fun σ H Q h => ?_
  refine tMT_seq h fun c μ env st H1 r re a => ?_
  cases c with
  | true => exact ⟨μ, env, st, r, re, a⟩
  | false => exact a μ H1 Ext.refl r
theorem sw_or (ha : ST X a ca) (hb : SW X (.BoolOp .Or (b :: rest) pos) cb) : SW X (.BoolOp .Or (a :: b :: rest) pos) (cOr ca cb) := fun pn xe W tk => by
  refine PW.imp (pw_or (ha pn xe W tk) (hb pn xe W tk)) fun σ H Q h => ?_
  refine tMT_seq h fun c μ env st H1 r re a => ?_
  cases c with
  | false => exact ⟨μ, env, st, r, re, a⟩
  | true => exact a μ H1 Ext.refl r
theorem SW.st (h : SW X e ca) : ST X e ca := fun pn xe W tk => (h pn xe W tk).pt
theorem st_not (ha : ST X a ca) : ST X (.UnaryOp .Not a pos) (cNot ca) := fun pn xe W tk => by
  refine PT.imp (pt_not (ha pn xe W tk)) fun σ H Q h => ?_
  exact tMT_seq h fun c μ env st H1 r re a => a μ H1 Ext.refl r
/-! as values -/
def eAnd (a b : ME) : ME := fun env st => (a env st).bind fun d st1 => match d with
  | .bl true => b env st1
  | .bl false => .ok (.bl false) st1
  | _ => .bad
def eOr (a b : ME) : ME := fun env st => (a env st).bind fun d st1 => match d with
  | .bl true => .ok (.bl true) st1
  | .bl false => b env st1
  | _ => .bad
def eNot (a : ME) : ME := fun env st => (a env st).bind fun d st1 => match d with
  | .bl b => .ok (.bl (!b)) st1
  | _ => .bad
def eIf (c : MT) (a b : ME) : ME := fun env st => (c env st).bind fun d st1 => if d = true then a env st1 else b env st1
theorem se_one {op} (h : SE X a ma) : SE X (.BoolOp op [a] pos) ma := fun pn xe W tk => pe_one (h pn xe W tk)
theorem se_and (ha : SE X a ma) (hb : SE X (.BoolOp .And (b :: rest) pos) mb) : SE X (.BoolOp .And (a :: b :: rest) pos) (eAnd ma mb) := fun pn xe W tk => by
  refine PE.imp (pe_and (ha pn xe W tk) (hb pn xe W tk)) fun σ H Q h => ?_
  refine tM_seq h fun d v μ env st H1 r re hv a => ?_
  cases d with
  | bl c =>
    cases hv
    refine ⟨c, rfl, ?_⟩
    cases c with
    | true => exact ⟨μ, env, st, r, re, a⟩
    | false => exact a μ H1 Ext.refl r _ rfl
  | _ => exact a.elim
theorem se_or (ha : SE X a ma) (hb : SE X (.BoolOp .Or (b :: rest) pos) mb) : SE X (.BoolOp .Or (a :: b :: rest) pos) (eOr ma mb) := fun pn xe W tk => by
  refine PE.imp (pe_or (ha pn xe W tk) (hb pn xe W tk)) fun σ H Q h => ?_
  refine tM_seq h fun d v μ env st H1 r re hv a => ?_
  cases d with
  | bl c =>
    cases hv
    refine ⟨c, rfl, ?_⟩
    cases c with
    | false => exact ⟨μ, env, st, r, re, a⟩
    | true => exact a μ H1 Ext.refl r _ rfl
  | _ => exact a.elim
theorem se_not (ha : SE X a ma) : SE X (.UnaryOp .Not a pos) (eNot ma) := fun pn xe W tk => by
  refine PE.imp (pe_not (ha pn xe W tk)) fun σ H Q h => ?_
  refine tM_seq h fun d v μ env st H1 r re hv a => ?_
  cases d with
  | bl c =>
    cases hv
    exact ⟨c, rfl, a μ H1 Ext.refl r _ rfl⟩
  | _ => exact a.elim
theorem se_if {c : Expr} {cc : MT} (hc : ST X c cc) (ha : SE X a ma) (hb : SE X b mb) : SE X (.IfExp c a b pos) (eIf cc ma mb) := fun pn xe W tk => by
  refine PE.imp (pe_ifExp (hc pn xe W tk) (ha pn xe W tk) (hb pn xe W tk)) fun σ H Q h => ?_
  obtain ⟨μ, env, st, r, re, a⟩ := h
  refine ⟨μ, env, st, r, re, (Aft.bind a).imp fun d st1 μ1 H1 x r1 a1 => ?_⟩
  cases d with
  | true => exact ⟨μ1, env, st1, r1, re.ext x, a1⟩
  | false => exact ⟨μ1, env, st1, r1, re.ext x, a1⟩
end
end T5
namespace T5
open PySem PySem.Spec PyProof.Rows L2
variable [TabC]
/-! ### statements -/
abbrev MS := DEnv → Store → SR
def SR.seq (r : SR) (f : DEnv → Store → SR) : SR := match r with
  | .nx e st => f e st
  | r => r
@[simp] theorem seq_nx {e : DEnv} {st : Store} {f : DEnv → Store → SR} : (SR.nx e st).seq f = f e st := rfl
@[simp] theorem seq_rt {d : D} {st : Store} {f : DEnv → Store → SR} : (SR.rt d st).seq f = .rt d st := rfl
@[simp] theorem seq_bk {e : DEnv} {st : Store} {f : DEnv → Store → SR} : (SR.bk e st).seq f = .bk e st := rfl
@[simp] theorem seq_ct {e : DEnv} {st : Store} {f : DEnv → Store → SR} : (SR.ct e st).seq f = .ct e st := rfl
@[simp] theorem seq_ex {c ks ds} {e : DEnv} {st : Store} {f : DEnv → Store → SR} : (SR.ex c ks ds e st).seq f = .ex c ks ds e st := rfl
@[simp] theorem seq_bad {f : DEnv → Store → SR} : SR.bad.seq f = .bad := rfl
def R.toS {α : Type} (r : R α) (env : DEnv) (f : α → Store → SR) : SR := match r with
  | .ok a st => f a st
  | .ex c ks ds st => .ex c ks ds env st
  | .bad => .bad
@[simp] theorem toS_ok {α : Type} {a : α} {env : DEnv} {st : Store} {f : α → Store → SR} : (R.ok a st).toS env f = f a st := rfl
@[simp] theorem toS_ex {α : Type} {c ks ds} {env : DEnv} {st : Store} {f : α → Store → SR} : (R.ex c ks ds st : R α).toS env f = .ex c ks ds env st := rfl
@[simp] theorem toS_bad {α : Type} {env : DEnv} {f : α → Store → SR} : (R.bad : R α).toS env f = .bad := rfl
def AftS (K : PySem.W.Frag) (mg : Str → Option Value) (W : WX) (E : Ends) (μ : Mu) (H : Hp) (r : SR) : Prop := match r with
  | .nx e st => ∀ μ' H' σ', Ext μ H μ' H' → Rel K mg μ' H' st → REnv K mg μ' H' e σ' → E.nx σ' H'
  | .rt d st => ∀ μ' H' v, Ext μ H μ' H' → Rel K mg μ' H' st → Rep K mg μ' H' d v → E.rt v H'
  | .bk e st => ∀ μ' H' σ', Ext μ H μ' H' → Rel K mg μ' H' st → REnv K mg μ' H' e σ' → E.bk σ' H'
  | .ct e st => ∀ μ' H' σ', Ext μ H μ' H' → Rel K mg μ' H' st → REnv K mg μ' H' e σ' → E.ct σ' H'
  | .ex c ks ds e st => ∀ μ' H' σ' C dx us, Ext μ H μ' H' → Rel K mg μ' H' st → REnv K mg μ' H' e σ' → mg (Str.ofString c) = some (.ref C) → ks.length = us.length → H' dx = some (.xd ((ks.map Str.ofString).zip us)) → dx ∉ μ' → RepL K mg μ' H' ds us → W (.ref C) (some dx) σ' H'
  | .bad => False
section
variable {K : PySem.W.Frag} {mg : Str → Option Value} {W : WX} {E E' : Ends} {μ μ1 : Mu} {H H1 : Hp} {r : SR}
theorem AftS.ext (x : Ext μ H μ1 H1) (h : AftS K mg W E μ H r) : AftS K mg W E μ1 H1 r := by
  cases r with
  | nx e st => exact fun μ' H' σ' e q1 q2 => h μ' H' σ' (x.trans e) q1 q2
  | rt d st => exact fun μ' H' v e q1 q2 => h μ' H' v (x.trans e) q1 q2
  | bk e st => exact fun μ' H' σ' e q1 q2 => h μ' H' σ' (x.trans e) q1 q2
  | ct e st => exact fun μ' H' σ' e q1 q2 => h μ' H' σ' (x.trans e) q1 q2
  | ex c ks ds e st => exact fun μ' H' σ' C dx us e => h μ' H' σ' C dx us (x.trans e)
  | bad => exact h
theorem AftS.seq {f : DEnv → Store → SR} (h : AftS K mg W E μ H (r.seq f)) : AftS K mg W { E with nx := fun σ' H' => ∃ μ env st, Rel K mg μ H' st ∧ REnv K mg μ H' env σ' ∧ AftS K mg W E μ H' (f env st) } μ H r := by
  cases r with
  | nx e st => exact fun μ' H' σ' e q1 q2 => ⟨μ', _, _, q1, q2, h.ext e⟩
  | rt d st => exact h
  | bk e st => exact h
  | ct e st => exact h
  | ex c ks ds e st => exact h
  | bad => exact h
theorem AftS.ofR {α : Type} {ra : R α} {env : DEnv} {σ : L2.St} {f : α → Store → SR} (re : REnv K mg μ H env σ) (h : AftS K mg W E μ H (ra.toS env f)) : Aft K mg W σ μ H ra fun a st' μ' H' => AftS K mg W E μ' H' (f a st') := by
  cases ra with
  | ok a st => exact fun μ' H' e _ => AftS.ext e h
  | ex c ks ds st => exact fun μ' H' C dx us e q1 q2 q3 q4 q5 q6 => h μ' H' σ C dx us e q1 (re.ext e) q2 q3 q4 q5 q6
  | bad => exact h
end
def tS (K : PySem.W.Frag) (mg : Str → Option Value) (W : WX) (m : MS) : TS := fun E σ H => ∃ μ env st, Rel K mg μ H st ∧ REnv K mg μ H env σ ∧ AftS K mg W E μ H (m env st)
def SS (X : Cx) (s : Stmt) (m : MS) : Prop := ∀ pn xe W, Takes (X.tr pn xe) W → PassesOwn (model X.prog X.w) X.A X.env xe → PS (X.tr pn xe) s (tS X.K X.mg W m)
def SSs (X : Cx) (s : List Stmt) (m : MS) : Prop := ∀ pn xe W, Takes (X.tr pn xe) W → PassesOwn (model X.prog X.w) X.A X.env xe → PSs (X.tr pn xe) s (tS X.K X.mg W m)
section
variable {X : Cx} {s : Stmt} {ss : List Stmt} {t t' : TS} {tg : Expr} {g g' : TG} {gs gs' : TGs}
theorem PS.imp (h : PS X s t) (f : ∀ E σ H, t' E σ H → t E σ H) : PS X s t' := ⟨fun pins s σ H E I q => h.run pins s σ H E I (f E σ H q)⟩
theorem PSs.imp (h : PSs X ss t) (f : ∀ E σ H, t' E σ H → t E σ H) : PSs X ss t' := ⟨fun pins s σ H E I q => h.run pins s σ H E I (f E σ H q)⟩
theorem PG.imp (h : PG X tg g) (f : ∀ v σ H Q, g' v σ H Q → g v σ H Q) : PG X tg g' := ⟨fun pins s σ H v u Q I r q => h.run pins s σ H v u Q I r (f v σ H Q q)⟩
theorem PGs.imp {ts : List Expr} (h : PGs X ts gs) (f : ∀ v σ H Q, gs' v σ H Q → gs v σ H Q) : PGs X ts gs' := ⟨fun pins s σ H v u Q I r q => h.run pins s σ H v u Q I r (f v σ H Q q)⟩
end
def sPass : MS := fun env st => .nx env st
def sSeq (a b : MS) : MS := fun env st => (a env st).seq b
def sBrk : MS := fun env st => .bk env st
def sCnt : MS := fun env st => .ct env st
def sRet (m : ME) : MS := fun env st => (m env st).toS env fun d st1 => .rt d st1
def sRetN : MS := fun _ st => .rt .non st
def sExp (m : ME) : MS := fun env st => (m env st).toS env fun _ st1 => .nx env st1
def sIf (c : MT) (a b : MS) : MS := fun env st => (c env st).toS env fun d st1 => if d = true then a env st1 else b env st1
def sNever : MS := fun _ _ => .bad
section
variable {X : Cx} {s : Stmt} {rest : List Stmt} {e : Expr} {a b : MS} {m : ME} {pos : Pos}
theorem ss_nil : SSs X [] sPass := fun pn xe W _ _ => PSs.imp pss_nil fun E σ H h => by
  obtain ⟨μ, env, st, r, re, q⟩ := h
  exact q μ H σ Ext.refl r re
theorem ss_cons (h1 : SS X s a) (h2 : SSs X rest b) : SSs X (s :: rest) (sSeq a b) := fun pn xe W tk hp => by
  refine PSs.imp (pss_cons (h1 pn xe W tk hp) (h2 pn xe W tk hp)) fun E σ H h => ?_
  obtain ⟨μ, env, st, r, re, q⟩ := h
  exact ⟨μ, env, st, r, re, AftS.seq q⟩
theorem ss_one (h1 : SS X s a) : SSs X [s] a := fun pn xe W tk hp => pss_one (h1 pn xe W tk hp)
theorem tM_of {K : PySem.W.Frag} {mg : Str → Option Value} {W : WX} {E : Ends} {σ : L2.St} {H : Hp} {k : D → DEnv → Store → SR} {Q : VK} (h : tS K mg W (fun env st => (m env st).toS env fun d st1 => k d env st1) E σ H)
    (f : ∀ d v μ env st H1, Rel K mg μ H1 st → REnv K mg μ H1 env σ → Rep K mg μ H1 d v → AftS K mg W E μ H1 (k d env st) → Q v H1) : tM K mg W m σ H Q := by
  obtain ⟨μ, env, st, r, re, q⟩ := h
  refine ⟨μ, env, st, r, re, (AftS.ofR re q).imp fun d st1 μ1 H1 x r1 q1 v hv => ?_⟩
  exact f d v μ1 env st1 H1 r1 (re.ext x) hv q1
theorem ss_ret (he : SE X e m) : SS X (.Return (some e) pos) (sRet m) := fun pn xe W tk _ => by
  refine PS.imp (ps_ret (he pn xe W tk)) fun E σ H h => ?_
  exact tM_of h fun d v μ env st H1 r re hv q => q μ H1 v Ext.refl r hv
theorem ss_exp (he : SE X e m) (hs : swapsWith e none pos.line X.env = pure false := by rfl) : SS X (.Expr e pos) (sExp m) := fun pn xe W tk _ => by
  refine PS.imp (ps_expr (he pn xe W tk) hs) fun E σ H h => ?_
  exact tM_of h fun d v μ env st H1 r re hv q => q μ H1 σ Ext.refl r re
theorem ss_if {c : Expr} {cc : MT} {sa sb : List Stmt} (hc : ST X c cc) (ha : SSs X sa a) (hb : SSs X sb b) : SS X (.If c sa sb pos) (sIf cc a b) := fun pn xe W tk hp => by
  refine PS.imp (ps_if (hc pn xe W tk) (ha pn xe W tk hp) (hb pn xe W tk hp)) fun E σ H h => ?_
  obtain ⟨μ, env, st, r, re, q⟩ := h
  refine ⟨μ, env, st, r, re, (AftS.ofR re q).imp fun d st1 μ1 H1 x r1 q1 => ?_⟩
  cases d with
  | true => exact ⟨μ1, env, st1, r1, re.ext x, q1⟩
  | false => exact ⟨μ1, env, st1, r1, re.ext x, q1⟩
end
/-! ### targets -/
/-- names and tuples of names -/
abbrev MG0 := D → DEnv → Option DEnv
abbrev MGs0 := List D → DEnv → Option DEnv
/-- nothing is stored but at these places -/
def Off (sl : List Nat) (σ σ' : L2.St) : Prop := σ'.length = σ.length ∧ ∀ j, j ∉ sl → σ'[j]? = σ[j]?
theorem Off.refl {sl : List Nat} {σ : L2.St} : Off sl σ σ := ⟨rfl, fun _ _ => rfl⟩
theorem Off.trans {a b : List Nat} {σ σ1 σ2 : L2.St} (h : Off a σ σ1) (q : Off b σ1 σ2) : Off (a ++ b) σ σ2 := ⟨q.1.trans h.1, fun j n => by
  have n1 : j ∉ a := fun z => n (List.mem_append_left _ z)
  have n2 : j ∉ b := fun z => n (List.mem_append_right _ z)
  exact (q.2 j n2).trans (h.2 j n1)⟩
theorem Off.set {σ : L2.St} {i : Nat} {v : Option V} : Off [i] σ (σ.set i v) := ⟨by simp, fun j n => List.getElem?_set_ne (fun z => n (by simp [z]))⟩
def gM (K : PySem.W.Frag) (mg : Str → Option Value) (g : MG0) (sl : List Nat) : TG := fun v σ H Q => ∃ μ env d env', REnv K mg μ H env σ ∧ Rep K mg μ H d v ∧ g d env = some env' ∧ ∀ σ', REnv K mg μ H env' σ' → Off sl σ σ' → Q σ' H
def gMs (K : PySem.W.Frag) (mg : Str → Option Value) (g : MGs0) (sl : List Nat) : TGs := fun vs σ H Q => ∃ μ env ds env', REnv K mg μ H env σ ∧ RepL K mg μ H ds vs ∧ g ds env = some env' ∧ ∀ σ', REnv K mg μ H env' σ' → Off sl σ σ' → Q σ' H
def SGs (X : Cx) (tgs : List Expr) (g : MGs0) (sl : List Nat) : Prop := ∀ pn xe, PGs (X.tr pn xe) tgs (gMs X.K X.mg g sl)
def SG (X : Cx) (tg : Expr) (g : MG0) (sl : List Nat) : Prop := ∀ pn xe, PG (X.tr pn xe) tg (gM X.K X.mg g sl)
def gN (i : Nat) : MG0 := fun d env => some (env.set i (some d))
def gsNil : MGs0 := fun ds env => match ds with
  | [] => some env
  | _ => none
def gsCons (g : MG0) (gs : MGs0) : MGs0 := fun ds env => match ds with
  | d :: ds => (g d env).bind fun env1 => gs ds env1
  | [] => none
def gT (gs : MGs0) : MG0 := fun d env => match d with
  | .tup l => gs l env
  | _ => none
def sAsg (m : ME) (g : MG0) : MS := fun env st => (m env st).toS env fun d st1 => match g d env with
  | some env2 => .nx env2 st1
  | none => .bad
def GLen (n : Nat) (gs : MGs0) : Prop := ∀ ds env env', gs ds env = some env' → ds.length = n
theorem glen_nil : GLen 0 gsNil := fun ds env env' h => by
  cases ds with
  | nil => rfl
  | cons d ds => cases h
theorem glen_cons {n : Nat} {g : MG0} {gs : MGs0} (q : GLen n gs) : GLen (n + 1) (gsCons g gs) := fun ds env env' h => by
  cases ds with
  | nil => cases h
  | cons d ds =>
    obtain ⟨e1, _, h2⟩ := Option.bind_eq_some_iff.mp (show ((g d env).bind fun env1 => gs ds env1) = some env' from h)
    rw [List.length_cons, q ds e1 env' h2]
section
variable {X : Cx} {tg : Expr} {tgs : List Expr} {g : MG0} {gs : MGs0} {sl sls : List Nat} {pos : Pos}
theorem sg_name {i : Nat} {x : Str} (hN : X.N.Nodup) (hi : X.N[i]? = some x) (hx : Loc X.env.scope x) (hf : X.fn x = true ∨ X.env.scope.names.lookup x = some .local := by first | exact .inl rfl | exact .inr rfl | assumption)   : SG X (.Name x pos) (gN i) [i] := fun pn xe => by
  refine PG.imp (pg_name (X := X.tr pn xe) (i := i) hN hi hx hf) fun v σ H Q h => ?_
  obtain ⟨μ, env, d, env', re, hd, e, a⟩ := h
  cases e
  exact a _ (re.set hd i) Off.set
theorem sgs_nil : SGs X [] gsNil [] := fun pn xe => by
  refine PGs.imp pgs_nil fun vs σ H Q h => ?_
  obtain ⟨μ, env, ds, env', re, hd, e, a⟩ := h
  cases ds with
  | nil =>
    cases e
    exact ⟨hd, a _ re Off.refl⟩
  | cons d ds => cases e
theorem sgs_cons {e : Expr} {es : List Expr} (h1 : SG X e g sl) (h2 : SGs X es gs sls) (hs : (assignEach (e :: es) X.env).map (·.2) = assign e X.env :: (assignEach es X.env).map (·.2) := by rfl)   : SGs X (e :: es) (gsCons g gs) (sl ++ sls) := fun pn xe => by
  refine PGs.imp (pgs_cons (h1 pn xe) (h2 pn xe) hs) fun vs σ H Q h => ?_
  obtain ⟨μ, env, ds, env', re, hd, e, a⟩ := h
  cases ds with
  | nil => cases e
  | cons d ds =>
    obtain ⟨v, vr, ev, hv, hvs⟩ := hd
    obtain ⟨e1, q1, q2⟩ := Option.bind_eq_some_iff.mp (show ((g d env).bind fun env1 => gs ds env1) = some env' from e)
    exact ⟨v, vr, ev, μ, env, d, e1, re, hv, q1, fun σ' re' o1 => ⟨μ, e1, ds, env', re', hvs, q2, fun σ2 re2 o2 => a σ2 re2 (o1.trans o2)⟩⟩
theorem sg_tup {k : Nat} {n : Nat} (hc : X.calm = true) (h : SGs X tgs gs sl) (hl : GLen n gs) (hn : (assignEach tgs X.env).length = n := by rfl) (hst : (assignEach tgs X.env).findIdx? (·.1) = none := by rfl)   : SG X (.Tuple tgs k pos) (gT gs) sl := fun pn xe => by
  refine PG.imp (pg_tup (X := X.tr pn xe) hc (h pn xe) hn hst) fun v σ H Q h => ?_
  obtain ⟨μ, env, d, env', re, hd, e, a⟩ := h
  cases d with
  | tup l =>
    obtain ⟨p, vs, ev, n', rd, hl2⟩ := hd
    exact ⟨p, vs, ev, .inl (.inl rd), hl2.length.symm.trans (hl l env env' e), μ, env, l, env', re, hl2, e, a⟩
  | _ => cases e
theorem ss_set {i : Nat} {x : Str} {e : Expr} {m : ME} {pos' : Pos} (hN : X.N.Nodup) (hi : X.N[i]? = some x) (hx : Loc X.env.scope x) (he : SE X e m) (hs : swapsWith e (some (.Name x pos')) pos.line X.env = pure false := by rfl) (hf : X.fn x = true ∨ X.env.scope.names.lookup x = some .local := by first | exact .inl rfl | exact .inr rfl | assumption) :
    SS X (.Assign [.Name x pos'] e pos) (sAsg m (gN i)) := fun pn xe W tk _ => by
  refine PS.imp (ps_set (X := X.tr pn xe) (i := i) hN hi hx (he pn xe W tk) hs hf) fun E σ H h => ?_
  refine tM_of h fun d v μ env st H1 r re hv q => ?_
  exact q μ H1 _ Ext.refl r (re.set hv i)
end
end T5
namespace T5
open PySem PySem.Spec PyProof.Rows L2
variable [TabC]
/-! ### loops -/
abbrev MI := DEnv → Store → R (List D)
/-- an iterator yields these -/
def ItD (K : PySem.W.Frag) (mg : Str → Option Value) (J : It) (μ0 : Mu) (H0 : Hp) (ds : List D) : Prop :=
  ∀ (i : Nat) μ H st, Ext μ0 H0 μ H → Rel K mg μ H st → (∀ d, ds[i]? = some d → J.go i H ∧ ∀ x H', J.yld i H x H' → Same H H' ∧ Rep K mg μ H' d x) ∧ (ds.length ≤ i → J.stop i H)
def iM (K : PySem.W.Frag) (mg : Str → Option Value) (W : WX) (m : MI) : TI := fun σ H Q => ∃ μ env st, Rel K mg μ H st ∧ REnv K mg μ H env σ ∧ Aft K mg W σ μ H (m env st) fun ds _ μ' H' => ∀ J, ItD K mg J μ' H' ds → Q J H'
def SI (X : Cx) (tg e : Expr) (m : MI) : Prop := ∀ pn xe W, Takes (X.tr pn xe) W → PI (X.tr pn xe) tg e (iM X.K X.mg W m)
theorem PI.imp {X : Cx} {tg e : Expr} {t t' : TI} (h : PI X tg e t) (f : ∀ σ H Q, t' σ H Q → t σ H Q) : PI X tg e t' := ⟨fun pins s σ H Q I q => h.run pins s σ H Q I (f σ H Q q)⟩
def SR.loop (r : SR) (k : DEnv → Store → SR) : SR := match r with
  | .nx e st => k e st
  | .ct e st => k e st
  | .bk e st => .nx e st
  | r => r
@[simp] theorem loop_nx {e : DEnv} {st : Store} {f : DEnv → Store → SR} : (SR.nx e st).loop f = f e st := rfl
@[simp] theorem loop_rt {d : D} {st : Store} {f : DEnv → Store → SR} : (SR.rt d st).loop f = .rt d st := rfl
@[simp] theorem loop_bk {e : DEnv} {st : Store} {f : DEnv → Store → SR} : (SR.bk e st).loop f = .nx e st := rfl
@[simp] theorem loop_ct {e : DEnv} {st : Store} {f : DEnv → Store → SR} : (SR.ct e st).loop f = f e st := rfl
@[simp] theorem loop_ex {c ks ds} {e : DEnv} {st : Store} {f : DEnv → Store → SR} : (SR.ex c ks ds e st).loop f = .ex c ks ds e st := rfl
@[simp] theorem loop_bad {f : DEnv → Store → SR} : SR.bad.loop f = .bad := rfl
theorem AftS.loop {K : PySem.W.Frag} {mg : Str → Option Value} {W : WX} {E : Ends} {μ : Mu} {H : Hp} {r : SR} {k : DEnv → Store → SR} {N : L2.St → Hp → Prop} (h : AftS K mg W E μ H (r.loop k))
    (f : ∀ μ' H' σ' e st, Ext μ H μ' H' → Rel K mg μ' H' st → REnv K mg μ' H' e σ' → AftS K mg W E μ' H' (k e st) → N σ' H') : AftS K mg W { E with nx := N, ct := N, bk := E.nx } μ H r := by
  cases r with
  | nx e st => exact fun μ' H' σ' x q1 q2 => f μ' H' σ' e st x q1 q2 (h.ext x)
  | ct e st => exact fun μ' H' σ' x q1 q2 => f μ' H' σ' e st x q1 q2 (h.ext x)
  | bk e st => exact h
  | rt d st => exact h
  | ex c ks ds e st => exact h
  | bad => exact h
def loopS (g : MG0) (b : MS) : List D → DEnv → Store → SR
  | [], env, st => .nx env st
  | d :: ds, env, st => match g d env with
    | some env1 => (b env1 st).loop (loopS g b ds)
    | none => .bad
def sFor (mi : MI) (g : MG0) (b : MS) : MS := fun env st => (mi env st).toS env fun ds st1 => loopS g b ds env st1
def whileS (c : MT) (b : MS) : Nat → DEnv → Store → SR
  | 0, _, _ => .bad
  | n + 1, env, st => (c env st).toS env fun d st1 => if d = true then (b env st1).loop (whileS c b n) else .nx env st1
def sWhile (n : Nat) (c : MT) (b : MS) : MS := whileS c b n
section
variable {X : Cx} {tg iter : Expr} {body : List Stmt} {mi : MI} {g : MG0} {sl : List Nat} {mb : MS} {pos : Pos}
theorem ss_for (hc : X.calm = true) (hi : SI X tg iter mi) (hg : SG X tg g sl) (hb : SSs X body mb) (hs : ∀ x, foldedSetIterable iter X.env x = pure x := by intro _; rfl) : SS X (.For tg iter body [] pos) (sFor mi g mb) := fun pn xe W tk hp => by
  refine PS.imp (ps_for (X := X.tr pn xe) hp hc (hi pn xe W tk) (hg pn xe) (hb pn xe W tk hp) hs) fun E σ H h => ?_
  obtain ⟨μ, env, st, r, re, q⟩ := h
  refine ⟨μ, env, st, r, re, (AftS.ofR re q).imp fun ds st1 μ1 H1 x1 r1 q1 J hJ => ?_⟩
  refine ⟨fun i n σ H => n = ds.length - i ∧ i ≤ ds.length ∧ ∃ μ env st, Ext μ1 H1 μ H ∧ Rel X.K X.mg μ H st ∧ REnv X.K X.mg μ H env σ ∧ AftS X.K X.mg W E μ H (loopS g mb (ds.drop i) env st),
    ⟨_, rfl, Nat.zero_le _, μ1, env, st1, Ext.refl, r1, re.ext x1, q1⟩, ?_⟩
  rintro i n σ2 H2 ⟨rfl, hi2, μ2, env2, st2, x2, r2, re2, q2⟩
  obtain ⟨go, stop⟩ := hJ i μ2 H2 st2 x2 r2
  by_cases hlt : i < ds.length
  · obtain ⟨g1, g2⟩ := go ds[i] (List.getElem?_eq_getElem hlt)
    rw [List.drop_eq_getElem_cons hlt] at q2
    refine .inr ⟨g1, fun σ' H' => (ds.length - (i + 1) = ds.length - (i + 1) ∧ i + 1 ≤ ds.length ∧ ∃ μ env st, Ext μ1 H1 μ H' ∧ Rel X.K X.mg μ H' st ∧ REnv X.K X.mg μ H' env σ' ∧ AftS X.K X.mg W E μ H' (loopS g mb (ds.drop (i + 1)) env st)),
      fun σ' H' hN => ⟨ds.length - (i + 1), by omega, hN⟩, fun v H' hy => ?_⟩
    obtain ⟨sm, hv⟩ := g2 v H' hy
    have x3 : Ext μ2 H2 μ2 H' := Ext.same r2 sm
    unfold loopS at q2
    cases e2 : g ds[i] env2 with
    | none => rw [e2] at q2; exact q2.elim
    | some env3 =>
      rw [e2] at q2
      refine ⟨μ2, env2, ds[i], env3, re2.ext x3, hv, e2, fun σ3 re3 _ => ?_⟩
      refine ⟨μ2, env3, st2, r2.same sm, re3, AftS.loop (q2.ext x3) fun μ4 H4 σ4 e4 st4 x4 r4 re4 q4 => ?_⟩
      exact ⟨rfl, hlt, μ4, e4, st4, (x2.trans x3).trans x4, r4, re4, q4⟩
  · have e : i = ds.length := by omega
    subst e
    rw [List.drop_length] at q2
    exact .inl ⟨stop (Nat.le_refl _), q2 μ2 H2 σ2 Ext.refl r2 re2⟩
theorem ss_while {c : Expr} {cc : MT} (n : Nat) (hc : ST X c cc) (hb : SSs X body mb) : SS X (.While c body [] pos) (sWhile n cc mb) := fun pn xe W tk hp => by
  refine PS.imp (ps_while (X := X.tr pn xe) hp (hc pn xe W tk) (hb pn xe W tk hp)) fun E σ H h => ?_
  refine ⟨fun n σ H => tS X.K X.mg W (whileS cc mb n) E σ H, ⟨n, h⟩, fun n σ H h => ?_⟩
  obtain ⟨μ, env, st, r, re, q⟩ := h
  cases n with
  | zero => exact q.elim
  | succ n =>
    have q' : AftS X.K X.mg W E μ H ((cc env st).toS env fun d st1 => if d = true then (mb env st1).loop (whileS cc mb n) else .nx env st1) := q
    refine ⟨μ, env, st, r, re, (AftS.ofR re q').imp fun d st1 μ1 H1 x r1 q1 => ?_⟩
    cases d with
    | true =>
      refine ⟨fun σ' H' => tS X.K X.mg W (whileS cc mb n) E σ' H', fun σ' H' hN => ⟨n, Nat.lt_succ_self n, hN⟩, ?_⟩
      exact ⟨μ1, env, st1, r1, re.ext x, AftS.loop q1 fun μ4 H4 σ4 e4 st4 x4 r4 re4 q4 => ⟨μ4, e4, st4, r4, re4, q4⟩⟩
    | false => exact q1 μ1 H1 σ Ext.refl r1 (re.ext x)
end
/-! ### what is walked -/
def iSeq (m : ME) : MI := fun env st => (m env st).bind fun d st1 => match d with
  | .tup l => .ok l st1
  | .lst l => .ok l st1
  | .scr l => .ok l st1
  | _ => .bad
section
variable {X : Cx} {tg e : Expr} {m : ME} {ma : MA} {pos p : Pos}
theorem RepL.get {K : PySem.W.Frag} {mg : Str → Option Value} {μ : Mu} {H : Hp} : ∀ {ds : List D} {vs : List V} {i : Nat} {d : D}, RepL K mg μ H ds vs → ds[i]? = some d → ∃ v, vs[i]? = some v ∧ Rep K mg μ H d v
  | [], _, _, _, _, h => by simp at h
  | d :: ds, vs, 0, d', ⟨v, r, e, h1, h2⟩, h => by
    simp at h
    subst h
    exact ⟨v, by rw [e]; rfl, h1⟩
  | d :: ds, vs, i + 1, d', ⟨v, r, e, h1, h2⟩, h => by
    obtain ⟨w, e1, e2⟩ := RepL.get (i := i) h2 (by simpa using h)
    exact ⟨w, by rw [e]; simpa using e1, e2⟩
theorem seq_list {K : PySem.W.Frag} {mg : Str → Option Value} {μ : Mu} {H : Hp} {l : List D} {v : V} (h : Rep K mg μ H (.lst l) v) : ∃ a vs, v = .ref a ∧ SqL K H a vs ∧ RepL K mg μ H l vs := by
  obtain ⟨a, vs, e, n, r, q⟩ := h
  exact ⟨a, vs, e, .inl (.inl r), q⟩
theorem seq_scr {K : PySem.W.Frag} {mg : Str → Option Value} {μ : Mu} {H : Hp} {l : List D} {v : V} (h : Rep K mg μ H (.scr l) v) : ∃ a vs, v = .ref a ∧ SqL K H a vs ∧ RepL K mg μ H l vs := by
  obtain ⟨a, vs, e, n, q⟩ := h
  refine ⟨a, vs, e, ?_, q⟩
  rcases n with ⟨_, o, n⟩ | n
  · exact .inl (.inr ⟨o, n⟩)
  · rcases n with (n | ⟨_, n⟩) | n
    · cases n
    · cases n
    · exact .inr n
theorem seq_tup {K : PySem.W.Frag} {mg : Str → Option Value} {μ : Mu} {H : Hp} {l : List D} {v : V} (h : Rep K mg μ H (.tup l) v) : ∃ a vs, v = .ref a ∧ SqT K H a vs ∧ RepL K mg μ H l vs := by
  obtain ⟨a, vs, e, n, r, q⟩ := h
  exact ⟨a, vs, e, .inl (.inl r), q⟩
theorem itd_list {K : PySem.W.Frag} {mg : Str → Option Value} {μ : Mu} {H : Hp} {l : List D} {a : Addr} (h : Rep K mg μ H (.lst l) (.ref a)) : ItD K mg (Itl K a) μ H l := fun i μ1 H1 st1 x r => by
  obtain ⟨b, vs, e, hs, hl⟩ := seq_list (h.ext x)
  cases e
  refine ⟨fun d hd => ?_, fun hi => ⟨vs, hs, by rw [← hl.length]; exact hi⟩⟩
  obtain ⟨v, e1, e2⟩ := hl.get hd
  refine ⟨⟨vs, v, hs, e1⟩, fun w H' hy => ?_⟩
  obtain ⟨e3, e4⟩ := hy
  rw [e3]
  have : w = v := Option.some.inj ((e4 vs hs).symm.trans e1)
  rw [this]
  exact ⟨Same.refl _, e2⟩
theorem itd_scr {K : PySem.W.Frag} {mg : Str → Option Value} {μ : Mu} {H : Hp} {l : List D} {a : Addr} (h : Rep K mg μ H (.scr l) (.ref a)) : ItD K mg (Itl K a) μ H l := fun i μ1 H1 st1 x r => by
  obtain ⟨b, vs, e, hs, hl⟩ := seq_scr (h.ext x)
  cases e
  refine ⟨fun d hd => ?_, fun hi => ⟨vs, hs, by rw [← hl.length]; exact hi⟩⟩
  obtain ⟨v, e1, e2⟩ := hl.get hd
  refine ⟨⟨vs, v, hs, e1⟩, fun w H' hy => ?_⟩
  obtain ⟨e3, e4⟩ := hy
  rw [e3]
  have : w = v := Option.some.inj ((e4 vs hs).symm.trans e1)
  rw [this]
  exact ⟨Same.refl _, e2⟩
theorem itd_tup {K : PySem.W.Frag} {mg : Str → Option Value} {μ : Mu} {H : Hp} {l : List D} {a : Addr} (h : Rep K mg μ H (.tup l) (.ref a)) : ItD K mg (Itt K a) μ H l := fun i μ1 H1 st1 x r => by
  obtain ⟨b, vs, e, hs, hl⟩ := seq_tup (h.ext x)
  cases e
  refine ⟨fun d hd => ?_, fun hi => ⟨vs, hs, by rw [← hl.length]; exact hi⟩⟩
  obtain ⟨v, e1, e2⟩ := hl.get hd
  refine ⟨⟨vs, v, hs, e1⟩, fun w H' hy => ?_⟩
  obtain ⟨e3, e4⟩ := hy
  rw [e3]
  have : w = v := Option.some.inj ((e4 vs hs).symm.trans e1)
  rw [this]
  exact ⟨Same.refl _, e2⟩
/-- iter(v), v a list, a tuple -/
theorem iter_list {pins : List (Addr × Obj)} {σ : L2.St} {H : Hp} {s : Shared} {a : Addr} {xs : List V} {Q : It → Hp → Prop} (I : Inv X pins σ H s) (hq : SqL X.K H a xs) (q : Q (Itl X.K a) H) : wpAny (model X.prog X.w) X.A (pyIter (.ref a)) (PIE X pins σ tg Q) X.xe s := by
  obtain ⟨its, rv, p, hz⟩ := I.list hq
  refine wpAny_pyIter_list p.isList ?_
  refine ⟨s.heap.objs.size, [s.heap.objs.size], _, _, H, rfl, I.kept (t' := s.toks) fun b o e => Heap.get?_push_of_some _ e, turn_list a _, ⟨_, Heap.get?_push_size _ rfl, rfl, rfl⟩, fun b hb => ?_, q⟩
  have e : b = s.heap.objs.size := by simpa using hb
  subst e
  exact I.fpOk (Nat.le_refl _) (I.hok.fresh (Nat.le_refl _))
theorem iter_tup {pins : List (Addr × Obj)} {σ : L2.St} {H : Hp} {s : Shared} {a : Addr} {xs : List V} {Q : It → Hp → Prop} (I : Inv X pins σ H s) (hq : SqT X.K H a xs) (q : Q (Itt X.K a) H) : wpAny (model X.prog X.w) X.A (pyIter (.ref a)) (PIE X pins σ tg Q) X.xe s := by
  obtain ⟨its, rv, p, hz⟩ := I.tuple hq
  refine wpAny_pyIter_tuple (show s.heap.IsTuple a its.toArray from p) ?_
  refine ⟨s.heap.objs.size, [s.heap.objs.size], _, _, H, rfl, I.kept (t' := s.toks) fun b o e => Heap.get?_push_of_some _ e, turn_tuple a _, ⟨_, Heap.get?_push_size _ rfl, rfl, rfl⟩, fun b hb => ?_, q⟩
  have e : b = s.heap.objs.size := by simpa using hb
  subst e
  exact I.fpOk (Nat.le_refl _) (I.hok.fresh (Nat.le_refl _))
theorem si_seq (he : SE X e m) : SI X tg e (iSeq m) := fun pn xe W tk => ⟨fun pins s σ H Q I h => by
  obtain ⟨μ, env, st, r, re, a⟩ := h
  refine thn ((he pn xe W tk).run pins s σ H (fun v H1 => ∃ d μ1 st1, Rel X.K X.mg μ1 H1 st1 ∧ Rep X.K X.mg μ1 H1 d v ∧ Aft X.K X.mg W σ μ1 H1 (match d with
    | .tup l => .ok l st1
    | .lst l => .ok l st1
    | .scr l => .ok l st1
    | _ => .bad) (fun ds _ μ' H' => ∀ J, ItD X.K X.mg J μ' H' ds → Q J H')) I ⟨μ, env, st, r, re, (Aft.bind a).imp fun d st1 μ1 H1 x r1 a1 v hv => ⟨d, μ1, st1, r1, hv, a1⟩⟩) fun u s1 ⟨v, H1, I1, rv, d, μ1, st1, r1, hv, a1⟩ => ?_
  cases d with
  | tup l =>
    obtain ⟨b, vs, e, hs, hl⟩ := seq_tup hv
    subst e
    cases rv
    exact iter_tup I1 hs (a1 μ1 H1 Ext.refl r1 _ (itd_tup hv))
  | lst l =>
    obtain ⟨b, vs, e, hs, hl⟩ := seq_list hv
    subst e
    cases rv
    exact iter_list I1 hs (a1 μ1 H1 Ext.refl r1 _ (itd_list hv))
  | scr l =>
    obtain ⟨b, vs, e, hs, hl⟩ := seq_scr hv
    subst e
    cases rv
    exact iter_list I1 hs (a1 μ1 H1 Ext.refl r1 _ (itd_scr hv))
  | _ => exact a1.elim⟩
/-- range(n), range(a, b) -/
def upTo (lo : Int) (n : Nat) : List D := (List.range n).map fun (i : Nat) => D.int (lo + (i : Int))
def iRng1 (m : MA) : MI := fun env st => (m env st).bind fun ds st1 => match ds with
  | [.int j] => if -(2 ^ 62) ≤ j ∧ j < 2 ^ 62 then .ok (upTo 0 j.toNat) st1 else .bad
  | _ => .bad
def iRng2 (m : MA) : MI := fun env st => (m env st).bind fun ds st1 => match ds with
  | [.int i, .int j] => if (-(2 ^ 62) ≤ i ∧ i < 2 ^ 62) ∧ -(2 ^ 62) ≤ j ∧ j < 2 ^ 62 then .ok (upTo i (j - i).toNat) st1 else .bad
  | _ => .bad
theorem itd_rng {K : PySem.W.Frag} {mg : Str → Option Value} {μ : Mu} {H : Hp} {lo : Int} {n : Nat} : ItD K mg (Itr lo n) μ H (upTo lo n) := fun i μ1 H1 st1 x r => by
  refine ⟨fun d hd => ?_, fun hi => ?_⟩
  · unfold upTo at hd
    rw [List.getElem?_map] at hd
    obtain ⟨k, e1, e2⟩ := Option.map_eq_some_iff.mp hd
    have hl := (List.getElem?_eq_some_iff.mp e1).1
    rw [List.length_range] at hl
    rw [List.getElem?_range hl] at e1
    cases e1
    subst e2
    refine ⟨hl, fun v H' hy => ?_⟩
    obtain ⟨e3, e4⟩ := hy
    rw [e3, e4]
    exact ⟨Same.refl _, rfl⟩
  · unfold upTo at hi
    rw [List.length_map, List.length_range] at hi
    exact hi
theorem si_rng1 {a : Expr} (hg : Gl X "range") (hm : X.mg "range" = none) (ha : SA X [a] ma) (hs : starEach [a] X.env = [(false, eval a X.env)] := by rfl) : SI X tg (.Call (.Name "range" p) [a] [] pos) (iRng1 ma) := fun pn xe W tk => by
  refine PI.imp (pi_range1 (X := X.tr pn xe) hg hm (ha pn xe W tk) hs) fun σ H Q h => ?_
  obtain ⟨μ, env, st, r, re, a⟩ := h
  refine ⟨μ, env, st, r, re, (Aft.bind a).imp fun ds st1 μ1 H1 x r1 a1 vs hv => ?_⟩
  split at a1
  · rename_i j
    split at a1
    · rename_i c
      obtain ⟨v, w, e, h1, h2⟩ := hv
      have e2 : w = [] := h2
      subst e2
      have e3 : v = .int j := h1
      subst e3
      exact ⟨j, e, c.1, c.2, a1 μ1 H1 Ext.refl r1 _ itd_rng⟩
    · exact a1.elim
  · exact a1.elim
end
/-! ### defs -/
abbrev MF := List D → Store → R D
def spM (K : PySem.W.Frag) (mg : Str → Option Value) (n : Nat) (m : MF) : Sp := fun vs H Q E => vs.length = n ∧ ∃ μ st ds, Rel K mg μ H st ∧ RepL K mg μ H ds vs ∧ Aft K mg (fun c d _ H' => E c d H') [] μ H (m ds st) fun d _ μ' H' => ∀ v, Rep K mg μ' H' d v → Q v H'
/-- a body run at arguments: N names, n parameters -/
def runF (N n : Nat) (b : MS) : MF := fun ds st => if ds.length = n then (match b (ds.map some ++ List.replicate (N - n) none) st with
  | .nx _ st1 => .ok .non st1
  | .rt d st1 => .ok d st1
  | .ex c ks us _ st1 => .ex c ks us st1
  | _ => .bad) else .bad
theorem renv_start {K : PySem.W.Frag} {mg : Str → Option Value} {μ : Mu} {H : Hp} {ds : List D} {vs : List V} {N : List Str} (h : RepL K mg μ H ds vs) : REnv K mg μ H (ds.map some ++ List.replicate (N.length - ds.length) none) (L2.start N vs) := by
  have hl := h.length
  refine ⟨by unfold L2.start; simp [hl], fun i d e => ?_⟩
  by_cases hi : i < ds.length
  · rw [List.getElem?_append_left (by simpa using hi), List.getElem?_map] at e
    obtain ⟨d', e1, e2⟩ := Option.map_eq_some_iff.mp e
    cases e2
    obtain ⟨v, e3, e4⟩ := h.get e1
    refine ⟨v, ?_, e4⟩
    unfold L2.start
    rw [List.getElem?_append_left (by simp; omega), List.getElem?_map, e3]
    rfl
  · rw [List.getElem?_append_right (by simpa using hi), List.getElem?_replicate] at e
    split at e <;> cases e
section
variable {P : Program} {w : World} {K : PySem.W.Frag} {mg : Str → Option Value} {base : Heap}
/-- no text of a nested thing is being made -/
abbrev Gd (A : Around) : Prop := A.guards = some []
theorem gd_deeper {A : Around} {env : Env} (h : Gd A) : Gd (A.deeper env) := h
theorem gd_make {A : Around} {C : Addr} {us : List Value} {kw : List (Str × Value)} (h : Gd A) : Gd (A.under (.builtin "type.__call__" ⟨.ref C :: us, kw⟩)) := by
  have e : (Code.builtin "type.__call__" ⟨.ref C :: us, kw⟩).guards = [] := by
    simp [Code.guards, Code.isGuard, guardIds]
  unfold Gd Around.under
  rw [e]
  exact h
/-- a def of the text that does as m tells -/
structure Fn (P : Program) (w : World) (K : PySem.W.Frag) (mg : Str → Option Value) (base : Heap) (k : Nat) (f : Addr) (ps : List Str) (m : MF) : Prop where
  run : ∀ {A : Around} {outer : List Env} {s : Shared} {H : Hp} {us : List Value} {vs : List V} {Q : VK} {E : XK}, Room k A → Gd A → Env0 P w K mg base A outer s H → Vals vs us → spM K mg ps.length m vs H Q E →
    codeAny (model P w) A (.call (.ref f) ⟨us, []⟩) (CR (L2.CX P w) outer P w H s Q E) s
  kp : PySem.W.keepIn K (.ref f) = true
theorem Fn.mono {j k : Nat} {f : Addr} {ps : List Str} {m : MF} (F : Fn P w K mg base j f ps m) (h : j ≤ k) : Fn P w K mg base k f ps m :=
  ⟨fun hr => F.run (hr.mono h), F.kp⟩
/-- a def that promises one thing promises another that it is never worse than -/
theorem Fn.imp {k : Nat} {f : Addr} {ps : List Str} {m m' : MF} (F : Fn P w K mg base k f ps m) (h : ∀ vs H Q E, spM K mg ps.length m' vs H Q E → spM K mg ps.length m vs H Q E) : Fn P w K mg base k f ps m' :=
  ⟨fun hr hq e r q => F.run hr hq e r (h _ _ _ _ q), F.kp⟩
/-- the code object of a def -/
def codeV (K : PySem.W.Frag) (f : Addr) : Value := match K.lookup f with
  | some o => (match o.data with
    | .func fd => fd.code
    | _ => .none)
  | none => .none
theorem fn_mk {x qual : Str} {pa : Arguments} {bd : List Stmt} {sc : Scope} {f : Addr} {fd : FuncData} {N ps : List Str} {k : Nat} {mb : MS} (F : FunD K x qual pa bd sc [] [] f fd) (S : FnScope N ps sc) (hb : Binds K fd ps [])
    (h : ∀ (cdv : Value) (A : Around) (outer : List Env) (s : Shared) (H : Hp) (E : XK), codeV K f = cdv → Room k (A.deeper (envOfC qual sc s.heap.objs.size f cdv)) → Gd (A.deeper (envOfC qual sc s.heap.objs.size f cdv)) → SSs (cxOf (L2.CX P w) P w K mg base N qual sc f cdv A outer s H E) bd mb) :
    Fn P w K mg base (k + 1) f ps (runF N.length ps.length mb) := by
  refine ⟨fun {A outer s H us vs Q E} hr hq e0 r hsp => ?_, F.kp⟩
  obtain ⟨oc, od, dV, kV, doc, pm, an, cdv, ct, osl, rfl, lk, hcd, _, _⟩ := F.ex
  obtain ⟨hn, μ, st, ds, rr, rl, a⟩ := hsp
  have hl : ds.length = ps.length := rl.length.trans hn
  have KX : K.In s.heap := e0.mod.kin.keeps fun b o e => (e0.bs b o e).1
  have bb := hb s us KX (by rw [List.append_nil, ← r.length, hn])
  rw [List.append_nil] at bb
  refine LamX.run_ofS lk hcd S hr e0 bb r hn fun hr' => ⟨_, h cdv A outer s H E (by unfold codeV; rw [lk]) hr' (gd_deeper hq) [] (cxOf (L2.CX P w) P w K mg base N qual sc f cdv A outer s H E).xe (fun c d _ H' => E c d H') (takes_of rfl rfl rfl rfl) (passes_of rfl), ?_⟩
  refine ⟨μ, ds.map some ++ List.replicate (N.length - ds.length) none, st, rr, renv_start rl, ?_⟩
  unfold runF at a
  rw [if_pos hl, ← hl] at a
  cases e : mb (ds.map some ++ List.replicate (N.length - ds.length) none) st with
  | nx env1 st1 =>
    rw [e] at a
    exact fun μ' H' σ' x q1 q2 => a μ' H' x q1 _ rfl
  | rt d st1 =>
    rw [e] at a
    exact fun μ' H' v x q1 q2 => a μ' H' x q1 v q2
  | ex c ks us env1 st1 =>
    rw [e] at a
    exact fun μ' H' σ' C dx us x q1 q2 q3 q4 q5 q6 q7 => a μ' H' C dx us x q1 q3 q4 q5 q6 q7
  | bk env1 st1 => rw [e] at a; exact a.elim
  | ct env1 st1 => rw [e] at a; exact a.elim
  | bad => rw [e] at a; exact a.elim
end
/-- f(e, ..) -/
def eCall (m : MF) (ma : MA) : ME := fun env st => (ma env st).bind fun ds st1 => m ds st1
section
variable {X : Cx} {k : Nat} {f : Addr} {ps : List Str} {m : MF} {x : Str} {p pos : Pos} {e : Expr} {es : List Expr} {ma : MA}
theorem se_call (F : Fn X.prog X.w X.K X.mg X.base k f ps m) (hr : Room k X.A) (hq : Gd X.A) (hg : Gl X x) (hm : X.mg x = some (.ref f)) (ha : SA X (e :: es) ma) (hdb : (x == ("__debug__" : Str)) = false := by decide)
    (he : starEach (e :: es) X.env = (false, eval e X.env) :: starEach es X.env := by rfl) (hpl : (backTo pos (starEach es X.env)).any (·.1) = false := by rfl)
    (hn : ∀ ds st, ds.length ≠ ps.length → m ds st = .bad) : SE X (.Call (.Name x p) (e :: es) [] pos) (eCall m ma) := fun pn xe W tk => by
  constructor
  intro pins s σ H Q I h
  refine wpAny_Call_Name_kw (ld_glob (X := X.tr pn xe) I hg hm ?_ hdb)
  refine PySem.W.callWith_K (h₀ := X.base) I.ok.mod.kin F.kp (thn ((ha pn xe W tk).run pos pins s σ H (fun vs H1 => spM X.K X.mg ps.length m vs H1 Q (fun c d H' => W c d σ H')) I ?_) fun us s1 ⟨vs, H1, I1, r, q⟩ => ⟨I1.kIn, ?_⟩) he hpl
  · refine tMA_run h fun ds vs μ env st H1 r re hd a => ?_
    have hl : ds.length = ps.length := Classical.byContradiction fun z => by
      rw [hn ds st z] at a
      exact a
    refine ⟨hd.length.symm.trans hl, μ, st, ds, r, hd, ?_⟩
    cases q : m ds st with
    | ok d st1 => rw [q] at a; exact a
    | ex c ks us st1 => rw [q] at a; exact a
    | bad => rw [q] at a; exact a
  · refine wpAny_call (codeAny_mono (F.run hr hq I1.env0 r q) fun res t hres => ?_)
    cases res with
    | error er => exact passAt tk σ pins H1 s1 er t I1 hres
    | ok fl =>
      cases fl with
      | ret w => exact I1.after hres
      | next => exact hres.elim
      | brk => exact hres.elim
      | cont => exact hres.elim
theorem runF_len {N n : Nat} {b : MS} : ∀ ds st, ds.length ≠ n → runF N n b ds st = .bad := fun ds st h => by
  unfold runF
  rw [if_neg h]
end
end T5
namespace T5
open PySem PySem.Spec PyProof.Rows L2
variable [TabC]
def cap : Nat := 16000000
theorem cap_line {n : Nat} (h : n ≤ cap) : n ≤ sizeLine := Nat.le_trans h (by decide)
theorem cap_lt {n : Nat} (h : n ≤ cap) : n < sizeLine := Nat.lt_of_le_of_lt h (by decide)
/-! ### data of a list -/
def lstOf (st : Store) : D → Option (List D)
  | .lst l => some l
  | .obj n => match st[n]? with
    | some (.lst l) => some l
    | _ => none
  | _ => none
def seqOf (st : Store) : D → Option (List D)
  | .tup l => some l
  | .scr l => some l
  | d => lstOf st d
@[simp] theorem lstOf_lst {st : Store} {l : List D} : lstOf st (.lst l) = some l := rfl
@[simp] theorem seqOf_lst {st : Store} {l : List D} : seqOf st (.lst l) = some l := rfl
@[simp] theorem seqOf_tup {st : Store} {l : List D} : seqOf st (.tup l) = some l := rfl
@[simp] theorem seqOf_scr {st : Store} {l : List D} : seqOf st (.scr l) = some l := rfl
section
variable {K : PySem.W.Frag} {mg : Str → Option Value} {μ : Mu} {H : Hp} {st : Store} {d : D} {v : V} {l : List D}
theorem lst_at (r : Rel K mg μ H st) (h : Rep K mg μ H d v) (e : lstOf st d = some l) : ∃ a vs, v = .ref a ∧ H a = some (.lst vs) ∧ RepL K mg μ H l vs := by
  cases d with
  | lst l' =>
    cases e
    obtain ⟨a, vs, e, n, q, hl⟩ := h
    exact ⟨a, vs, e, q, hl⟩
  | obj n =>
    obtain ⟨a, ev, hn⟩ := h
    cases ho : st[n]? with
    | none => simp [lstOf, ho] at e
    | some o =>
      cases o with
      | lst l' =>
        simp only [lstOf, ho] at e
        cases e
        obtain ⟨vs, hh, hl⟩ := r.ob n _ a ho hn
        exact ⟨a, vs, ev, hh, hl⟩
      | _ => simp [lstOf, ho] at e
  | _ => cases e
theorem seq_at (r : Rel K mg μ H st) (h : Rep K mg μ H d v) (e : seqOf st d = some l) : ∃ a vs, v = .ref a ∧ (SqL K H a vs ∨ SqT K H a vs) ∧ RepL K mg μ H l vs := by
  cases d with
  | tup l' =>
    cases e
    obtain ⟨a, vs, e, q, hl⟩ := seq_tup h
    exact ⟨a, vs, e, .inr q, hl⟩
  | scr l' =>
    cases e
    obtain ⟨a, vs, e, q, hl⟩ := seq_scr h
    exact ⟨a, vs, e, .inl q, hl⟩
  | lst l' =>
    obtain ⟨a, vs, e, q, hl⟩ := lst_at r h e
    exact ⟨a, vs, e, .inl (.inl (.inl q)), hl⟩
  | obj n =>
    obtain ⟨a, vs, e, q, hl⟩ := lst_at r h (show lstOf st (.obj n) = some l from e)
    exact ⟨a, vs, e, .inl (.inl (.inl q)), hl⟩
  | _ => cases e
theorem RepL.append : ∀ {ds es : List D} {vs ws : List V}, RepL K mg μ H ds vs → RepL K mg μ H es ws → RepL K mg μ H (ds ++ es) (vs ++ ws)
  | [], es, vs, ws, h, q => by
    have e : vs = [] := h
    subst e
    exact q
  | d :: ds, es, vs, ws, ⟨v, r, e, h1, h2⟩, q => by
    subst e
    exact ⟨v, r ++ ws, rfl, h1, RepL.append h2 q⟩
theorem RepL.take : ∀ {ds : List D} {vs : List V} (n : Nat), RepL K mg μ H ds vs → RepL K mg μ H (ds.take n) (vs.take n)
  | [], vs, n, h => by
    have e : vs = [] := h
    subst e
    simp [RepL]
  | d :: ds, vs, 0, h => by simp [RepL]
  | d :: ds, vs, n + 1, ⟨v, r, e, h1, h2⟩ => by
    subst e
    exact ⟨v, r.take n, rfl, h1, RepL.take n h2⟩
theorem RepL.drop : ∀ {ds : List D} {vs : List V} (n : Nat), RepL K mg μ H ds vs → RepL K mg μ H (ds.drop n) (vs.drop n)
  | [], vs, n, h => by
    have e : vs = [] := h
    subst e
    simp [RepL]
  | d :: ds, vs, 0, h => h
  | d :: ds, vs, n + 1, ⟨v, r, e, h1, h2⟩ => by
    subst e
    exact RepL.drop n h2
theorem RepL.set {x : D} {u : V} (hx : Rep K mg μ H x u) : ∀ {ds : List D} {vs : List V} (n : Nat), RepL K mg μ H ds vs → RepL K mg μ H (ds.set n x) (vs.set n u)
  | [], vs, n, h => by
    have e : vs = [] := h
    subst e
    simp [RepL]
  | d :: ds, vs, 0, ⟨v, r, e, h1, h2⟩ => by
    subst e
    exact ⟨u, r, rfl, hx, h2⟩
  | d :: ds, vs, n + 1, ⟨v, r, e, h1, h2⟩ => by
    subst e
    exact ⟨v, r.set n u, rfl, h1, RepL.set hx n h2⟩
theorem RepL.eraseIdx : ∀ {ds : List D} {vs : List V} (n : Nat), RepL K mg μ H ds vs → RepL K mg μ H (ds.eraseIdx n) (vs.eraseIdx n)
  | [], vs, n, h => by
    have e : vs = [] := h
    subst e
    simp [RepL]
  | d :: ds, vs, 0, ⟨v, r, e, h1, h2⟩ => by
    subst e
    exact h2
  | d :: ds, vs, n + 1, ⟨v, r, e, h1, h2⟩ => by
    subst e
    exact ⟨v, r.eraseIdx n, rfl, h1, RepL.eraseIdx n h2⟩
theorem RepL.replicate {l : List D} {vs : List V} (h : RepL K mg μ H l vs) : ∀ n, RepL K mg μ H (List.replicate n l).flatten (List.replicate n vs).flatten
  | 0 => rfl
  | n + 1 => by
    rw [List.replicate_succ, List.replicate_succ, List.flatten_cons, List.flatten_cons]
    exact RepL.append h (RepL.replicate h n)
theorem RepL.nil_iff {ds : List D} {vs : List V} (h : RepL K mg μ H ds vs) : ds = [] ↔ vs = [] := by
  have := h.length
  cases ds <;> cases vs <;> simp at this ⊢
/-- a new list, a new tuple -/
theorem rep_newL {p : Addr} {vs : List V} (r : Rel K mg μ H st) (hp : H p = none) (h : RepL K mg μ H l vs) : Rep K mg μ (upd H p (.lst vs)) (.lst l) (.ref p) :=
  ⟨p, vs, rfl, r.nin hp, upd_same, h.ext (Ext.same r (same_upd hp))⟩
theorem rep_newT {p : Addr} {vs : List V} (r : Rel K mg μ H st) (hp : H p = none) (h : RepL K mg μ H l vs) : Rep K mg μ (upd H p (.tup vs)) (.tup l) (.ref p) :=
  ⟨p, vs, rfl, r.nin hp, upd_same, h.ext (Ext.same r (same_upd hp))⟩
end
theorem toStr_append (a b : List Nat) : toStr (a ++ b) = toStr a ++ toStr b := by
  show (⟨(a ++ b).toArray⟩ : Str) = ⟨a.toArray ++ b.toArray⟩
  simp
theorem toStr_length (a : List Nat) : (toStr a).length = a.length := by simp [toStr, Str.length]
theorem toStr_list (a : List Nat) : (toStr a).cps.toList = a := by simp [toStr]
theorem toStr_inj {a b : List Nat} (h : toStr a = toStr b) : a = b := by
  have := congrArg (fun s : Str => s.cps.toList) h
  simpa [toStr] using this
/-! ### + - * // % ** -/
def bAdd : BO := fun st x y => match x, y with
  | .int i, .int j => some (.int (i + j))
  | .str a, .str b => if a.length + b.length ≤ cap then some (.str (a ++ b)) else none
  | .tup a, .tup b => if a.length + b.length ≤ cap then some (.tup (a ++ b)) else none
  | x, y => (lstOf st x).bind fun a => (lstOf st y).bind fun b => if a.length + b.length ≤ cap then some (.lst (a ++ b)) else none
abbrev rAddA (K : PySem.W.Frag) : V → V → Hp → VK → Prop := fun x y H Q => (rI0 (fun i j => .int (i + j))) x y H Q ∨ (∃ i j, x = .str i ∧ y = .str j ∧ i.length + j.length ≤ sizeLine ∧ Q (.str (i ++ j)) H) ∨ rCatA K x y H Q ∨ rCat x y H Q
section
variable {X : Cx} {K : PySem.W.Frag} {mg : Str → Option Value}
theorem opr_add : OpR X (binaryOp .Add) (rAddA X.K) := op_add.or (op_add_str.or (op_catA.or op_cat))
theorem opd_lists {st : Store} {x y d : D} {u w : V} {μ : Mu} {H : Hp} {Q : VK} (r : Rel K mg μ H st) (hx : Rep K mg μ H x u) (hy : Rep K mg μ H y w) (e : ((lstOf st x).bind fun a => (lstOf st y).bind fun b => if a.length + b.length ≤ cap then some (D.lst (a ++ b)) else none) = some d)
    (q : ∀ H' v, Ext μ H μ H' → Rel K mg μ H' st → Rep K mg μ H' d v → Q v H') : rCat u w H Q := by
  obtain ⟨a, e1, e2⟩ := Option.bind_eq_some_iff.mp e
  obtain ⟨b, e3, e4⟩ := Option.bind_eq_some_iff.mp e2
  obtain ⟨p, vs, rfl, h1, l1⟩ := lst_at r hx e1
  obtain ⟨p2, ws, rfl, h2, l2⟩ := lst_at r hy e3
  split at e4
  · rename_i c
    cases e4
    refine ⟨p, p2, vs, ws, rfl, rfl, h1, h2, by rw [← l1.length, ← l2.length]; exact cap_line c, fun o ho => ?_⟩
    have s := same_upd (o := HO.lst (vs ++ ws)) ho
    exact q _ _ (Ext.same r s) (r.same s) (rep_newL r ho (l1.append l2))
  · cases e4
theorem opd_add : OpD K mg (rAddA K) bAdd := by
  intro μ H st x y d u w Q r hx hy e q
  unfold bAdd at e
  split at e
  · cases e
    cases hx
    cases hy
    exact .inl ⟨_, _, rfl, rfl, q H _ Ext.refl r rfl⟩
  · split at e
    · rename_i a b c
      cases e
      cases hx
      cases hy
      refine .inr (.inl ⟨_, _, rfl, rfl, by rw [toStr_length, toStr_length]; exact cap_line c, ?_⟩)
      rw [← toStr_append]
      exact q H _ Ext.refl r rfl
    · cases e
  · split at e
    · rename_i a b c
      cases e
      refine .inr (.inr (.inl ?_))
      obtain ⟨p, vs, rfl, h1, l1⟩ := seq_tup hx
      obtain ⟨p2, ws, rfl, h2, l2⟩ := seq_tup hy
      refine ⟨p, p2, vs, ws, rfl, rfl, h1, h2, by rw [← l1.length, ← l2.length]; exact cap_line c, fun z => ?_, fun z1 z2 => ?_, fun z1 z2 o ho => ?_⟩
      · have z' := l1.nil_iff.mpr z
        rw [z'] at q
        exact q H _ Ext.refl r hy
      · have z' := l2.nil_iff.mpr z2
        rw [z', List.append_nil] at q
        exact q H _ Ext.refl r hx
      · have s := same_upd (o := HO.tup (vs ++ ws)) ho
        exact q _ _ (Ext.same r s) (r.same s) (rep_newT r ho (l1.append l2))
    · cases e
  · exact .inr (.inr (.inr (opd_lists r hx hy e q)))
def bSub : BO := fun _ x y => match x, y with
  | .int i, .int j => some (.int (i - j))
  | _, _ => none
theorem opd_sub : OpD K mg (rI0 fun i j => .int (i - j)) bSub := by
  intro μ H st x y d u w Q r hx hy e q
  unfold bSub at e
  split at e
  · cases e
    cases hx
    cases hy
    exact ⟨_, _, rfl, rfl, q H _ Ext.refl r rfl⟩
  · cases e
instance (i j : Int) : Decidable (CMul i j) := by unfold CMul; infer_instance
instance (i j : Int) : Decidable (CDivN i j) := by unfold CDivN; infer_instance
instance (i j : Int) : Decidable (CPow i j) := by unfold CPow; infer_instance
def bMul : BO := fun st x y => match x, y with
  | .int i, .int j => if CMul i j then some (.int (i * j)) else none
  | .tup l, .int k => if l ≠ [] ∧ 2 ≤ k ∧ k ≤ 1000 ∧ l.length ≤ 1000 then some (.tup (List.replicate k.toNat l).flatten) else none
  | x, .int k => (lstOf st x).bind fun l => if -(2 ^ 63) ≤ k ∧ k < 2 ^ 63 ∧ l.length * k.toNat ≤ cap then some (.lst (List.replicate k.toNat l).flatten) else none
  | _, _ => none
abbrev rMulA (K : PySem.W.Frag) : V → V → Hp → VK → Prop := fun x y H Q => rI CMul (fun i j => .int (i * j)) x y H Q ∨ rRepT K x y H Q ∨ rRep x y H Q
theorem opr_mul : OpR X (binaryOp .Mult) (rMulA X.K) := op_mul.or (op_repT.or op_rep)
theorem opd_mul : OpD K mg (rMulA K) bMul := by
  intro μ H st x y d u w Q r hx hy e q
  unfold bMul at e
  split at e
  · split at e
    · rename_i c
      cases e
      cases hx
      cases hy
      exact .inl ⟨_, _, rfl, rfl, c, q H _ Ext.refl r rfl⟩
    · cases e
  · split at e
    · rename_i c
      cases e
      cases hy
      obtain ⟨p, vs, rfl, h1, l1⟩ := seq_tup hx
      refine .inr (.inl ⟨p, _, vs, rfl, rfl, h1, fun z => c.1 (l1.nil_iff.mpr z), c.2.1, c.2.2.1, by rw [← l1.length]; exact c.2.2.2, fun o ho => q _ _ (Ext.same r (same_upd ho)) (r.same (same_upd ho)) (rep_newT r ho (l1.replicate _))⟩)
    · cases e
  · obtain ⟨l, e1, e2⟩ := Option.bind_eq_some_iff.mp e
    obtain ⟨p, vs, rfl, h1, l1⟩ := lst_at r hx e1
    split at e2
    · rename_i c
      cases e2
      cases hy
      refine .inr (.inr ⟨p, _, vs, rfl, rfl, h1, c.1, c.2.1, by rw [← l1.length]; exact cap_line c.2.2, fun o ho => q _ _ (Ext.same r (same_upd ho)) (r.same (same_upd ho)) (rep_newL r ho (l1.replicate _))⟩)
    · cases e2
  · cases e
def bDiv : BO := fun _ x y => match x, y with
  | .int i, .int j => if CDivN i j then some (.int (i.fdiv j)) else none
  | _, _ => none
def bMod : BO := fun _ x y => match x, y with
  | .int i, .int j => if j ≠ 0 then some (.int (i.fmod j)) else none
  | _, _ => none
def bPow : BO := fun _ x y => match x, y with
  | .int i, .int j => if CPow i j then some (.int (i ^ j.toNat)) else none
  | _, _ => none
theorem opd_div : OpD K mg (rI CDivN fun i j => .int (i.fdiv j)) bDiv := by
  intro μ H st x y d u w Q r hx hy e q
  unfold bDiv at e
  split at e
  · split at e
    · rename_i c
      cases e
      cases hx
      cases hy
      exact ⟨_, _, rfl, rfl, c, q H _ Ext.refl r rfl⟩
    · cases e
  · cases e
theorem opd_mod : OpD K mg (rI (fun _ j => j ≠ 0) fun i j => .int (i.fmod j)) bMod := by
  intro μ H st x y d u w Q r hx hy e q
  unfold bMod at e
  split at e
  · split at e
    · rename_i c
      cases e
      cases hx
      cases hy
      exact ⟨_, _, rfl, rfl, c, q H _ Ext.refl r rfl⟩
    · cases e
  · cases e
theorem opd_pow : OpD K mg (rI CPow fun i j => .int (i ^ j.toNat)) bPow := by
  intro μ H st x y d u w Q r hx hy e q
  unfold bPow at e
  split at e
  · split at e
    · rename_i c
      cases e
      cases hx
      cases hy
      exact ⟨_, _, rfl, rfl, c, q H _ Ext.refl r rfl⟩
    · cases e
  · cases e
variable {a b : Expr} {ma mb : ME} {pos : Pos}
theorem se_add (ha : SE X a ma) (hb : SE X b mb) : SE X (.BinOp a .Add b pos) (eBin bAdd ma mb) := se_bin (fun _ _ => opr_add) opd_add ha hb
theorem se_sub (ha : SE X a ma) (hb : SE X b mb) : SE X (.BinOp a .Sub b pos) (eBin bSub ma mb) := se_bin (fun _ _ => op_sub) opd_sub ha hb
theorem se_mul (ha : SE X a ma) (hb : SE X b mb) : SE X (.BinOp a .Mult b pos) (eBin bMul ma mb) := se_bin (fun _ _ => opr_mul) opd_mul ha hb
theorem se_div (ha : SE X a ma) (hb : SE X b mb) : SE X (.BinOp a .FloorDiv b pos) (eBin bDiv ma mb) := se_bin (fun _ _ => op_fdivN) opd_div ha hb
theorem se_mod (ha : SE X a ma) (hb : SE X b mb) : SE X (.BinOp a .Mod b pos) (eBin bMod ma mb) := se_bin (fun _ _ => op_modN) opd_mod ha hb
theorem se_pow (ha : SE X a ma) (hb : SE X b mb) : SE X (.BinOp a .Pow b pos) (eBin bPow ma mb) := se_bin (fun _ _ => op_pow) opd_pow ha hb
def eNeg (m : ME) : ME := fun env st => (m env st).bind fun d st1 => match d with
  | .int i => .ok (.int (-i)) st1
  | _ => .bad
theorem se_neg (ha : SE X a ma) : SE X (.UnaryOp .USub a pos) (eNeg ma) := fun pn xe W tk => by
  refine PE.imp (pe_un (X := X.tr pn xe) un_neg (ha pn xe W tk)) fun σ H Q h => ?_
  refine tM_seq h fun d v μ env st H1 r re hv a => ?_
  cases d with
  | int i =>
    cases hv
    exact ⟨i, rfl, a μ H1 Ext.refl r _ rfl⟩
  | _ => exact a.elim
end
/-! ### comparisons -/
mutual
def py0 : D → Option PyData
  | .non => some .none
  | .bl b => some (.bool b)
  | .int i => some (.int i)
  | .str s => some (.str (toStr s))
  | .tup l => (py0L l).map .tuple
  | .lst l => (py0L l).map .list
  | _ => none
def py0L : List D → Option (List PyData)
  | [] => some []
  | d :: ds => (py0 d).bind fun p => (py0L ds).map fun ps => p :: ps
end
/-- an object of the store is a list -/
def py (st : Store) (d : D) : Option PyData := match d with
  | .obj n => (lstOf st (.obj n)).bind fun l => (py0L l).map .list
  | d => py0 d
def dEq0 (st : Store) (x y : D) : Option Bool := (py st x).bind fun a => (py st y).bind fun b => if SeqAt.shaped a = true ∧ SeqAt.shaped b = true then some (PyData.eqv a b) else none
def dEq (st : Store) (x y : D) : Option Bool := match x, y with
  | .str a, .str b => some (decide (a = b))
  | x, y => dEq0 st x y
section
variable {K : PySem.W.Frag} {mg : Str → Option Value} {μ : Mu} {H : Hp} {st : Store}
mutual
theorem py0_dp : ∀ {d : D} {v : V} {p : PyData}, Rep K mg μ H d v → py0 d = some p → Dp K H v p
  | .non, v, p, h, e => by
    have hv : v = .non := h
    subst hv
    simp only [py0] at e
    cases e
    exact .non
  | .bl b, v, p, h, e => by
    have hv : v = .bl b := h
    subst hv
    simp only [py0] at e
    cases e
    exact .bl b
  | .int i, v, p, h, e => by
    have hv : v = .int i := h
    subst hv
    simp only [py0] at e
    cases e
    exact .int i
  | .str s, v, p, h, e => by
    have hv : v = .str (toStr s) := h
    subst hv
    simp only [py0] at e
    cases e
    exact .str _
  | .tup l, v, p, h, e => by
    simp only [py0] at e
    obtain ⟨ps, e1, e2⟩ := Option.map_eq_some_iff.mp e
    subst e2
    obtain ⟨a, vs, ev, hs, hl⟩ := seq_tup h
    subst ev
    exact .tup hs (py0L_dp hl e1)
  | .lst l, v, p, h, e => by
    simp only [py0] at e
    obtain ⟨ps, e1, e2⟩ := Option.map_eq_some_iff.mp e
    subst e2
    obtain ⟨a, vs, ev, hs, hl⟩ := seq_list h
    subst ev
    exact .lst hs (py0L_dp hl e1)
  | .ty _, _, _, _, e => by simp only [py0] at e; cases e
  | .scr _, _, _, _, e => by simp only [py0] at e; cases e
  | .obj _, _, _, _, e => by simp only [py0] at e; cases e
  | .dic _ _ _, _, _, _, e => by simp only [py0] at e; cases e
  | .ins _ _ _, _, _, _, e => by simp only [py0] at e; cases e
  | .exc _ _ _, _, _, _, e => by simp only [py0] at e; cases e
  | .cls _, _, _, _, e => by simp only [py0] at e; cases e
theorem py0L_dp : ∀ {ds : List D} {vs : List V} {ps : List PyData}, RepL K mg μ H ds vs → py0L ds = some ps → DpAll K H vs ps
  | [], vs, ps, h, e => by
    have hv : vs = [] := h
    subst hv
    simp only [py0L] at e
    cases e
    exact .nil
  | d :: ds, vs, ps, h, e => by
    obtain ⟨v, r, ev, h1, h2⟩ := h
    subst ev
    simp only [py0L] at e
    obtain ⟨p, e1, e2⟩ := Option.bind_eq_some_iff.mp e
    obtain ⟨qs, e3, e4⟩ := Option.map_eq_some_iff.mp e2
    subst e4
    exact .cons (py0_dp h1 e1) (py0L_dp h2 e3)
end
theorem py_dp (r : Rel K mg μ H st) {d : D} {v : V} {p : PyData} (h : Rep K mg μ H d v) (e : py st d = some p) : Dp K H v p := by
  cases d with
  | obj n =>
    simp only [py] at e
    obtain ⟨l, e1, e2⟩ := Option.bind_eq_some_iff.mp e
    obtain ⟨ps, e3, e4⟩ := Option.map_eq_some_iff.mp e2
    subst e4
    obtain ⟨a, vs, ev, hh, hl⟩ := lst_at r h e1
    subst ev
    exact .lst (.inl (.inl hh)) (py0L_dp hl e3)
  | _ => exact py0_dp h e
def bEq : BO := fun st x y => (dEq st x y).map .bl
def bNe : BO := fun st x y => (dEq st x y).map fun b => .bl (!b)
theorem toStr_injE {a b : List Nat} (h : toStr a = toStr b) : a = b := by
  have := congrArg (fun s : Str => s.cps.toList) h
  simpa [toStr] using this
abbrev rEqA (K : PySem.W.Frag) : V → V → Hp → VK → Prop := fun x y H Q => rEqD K x y H Q ∨ L2.rEq x y H Q
abbrev rNeA (K : PySem.W.Frag) : V → V → Hp → VK → Prop := fun x y H Q => rNeD K x y H Q ∨ L2.rNe x y H Q
theorem dec_toStr (a b : List Nat) : decide (V.str (toStr a) = V.str (toStr b)) = decide (a = b) := by
  by_cases h : a = b
  · simp [h]
  · have : ¬ V.str (toStr a) = V.str (toStr b) := fun z => h (toStr_injE (V.str.inj z))
    rw [decide_eq_false h, decide_eq_false this]
theorem opd_eq : OpD K mg (rEqA K) bEq := by
  intro μ H st x y d u w Q r hx hy e q
  obtain ⟨b, e1, e2⟩ := Option.map_eq_some_iff.mp e
  subst e2
  unfold dEq at e1
  split at e1
  · rename_i a c
    cases e1
    cases hx
    cases hy
    refine .inr ⟨rfl, ?_⟩
    rw [dec_toStr]
    exact q H _ Ext.refl r rfl
  · obtain ⟨p, e3, e4⟩ := Option.bind_eq_some_iff.mp e1
    obtain ⟨p2, e5, e6⟩ := Option.bind_eq_some_iff.mp e4
    split at e6
    · rename_i c
      cases e6
      exact .inl ⟨p, p2, py_dp r hx e3, py_dp r hy e5, c.1, c.2, q H _ Ext.refl r rfl⟩
    · cases e6
theorem opd_ne : OpD K mg (rNeA K) bNe := by
  intro μ H st x y d u w Q r hx hy e q
  obtain ⟨b, e1, e2⟩ := Option.map_eq_some_iff.mp e
  subst e2
  unfold dEq at e1
  split at e1
  · rename_i a c
    cases e1
    cases hx
    cases hy
    refine .inr ⟨rfl, ?_⟩
    rw [dec_toStr]
    exact q H _ Ext.refl r rfl
  · obtain ⟨p, e3, e4⟩ := Option.bind_eq_some_iff.mp e1
    obtain ⟨p2, e5, e6⟩ := Option.bind_eq_some_iff.mp e4
    split at e6
    · rename_i c
      cases e6
      exact .inl ⟨p, p2, py_dp r hx e3, py_dp r hy e5, c.1, c.2, q H _ Ext.refl r rfl⟩
    · cases e6
end
def bCmp (f : Int → Int → Bool) (g : List Nat → List Nat → Bool) : BO := fun _ x y => match x, y with
  | .int i, .int j => some (.bl (f i j))
  | .str a, .str b => some (.bl (g a b))
  | _, _ => none
def bLt : BO := bCmp (fun i j => decide (i < j)) fun a b => decide (a < b)
def bLe : BO := bCmp (fun i j => decide (i ≤ j)) fun a b => !decide (b < a)
def bGt : BO := bCmp (fun i j => decide (j < i)) fun a b => decide (b < a)
def bGe : BO := bCmp (fun i j => decide (j ≤ i)) fun a b => !decide (a < b)
theorem opd_cmp {K : PySem.W.Frag} {mg : Str → Option Value} {f : Int → Int → Bool} {g : List Nat → List Nat → Bool} {r1 : V → V → Hp → VK → Prop} {r2 : Str → Str → Bool} (h1 : ∀ i j H Q, Q (V.bl (f i j)) H → r1 (.int i) (.int j) H Q) (h2 : ∀ a b, r2 (toStr a) (toStr b) = g a b) :
    OpD K mg (fun x y H Q => r1 x y H Q ∨ (∃ i j, x = .str i ∧ y = .str j ∧ Q (.bl (r2 i j)) H)) (bCmp f g) := by
  intro μ H st x y d u w Q r hx hy e q
  unfold bCmp at e
  split at e
  · cases e
    cases hx
    cases hy
    exact .inl (h1 _ _ _ _ (q H _ Ext.refl r rfl))
  · cases e
    cases hx
    cases hy
    refine .inr ⟨_, _, rfl, rfl, ?_⟩
    rw [h2]
    exact q H _ Ext.refl r rfl
  · cases e
section
variable {X : Cx} {a b : Expr} {ma mb : ME} {pos : Pos}
theorem nm (b : Expr) {op : CmpOp} (h : op ≠ .In := by decide) (h2 : op ≠ .NotIn := by decide) : behindInMarks op b = false := nobehind b h h2
theorem se_eq {k : Nat} (hr : Room k X.A) (ha : SE X a ma) (hb : SE X b mb) : SE X (.Compare a [.Eq] [b] pos) (eBin bEq ma mb) := se_cmp (fun pn xe => (op_eqD (X := X.tr pn xe) hr.units).or L2.op_eq) opd_eq ha hb (nm b)
theorem st_eq {k : Nat} (hr : Room k X.A) (ha : SE X a ma) (hb : SE X b mb) : ST X (.Compare a [.Eq] [b] pos) (cBool (eBin bEq ma mb)) := st_cmp (fun pn xe => (op_eqD (X := X.tr pn xe) hr.units).or L2.op_eq) opd_eq ha hb (nm b)
theorem st_ne {k : Nat} (hr : Room k X.A) (ha : SE X a ma) (hb : SE X b mb) : ST X (.Compare a [.NotEq] [b] pos) (cBool (eBin bNe ma mb)) := st_cmp (fun pn xe => (op_neD (X := X.tr pn xe) hr.units).or L2.op_ne) opd_ne ha hb (nm b)
theorem opd_lt {K : PySem.W.Frag} {mg : Str → Option Value} : OpD K mg (fun x y H Q => (rI0 fun i j => .bl (decide (i < j))) x y H Q ∨ (∃ i j, x = .str i ∧ y = .str j ∧ Q (.bl (decide (i.cps.toList < j.cps.toList))) H)) bLt :=
  opd_cmp (r2 := fun i j => decide (i.cps.toList < j.cps.toList)) (fun i j H Q q => ⟨i, j, rfl, rfl, q⟩) fun a b => by simp only [toStr_list]
theorem opd_le {K : PySem.W.Frag} {mg : Str → Option Value} : OpD K mg (fun x y H Q => (rI0 fun i j => .bl (decide (i ≤ j))) x y H Q ∨ (∃ i j, x = .str i ∧ y = .str j ∧ Q (.bl (!decide (j.cps.toList < i.cps.toList))) H)) bLe :=
  opd_cmp (r2 := fun i j => !decide (j.cps.toList < i.cps.toList)) (fun i j H Q q => ⟨i, j, rfl, rfl, q⟩) fun a b => by simp only [toStr_list]
theorem opd_gt {K : PySem.W.Frag} {mg : Str → Option Value} : OpD K mg (fun x y H Q => (rI0 fun i j => .bl (decide (j < i))) x y H Q ∨ (∃ i j, x = .str i ∧ y = .str j ∧ Q (.bl (decide (j.cps.toList < i.cps.toList))) H)) bGt :=
  opd_cmp (r2 := fun i j => decide (j.cps.toList < i.cps.toList)) (fun i j H Q q => ⟨i, j, rfl, rfl, q⟩) fun a b => by simp only [toStr_list]
theorem opd_ge {K : PySem.W.Frag} {mg : Str → Option Value} : OpD K mg (fun x y H Q => (rI0 fun i j => .bl (decide (j ≤ i))) x y H Q ∨ (∃ i j, x = .str i ∧ y = .str j ∧ Q (.bl (!decide (i.cps.toList < j.cps.toList))) H)) bGe :=
  opd_cmp (r2 := fun i j => !decide (i.cps.toList < j.cps.toList)) (fun i j H Q q => ⟨i, j, rfl, rfl, q⟩) fun a b => by simp only [toStr_list]
theorem se_lt (ha : SE X a ma) (hb : SE X b mb) : SE X (.Compare a [.Lt] [b] pos) (eBin bLt ma mb) := se_cmp (fun _ _ => op_lt.or op_lt_str) opd_lt ha hb (nm b)
theorem st_lt (ha : SE X a ma) (hb : SE X b mb) : ST X (.Compare a [.Lt] [b] pos) (cBool (eBin bLt ma mb)) := st_cmp (fun _ _ => op_lt.or op_lt_str) opd_lt ha hb (nm b)
theorem st_gt (ha : SE X a ma) (hb : SE X b mb) : ST X (.Compare a [.Gt] [b] pos) (cBool (eBin bGt ma mb)) := st_cmp (fun _ _ => op_gt.or op_gt_str) opd_gt ha hb (nm b)
theorem st_ge (ha : SE X a ma) (hb : SE X b mb) : ST X (.Compare a [.GtE] [b] pos) (cBool (eBin bGe ma mb)) := st_cmp (fun _ _ => op_ge.or op_ge_str) opd_ge ha hb (nm b)
end
end T5
namespace T5
open PySem PySem.Spec PyProof.Rows L2
variable [TabC]
/-! ### a < b <= c -/
def eChain (g g' : BO) (ma mb mc : ME) : ME := fun env st => (ma env st).bind fun d1 st1 => (mb env st1).bind fun d2 st2 => (ofO (g st2 d1 d2) st2).bind fun z st2' => match z with
  | .bl true => (mc env st2').bind fun d3 st3 => ofO (g' st3 d2 d3) st3
  | .bl false => .ok (.bl false) st2'
  | _ => .bad
section
variable {X : Cx} {K : PySem.W.Frag} {mg : Str → Option Value} {a b c : Expr} {ma mb mc : ME} {pos : Pos}
theorem tChain_of {W : WX} {r r' : V → V → Hp → VK → Prop} {g g' : BO} (hd : OpD K mg r g) (hd' : OpD K mg r' g') {σ : L2.St} {H : Hp} {Q : VK} (h : tM K mg W (eChain g g' ma mb mc) σ H Q) : tChain r r' (tM K mg W ma) (tM K mg W mb) (tM K mg W mc) σ H Q := by
  refine tM_seq h fun d1 x μ1 env st1 H1 r1 re1 h1 a1 => ?_
  refine ⟨μ1, env, st1, r1, re1, (Aft.bind a1).imp fun d2 st2 μ2 H2 x2 r2 a2 y h2 => ?_⟩
  have a3 := Aft.bind a2
  cases q : g st2 d1 d2 with
  | none => rw [q] at a3; exact a3.elim
  | some d =>
    rw [q] at a3
    refine hd μ2 H2 st2 d1 d2 d x y _ r2 (h1.ext x2) h2 q fun H' v e r' h' => ?_
    have a4 := a3 μ2 H' e r'
    cases d with
    | bl k =>
      have hv : v = .bl k := h'
      subst hv
      refine ⟨k, rfl, ?_⟩
      cases k with
      | true =>
        refine ⟨μ2, env, st2, r', (re1.ext x2).ext e, (Aft.bind a4).imp fun d3 st3 μ3 H3 x3 r3 a5 w hw => ?_⟩
        cases q3 : g' st3 d2 d3 with
        | none => rw [q3] at a5; exact a5.elim
        | some d' =>
          rw [q3] at a5
          exact hd' μ3 H3 st3 d2 d3 d' y w Q r3 ((h2.ext e).ext x3) hw q3 fun H'' v' e' r'' h'' => a5 μ3 H'' e' r'' v' h''
      | false => exact a4 μ2 H' Ext.refl r' _ rfl
    | _ => exact a4.elim
theorem se_chain {op op' : CmpOp} {r r' : V → V → Hp → VK → Prop} {g g' : BO} (ho : ∀ pn xe, OpR (X.tr pn xe) (compareOp op) r) (hd : OpD X.K X.mg r g) (ho' : ∀ pn xe, OpR (X.tr pn xe) (compareOp op') r') (hd' : OpD X.K X.mg r' g') (ha : SE X a ma) (hb : SE X b mb) (hc : SE X c mc)
    (hm : lastMarks [op, op'] [b, c] = false := by with_unfolding_all rfl) : SE X (.Compare a [op, op'] [b, c] pos) (eChain g g' ma mb mc) := fun pn xe W tk =>
  PE.imp (pe_chain (ho pn xe) (ho' pn xe) (ha pn xe W tk) (hb pn xe W tk) (hc pn xe W tk) hm) fun σ H Q h => tChain_of hd hd' h
theorem st_chain {op op' : CmpOp} {r r' : V → V → Hp → VK → Prop} {g g' : BO} (ho : ∀ pn xe, OpR (X.tr pn xe) (compareOp op) r) (hd : OpD X.K X.mg r g) (ho' : ∀ pn xe, OpR (X.tr pn xe) (compareOp op') r') (hd' : OpD X.K X.mg r' g') (ha : SE X a ma) (hb : SE X b mb) (hc : SE X c mc)
    (hm : lastMarks [op, op'] [b, c] = false := by with_unfolding_all rfl) : ST X (.Compare a [op, op'] [b, c] pos) (cBool (eChain g g' ma mb mc)) := fun pn xe W tk => by
  refine PT.imp (pt_chain (ho pn xe) (ho' pn xe) (ha pn xe W tk) (hb pn xe W tk) (hc pn xe W tk) hm) fun σ H Q h => ?_
  refine tChain_of (Q := fun x H1 => ∃ k, x = .bl k ∧ Q k H1) hd hd' ?_
  obtain ⟨μ, env, st, r, re, a⟩ := h
  refine ⟨μ, env, st, r, re, (Aft.bind a).imp fun d st1 μ1 H1 x r1 a1 v hv => ?_⟩
  cases d with
  | bl c =>
    have hv' : v = .bl c := hv
    subst hv'
    exact ⟨c, rfl, a1 μ1 H1 Ext.refl r1⟩
  | _ => exact a1.elim
theorem se_lele (ha : SE X a ma) (hb : SE X b mb) (hc : SE X c mc) (hm : lastMarks [.LtE, .LtE] [b, c] = false := by with_unfolding_all rfl) : SE X (.Compare a [.LtE, .LtE] [b, c] pos) (eChain bLe bLe ma mb mc) := se_chain (fun _ _ => op_le.or op_le_str) opd_le (fun _ _ => op_le.or op_le_str) opd_le ha hb hc hm
theorem st_lele (ha : SE X a ma) (hb : SE X b mb) (hc : SE X c mc) (hm : lastMarks [.LtE, .LtE] [b, c] = false := by with_unfolding_all rfl) : ST X (.Compare a [.LtE, .LtE] [b, c] pos) (cBool (eChain bLe bLe ma mb mc)) := st_chain (fun _ _ => op_le.or op_le_str) opd_le (fun _ _ => op_le.or op_le_str) opd_le ha hb hc hm
/-! ### is -/
def isNon : D → Bool
  | .non => true
  | _ => false
theorem isNon_rep {μ : Mu} {H : Hp} {d : D} {v : V} (h : Rep K mg μ H d v) : decide (v = .non) = isNon d := by
  cases d with
  | non => cases h; rfl
  | bl _ => cases h; rfl
  | int _ => cases h; rfl
  | str _ => cases h; rfl
  | ty _ => cases h; rfl
  | tup l => obtain ⟨_, _, rfl, _⟩ := h; rfl
  | lst l => obtain ⟨_, _, rfl, _⟩ := h; rfl
  | scr l => obtain ⟨_, _, rfl, _⟩ := h; rfl
  | obj n => obtain ⟨_, rfl, _⟩ := h; rfl
  | dic t ks ds => obtain ⟨_, _, _, rfl, _⟩ := h; rfl
  | ins c ks ds => obtain ⟨_, _, _, _, rfl, _⟩ := h; rfl
  | exc c ks ds => obtain ⟨_, _, _, _, rfl, _⟩ := h; rfl
  | cls c => obtain ⟨_, rfl, _⟩ := h; rfl
  | fn a c q ds us => obtain ⟨rfl, _⟩ := h; rfl
def bIs : BO := fun _ x y => match y with
  | .non => some (.bl (isNon x))
  | .bl b => (match x with
    | .bl a => some (.bl (decide (a = b)))
    | _ => none)
  | _ => none
def bIsNot : BO := fun _ x y => match y with
  | .non => some (.bl (!isNon x))
  | .bl b => (match x with
    | .bl a => some (.bl (!decide (a = b)))
    | _ => none)
  | _ => none
theorem opd_is : OpD K mg (fun x y H Q => (y = .non ∧ Q (.bl (decide (x = .non))) H) ∨ rIsB x y H Q) bIs := by
  intro μ H st x y d u w Q r hx hy e q
  cases y with
  | non =>
    cases e
    cases hy
    refine .inl ⟨rfl, ?_⟩
    rw [isNon_rep hx]
    exact q H _ Ext.refl r rfl
  | bl b =>
    cases x with
    | bl a =>
      cases e
      cases hx
      cases hy
      exact .inr ⟨_, _, rfl, rfl, q H _ Ext.refl r rfl⟩
    | _ => cases e
  | _ => cases e
theorem st_is (ha : SE X a ma) (hb : SE X b mb) : ST X (.Compare a [.Is] [b] pos) (cBool (eBin bIs ma mb)) := st_cmp (fun _ _ => op_isN.or op_isBl) opd_is ha hb (nm b)
end
/-! ### dicts -/
def sameK : D → D → Bool
  | .int i, .int j => i == j
  | .str a, .str b => a == b
  | _, _ => false
def sameKL : List D → List D → Bool
  | [], [] => true
  | x :: xs, y :: ys => sameK x y && sameKL xs ys
  | _, _ => false
def sameKey (t : Bool) (x y : D) : Bool := if t = true then (match x, y with
  | .tup a, .tup b => sameKL a b
  | _, _ => false) else sameK x y
def flatKey : D → Bool
  | .int _ => true
  | .str _ => true
  | _ => false
def isKey (t : Bool) (x : D) : Bool := if t = true then (match x with
  | .tup a => a.all flatKey
  | _ => false) else flatKey x
def lookD (t : Bool) (k : D) : List D → List D → Option D
  | k' :: ks, v :: vs => if sameKey t k' k = true then some v else lookD t k ks vs
  | _, _ => none
/-- d[k] = v: the keys, the values -/
def hasD (t : Bool) (k : D) (ks : List D) : Bool := ks.any fun k' => sameKey t k' k
def putVs (t : Bool) (k v : D) : List D → List D → List D
  | k' :: ks, w :: vs => (if sameKey t k' k = true then v else w) :: putVs t k v ks vs
  | _, _ => []
def putD (t : Bool) (k v : D) (ks vs : List D) : List D × List D := if hasD t k ks = true then (ks, putVs t k v ks vs) else (ks ++ [k], vs ++ [v])
def dicOf (st : Store) : D → Option (Bool × List D × List D)
  | .dic t ks vs => some (t, ks, vs)
  | .obj n => match st[n]? with
    | some (.dic t ks vs) => some (t, ks, vs)
    | some (.fdc ks vs) => some (false, ks, vs)
    | _ => none
  | _ => none
section
variable {K : PySem.W.Frag} {mg : Str → Option Value} {μ : Mu} {H : Hp} {st : Store}
theorem keyD_same : ∀ (a b : Key), sameK (keyD a) (keyD b) = decide (a = b)
  | .inl i, .inl j => by
    by_cases e : i = j
    · subst e; simp [sameK, keyD]
    · have : ¬ (Sum.inl i : Key) = Sum.inl j := fun z => e (Sum.inl.inj z)
      simp [sameK, keyD, e]
  | .inr a, .inr b => by
    by_cases e : a = b
    · subst e; simp [sameK, keyD]
    · have h2 : ¬ a.cps.toList = b.cps.toList := fun z => e (by
        obtain ⟨c⟩ := a
        obtain ⟨c'⟩ := b
        have z' : c.toList = c'.toList := z
        have : c = c' := by
          rw [← Array.toArray_toList (xs := c), ← Array.toArray_toList (xs := c'), z']
        rw [this])
      have h3 : ¬ a.cps = b.cps := fun z => h2 (by rw [z])
      simp [sameK, keyD, e, h3]
  | .inl i, .inr b => by simp [sameK, keyD]
  | .inr a, .inl j => by simp [sameK, keyD]
theorem keyL_same : ∀ (a b : List Key), sameKL (a.map keyD) (b.map keyD) = decide (a = b)
  | [], [] => rfl
  | [], _ :: _ => by simp [sameKL]
  | _ :: _, [] => by simp [sameKL]
  | x :: xs, y :: ys => by
    show (sameK (keyD x) (keyD y) && sameKL (xs.map keyD) (ys.map keyD)) = _
    rw [keyD_same, keyL_same]
    by_cases e1 : x = y <;> by_cases e2 : xs = ys <;> simp [e1, e2]
theorem flat_key {d : D} (h : flatKey d = true) : ∃ k : Key, d = keyD k := by
  cases d with
  | int i => exact ⟨.inl i, rfl⟩
  | str s => exact ⟨.inr (toStr s), by simp [keyD, toStr]⟩
  | _ => cases h
theorem flat_keys : ∀ {l : List D}, l.all flatKey = true → ∃ kk : List Key, l = kk.map keyD
  | [], _ => ⟨[], rfl⟩
  | d :: ds, h => by
    have h' : flatKey d = true ∧ ds.all flatKey = true := by simpa using h
    obtain ⟨k, e⟩ := flat_key h'.1
    obtain ⟨kk, e2⟩ := flat_keys h'.2
    exact ⟨k :: kk, by rw [e, e2]; rfl⟩
theorem keyD_rep {k : Key} {v : V} (h : Rep K mg μ H (keyD k) v) : v = kV k := by
  cases k with
  | inl i => exact h
  | inr x =>
    have h' : v = .str (toStr x.cps.toList) := h
    rw [h']
    show V.str ⟨x.cps.toList.toArray⟩ = V.str x
    simp
theorem keysD_rep : ∀ {kk : List Key} {vs : List V}, RepL K mg μ H (kk.map keyD) vs → vs = kk.map kV
  | [], vs, h => h
  | k :: kk, vs, ⟨v, r, e, h1, h2⟩ => by
    rw [e, keyD_rep h1, keysD_rep h2]
    rfl
theorem look_val {κ : Type} [DecidableEq κ] {kD : κ → D} {t : Bool} (hs : ∀ a b : κ, sameKey t (kD a) (kD b) = decide (a = b)) (k : κ) : ∀ {kk : List κ} {ds : List D} {vs : List V}, kk.length = vs.length → RepL K mg μ H ds vs →
    (∀ d, lookD t (kD k) (kk.map kD) ds = some d → ∃ v, valV (kk.zip vs) k = some v ∧ Rep K mg μ H d v) ∧ (lookD t (kD k) (kk.map kD) ds = none → valV (kk.zip vs) k = none)
  | [], ds, vs, h, r => by
    refine ⟨fun d e => ?_, fun _ => rfl⟩
    cases ds <;> simp [lookD] at e
  | k' :: kk, ds, vs, h, r => by
    cases vs with
    | nil => simp at h
    | cons v vs =>
      cases ds with
      | nil => have := r.length; simp at this
      | cons d ds =>
        obtain ⟨v', r', e, h1, h2⟩ := r
        cases e
        have ih := look_val hs k (kk := kk) (ds := ds) (vs := vs) (by simpa using h) h2
        show (∀ d', (if sameKey t (kD k') (kD k) = true then some d else lookD t (kD k) (kk.map kD) ds) = some d' → _) ∧ ((if sameKey t (kD k') (kD k) = true then some d else lookD t (kD k) (kk.map kD) ds) = none → _)
        rw [hs]
        by_cases c : k' = k
        · subst c
          simp only [decide_true, if_true]
          refine ⟨fun d' e => ?_, fun e => by cases e⟩
          cases e
          exact ⟨v, by simp [valV], h1⟩
        · simp only [c, decide_false, Bool.false_eq_true, if_false]
          have ev : valV ((k' :: kk).zip (v :: vs)) k = valV (kk.zip vs) k := by simp [valV, List.find?_cons, c]
          rw [ev]
          exact ih
theorem same_false {a b : D} : sameKey false a b = sameK a b := by simp [sameKey]
theorem same_true {a b : List D} : sameKey true (.tup a) (.tup b) = sameKL a b := by simp [sameKey]
/-- a dict at its address -/
theorem dic_at (r : Rel K mg μ H st) {d : D} {v : V} {t : Bool} {ks ds : List D} (h : Rep K mg μ H d v) (e : dicOf st d = some (t, ks, ds)) : ∃ a vs u, v = .ref a ∧ Rd H a u ∧ DicHO t ks vs u ∧ RepL K mg μ H ds vs := by
  cases d with
  | dic t' ks' ds' =>
    cases e
    obtain ⟨a, vs, u, ev, n, q, dh, hh⟩ := h
    exact ⟨a, vs, u, ev, hh.rd, dh, q⟩
  | obj n =>
    obtain ⟨a, ev, hn⟩ := h
    cases ho : st[n]? with
    | none => simp [dicOf, ho] at e
    | some o =>
      cases o with
      | dic t' ks' ds' =>
        simp only [dicOf, ho] at e
        cases e
        obtain ⟨vs, u, q, dh, hh⟩ := r.ob n _ a ho hn
        exact ⟨a, vs, u, ev, .inl hh, dh, q⟩
      | fdc ks' ds' =>
        simp only [dicOf, ho] at e
        cases e
        obtain ⟨vs, u, o, q, dh, hh⟩ := r.ob n _ a ho hn
        exact ⟨a, vs, u, ev, .inr ⟨o, hh⟩, dh, q⟩
      | _ => simp [dicOf, ho] at e
  | _ => cases e
theorem dget_of {a : Addr} {vs : List V} {u : HO} {t : Bool} {ks ds : List D} {k : D} {y : V} (hr : Rd H a u) (dh : DicHO t ks vs u) (hl : RepL K mg μ H ds vs) (hk : isKey t k = true) (hy : Rep K mg μ H k y) :
    (∀ d, lookD t k ks ds = some d → ∃ v, DGet H a y (some v) ∧ Rep K mg μ H d v) ∧ (lookD t k ks ds = none → DGet H a y none) := by
  rcases dh with ⟨rfl, kk, e1, e2, rfl⟩ | ⟨rfl, kk, e1, e2, rfl⟩
  · obtain ⟨k', rfl⟩ := flat_key (show flatKey k = true by simpa [isKey] using hk)
    subst e1
    have ey := keyD_rep hy
    obtain ⟨h1, h2⟩ := look_val (kD := keyD) (t := false) (fun a b => by rw [same_false, keyD_same]) k' e2 hl
    refine ⟨fun d e => ?_, fun e => ?_⟩
    · obtain ⟨v, e3, e4⟩ := h1 d e
      exact ⟨v, .inl ⟨_, k', hr, ey, e3.symm⟩, e4⟩
    · exact .inl ⟨_, k', hr, ey, (h2 e).symm⟩
  · cases k with
    | tup l =>
      obtain ⟨k', rfl⟩ := flat_keys (show l.all flatKey = true by simpa [isKey] using hk)
      subst e1
      obtain ⟨b, ws, rfl, n, hb, hw⟩ := hy
      have ew := keysD_rep hw
      subst ew
      obtain ⟨h1, h2⟩ := look_val (kD := keyTD) (t := true) (fun a b => by rw [keyTD, keyTD, same_true, keyL_same]) k' e2 hl
      refine ⟨fun d e => ?_, fun e => ?_⟩
      · obtain ⟨v, e3, e4⟩ := h1 d e
        exact ⟨v, .inr ⟨_, k', b, hr, rfl, hb, e3.symm⟩, e4⟩
      · exact .inr ⟨_, k', b, hr, rfl, hb, (h2 e).symm⟩
    | _ => simp [isKey] at hk
end
end T5
namespace T5
open PySem PySem.Spec PyProof.Rows L2
variable [TabC]
/-! ### in -/
def flatD : D → Bool
  | .non => true
  | .bl _ => true
  | .int _ => true
  | .str _ => true
  | _ => false
def eqF : D → D → Bool
  | .non, .non => true
  | .bl a, .bl b => a == b
  | .bl a, .int b => (if a then 1 else 0) == b
  | .int a, .bl b => a == (if b then 1 else 0)
  | .int a, .int b => a == b
  | .str a, .str b => a == b
  | _, _ => false
def inF (x : D) (l : List D) : Bool := l.any fun y => eqF y x
def bIn0 (st : Store) (x y : D) : Option Bool := match y with
  | .str s => (match x with
    | .str [c] => some (decide (c ∈ s))
    | _ => none)
  | y => match dicOf st y with
    | some (t, ks, ds) => if isKey t x = true then some (lookD t x ks ds).isSome else none
    | none => (seqOf st y).bind fun l => if flatD x = true ∧ l.all flatD = true then some (inF x l) else none
def bIn : BO := fun st x y => (bIn0 st x y).map .bl
def bNotIn : BO := fun st x y => (bIn0 st x y).map fun b => .bl (!b)
abbrev rDicIn (neg : Bool) : V → V → Hp → VK → Prop := fun y x H Q => ∃ a o, x = .ref a ∧ DGet H a y o ∧ Q (.bl (if neg then !o.isSome else o.isSome)) H
section
variable {X : Cx} {K : PySem.W.Frag} {mg : Str → Option Value} {μ : Mu} {H : Hp} {st : Store} {a b : Expr} {ma mb : ME} {pos : Pos}
theorem op_in_dict (hu : X.A.units + 1 < cLine) : OpR X (compareOp .In) (rDicIn false) := by
  intro pins s σ H y x u v Q I ry rx h
  obtain ⟨a, o, rfl, g, q⟩ := h
  cases rx
  exact d_in hu I g ry fun s' I' => ⟨.bl o.isSome, H, I', rfl, q⟩
theorem flat_rep {d : D} {v : V} (h : Rep K mg μ H d v) (f : flatD d = true) : flatV v = true := by
  cases d with
  | non => cases h; rfl
  | bl _ => cases h; rfl
  | int _ => cases h; rfl
  | str _ => cases h; rfl
  | _ => cases f
theorem flats_rep : ∀ {l : List D} {vs : List V}, RepL K mg μ H l vs → l.all flatD = true → vs.all flatV = true
  | [], vs, h, _ => by
    have e : vs = [] := h
    subst e
    rfl
  | d :: ds, vs, ⟨v, r, e, h1, h2⟩, f => by
    subst e
    have f' : flatD d = true ∧ ds.all flatD = true := by simpa using f
    show (flatV v && r.all flatV) = true
    rw [flat_rep h1 f'.1, flats_rep h2 f'.2]
    rfl
theorem eqF_rep {x y : D} {u v : V} (hx : Rep K mg μ H x u) (hy : Rep K mg μ H y v) (fx : flatD x = true) (fy : flatD y = true) : eqV v u = eqF y x := by
  cases x <;> first | (cases fx; done) | skip
  all_goals cases y <;> first | (cases fy; done) | skip
  all_goals (cases hx; cases hy)
  all_goals first
    | rfl
    | (rename_i a b
       show (toStr b == toStr a) = (b == a)
       by_cases e : b = a
       · rw [e]; simp
       · have : toStr b ≠ toStr a := fun z => e (toStr_inj z)
         rw [beq_eq_false_iff_ne.mpr this, beq_eq_false_iff_ne.mpr e])
theorem inF_rep {x : D} {u : V} (hx : Rep K mg μ H x u) (fx : flatD x = true) : ∀ {l : List D} {vs : List V}, RepL K mg μ H l vs → l.all flatD = true → inV u vs = inF x l
  | [], vs, h, _ => by
    have e : vs = [] := h
    subst e
    rfl
  | d :: ds, vs, ⟨v, r, e, h1, h2⟩, f => by
    subst e
    have f' : flatD d = true ∧ ds.all flatD = true := by simpa using f
    show (eqV v u || inV u r) = (eqF d x || inF x ds)
    rw [eqF_rep hx h1 fx f'.1, inF_rep hx fx h2 f'.2]
abbrev rInA (K : PySem.W.Frag) (neg : Bool) : V → V → Hp → VK → Prop := fun x y H Q => (∃ (c : Nat) (z : Str), x = .str ⟨#[c]⟩ ∧ y = .str z ∧ Q (.bl (if neg then !decide (c ∈ z.cps.toList) else decide (c ∈ z.cps.toList))) H) ∨ rDicIn neg x y H Q ∨ rIn K neg x y H Q
theorem opd_in0 (neg : Bool) : OpD K mg (rInA K neg) (fun st x y => (bIn0 st x y).map fun b => .bl (if neg then !b else b)) := by
  intro μ H st x y d u w Q r hx hy e q
  obtain ⟨b, e1, e2⟩ := Option.map_eq_some_iff.mp e
  subst e2
  unfold bIn0 at e1
  split at e1
  · split at e1
    · rename_i c
      cases e1
      have hu : u = .str (toStr [c]) := hx
      have hw : w = .str (toStr _) := hy
      subst hu hw
      refine .inl ⟨c, _, rfl, rfl, ?_⟩
      rw [toStr_list]
      exact q H _ Ext.refl r rfl
    · cases e1
  · cases e3 : dicOf st y with
    | some p =>
      obtain ⟨t, ks, ds⟩ := p
      simp only [e3] at e1
      split at e1
      · rename_i hk
        cases e1
        obtain ⟨a, vs, u', ev, hr, dh, hl⟩ := dic_at r hy e3
        obtain ⟨h1, h2⟩ := dget_of hr dh hl hk hx
        refine .inr (.inl ?_)
        cases e4 : lookD t x ks ds with
        | some d =>
          rw [e4] at q
          obtain ⟨v, g, _⟩ := h1 d e4
          exact ⟨a, some v, ev, g, q H _ Ext.refl r rfl⟩
        | none =>
          rw [e4] at q
          exact ⟨a, none, ev, h2 e4, q H _ Ext.refl r rfl⟩
      · cases e1
    | none =>
      simp only [e3] at e1
      obtain ⟨l, e4, e5⟩ := Option.bind_eq_some_iff.mp e1
      split at e5
      · rename_i c
        cases e5
        obtain ⟨a, vs, ev, hs, hl⟩ := seq_at r hy e4
        refine .inr (.inr ⟨a, vs, ev, hs, flat_rep hx c.1, flats_rep hl c.2, ?_⟩)
        rw [inF_rep hx c.1 hl c.2]
        exact q H _ Ext.refl r rfl
      · cases e5
theorem opd_in : OpD K mg (rInA K false) bIn := fun μ H st x y d u w Q r hx hy e q => opd_in0 false μ H st x y d u w Q r hx hy e q
theorem opr_in {k : Nat} (hr : Room k X.A) : OpR X (compareOp .In) (rInA X.K false) := by
  have h := (op_in_sign (X := X)).or ((op_in_dict (hu_of hr)).or op_in_seq)
  exact h
theorem st_in {k : Nat} (hr : Room k X.A) (ha : SE X a ma) (hb : SE X b mb) (hm : behindInMarks .In b = false := by rfl) : ST X (.Compare a [.In] [b] pos) (cBool (eBin bIn ma mb)) := st_cmp (fun pn xe => opr_in (X := X.tr pn xe) hr) opd_in ha hb hm
end
/-! ### subscripts -/
def bIx : BO := fun st x i => match x, i with
  | .str s, .int k => if s.length ≤ cap then (atI s k).map fun c => .str [c] else none
  | x, i => match dicOf st x with
    | some (t, ks, ds) => if isKey t i = true then lookD t i ks ds else none
    | none => (match i with
      | .int k => (seqOf st x).bind fun l => atI l k
      | _ => none)
abbrev rIxA (K : PySem.W.Frag) : V → V → Hp → VK → Prop := fun x y H Q => (∃ a v, x = .ref a ∧ DGet H a y (some v) ∧ Q v H) ∨ rIx K x y H Q
section
variable {X : Cx} {K : PySem.W.Frag} {mg : Str → Option Value} {μ : Mu} {H : Hp} {st : Store} {a b : Expr} {ma mb : ME} {pos : Pos}
theorem ix_dict (hu : X.A.units + 1 < cLine) : IxR X (fun x y H Q => ∃ a v, x = .ref a ∧ DGet H a y (some v) ∧ Q v H) := by
  intro value slice pins s σ H x y v u Q I rx ry h hs
  obtain ⟨a, w, rfl, g, q⟩ := h
  cases rx
  exact tail_any (dict_typeIs I g) PySem.F.slot_dict_getitem.lookup (d_getItem hu I g ry fun w' s' I' rw' => ⟨w, H, I', rw', q⟩) hs
theorem RepL.atI {l : List D} {vs : List V} {i : Int} {d : D} (h : RepL K mg μ H l vs) (e : L2.atI l i = some d) : ∃ v, L2.atI vs i = some v ∧ Rep K mg μ H d v := by
  unfold L2.atI at e ⊢
  rw [← h.length]
  obtain ⟨j, e1, e2⟩ := Option.bind_eq_some_iff.mp e
  obtain ⟨v, e3, e4⟩ := h.get e2
  exact ⟨v, by rw [e1]; exact e3, e4⟩
theorem opd_ix : OpD K mg (rIxA K) bIx := by
  intro μ H st x i d u w Q r hx hi e q
  unfold bIx at e
  split at e
  · split at e
    · rename_i s k c
      obtain ⟨ch, e1, e2⟩ := Option.map_eq_some_iff.mp e
      subst e2
      have hu : u = .str (toStr s) := hx
      have hw : w = .int k := hi
      subst hu hw
      refine .inr (.inr (.inr ⟨toStr s, k, ch, rfl, rfl, by rw [toStr_length]; exact cap_line c, by rw [toStr_list]; exact e1, ?_⟩))
      exact q H _ Ext.refl r rfl
    · cases e
  · cases e3 : dicOf st x with
    | some p =>
      obtain ⟨t, ks, ds⟩ := p
      simp only [e3] at e
      split at e
      · rename_i hk
        obtain ⟨a, vs, u', ev, hr, dh, hl⟩ := dic_at r hx e3
        obtain ⟨h1, h2⟩ := dget_of hr dh hl hk hi
        obtain ⟨v, g, hv⟩ := h1 d e
        exact .inl ⟨a, v, ev, g, q H v Ext.refl r hv⟩
      · cases e
    | none =>
      simp only [e3] at e
      cases i with
      | int k =>
        obtain ⟨l, e4, e5⟩ := Option.bind_eq_some_iff.mp e
        obtain ⟨a, vs, ev, hs, hl⟩ := seq_at r hx e4
        obtain ⟨v, e6, hv⟩ := hl.atI e5
        have hw : w = .int k := hi
        rcases hs with hs | hs
        · exact .inr (.inl ⟨a, vs, k, v, ev, hw, hs, e6, q H v Ext.refl r hv⟩)
        · exact .inr (.inr (.inl ⟨a, vs, k, v, ev, hw, hs, e6, q H v Ext.refl r hv⟩))
      | _ => cases e
theorem se_sub_ix {k : Nat} (hr : Room k X.A) (ha : SE X a ma) (hb : SE X b mb) (hs : PlainIx b) : SE X (.Subscript a b pos) (eBin bIx ma mb) := se_ix (fun pn xe => (ix_dict (X := X.tr pn xe) (hu_of hr)).or ix_seq) opd_ix ha hb hs
/-! slices -/
abbrev MO := DEnv → Store → R (Option Int)
def tMO (K : PySem.W.Frag) (mg : Str → Option Value) (W : WX) (m : MO) : TO := fun σ H Q => ∃ μ env st, Rel K mg μ H st ∧ REnv K mg μ H env σ ∧ Aft K mg W σ μ H (m env st) fun o _ _ H' => Q o H'
def SO (X : Cx) (e : Option Expr) (m : MO) : Prop := ∀ pn xe W, Takes (X.tr pn xe) W → PO (X.tr pn xe) e (tMO X.K X.mg W m)
theorem PO.imp {e : Option Expr} {t t' : TO} (h : PO X e t) (f : ∀ σ H Q, t' σ H Q → t σ H Q) : PO X e t' := ⟨fun pins s σ H Q I q => h.run pins s σ H Q I (f σ H Q q)⟩
def oNone : MO := fun _ st => .ok none st
def oSome (m : ME) : MO := fun env st => (m env st).bind fun d st1 => match d with
  | .int i => .ok (some i) st1
  | _ => .bad
theorem so_none : SO X none oNone := fun pn xe W _ => PO.imp po_none fun σ H Q h => by
  obtain ⟨μ, env, st, r, re, a⟩ := h
  exact a μ H Ext.refl r
theorem so_some (he : SE X a ma) : SO X (some a) (oSome ma) := fun pn xe W tk => PO.imp (po_some (he pn xe W tk)) fun σ H Q h => by
  obtain ⟨μ, env, st, r, re, q⟩ := h
  refine ⟨μ, env, st, r, re, (Aft.bind q).imp fun d st1 μ1 H1 x r1 a1 v hv => ?_⟩
  cases d with
  | int i =>
    cases hv
    exact ⟨i, rfl, a1 μ1 H1 Ext.refl r1⟩
  | _ => exact a1.elim
def cutD {α : Type} (l : List α) (lo hi : Option Int) : List α := (l.drop (HT.sIx l.length 0 lo)).take (HT.sIx l.length l.length hi - HT.sIx l.length 0 lo)
def bSl (st : Store) (x : D) (lo hi : Option Int) : Option D := match x with
  | .str s => if s.length ≤ cap then some (.str (cutD s lo hi)) else none
  | .tup l => some (.tup (cutD l lo hi))
  | x => (lstOf st x).map fun l => .lst (cutD l lo hi)
def eSl (m : ME) (lo hi : MO) : ME := fun env st => (m env st).bind fun d st1 => (lo env st1).bind fun l st2 => (hi env st2).bind fun h st3 => ofO (bSl st3 d l h) st3
theorem cutD_rep {l : List D} {vs : List V} (h : RepL K mg μ H l vs) (lo hi : Option Int) : RepL K mg μ H (cutD l lo hi) (cutV vs lo hi) := by
  unfold cutD cutV
  rw [← h.length]
  exact (h.drop _).take _
theorem se_slice {lo hi : Option Expr} {ml mh : MO} {p2 : Pos} (he : SE X a ma) (hl : SO X lo ml) (hh : SO X hi mh) : SE X (.Subscript a (.Slice lo hi none p2) pos) (eSl ma ml mh) := fun pn xe W tk => by
  refine PE.imp (pe_slice (X := X.tr pn xe) (sl_list.or (sl_tupA.or sl_str)) (he pn xe W tk) (hl pn xe W tk) (hh pn xe W tk)) fun σ H Q h => ?_
  refine tM_seq h fun d x μ1 env st1 H1 r1 re1 h1 a1 => ?_
  refine ⟨μ1, env, st1, r1, re1, (Aft.bind a1).imp fun l st2 μ2 H2 x2 r2 a2 => ?_⟩
  refine ⟨μ2, env, st2, r2, re1.ext x2, (Aft.bind a2).imp fun h st3 μ3 H3 x3 r3 a3 => ?_⟩
  have h3 := (h1.ext x2).ext x3
  cases e : bSl st3 d l h with
  | none => rw [e] at a3; exact a3.elim
  | some d' =>
    rw [e] at a3
    unfold bSl at e
    split at e
    · split at e
      · rename_i s c
        cases e
        have hx : x = .str (toStr s) := h3
        subst hx
        refine .inr (.inr ⟨toStr s, rfl, by rw [toStr_length]; exact cap_line c, ?_⟩)
        have e2 : cutS (toStr s) l h = toStr (cutD s l h) := by
          unfold cutS cutD
          rw [toStr_list, toStr_length]
          rfl
        rw [e2]
        exact a3 μ3 H3 Ext.refl r3 _ rfl
      · cases e
    · rename_i lt
      cases e
      obtain ⟨p, vs, rfl, hs, hl⟩ := seq_tup h3
      refine .inr (.inl ⟨p, vs, rfl, hs, fun c => ?_, fun c o ho => ?_⟩)
      · have e2 : cutD lt l h = lt := by
          unfold cutD
          rw [hl.length, c.1, c.2, List.drop_zero, Nat.sub_zero, ← hl.length, List.take_length]
        rw [e2] at a3
        exact a3 μ3 H3 Ext.refl r3 _ h3
      · exact a3 μ3 _ (Ext.same r3 (same_upd ho)) (r3.same (same_upd ho)) _ (rep_newT r3 ho (cutD_rep hl l h))
    · obtain ⟨l', e1, e2⟩ := Option.map_eq_some_iff.mp e
      subst e2
      obtain ⟨p, vs, rfl, hs, hl⟩ := lst_at r3 h3 e1
      exact .inl ⟨p, vs, rfl, .inl (.inl hs), fun o ho => a3 μ3 _ (Ext.same r3 (same_upd ho)) (r3.same (same_upd ho)) _ (rep_newL r3 ho (cutD_rep hl l h))⟩
end
end T5
namespace T5
open PySem PySem.Spec PyProof.Rows L2
variable [TabC]
/-! ### built-ins by name -/
abbrev BF := Store → List D → Option D
def CallD (K : PySem.W.Frag) (mg : Str → Option Value) (r : List V → Hp → VK → Prop) (f : BF) : Prop :=
  ∀ (μ : Mu) (H : Hp) (st : Store) (ds : List D) (d : D) (vs : List V) (Q : VK), Rel K mg μ H st → RepL K mg μ H ds vs → f st ds = some d → (∀ H' v, Ext μ H μ H' → Rel K mg μ H' st → Rep K mg μ H' d v → Q v H') → r vs H Q
def eCB (f : BF) (ma : MA) : ME := fun env st => (ma env st).bind fun ds st1 => ofO (f st1 ds) st1
section
variable {X : Cx} {e : Expr} {es : List Expr} {m : ME} {ma : MA} {p pos : Pos} {x : Str} {id T : String} {r : List V → Hp → VK → Prop} {f : BF}
theorem tCB_of {K : PySem.W.Frag} {mg : Str → Option Value} {W : WX} (hd : CallD K mg r f) {σ : L2.St} {H : Hp} {Q : VK} (h : tM K mg W (eCB f ma) σ H Q) : tCB r (tMA K mg W ma) σ H Q :=
  tMA_run h fun ds vs μ env st H1 r1 re hv a => by
    cases e : f st ds with
    | none => rw [e] at a; exact a.elim
    | some d =>
      rw [e] at a
      exact hd μ H1 st ds d vs Q r1 hv e fun H' v x' r' h' => a μ H' x' r' v h'
theorem se_callB (hc : ∀ pn xe, CallR (X.tr pn xe) (.builtin id) r) (hd : CallD X.K X.mg r f) (hg : Gl X x) (hm : X.mg x = none) (hv : bootBuiltins x = some (.builtin id)) (ha : SA X (e :: es) ma) (hn : x ≠ "__name__" := by decide) (hdb : (x == ("__debug__" : Str)) = false := by decide)
    (he : starEach (e :: es) X.env = (false, eval e X.env) :: starEach es X.env := by rfl) (hpl : (backTo pos (starEach es X.env)).any (·.1) = false := by rfl) : SE X (.Call (.Name x p) (e :: es) [] pos) (eCB f ma) := fun pn xe W tk =>
  PE.imp (pe_callB (X := X.tr pn xe) (hc pn xe) hg hm hv (ha pn xe W tk) hn hdb he hpl) fun σ H Q h => tCB_of hd h
theorem se_callTy (hc : ∀ pn xe, CallR (X.tr pn xe) (.type T) r) (hd : CallD X.K X.mg r f) (hg : Gl X x) (hm : X.mg x = none) (hv : bootBuiltins x = some (.type T)) (ha : SA X (e :: es) ma) (hn : x ≠ "__name__" := by decide) (hdb : (x == ("__debug__" : Str)) = false := by decide)
    (he : starEach (e :: es) X.env = (false, eval e X.env) :: starEach es X.env := by rfl) (hpl : (backTo pos (starEach es X.env)).any (·.1) = false := by rfl) : SE X (.Call (.Name x p) (e :: es) [] pos) (eCB f ma) := fun pn xe W tk =>
  PE.imp (pe_callTy (X := X.tr pn xe) (hc pn xe) hg hm hv (ha pn xe W tk) hn hdb he hpl) fun σ H Q h => tCB_of hd h
end
section
variable {X : Cx} {K : PySem.W.Frag} {mg : Str → Option Value} {e : Expr} {es : List Expr} {m : ME} {ma : MA} {p pos : Pos}
theorem repL1 {μ : Mu} {H : Hp} {d : D} {vs : List V} (h : RepL K mg μ H [d] vs) : ∃ v, vs = [v] ∧ Rep K mg μ H d v := by
  obtain ⟨v, r, e, h1, h2⟩ := h
  have e2 : r = [] := h2
  exact ⟨v, by rw [e, e2], h1⟩
theorem repL2 {μ : Mu} {H : Hp} {d d2 : D} {vs : List V} (h : RepL K mg μ H [d, d2] vs) : ∃ v v2, vs = [v, v2] ∧ Rep K mg μ H d v ∧ Rep K mg μ H d2 v2 := by
  obtain ⟨v, r, e, h1, h2⟩ := h
  obtain ⟨v2, e2, h3⟩ := repL1 h2
  exact ⟨v, v2, by rw [e, e2], h1, h3⟩
/-- len -/
def fLen : BF := fun st ds => match ds with
  | [d] => (match d with
    | .str s => if s.length ≤ cap then some (.int s.length) else none
    | d => (match dicOf st d with
      | some (t, ks, _) => if t = false then some (.int ks.length) else none
      | none => (seqOf st d).map fun l => .int l.length))
  | _ => none
abbrev rLenA (K : PySem.W.Frag) : List V → Hp → VK → Prop := fun xs H Q => (∃ x n, xs = [x] ∧ LenV K x H n ∧ Q (.int n) H) ∨ (∃ a kvs, xs = [V.ref a] ∧ Rd H a (.dK kvs) ∧ Q (.int kvs.length) H)
theorem call_lenR : CallR X (.builtin "len") (fun xs H Q => ∃ a kvs, xs = [V.ref a] ∧ Rd H a (.dK kvs) ∧ Q (.int kvs.length) H) := by
  intro pins s σ H xs us Q I r h
  obtain ⟨a, kvs, rfl, ha, q⟩ := h
  obtain ⟨u, rfl, ru⟩ := vals1 r
  cases ru
  exact d_len I ha fun t s' I' => ⟨.int kvs.length, H, I', ⟨t, rfl⟩, q⟩
theorem calld_len : CallD K mg (rLenA K) fLen := by
  intro μ H st ds d vs Q r hv e q
  cases ds with
  | nil => cases e
  | cons x xs =>
    cases xs with
    | cons _ _ => cases e
    | nil =>
      obtain ⟨v, rfl, h1⟩ := repL1 hv
      have other : (∀ s, x ≠ .str s) → rLenA K [v] H Q := fun hx => by
        have e' : (match dicOf st x with
          | some (t, ks, _) => if t = false then some (.int ks.length) else none
          | none => (seqOf st x).map fun l => D.int l.length) = some d := by
          cases x <;> first | exact e | exact absurd rfl (hx _)
        cases e3 : dicOf st x with
        | some pr =>
          obtain ⟨t, ks, ws⟩ := pr
          rw [e3] at e'
          have e'' : (if t = false then some (D.int ks.length) else none) = some d := e'
          by_cases ct : t = false
          · rw [if_pos ct] at e''
            cases e''
            obtain ⟨a, vs, u, rfl, hr, dh, hl⟩ := dic_at r h1 e3
            rcases dh with ⟨_, kk, e1, e2, rfl⟩ | ⟨c, _⟩
            · refine .inr ⟨a, _, rfl, hr, ?_⟩
              have : (kk.zip vs).length = ks.length := by rw [e1, List.length_zip, ← e2]; simp
              rw [this]
              exact q H _ Ext.refl r rfl
            · rw [ct] at c
              cases c
          · rw [if_neg ct] at e''
            cases e''
        | none =>
          rw [e3] at e'
          obtain ⟨l, e4, e5⟩ := Option.map_eq_some_iff.mp e'
          subst e5
          obtain ⟨a, ws, rfl, hs, hl⟩ := seq_at r h1 e4
          refine .inl ⟨_, l.length, rfl, ?_, q H _ Ext.refl r rfl⟩
          exact hs.imp (fun hs => ⟨ws, hs, hl.length⟩) fun hs => ⟨ws, hs, hl.length⟩
      cases x with
      | str s =>
        have e' : (if s.length ≤ cap then some (D.int s.length) else none) = some d := e
        split at e'
        · rename_i c
          cases e'
          have hv' : v = .str (toStr s) := h1
          subst hv'
          refine .inl ⟨_, s.length, rfl, ⟨by rw [toStr_length]; exact cap_line c, by rw [toStr_length]⟩, ?_⟩
          exact q H _ Ext.refl r rfl
        · cases e'
      | _ => exact other (fun _ z => by cases z)
theorem se_len (hg : Gl X "len") (hm : X.mg "len" = none) (ha : SA X (e :: es) ma) (he : starEach (e :: es) X.env = (false, eval e X.env) :: starEach es X.env := by rfl) (hpl : (backTo pos (starEach es X.env)).any (·.1) = false := by rfl) : SE X (.Call (.Name "len" p) (e :: es) [] pos) (eCB fLen ma) :=
  se_callB (fun _ _ => call_len.or call_lenR) calld_len hg hm PySem.boot_len ha (by decide) (by decide) he hpl
/-- int -/
def fInt : BF := fun _ ds => match ds with
  | [.int i] => some (.int i)
  | [.bl b] => some (.int (if b then 1 else 0))
  | [.str s] => if s.length ≤ 640 then (PySem.intText? (toStr s)).map .int else none
  | _ => none
theorem calld_int : CallD K mg (fun xs H Q => ((∃ i, xs = [.int i] ∧ Q (.int i) H) ∨ ∃ k, xs = [.bl k] ∧ Q (.int (if k then 1 else 0)) H) ∨ (∃ a n, xs = [.str a] ∧ PySem.intText? a = some n ∧ a.length ≤ 640 ∧ Q (.int n) H)) fInt := by
  intro μ H st ds d vs Q r hv e q
  unfold fInt at e
  split at e
  · cases e
    obtain ⟨v, rfl, h1⟩ := repL1 hv
    cases h1
    exact .inl (.inl ⟨_, rfl, q H _ Ext.refl r rfl⟩)
  · cases e
    obtain ⟨v, rfl, h1⟩ := repL1 hv
    cases h1
    exact .inl (.inr ⟨_, rfl, q H _ Ext.refl r rfl⟩)
  · split at e
    · rename_i s c
      obtain ⟨n, e1, e2⟩ := Option.map_eq_some_iff.mp e
      subst e2
      obtain ⟨v, rfl, h1⟩ := repL1 hv
      cases h1
      exact .inr ⟨_, n, rfl, e1, by rw [toStr_length]; exact c, q H _ Ext.refl r rfl⟩
    · cases e
  · cases e
theorem se_int1 (hg : Gl X "int") (hm : X.mg "int" = none) (ha : SA X (e :: es) ma) (he : starEach (e :: es) X.env = (false, eval e X.env) :: starEach es X.env := by rfl) (hpl : (backTo pos (starEach es X.env)).any (·.1) = false := by rfl) : SE X (.Call (.Name "int" p) (e :: es) [] pos) (eCB fInt ma) :=
  se_callTy (fun _ _ => call_int1.or call_int_str) calld_int hg hm (by decide +kernel) ha (by decide) (by decide) he hpl
/-- list(x), tuple(x) -/
def fList : BF := fun st ds => match ds with
  | [d] => (seqOf st d).map .lst
  | _ => none
def fTuple : BF := fun st ds => match ds with
  | [d] => (seqOf st d).map .tup
  | _ => none
/-- list(x), a list that changes later -/
def eListM (ma : MA) : ME := fun env st => (ma env st).bind fun ds st1 => match ds with
  | [d] => (match seqOf st1 d with
    | some l => .ok (.obj st1.length) (st1 ++ [.lst l])
    | none => .bad)
  | _ => .bad
/-- max, min of two or three -/
def maxI (i j : Int) : Int := if j > i then j else i
def minI (i j : Int) : Int := if j < i then j else i
def intsD : List D → Option (List Int)
  | [] => some []
  | .int i :: ds => (intsD ds).map fun is => i :: is
  | _ => none
/-- the greatest -/
def maxL : List Int → Option Int
  | [] => none
  | i :: is => some (is.foldl maxI i)
def minL : List Int → Option Int
  | [] => none
  | i :: is => some (is.foldl minI i)
def fMax : BF := fun st ds => match ds with
  | [.int i, .int j] => some (.int (maxI i j))
  | [d] => (lstOf st d).bind fun l => (intsD l).bind fun is => (maxL is).map .int
  | _ => none
def fMin : BF := fun st ds => match ds with
  | [.int i, .int j] => some (.int (minI i j))
  | [d] => (lstOf st d).bind fun l => (intsD l).bind fun is => (minL is).map .int
  | _ => none
/-- sum, all, any of a list -/
def blsD : List D → Option (List Bool)
  | [] => some []
  | .bl b :: ds => (blsD ds).map fun bs => b :: bs
  | _ => none
theorem blsD_rep {μ : Mu} {H : Hp} : ∀ {ds : List D} {bs : List Bool} {vs : List V}, blsD ds = some bs → RepL K mg μ H ds vs → vs = bs.map V.bl
  | [], is, vs, e, h => by
    cases e
    exact h
  | d :: ds, is, vs, e, ⟨v, r, ev, h1, h2⟩ => by
    cases d with
    | bl i =>
      obtain ⟨js, e1, e2⟩ := Option.map_eq_some_iff.mp (show (blsD ds).map (fun is => i :: is) = some is from e)
      subst e2
      have : v = .bl i := h1
      rw [ev, this, blsD_rep e1 h2]
      rfl
    | _ => cases e
def fSum : BF := fun st ds => match ds with
  | [d] => (lstOf st d).bind fun l => (intsD l).map fun is => .int is.sum
  | _ => none
def fAll : BF := fun st ds => match ds with
  | [d] => (lstOf st d).bind fun l => (blsD l).map fun bs => .bl (bs.all id)
  | _ => none
def fAny : BF := fun st ds => match ds with
  | [d] => (lstOf st d).bind fun l => (blsD l).map fun bs => .bl (bs.any id)
  | _ => none
theorem calld_all : CallD K mg (rAll K) fAll := by
  intro μ H st ds d vs Q r hv e q
  unfold fAll at e
  split at e
  · obtain ⟨l, e1, e2⟩ := Option.bind_eq_some_iff.mp e
    obtain ⟨is, e3, e4⟩ := Option.map_eq_some_iff.mp e2
    subst e4
    obtain ⟨v, rfl, h1⟩ := repL1 hv
    obtain ⟨a, ws, rfl, hs, hl⟩ := lst_at r h1 e1
    exact ⟨a, is, rfl, by rw [← blsD_rep e3 hl]; exact .inl (.inl hs), q H _ Ext.refl r rfl⟩
  · cases e
theorem se_all (hc : X.calm = true) (hg : Gl X "all") (hm : X.mg "all" = none) (ha : SA X (e :: es) ma) (he : starEach (e :: es) X.env = (false, eval e X.env) :: starEach es X.env := by rfl) (hpl : (backTo pos (starEach es X.env)).any (·.1) = false := by rfl) : SE X (.Call (.Name "all" p) (e :: es) [] pos) (eCB fAll ma) :=
  se_callB (fun pn xe => cr_all (X := X.tr pn xe) hc) calld_all hg hm (by decide +kernel) ha (by decide) (by decide) he hpl
/-- list(range(n)) -/
def eLstRg (ma : ME) : ME := fun env st => (ma env st).bind fun d st1 => match d with
  | .int n => if n ≤ cap ∧ -(2 ^ 62) ≤ n then .ok (.lst (upTo 0 n.toNat)) st1 else .bad
  | _ => .bad
end
end T5
namespace PySem
open Sem (wp)
set_option maxHeartbeats 1000000 in
theorem t5_enum_new {v : Value} {o : Obj} {H : Heap → Prop} (B : Begins v o H) :
    Meets (Builtin.«enumerate.__new__» ⟨[.type "enumerate", v], []⟩) (fun _ R s => H s.heap ∧
      R (.ok (.ret (.ref (s.heap.push o).objs.size))) { s with heap := (s.heap.push o).push { cls := .type "enumerate", data := .fields #[.none, .bool false, .ref s.heap.objs.size, rawInt 0, .none, .none] } }) :=
  .of_wp fun prog w A R s h => by
    obtain ⟨hp, g, d, tk, os⟩ := s
    obtain ⟨h1, h⟩ := h
    have hsub := sub_enumerate
    have q1 : ∀ {A' : Around} {E : Value → Shared → Prop} {Q : Value → Shared → Prop}, Q (.ref hp.objs.size) ⟨hp.push o, g, d, tk, os⟩ → wpAny (model prog w) A' (pyIter v) Q E ⟨hp, g, d, tk, os⟩ :=
      fun q => B.iter prog w _ _ ⟨hp, g, d, tk, os⟩ _ h1 q
    wp_walk using q1
    refine wpAny_stack_any fun st => wpAny_pure ?_
    split
    · rename_i c _ _ _ _ _
      cases (c == Value.type "enumerate")
      · wp_walk using q1
        exact ⟨_, rfl, h⟩
      · wp_walk using q1
        exact ⟨_, rfl, h⟩
    · wp_walk using q1
      exact ⟨_, rfl, h⟩
theorem t5_enum_call {prog : Program} {w : World} {A : Around} {E : Value → Shared → Prop} {s : Shared} {v : Value} {o : Obj} {H : Heap → Prop} {Q : Value → Shared → Prop} (B : Begins v o H) (h1 : H s.heap)
    (h : ∀ h', IsEnum h' (s.heap.objs.size + 1) s.heap.objs.size 0 .none → h'.get? s.heap.objs.size = some o → h'.objs.size = s.heap.objs.size + 2 →
      (∀ b o, s.heap.get? b = some o → h'.get? b = some o) → Q (.ref (s.heap.objs.size + 1)) { s with heap := h' }) :
    wpAny (model prog w) A (call (.type "enumerate") [v]) Q E s := by
  refine callType_new F.called_enumerate (by decide) (F.typeCall_enumerate_1 _) (F.newCall_enumerate_1 _) (fun obj => F.args_object_init_2 obj _) F.entry_enumerate_new
    (t5_enum_new B) ⟨h1, ?_⟩
  have hz : (s.heap.push o).objs.size = s.heap.objs.size + 1 := Heap.size_push ..
  show _ ∧ _
  rw [hz]
  have he : IsEnum ((s.heap.push o).push { cls := .type "enumerate", data := .fields #[.none, .bool false, .ref s.heap.objs.size, rawInt 0, .none, .none] }) (s.heap.objs.size + 1) s.heap.objs.size 0 .none := by
    have := Heap.get?_push_size (s.heap.push o) (o := { cls := .type "enumerate", data := .fields #[.none, .bool false, .ref s.heap.objs.size, rawInt 0, .none, .none] }) rfl
    rw [hz] at this; exact this
  refine ⟨⟨_, he, rfl⟩, h _ he (Heap.get?_push_of_some _ (Heap.get?_push_size _ B.free)) (by rw [Heap.size_push, hz]) fun b o x => Heap.get?_push_of_some _ (Heap.get?_push_of_some _ x)⟩
end PySem
namespace T5
open PySem PySem.Spec PyProof.Rows L2
variable [TabC]
/-- the items of the tuple at a, with their numbers -/
def IteT (K : PySem.W.Frag) (a : Addr) : It :=
  ⟨fun i H => ∃ xs x, SqT K H a xs ∧ xs[i]? = some x, fun i H v H' => ∃ T x, v = .ref T ∧ H T = none ∧ H' = upd H T (.tup [.int (i : Nat), x]) ∧ ∀ xs, SqT K H a xs → xs[i]? = some x, fun i H => ∃ xs, SqT K H a xs ∧ xs.length ≤ i⟩
theorem enum_apart {X : Cx} {pins : List (Addr × Obj)} {σ : L2.St} {H : Hp} {s : Shared} {a e it : Addr} {its : Array Value} {i : Nat} {old : Value} {c : Int} (p : IsTup s.heap a its) (he : IsEnum s.heap e it c old) (hit : s.heap.IsTupleIter it a i) : a ≠ e ∧ a ≠ it := by
  obtain ⟨o, ho, hc, _⟩ := p
  constructor
  · intro z
    subst z
    rw [he] at ho
    cases ho
    exact absurd (Value.type.inj hc) (by decide)
  · intro z
    subst z
    obtain ⟨o2, ho2, hc2, _⟩ := hit
    rw [ho2] at ho
    cases ho
    rw [hc2] at hc
    exact absurd (Value.type.inj hc) (by decide)
theorem turn_enumT {P : Program} {w : World} {K : PySem.W.Frag} {elts : List Expr} {kk : Nat} {tpos : Pos} (a e it : Addr) :
    Turn P w K (.Tuple elts kk tpos) (IteT K a) [e, it] e (fun i h => (∃ old, IsEnum h e it ((i : Nat) : Int) old) ∧ h.IsTupleIter it a i ∧ e ≠ it) where
  mem := by simp
  obj := fun i h st b hb => by
    obtain ⟨⟨old, he⟩, ⟨o, ho, hc, hd⟩, _⟩ := st
    have e' : b = e ∨ b = it := by simpa using hb
    rcases e' with z | z
    · rw [z]; exact ⟨_, he, fun v q => nomatch q⟩
    · rw [z]; exact ⟨o, ho, fun v q => by rw [hd] at q; cases q⟩
  keep := fun i h h' st k => let ⟨⟨old, he⟩, hi, hne⟩ := st; ⟨⟨old, k e (by simp) _ he⟩, hi.at fun o q => k it (by simp) o q, hne⟩
  item := by
    intro X hP hw hK hc i pins s σ H E I hf st hg
    subst hP hw hK
    obtain ⟨⟨old, he⟩, hit, hne⟩ := st
    obtain ⟨xs, x, hq, hx⟩ := hg
    obtain ⟨its, rv, p, hz⟩ := I.tuple hq
    obtain ⟨u, hu, ru⟩ := rv.get hx
    obtain ⟨na1, na2⟩ := enum_apart (X := X) (pins := pins) (σ := σ) (H := H) p he hit
    have hel : e < s.heap.objs.size := Heap.lt_size he
    have hil : it < s.heap.objs.size := by obtain ⟨_, q, _⟩ := hit; exact Heap.lt_size q
    have hsz : i < its.toArray.size := by
      have := (List.getElem?_eq_some_iff.mp hu).1
      simpa using this
    have hh : X.A.in1.handled = none := I.ok.hd hc
    refine wpAny_pyNext_enum_itemD (Draws.tuple (prog := X.prog) (w := X.w) hh it a na2 its.toArray) he ⟨hit, p⟩ hsz hne (by
      intro z
      have z' : e = it ∨ e = a := by simpa using z
      rcases z' with z' | z'
      · exact hne z'
      · exact na1 z'.symm) fun x' h' tk hP ho hit' hT hsz hk => ?_
    have ex : x' = u := by
      have h1 : its[i]? = some x' := by simpa using hP
      exact Option.some.inj (h1.symm.trans hu)
    subst ex
    refine ⟨_, rfl, wpAny_letOwnedTupleGo_enum (s := { s with heap := h', toks := tk + 1 }) ho fun h'' he' sb => ?_⟩
    have hT2 : h''.get? s.heap.objs.size = some { cls := .type "tuple", data := .seq #[.int i tk, x'] } := (sb.2 _ (Nat.ne_of_gt hel)).trans hT
    have new : ObjOk X.prog X.w (upd H s.heap.objs.size (.tup [.int (i : Nat), x])) h'' s.heap.objs.size (.tup [.int (i : Nat), x]) :=
      ⟨by show 2 ≤ sizeLine; decide, [.int i tk, x'], .cons ⟨_, rfl⟩ (.cons ru .nil), ⟨_, hT2, rfl, _, rfl⟩⟩
    have I1 : Inv X pins σ (upd H s.heap.objs.size (.tup [.int (i : Nat), x])) { s with heap := h'', toks := tk + 1 } :=
      I.turnedNew (ch := [e, it]) (fun b ob hb q => (sb.2 b (fun z => hb (by simp [z]))).trans (hk b ob (fun z => hb (by simp [z])) (fun z => hb (by simp [z])) q)) hf (Nat.le_refl _) new
    refine ⟨.ref s.heap.objs.size, _, I1, rfl, ⟨_, x, rfl, I.hok.fresh (Nat.le_refl _), rfl, fun ys hy => by rw [I.tuple_inj hy hq]; exact hx⟩, ⟨⟨x', ?_⟩, hit'.1.at fun o q => (sb.2 it (Ne.symm hne)).trans q, hne⟩, fun b hb => ?_⟩
    · have e1 : ((i + 1 : Nat) : Int) = (i : Int) + 1 := by omega
      rw [e1]; exact he'
    · have hb' : b < s.heap.objs.size := by
        have e' : b = e ∨ b = it := by simpa using hb
        rcases e' with z | z
        · rw [z]; exact hel
        · rw [z]; exact hil
      rw [upd_ne (Nat.ne_of_lt hb')]
      exact (hf b hb).1
  done := by
    intro X hP hw hK hc i pins s σ H E I hf st hg
    subst hP hw hK
    obtain ⟨⟨old, he⟩, hit, hne⟩ := st
    obtain ⟨xs, hq, hx⟩ := hg
    obtain ⟨its, rv, p, hz⟩ := I.tuple hq
    obtain ⟨f0, f1, f2, f3, f4, f5⟩ := hf it (by simp)
    obtain ⟨na1, na2⟩ := enum_apart (X := X) (pins := pins) (σ := σ) (H := H) p he hit
    have hl := rv.length
    have hh : X.A.in1.handled = none := I.ok.hd hc
    have hx' : its.toArray[i]? = none := by
      rw [List.getElem?_toArray]
      exact List.getElem?_eq_none_iff.mpr (by omega)
    have hTy : s.TypeIs (.ref e) "enumerate" := ⟨_, he, rfl⟩
    unfold pyNext
    refine wpAny_bind (wpAny_attempt (wpAny_callSpecial?_slot (name := Str.ofString "__next__") hTy PySem.F.slot_enumerate_next
      (wpAny_call_entry PySem.F.slot_enumerate_next hTy PySem.F.entry_enumerate_next ?_ (PySem.F.args_enumerate_next_1 _))))
    show wpAny _ _ (field (.ref e) 2 >>= _) _ _ _
    refine wpAny_bind (wpAny_field he rfl (x := .ref it) rfl ?_)
    refine wpAny_bind (wpAny_nextOf_tuple_end hh hit p hx' fun h' x he' hx' => ?_)
    obtain ⟨o, ho, hcc⟩ := hx'
    refine wpAny_bind (wpAny_isInstance (T := "StopIteration") (b := true) ⟨o, ho, hcc⟩ isSubtype_stop ?_)
    exact wpAny_pure ⟨rfl, I.turned (t' := s.toks) (fun b o hb q => he' b o hb q) f0 f1 f3 f4 f5⟩
  self := fun A i s Q E st h => let ⟨⟨_, he⟩, _⟩ := st; wpAny_pyIter_enum he h
def iEn (m : ME) : MI := fun env st => (m env st).bind fun d st1 => match d with
  | .tup l => .ok (l.zipIdx.map fun p => .tup [.int (p.2 : Nat), p.1]) st1
  | .lst l => .ok (l.zipIdx.map fun p => .tup [.int (p.2 : Nat), p.1]) st1
  | .scr l => .ok (l.zipIdx.map fun p => .tup [.int (p.2 : Nat), p.1]) st1
  | _ => .bad
theorem en_get {l : List D} {i : Nat} {d : D} (h : (l.zipIdx.map fun p => D.tup [.int (p.2 : Nat), p.1])[i]? = some d) : ∃ x, l[i]? = some x ∧ d = .tup [.int (i : Nat), x] := by
  rw [List.getElem?_map, List.getElem?_zipIdx] at h
  cases e : l[i]? with
  | none => rw [e] at h; cases h
  | some x =>
    rw [e] at h
    simp at h
    exact ⟨x, rfl, h.symm⟩
theorem itd_en {K : PySem.W.Frag} {mg : Str → Option Value} {μ : Mu} {H : Hp} {l : List D} {J : It} (hg : ∀ i μ1 H1 st1, Ext μ H μ1 H1 → Rel K mg μ1 H1 st1 → (∀ x, l[i]? = some x → J.go i H1 ∧ ∀ v H', J.yld i H1 v H' → ∃ T w, v = .ref T ∧ H1 T = none ∧ H' = upd H1 T (.tup [.int (i : Nat), w]) ∧ Rep K mg μ1 H1 x w) ∧ (l.length ≤ i → J.stop i H1)) :
    ItD K mg J μ H (l.zipIdx.map fun p => .tup [.int (p.2 : Nat), p.1]) := fun i μ1 H1 st1 x r => by
  obtain ⟨h1, h2⟩ := hg i μ1 H1 st1 x r
  refine ⟨fun d hd => ?_, fun hi => h2 (by simpa using hi)⟩
  obtain ⟨y, e1, rfl⟩ := en_get hd
  obtain ⟨g1, g2⟩ := h1 y e1
  refine ⟨g1, fun v H' hy => ?_⟩
  obtain ⟨T, w, rfl, hT, rfl, hw⟩ := g2 v H' hy
  exact ⟨same_upd hT, rep_newT r hT ⟨_, _, rfl, rfl, _, _, rfl, hw, rfl⟩⟩
theorem itd_enL {K : PySem.W.Frag} {mg : Str → Option Value} {μ : Mu} {H : Hp} {l : List D} {a : Addr} {d : D} (h : Rep K mg μ H d (.ref a)) (hd : ∀ {μ H v}, Rep K mg μ H d v → ∃ a vs, v = .ref a ∧ SqL K H a vs ∧ RepL K mg μ H l vs) : ItD K mg (Ite K a) μ H (l.zipIdx.map fun p => .tup [.int (p.2 : Nat), p.1]) :=
  itd_en fun i μ1 H1 st1 x r => by
    obtain ⟨b, vs, e, hs, hl⟩ := hd (h.ext x)
    cases e
    refine ⟨fun y hy => ?_, fun hi => ⟨vs, hs, by rw [← hl.length]; exact hi⟩⟩
    obtain ⟨v, e1, e2⟩ := hl.get hy
    refine ⟨⟨vs, v, hs, e1⟩, fun w H' ⟨T, z, e3, e4, e5, e6⟩ => ⟨T, z, e3, e4, e5, ?_⟩⟩
    have : z = v := Option.some.inj ((e6 vs hs).symm.trans e1)
    rw [this]
    exact e2
theorem itd_enT {K : PySem.W.Frag} {mg : Str → Option Value} {μ : Mu} {H : Hp} {l : List D} {a : Addr} (h : Rep K mg μ H (.tup l) (.ref a)) : ItD K mg (IteT K a) μ H (l.zipIdx.map fun p => .tup [.int (p.2 : Nat), p.1]) :=
  itd_en fun i μ1 H1 st1 x r => by
    obtain ⟨b, vs, e, hs, hl⟩ := seq_tup (h.ext x)
    cases e
    refine ⟨fun y hy => ?_, fun hi => ⟨vs, hs, by rw [← hl.length]; exact hi⟩⟩
    obtain ⟨v, e1, e2⟩ := hl.get hy
    refine ⟨⟨vs, v, hs, e1⟩, fun w H' ⟨T, z, e3, e4, e5, e6⟩ => ⟨T, z, e3, e4, e5, ?_⟩⟩
    have : z = v := Option.some.inj ((e6 vs hs).symm.trans e1)
    rw [this]
    exact e2
section
variable {X : Cx} {e : Expr} {m : ME} {p pos tpos : Pos} {elts : List Expr} {kk : Nat}
theorem enum_list {pins : List (Addr × Obj)} {σ : L2.St} {H : Hp} {s : Shared} {a : Addr} {xs : List V} {Q : It → Hp → Prop} (I : Inv X pins σ H s) (hq : SqL X.K H a xs) (q : Q (Ite X.K a) H) :
    wpAny (model X.prog X.w) X.A (call (.type "enumerate") [.ref a]) (fun v s1 => wpAny (model X.prog X.w) X.A (pyIter v) (PIE X pins σ (.Tuple elts kk tpos) Q) X.xe s1) X.xe s := by
  obtain ⟨its, rv, p', hz⟩ := I.list hq
  refine call_enumerate_list p'.isList fun h' he hit hsz hk => wpAny_pyIter_enum he ?_
  have I2 : Inv X pins σ H { s with heap := h' } := I.kept (t' := s.toks) hk
  refine ⟨s.heap.objs.size + 1, [s.heap.objs.size + 1, s.heap.objs.size], _, _, H, rfl, I2, turn_enum a (s.heap.objs.size + 1) s.heap.objs.size, ⟨⟨.none, he⟩, hit, Nat.succ_ne_self _⟩, fun b hb => ?_, q⟩
  have e' : b = s.heap.objs.size + 1 ∨ b = s.heap.objs.size := by simpa using hb
  have hle : s.heap.objs.size ≤ b := by
    rcases e' with z | z
    · rw [z]; exact Nat.le_add_right _ _
    · rw [z]; exact Nat.le_refl _
  exact I.fpOk hle (I.hok.fresh hle)
theorem enum_tup {pins : List (Addr × Obj)} {σ : L2.St} {H : Hp} {s : Shared} {a : Addr} {xs : List V} {Q : It → Hp → Prop} (I : Inv X pins σ H s) (hq : SqT X.K H a xs) (q : Q (IteT X.K a) H) :
    wpAny (model X.prog X.w) X.A (call (.type "enumerate") [.ref a]) (fun v s1 => wpAny (model X.prog X.w) X.A (pyIter v) (PIE X pins σ (.Tuple elts kk tpos) Q) X.xe s1) X.xe s := by
  obtain ⟨its, rv, p', hz⟩ := I.tuple hq
  refine t5_enum_call (begins_tuple a its.toArray) (show s.heap.IsTuple a its.toArray from p') fun h' he ho hsz hk => wpAny_pyIter_enum he ?_
  have I2 : Inv X pins σ H { s with heap := h' } := I.kept (t' := s.toks) hk
  refine ⟨s.heap.objs.size + 1, [s.heap.objs.size + 1, s.heap.objs.size], _, _, H, rfl, I2, turn_enumT a (s.heap.objs.size + 1) s.heap.objs.size, ⟨⟨.none, he⟩, ⟨_, ho, rfl, rfl⟩, Nat.succ_ne_self _⟩, fun b hb => ?_, q⟩
  have e' : b = s.heap.objs.size + 1 ∨ b = s.heap.objs.size := by simpa using hb
  have hle : s.heap.objs.size ≤ b := by
    rcases e' with z | z
    · rw [z]; exact Nat.le_add_right _ _
    · rw [z]; exact Nat.le_refl _
  exact I.fpOk hle (I.hok.fresh hle)
theorem si_enum (hg : Gl X "enumerate") (hm : X.mg "enumerate" = none) (he : SE X e m) (hs : starEach [e] X.env = (false, eval e X.env) :: starEach [] X.env := by rfl) : SI X (.Tuple elts kk tpos) (.Call (.Name "enumerate" p) [e] [] pos) (iEn m) := fun pn xe W tk => ⟨fun pins s σ H Q I h => by
  obtain ⟨μ, env, st, r, re, a⟩ := h
  have ha : PA (X.tr pn xe) [e] (tCons (tM X.K X.mg W m) tNil) := pa_cons (X := X.tr pn xe) (he pn xe W tk) pa_nil hs
  refine Call_ (ld_blt I hg hm boot_enumerate (PyProof.Rows.callWith_type1 (thn (ha.run pos pins s σ H (fun vs H1 => ∃ v, vs = [v] ∧ ∃ d μ1 st1, Rel X.K X.mg μ1 H1 st1 ∧ Rep X.K X.mg μ1 H1 d v ∧ Aft X.K X.mg W σ μ1 H1 (match d with
    | .tup l => .ok (l.zipIdx.map fun p => .tup [.int (p.2 : Nat), p.1]) st1
    | .lst l => .ok (l.zipIdx.map fun p => .tup [.int (p.2 : Nat), p.1]) st1
    | .scr l => .ok (l.zipIdx.map fun p => .tup [.int (p.2 : Nat), p.1]) st1
    | _ => .bad) (fun ds _ μ' H' => ∀ J, ItD X.K X.mg J μ' H' ds → Q J H')) I ⟨μ, env, st, r, re, (Aft.bind a).imp fun d st1 μ1 H1 x r1 a1 v hv => ⟨v, rfl, d, μ1, st1, r1, hv, a1⟩⟩) fun us s1 ⟨vs, H1, I1, rv, v, ev, d, μ1, st1, r1, hv, a1⟩ => ?_) (by rw [hs]) rfl))
  subst ev
  cases rv with
  | cons rv0 rv1 =>
    cases rv1
    cases d with
    | tup l =>
      obtain ⟨b, vs, e, hs, hl⟩ := seq_tup hv
      subst e
      cases rv0
      exact enum_tup I1 hs (a1 μ1 H1 Ext.refl r1 _ (itd_enT hv))
    | lst l =>
      obtain ⟨b, vs, e, hs, hl⟩ := seq_list hv
      subst e
      cases rv0
      exact enum_list I1 hs (a1 μ1 H1 Ext.refl r1 _ (itd_enL hv seq_list))
    | scr l =>
      obtain ⟨b, vs, e, hs, hl⟩ := seq_scr hv
      subst e
      cases rv0
      exact enum_list I1 hs (a1 μ1 H1 Ext.refl r1 _ (itd_enL hv seq_scr))
    | _ => exact a1.elim⟩
end
end T5
namespace T5
open PySem PySem.Spec PyProof.Rows L2
variable [TabC]
/-! ### methods of lists -/
abbrev MethF := Store → D → List D → Option (D × Store)
def MthD (K : PySem.W.Frag) (mg : Str → Option Value) (r : V → List V → Hp → VK → Prop) (f : MethF) : Prop :=
  ∀ (μ : Mu) (H : Hp) (st st' : Store) (d d' : D) (ds : List D) (x : V) (vs : List V) (Q : VK), Rel K mg μ H st → Rep K mg μ H d x → RepL K mg μ H ds vs → f st d ds = some (d', st') → (∀ μ' H' v, Ext μ H μ' H' → Rel K mg μ' H' st' → Rep K mg μ' H' d' v → Q v H') → r x vs H Q
/-- a method of a list -/
def eMthL (f : MethF) (mo : ME) (ma : MA) : ME := fun env st => (mo env st).bind fun d st1 => if (lstOf st1 d).isSome = true then (ma env st1).bind fun ds st2 => (match f st2 d ds with
  | some (d', st3) => .ok d' st3
  | none => .bad) else .bad
section
variable {X : Cx} {K : PySem.W.Frag} {mg : Str → Option Value} {o e : Expr} {es : List Expr} {mo : ME} {ma : MA} {pos p apos cpos : Pos} {name : Str} {id : String} {r : V → List V → Hp → VK → Prop} {f : MethF}
theorem se_mthL (slot : Slot "list" name id) (hty : typeOf (.builtin id) = pure (.type "method_descriptor")) (hm : ∀ pn xe, MtR (X.tr pn xe) id r) (hd : MthD X.K X.mg r f) (ho : SE X o mo) (ha : SA X (e :: es) ma)
    (hbase : attributeBase o name X.env (eval o X.env) = eval o X.env := by rfl)
    (hfew : ((backTo cpos (starEach (e :: es) X.env)).all (fun x => !x.1) && (backToKw cpos (keywordEach [] X.env)).all (fun x => x.1.isSome)
      && decide ((e :: es).length + ([] : List Keyword).length + (if ([] : List Keyword).isEmpty then 0 else 1) < 30)) = true := by rfl)
    (hline : (apos.endLine == cpos.line) = true := by rfl) (hs : starEach (e :: es) X.env = (false, eval e X.env) :: starEach es X.env := by rfl) (hplain : (backTo cpos (starEach es X.env)).any (·.1) = false := by rfl) :
    SE X (.Call (.Attribute o name apos) (e :: es) [] cpos) (eMthL f mo ma) := fun pn xe W tk => by
  refine PE.imp (pe_bm (X := X.tr pn xe) PySem.F.plainAttrs_list slot hty (hm pn xe) (ho pn xe W tk) (ha pn xe W tk) hbase hfew hline hs hplain) fun σ H Q h => ?_
  refine tM_seq h fun d v μ env st H1 r1 re hv a => ?_
  cases e1 : lstOf st d with
  | none => rw [e1] at a; exact a.elim
  | some l =>
    rw [e1] at a
    have a : Aft X.K X.mg W σ μ H1 ((ma env st).bind fun ds st2 => (match f st2 d ds with
      | some (d', st3) => R.ok d' st3
      | none => .bad)) (fun d _ μ' H' => ∀ v, Rep X.K X.mg μ' H' d v → Q v H') := a
    obtain ⟨b, vs, rfl, hb, hl⟩ := lst_at r1 hv e1
    refine ⟨.inl ⟨rfl, vs, .inl (.inl hb)⟩, μ, env, st, r1, re, (Aft.bind a).imp fun ds st2 μ2 H2 x2 r2 a2 ws hw => ?_⟩
    cases e2 : f st2 d ds with
    | none => rw [e2] at a2; exact a2.elim
    | some q =>
      obtain ⟨d', st3⟩ := q
      rw [e2] at a2
      exact hd μ2 H2 st2 st3 d d' ds _ ws Q r2 (hv.ext x2) hw e2 fun μ' H' v x' r' h' => a2 μ' H' x' r' v h'
def fApp : MethF := fun st d ds => match d, ds with
  | .obj n, [x] => (match st[n]? with
    | some (.lst l) => if l.length ≤ cap then some (.non, st.set n (.lst (l ++ [x]))) else none
    | _ => none)
  | _, _ => none
def fPop : MethF := fun st d ds => match d, ds with
  | .obj n, [.int i] => (match st[n]? with
    | some (.lst l) => if -(2 ^ 63) ≤ i ∧ i < 2 ^ 63 then (ixN l.length i).bind fun j => (l[j]?).map fun x => (x, st.set n (.lst (l.eraseIdx j))) else none
    | _ => none)
  | _, _ => none
theorem mthd_app : MthD K mg rAppend fApp := by
  intro μ H st st' d d' ds x vs Q r hx hv e q
  unfold fApp at e
  split at e
  · rename_i n y
    split at e
    · rename_i l ho
      split at e
      · rename_i c
        cases e
        obtain ⟨a, rfl, hn⟩ := hx
        obtain ⟨v, rfl, hy⟩ := repL1 hv
        obtain ⟨ws, hh, hl⟩ := r.ob n _ a ho hn
        have x := Ext.change (o := HO.lst (ws ++ [v])) r hn
        refine ⟨a, ws, v, rfl, rfl, hh, by rw [← hl.length]; exact cap_lt c, q μ _ _ x (r.change hn ⟨_, upd_same, ?_⟩) rfl⟩
        exact (hl.ext x).append ⟨v, [], rfl, hy.ext x, rfl⟩
      · cases e
    · cases e
  · cases e
theorem mthd_pop : MthD K mg rPopAt fPop := by
  intro μ H st st' d d' ds x vs Q r hx hv e q
  unfold fPop at e
  split at e
  · rename_i n i
    split at e
    · rename_i l ho
      split at e
      · rename_i c
        obtain ⟨j, e1, e2⟩ := Option.bind_eq_some_iff.mp e
        obtain ⟨y, e3, e4⟩ := Option.map_eq_some_iff.mp e2
        cases e4
        obtain ⟨a, rfl, hn⟩ := hx
        obtain ⟨v, rfl, hy⟩ := repL1 hv
        have hv' : v = .int i := hy
        subst hv'
        obtain ⟨ws, hh, hl⟩ := r.ob n _ a ho hn
        obtain ⟨w, e5, hw⟩ := hl.get e3
        have x := Ext.change (o := HO.lst (ws.eraseIdx j)) r hn
        rw [hl.length] at e1
        exact ⟨a, ws, i, j, w, rfl, rfl, hh, c.1, c.2, (ixN_seq e1).1, e5, q μ _ _ x (r.change hn ⟨_, upd_same, (hl.ext x).eraseIdx j⟩) (hw.ext x)⟩
      · cases e
    · cases e
  · cases e
theorem se_append (ho : SE X o mo) (ha : SA X (e :: es) ma)
    (hbase : attributeBase o "append" X.env (eval o X.env) = eval o X.env := by rfl)
    (hfew : ((backTo cpos (starEach (e :: es) X.env)).all (fun x => !x.1) && (backToKw cpos (keywordEach [] X.env)).all (fun x => x.1.isSome)
      && decide ((e :: es).length + ([] : List Keyword).length + (if ([] : List Keyword).isEmpty then 0 else 1) < 30)) = true := by rfl)
    (hline : (apos.endLine == cpos.line) = true := by rfl) (hs : starEach (e :: es) X.env = (false, eval e X.env) :: starEach es X.env := by rfl) (hplain : (backTo cpos (starEach es X.env)).any (·.1) = false := by rfl) :
    SE X (.Call (.Attribute o "append" apos) (e :: es) [] cpos) (eMthL fApp mo ma) := se_mthL PySem.F.slot_list_append PySem.F.type_list_append (fun _ _ => mt_append) mthd_app ho ha hbase hfew hline hs hplain
theorem se_pop (ho : SE X o mo) (ha : SA X (e :: es) ma)
    (hbase : attributeBase o "pop" X.env (eval o X.env) = eval o X.env := by rfl)
    (hfew : ((backTo cpos (starEach (e :: es) X.env)).all (fun x => !x.1) && (backToKw cpos (keywordEach [] X.env)).all (fun x => x.1.isSome)
      && decide ((e :: es).length + ([] : List Keyword).length + (if ([] : List Keyword).isEmpty then 0 else 1) < 30)) = true := by rfl)
    (hline : (apos.endLine == cpos.line) = true := by rfl) (hs : starEach (e :: es) X.env = (false, eval e X.env) :: starEach es X.env := by rfl) (hplain : (backTo cpos (starEach es X.env)).any (·.1) = false := by rfl) :
    SE X (.Call (.Attribute o "pop" apos) (e :: es) [] cpos) (eMthL fPop mo ma) := se_mthL PySem.F.slot_list_pop PySem.F.type_list_pop (fun _ _ => mt_popAt) mthd_pop ho ha hbase hfew hline hs hplain
end
/-! ### o[i] = v -/
def bSet (st : Store) (o i v : D) : Option Store := match o with
  | .obj n => (match st[n]? with
    | some (.lst l) => (match i with
      | .int k => (ixN l.length k).map fun j => st.set n (.lst (l.set j v))
      | _ => none)
    | some (.dic t ks vs) => if isKey t i = true ∧ ks.length ≤ cap then some (st.set n (.dic t (putD t i v ks vs).1 (putD t i v ks vs).2)) else none
    | _ => none)
  | _ => none
def sSet (mv mo mi : ME) : MS := fun env st => (mv env st).toS env fun v st1 => (mo env st1).toS env fun o st2 => (mi env st2).toS env fun i st3 => match bSet st3 o i v with
  | some st4 => .nx env st4
  | none => .bad
section
variable {X : Cx} {K : PySem.W.Frag} {mg : Str → Option Value} {μ : Mu} {H : Hp} {o i e : Expr} {mo mi mv : ME} {pos pos' : Pos}
theorem put_zip {κ : Type} [DecidableEq κ] {kD : κ → D} {t : Bool} (hs : ∀ a b : κ, sameKey t (kD a) (kD b) = decide (a = b)) (k : κ) {d : D} {v : V} (hd : Rep K mg μ H d v) {kk : List κ} {ds : List D} {vs : List V} (hl : kk.length = vs.length) (hr : RepL K mg μ H ds vs) :
    ∃ (kk' : List κ) (vs' : List V), (putD t (kD k) d (kk.map kD) ds).1 = kk'.map kD ∧ RepL K mg μ H (putD t (kD k) d (kk.map kD) ds).2 vs' ∧ kk'.length = vs'.length ∧ putK (kk.zip vs) k v = kk'.zip vs' := by
  have hany : hasD t (kD k) (kk.map kD) = ((kk.zip vs).any fun kv => decide (kv.1 = k)) := by
    clear hr
    induction kk generalizing vs with
    | nil => rfl
    | cons a kk ih =>
      cases vs with
      | nil => simp at hl
      | cons w vs =>
        show (sameKey t (kD a) (kD k) || hasD t (kD k) (kk.map kD)) = (decide (a = k) || ((kk.zip vs).any fun kv => decide (kv.1 = k)))
        rw [hs, ih (vs := vs) (by simpa using hl)]
  unfold putD putK
  rw [hany]
  by_cases c : ((kk.zip vs).any fun kv => decide (kv.1 = k)) = true
  · rw [if_pos c, if_pos c]
    refine ⟨kk, (kk.zip vs).map (fun kv => if kv.1 = k then v else kv.2), rfl, ?_, by simp [hl], ?_⟩
    · clear c hany
      induction kk generalizing vs ds with
      | nil =>
        cases vs with
        | nil =>
          have : ds = [] := by
            have := hr.length
            exact List.eq_nil_of_length_eq_zero (by simpa using this)
          subst this
          rfl
        | cons _ _ => simp at hl
      | cons a kk ih =>
        cases vs with
        | nil => simp at hl
        | cons w vs =>
          cases ds with
          | nil => have := hr.length; simp at this
          | cons d' ds =>
            obtain ⟨v', r', e, h1, h2⟩ := hr
            cases e
            refine ⟨_, _, rfl, ?_, ih (vs := vs) (ds := ds) (by simpa using hl) h2⟩
            rw [hs]
            by_cases c : a = k
            · simp only [c, decide_true, if_true]
              exact hd
            · simp only [c, decide_false, Bool.false_eq_true, if_false]
              exact h1
    · clear c hany hr
      induction kk generalizing vs with
      | nil => rfl
      | cons a kk ih =>
        cases vs with
        | nil => simp at hl
        | cons w vs =>
          have := ih (vs := vs) (by simpa using hl)
          show (if a = k then (a, v) else (a, w)) :: ((kk.zip vs).map fun kv => if kv.1 = k then (kv.1, v) else kv) = (a, if a = k then v else w) :: kk.zip ((kk.zip vs).map (fun kv => if kv.1 = k then v else kv.2))
          rw [this]
          by_cases c : a = k <;> simp [c]
  · rw [if_neg c, if_neg c]
    refine ⟨kk ++ [k], vs ++ [v], by simp, hr.append ⟨v, [], rfl, hd, rfl⟩, by simp [hl], ?_⟩
    rw [List.zip_append hl]
    rfl
theorem set_dict (hu : X.A.units + 1 < cLine) : PSet X (fun o i v H Q => ∃ a H', o = .ref a ∧ DPut H a i v H' ∧ Q H') := by
  intro pins s σ H o i v ov iv u Q I ro ri rv h
  obtain ⟨a, H', rfl, g, q⟩ := h
  cases ro
  exact d_setItem hu I g ri rv fun s' I' => ⟨H', I', q⟩
theorem PSet.or {t t' : TSet} (h : PSet X t) (h' : PSet X t') : PSet X (fun o i v H Q => t o i v H Q ∨ t' o i v H Q) := by
  intro pins s σ H o i v ov iv u Q I ro ri rv q
  rcases q with q | q
  · exact h pins s σ H o i v ov iv u Q I ro ri rv q
  · exact h' pins s σ H o i v ov iv u Q I ro ri rv q
theorem bSet_rep {st st4 : Store} {od id vd : D} {ov iv vv : V} {Q : Hp → Prop} (r : Rel K mg μ H st) (ho : Rep K mg μ H od ov) (hi : Rep K mg μ H id iv) (hv : Rep K mg μ H vd vv) (e : bSet st od id vd = some st4) (q : ∀ H', Ext μ H μ H' → Rel K mg μ H' st4 → Q H') :
    rSetL ov iv vv H Q ∨ (∃ a H', ov = .ref a ∧ DPut H a iv vv H' ∧ Q H') := by
  cases od with
  | obj n =>
    obtain ⟨a, rfl, hn⟩ := ho
    cases e0 : st[n]? with
    | none => simp [bSet, e0] at e
    | some ob =>
      cases ob with
      | lst l =>
        cases id with
        | int k =>
          simp only [bSet, e0] at e
          obtain ⟨j, e1, e2⟩ := Option.map_eq_some_iff.mp e
          subst e2
          obtain ⟨ws, hh, hl⟩ := r.ob n _ a e0 hn
          have x := Ext.change (o := HO.lst (ws.set j vv)) r hn
          refine .inl ⟨a, ws, k, j, rfl, hi, hh, by rw [← hl.length]; exact e1, q _ x (r.change hn ⟨_, upd_same, RepL.set (hv.ext x) j (hl.ext x)⟩)⟩
        | _ => simp [bSet, e0] at e
      | dic t ks vs =>
        have e : (if isKey t id = true ∧ ks.length ≤ cap then some (st.set n (.dic t (putD t id vd ks vs).1 (putD t id vd ks vs).2)) else none) = some st4 := by
          simpa only [bSet, e0] using e
        by_cases c : isKey t id = true ∧ ks.length ≤ cap
        · rw [if_pos c] at e
          cases e
          obtain ⟨ws, u, hl, dh, hh⟩ := r.ob n _ a e0 hn
          refine .inr ?_
          rcases dh with ⟨rfl, kk, e1, e2, rfl⟩ | ⟨rfl, kk, e1, e2, rfl⟩
          · obtain ⟨k', rfl⟩ := flat_key (show flatKey id = true by simpa [isKey] using c.1)
            subst e1
            obtain ⟨kk', vs', p1, p2, p3, p4⟩ := put_zip (kD := keyD) (t := false) (fun a b => by rw [same_false, keyD_same]) k' hv e2 hl
            have x := Ext.change (o := HO.dK (putK (kk.zip ws) k' vv)) r hn
            refine ⟨a, _, rfl, .inl ⟨_, k', hh, keyD_rep hi, ?_, rfl⟩, q _ x (r.change hn ⟨vs', _, p2.ext x, .inl ⟨rfl, kk', p1, p3, p4 ▸ rfl⟩, upd_same⟩)⟩
            have h2 := c.2
            rw [List.length_map] at h2
            rw [List.length_zip, ← e2, Nat.min_self]
            exact cap_lt h2
          · cases id with
            | tup lk =>
              obtain ⟨k', rfl⟩ := flat_keys (show lk.all flatKey = true by simpa [isKey] using c.1)
              subst e1
              obtain ⟨b, ks', rfl, nb, hb, hks⟩ := hi
              have ek := keysD_rep hks
              subst ek
              obtain ⟨kk', vs', p1, p2, p3, p4⟩ := put_zip (kD := keyTD) (t := true) (fun a b => by rw [keyTD, keyTD, same_true, keyL_same]) k' hv e2 hl
              have x := Ext.change (o := HO.dT (putK (kk.zip ws) k' vv)) r hn
              refine ⟨a, _, rfl, .inr ⟨_, k', b, hh, rfl, hb, ?_, rfl⟩, q _ x (r.change hn ⟨vs', _, p2.ext x, .inr ⟨rfl, kk', p1, p3, p4 ▸ rfl⟩, upd_same⟩)⟩
              have h2 := c.2
              rw [List.length_map] at h2
              rw [List.length_zip, ← e2, Nat.min_self]
              exact cap_lt h2
            | _ => simp [isKey] at c
        · rw [if_neg c] at e
          cases e
      | ins c ks vs => simp [bSet, e0] at e
      | fdc ks vs => simp [bSet, e0] at e
  | _ => simp [bSet] at e
theorem ss_setix {k : Nat} (hr : Room k X.A) (he : SE X e mv) (ho : SE X o mo) (hi : SE X i mi) (hs : swapsWithSole [.Subscript o i pos'] e pos.line X.env = pure false := by rfl) (hw : swappedStores [.Subscript o i pos'] e X.env = pure none := by rfl)
    (h1 : (assignEach [.Subscript o i pos'] X.env).map (·.2) = [assign (.Subscript o i pos') X.env] := by rfl)
    (ha : ∀ v, assign (.Subscript o i pos') X.env v = (do
      let ov ← holding [v] (eval o X.env)
      let iv ← holding [v, ov] (eval i X.env)
      standAt pos'
      holding [v, ov, iv] (setItem ov iv v)
      release [v, ov, iv] []) := by intro _; rfl) : SS X (.Assign [.Subscript o i pos'] e pos) (sSet mv mo mi) := fun pn xe W tk _ => by
  refine PS.imp (ps_asg (X := X.tr pn xe) (he pn xe W tk) (pg_sub (X := X.tr pn xe) (ho pn xe W tk) (hi pn xe W tk) (PSet.or (X := X.tr pn xe) set_list (set_dict (X := X.tr pn xe) (hu_of hr))) ha) hs hw h1) fun E σ H h => ?_
  refine tM_of h fun vd vv μ1 env st H1 r1 re1 hv q1 => ?_
  refine ⟨μ1, env, st, r1, re1, (AftS.ofR re1 q1).imp fun od st2 μ2 H2 x2 r2 q2 ov hov => ?_⟩
  refine ⟨μ2, env, st2, r2, re1.ext x2, (AftS.ofR (re1.ext x2) q2).imp fun id st3 μ3 H3 x3 r3 q3 iv hiv => ?_⟩
  cases e4 : bSet st3 od id vd with
  | none => rw [e4] at q3; exact q3.elim
  | some st4 =>
    rw [e4] at q3
    have re3 := (re1.ext x2).ext x3
    exact bSet_rep r3 (hov.ext x3) hiv ((hv.ext x2).ext x3) e4 fun H' x' r' => q3 μ3 H' σ x' r' (re3.ext x')
end
/-! ### x op= e -/
def sAug (i : Nat) (g : BO) (m : ME) : MS := fun env st => match env[i]? with
  | some (some d) => (m env st).toS env fun d2 st1 => (match g st1 d d2 with
    | some d3 => .nx (env.set i (some d3)) st1
    | none => .bad)
  | _ => .bad
section
variable {X : Cx} {e : Expr} {m : ME} {pos pos' : Pos}
def bAddI : BO := fun _ x y => match x, y with
  | .int i, .int j => some (.int (i + j))
  | _, _ => none
end
end T5
namespace T5
open PySem PySem.Spec PyProof.Rows L2
variable [TabC]
/-! ### [e for x in xs if t] -/
def wipeD (env : DEnv) : List Nat → DEnv
  | [] => env
  | v :: vs => (wipeD env vs).set v none
def lcLoop (g : MG0) (ct : MT) (me : ME) (env : DEnv) : List D → List D → Store → R (List D)
  | [], acc, st => .ok acc st
  | d :: ds, acc, st => match g d env with
    | some env1 => (ct env1 st).bind fun b st1 => if b = true then (me env1 st1).bind fun y st2 => (if acc.length ≤ cap then lcLoop g ct me env ds (acc ++ [y]) st2 else .bad) else lcLoop g ct me env ds acc st1
    | none => .bad
def noEx {α : Type} (r : R α) : R α := match r with
  | .ok a st => .ok a st
  | _ => .bad
@[simp] theorem noEx_ok {α : Type} {a : α} {st : Store} : noEx (R.ok a st) = .ok a st := rfl
def eLc (mi : MI) (g : MG0) (ct : MT) (me : ME) (own : List Nat) : ME := fun env st => (mi env st).bind fun ds st1 => (noEx (lcLoop g ct me (wipeD env own) ds [] st1)).bind fun ys st2 => .ok (.lst ys) st2
/-- a list that changes later -/
def eLcM (mi : MI) (g : MG0) (ct : MT) (me : ME) (own : List Nat) : ME := fun env st => (mi env st).bind fun ds st1 => (noEx (lcLoop g ct me (wipeD env own) ds [] st1)).bind fun ys st2 => .ok (.obj st2.length) (st2 ++ [.lst ys])
def cYes : MT := fun _ st => .ok true st
def STs (X : Cx) (es : List Expr) (m : MT) : Prop := ∀ pn xe W, Takes (X.tr pn xe) W → PTs (X.tr pn xe) es (tMT X.K X.mg W m)
theorem PTs.imp {X : Cx} {es : List Expr} {t t' : TT} (h : PTs X es t) (f : ∀ σ H Q, t' σ H Q → t σ H Q) : PTs X es t' := ⟨fun pins s σ H Q I q => h.run pins s σ H Q I (f σ H Q q)⟩
section
variable {K : PySem.W.Frag} {mg : Str → Option Value} {μ : Mu} {H H' : Hp} {st : Store} {p : Addr}
/-- what data needs to stay -/
structure Keeps (μ : Mu) (H : Hp) (μ' : Mu) (H' : Hp) : Prop where
  idx : ∀ n a, μ.get n = some a → μ'.get n = some a
  keep : ∀ a o, a ∉ μ → H a = some o → a ∉ μ' ∧ H' a = some o
mutual
theorem Rep.keeps {μ' : Mu} (x : Keeps μ H μ' H') : ∀ {d : D} {v : V}, Rep K mg μ H d v → Rep K mg μ' H' d v
  | .non, _, h => h
  | .bl _, _, h => h
  | .int _, _, h => h
  | .str _, _, h => h
  | .ty _, _, h => h
  | .tup l, v, h => by
    simp only [Rep] at h ⊢
    obtain ⟨a, vs, e, n, r, q⟩ := h
    obtain ⟨n', r'⟩ := x.keep _ _ n r
    exact ⟨a, vs, e, n', r', RepL.keeps x q⟩
  | .lst l, v, h => by
    simp only [Rep] at h ⊢
    obtain ⟨a, vs, e, n, r, q⟩ := h
    obtain ⟨n', r'⟩ := x.keep _ _ n r
    exact ⟨a, vs, e, n', r', RepL.keeps x q⟩
  | .scr l, v, h => by
    simp only [Rep] at h ⊢
    obtain ⟨a, vs, e, n, q⟩ := h
    refine ⟨a, vs, e, ?_, RepL.keeps x q⟩
    rcases n with ⟨n, o, r⟩ | n
    · obtain ⟨n', r'⟩ := x.keep _ _ n r
      exact .inl ⟨n', o, r'⟩
    · exact .inr n
  | .obj n, v, h => by
    simp only [Rep] at h ⊢
    obtain ⟨a, e, q⟩ := h
    exact ⟨a, e, x.idx n a q⟩
  | .dic t ks ds, v, h => by
    simp only [Rep] at h ⊢
    obtain ⟨a, vs, u, e, n, q, hh, r⟩ := h
    have r' : a ∉ μ' ∧ RdT t H' a u := by
      obtain ⟨ob, r⟩ := r
      exact ⟨(x.keep _ _ n r).1, ob, (x.keep _ _ n r).2⟩
    exact ⟨a, vs, u, e, r'.1, RepL.keeps x q, hh, r'.2⟩
  | .ins c ks ds, v, h => by
    simp only [Rep] at h ⊢
    obtain ⟨a, C, dx, vs, e, n, g, l, r, q⟩ := h
    obtain ⟨n', r'⟩ := x.keep _ _ n r
    exact ⟨a, C, dx, vs, e, n', g, l, r', RepL.keeps x q⟩
  | .exc c ks ds, v, h => by
    simp only [Rep] at h ⊢
    obtain ⟨a, C, dx, us, e, n, g, l, r, q⟩ := h
    rcases r with ⟨r, nd, rd⟩ | ⟨r0, r⟩
    · obtain ⟨n', r'⟩ := x.keep _ _ n r
      obtain ⟨nd', rd'⟩ := x.keep _ _ nd rd
      exact ⟨a, C, dx, us, e, n', g, l, .inl ⟨r', nd', rd'⟩, RepL.keeps x q⟩
    · obtain ⟨n', r'⟩ := x.keep _ _ n r
      exact ⟨a, C, dx, us, e, n', g, l, .inr ⟨r0, r'⟩, RepL.keeps x q⟩
  | .cls _, _, h => h
  | .fn a c q ds us, v, h => by
    simp only [Rep] at h ⊢
    obtain ⟨e, n, r, y⟩ := h
    obtain ⟨n', r'⟩ := x.keep _ _ n r
    exact ⟨e, n', r', RepL.keeps x y⟩
theorem RepL.keeps {μ' : Mu} (x : Keeps μ H μ' H') : ∀ {ds : List D} {vs : List V}, RepL K mg μ H ds vs → RepL K mg μ' H' ds vs
  | [], _, h => h
  | d :: ds, vs, h => by
    simp only [RepL] at h ⊢
    obtain ⟨v, r, e, h1, h2⟩ := h
    exact ⟨v, r, e, Rep.keeps x h1, RepL.keeps x h2⟩
end
theorem ObR.keeps {μ' : Mu} {a : Addr} (x : Keeps μ H μ' H') (e : H' a = H a) : ∀ {o : Ob}, ObR K mg μ H a o → ObR K mg μ' H' a o
  | .lst l, ⟨vs, h, q⟩ => ⟨vs, e.trans h, q.keeps x⟩
  | .dic t ks ds, ⟨vs, u, q, d, h⟩ => ⟨vs, u, q.keeps x, d, e.trans h⟩
  | .ins c ks ds, ⟨C, dx, vs, g, l, h, q⟩ => ⟨C, dx, vs, g, l, e.trans h, q.keeps x⟩
  | .fdc ks ds, ⟨vs, u, o, q, d, h⟩ => ⟨vs, u, o, q.keeps x, d, e.trans h⟩
theorem REnv.keeps {μ' : Mu} {env : DEnv} {σ : L2.St} (x : Keeps μ H μ' H') (r : REnv K mg μ H env σ) : REnv K mg μ' H' env σ :=
  ⟨r.len, fun i d e => let ⟨v, h1, h2⟩ := r.at_ i d e; ⟨v, h1, h2.keeps x⟩⟩
/-- a held thing changes -/
theorem Keeps.change {a : Addr} {o : HO} (h : a ∈ μ.r) : Keeps μ H μ (upd H a o) := ⟨fun _ _ q => q, fun b u n e => ⟨n, by
  have ne : b ≠ a := by
    intro z
    subst z
    exact n (.inr (.inl h))
  rw [upd_ne ne]
  exact e⟩⟩
theorem Rel.changeR (r : Rel K mg μ H st) {a : Addr} {ws ws' : List V} (h : a ∈ μ.r) (hw : H a = some (.lst ws)) : Rel K mg μ (upd H a (.lst ws')) st := by
  refine ⟨r.len, r.nd, fun n ob b h1 h2 => ?_, r.apart, fun b hb => ?_, tabs_upd r.tab ⟨_, hw, fun _ z => HO.noConfusion z, fun _ z => HO.noConfusion z⟩, r.tc, fun b hb => ⟨(r.rt b hb).1, fun φ hφ z => ?_⟩⟩
  · have ne : b ≠ a := by
      intro z
      subst z
      exact r.apart _ (List.mem_of_getElem? h2) h
    exact (r.ob n ob b h1 h2).keeps (Keeps.change h) (upd_ne ne)
  · by_cases z : b = a
    · exact ⟨_, by rw [z, upd_same]⟩
    · rw [upd_ne z]
      exact r.held b hb
  · by_cases w : b = a
    · rw [w, upd_same] at z
      cases z
      cases hφ
    · rw [upd_ne w] at z
      exact (r.rt b hb).2 φ hφ z
theorem Keeps.hold (h : H p = none) (s : Same H H') : Keeps μ H (μ.hold p) H' := ⟨fun _ _ q => q, fun a o n e => ⟨fun q => by
    rcases q with q | q | q
    · exact n (.inl q)
    · rcases List.mem_cons.mp q with z | z
      · rw [z, h] at e
        cases e
      · exact n (.inr (.inl z))
    · exact n (.inr (.inr q)), s a o e⟩⟩
/-- what was held is let go -/
def Mu.let (μ : Mu) (p : Addr) : Mu := ⟨μ.l, μ.r.filter fun a => decide (a ≠ p), μ.t⟩
theorem let_mem {a : Addr} (h : a ∈ μ.let p) : a ∈ μ := h.imp id fun z => z.imp (fun z => (List.mem_filter.mp z).1) id
theorem Keeps.letgo : Keeps μ H (μ.let p) H := ⟨fun _ _ q => q, fun a o n e => ⟨fun q => n (let_mem q), e⟩⟩
theorem Rel.letgo (r : Rel K mg μ H st) : Rel K mg (μ.let p) H st := ⟨r.len, r.nd, fun n ob a h1 h2 => (r.ob n ob a h1 h2).keeps Keeps.letgo rfl, fun a ha hb => r.apart a ha (List.mem_filter.mp hb).1, fun a ha => r.held a (List.mem_filter.mp ha).1, r.tab, r.tc, fun a ha => r.rt a (List.mem_filter.mp ha).1⟩
theorem let_nin (r : Rel K mg μ H st) (h : p ∈ μ.r) (hT : ∀ q, (p, q) ∉ μ.t) : p ∉ μ.let p := fun q => by
  rcases q with q | q | ⟨t, q⟩
  · exact r.apart p q h
  · have := (List.mem_filter.mp q).2
    simp at this
  · exact hT t q
theorem Ext.letgo {μ1 : Mu} {H1 : Hp} (x : Ext μ1 H1 μ H) (r1 : Rel K mg μ1 H1 st) (h : H1 p = none) : Ext μ1 H1 (μ.let p) H := ⟨x.more, fun a ha => List.mem_filter.mpr ⟨x.res a ha, decide_eq_true fun z => by
  subst z
  exact r1.nin h (.inr (.inl ha))⟩, fun a o n e => ⟨fun q => (x.keep a o n e).1 (let_mem q), (x.keep a o n e).2⟩, x.held, x.tabs⟩
theorem Ext.hold {μ1 : Mu} {H1 : Hp} (r1 : Rel K mg μ1 H1 st) (s : Same H1 H) (h : H1 p = none) : Ext μ1 H1 (μ1.hold p) H := ⟨⟨[], by simp [Mu.hold]⟩, fun a ha => List.mem_cons_of_mem _ ha, (Keeps.hold h s).keep, fun a ha => by
  obtain ⟨o, e⟩ := r1.held a ha
  rw [e]
  exact s a o e, rfl⟩
/-- a held thing changes, seen from before it was laid -/
theorem Ext.changeR {μ1 : Mu} {H1 : Hp} {o : HO} (x : Ext μ1 H1 μ H) (r1 : Rel K mg μ1 H1 st) (h : H1 p = none) : Ext μ1 H1 μ (upd H p o) := ⟨x.more, x.res, fun a o' n e => ⟨(x.keep a o' n e).1, by
  rw [upd_ne (ne_of_none e h)]
  exact (x.keep a o' n e).2⟩, fun a ha => by
  obtain ⟨o', e⟩ := r1.held a ha
  rw [upd_ne (ne_of_none e h)]
  exact x.held a ha, x.tabs⟩
theorem REnv.wipe {env : DEnv} {σ : L2.St} (r : REnv K mg μ H env σ) : ∀ vs : List Nat, REnv K mg μ H (wipeD env vs) (L2.wipe σ vs)
  | [] => r
  | v :: vs => REnv.none (REnv.wipe r vs) v Option.none
theorem wipe_len (σ : L2.St) : ∀ vs : List Nat, (L2.wipe σ vs).length = σ.length
  | [] => rfl
  | v :: vs => by
    show ((L2.wipe σ vs).set v none).length = _
    rw [List.length_set, wipe_len σ vs]
theorem wipe_get (σ : L2.St) (j : Nat) : ∀ vs : List Nat, (L2.wipe σ vs)[j]? = if j ∈ vs then (if j < σ.length then some none else none) else σ[j]?
  | [] => by simp [L2.wipe]
  | v :: vs => by
    show ((L2.wipe σ vs).set v none)[j]? = _
    rw [List.getElem?_set, wipe_len, wipe_get σ j vs]
    by_cases e : v = j
    · subst e
      by_cases hl : v < σ.length <;> simp [hl]
    · have e' : ¬ j = v := fun z => e z.symm
      simp [e, e']
theorem wipe_off {sl vs : List Nat} {σ σ' : L2.St} (h : Off sl (L2.wipe σ vs) σ') (hs : ∀ i ∈ sl, i ∈ vs) : L2.wipe σ' vs = L2.wipe σ vs := by
  apply List.ext_getElem?
  intro j
  rw [wipe_get, wipe_get]
  have hl : σ'.length = σ.length := h.1.trans (wipe_len σ vs)
  rw [hl]
  by_cases c : j ∈ vs
  · simp [c]
  · simp only [c, if_false]
    have := h.2 j (fun z => c (hs j z))
    rw [this, wipe_get]
    simp [c]
/-- a new thing is held back -/
theorem Rel.hold (r : Rel K mg μ H st) (s : Same H H') (h : H p = none) {ws : List V} (e : H' p = some (.lst ws)) : Rel K mg (μ.hold p) H' st := by
  have x : ∀ a o, a ∉ μ → H a = some o → a ∉ μ.hold p ∧ H' a = some o := fun a o n e => ⟨fun q => by
    rcases q with q | q | q
    · exact n (.inl q)
    · rcases List.mem_cons.mp q with z | z
      · rw [z, h] at e
        cases e
      · exact n (.inr (.inl z))
    · exact n (.inr (.inr q)), s a o e⟩
  refine ⟨r.len, r.nd, fun n ob a h1 h2 => ?_, fun a ha hb => ?_, fun a ha => ?_, r.tab.ext s, r.tc, fun a ha => ?_⟩
  · have h2' : μ.get n = some a := h2
    obtain ⟨o', e'⟩ := r.there (Mu.mem_get h2')
    exact (r.ob n ob a h1 h2').keeps (show Keeps μ H (μ.hold p) H' from ⟨fun _ _ q => q, x⟩) ((s a o' e').trans e'.symm)
  · rcases List.mem_cons.mp hb with z | z
    · rw [z] at ha
      exact r.nin h (.inl ha)
    · exact r.apart a ha z
  · rcases List.mem_cons.mp ha with z | z
    · exact ⟨_, z ▸ e⟩
    · obtain ⟨o', e'⟩ := r.held a z
      exact ⟨o', s a o' e'⟩
  · rcases List.mem_cons.mp ha with z | z
    · rw [z]
      exact ⟨fun w => r.nin h (.inr (.inr w)), fun φ hφ w => by rw [e] at w; cases w; cases hφ⟩
    · exact r.rtS s a z
end
section
variable {X : Cx} {elt tg iter : Expr} {ifs : List Expr} {scope : Scope} {own : List (Str × Nat)} {sl : List Nat} {pos : Pos} {mi : MI} {g : MG0} {ct : MT} {me : ME}
theorem lc_turns {K : PySem.W.Frag} {mg : Str → Option Value} {W : WX} {σ : L2.St} {vs : List Nat} {env : DEnv} {μ1 : Mu} {H1 : Hp} {st1 : Store} {ds : List D} {J : It} {Dd : Addr} {Q : VK} {β : Type} {kk : List D → Store → R β} {k : β → Store → Mu → Hp → Prop} (hsl : ∀ i ∈ sl, i ∈ vs)
    (r1 : Rel K mg μ1 H1 st1) (re : REnv K mg μ1 H1 env σ) (hJ : ItD K mg J μ1 H1 ds) (hD : H1 Dd = none) (a : Aft K mg W σ μ1 H1 ((noEx (lcLoop g ct me (wipeD env vs) ds [] st1)).bind kk) k)
    (fin : ∀ μ2 H2 st2 acc ws, Ext μ1 H1 μ2 H2 → Dd ∈ μ2.r → Rel K mg μ2 H2 st2 → H2 Dd = some (.lst ws) → RepL K mg μ2 H2 acc ws → Aft K mg W σ μ1 H1 (kk acc st2) k → Q (.ref Dd) H2) :
    ∃ W' : Nat → Nat → Hp → Prop, (∃ m, W' 0 m (upd H1 Dd (.lst []))) ∧ ∀ i m H, W' i m H →
      (J.stop i H ∧ Q (.ref Dd) H) ∨ (J.go i H ∧ ∃ Nx : Hp → Prop, (∀ H', Nx H' → ∃ m', m' < m ∧ W' (i + 1) m' H') ∧ ∀ x H', J.yld i H x H' → gM K mg g sl x (L2.wipe σ vs) H' fun σ2 H2 => L2.wipe σ2 vs = L2.wipe σ vs ∧ tMT K mg (fun _ _ _ _ => False) ct σ2 H2 fun b H3 =>
        if b = true then tM K mg (fun _ _ _ _ => False) me σ2 H3 fun y H4 => ∃ acc, H4 Dd = some (.lst acc) ∧ acc.length < sizeLine ∧ Nx (upd H4 Dd (.lst (acc ++ [y]))) else Nx H3) := by
  refine ⟨fun i n H => n = ds.length - i ∧ i ≤ ds.length ∧ ∃ μ2 st2 acc ws, Ext μ1 H1 μ2 H ∧ Dd ∈ μ2.r ∧ Rel K mg μ2 H st2 ∧ REnv K mg μ2 H (wipeD env vs) (L2.wipe σ vs) ∧ H Dd = some (.lst ws) ∧ RepL K mg μ2 H acc ws ∧ Aft K mg W σ μ1 H1 ((noEx (lcLoop g ct me (wipeD env vs) (ds.drop i) acc st2)).bind kk) k, ?_, ?_⟩
  · have s := same_upd (o := HO.lst []) hD
    exact ⟨_, rfl, Nat.zero_le _, μ1.hold Dd, st1, [], [], Ext.hold r1 s hD, List.mem_cons_self, r1.hold s hD upd_same, (re.wipe vs).keeps (Keeps.hold hD s), upd_same, rfl, a⟩
  · rintro i n H ⟨rfl, hi, μ2, st2, acc, ws, x2, hd2, r2, re2, e2, hl2, a2⟩
    obtain ⟨go, stop⟩ := hJ i μ2 H st2 x2 r2
    by_cases hlt : i < ds.length
    · obtain ⟨g1, g2⟩ := go ds[i] (List.getElem?_eq_getElem hlt)
      rw [List.drop_eq_getElem_cons hlt] at a2
      refine .inr ⟨g1, fun H' => (ds.length - (i + 1) = ds.length - (i + 1) ∧ i + 1 ≤ ds.length ∧ ∃ μ2 st2 acc ws, Ext μ1 H1 μ2 H' ∧ Dd ∈ μ2.r ∧ Rel K mg μ2 H' st2 ∧ REnv K mg μ2 H' (wipeD env vs) (L2.wipe σ vs) ∧ H' Dd = some (.lst ws) ∧ RepL K mg μ2 H' acc ws ∧ Aft K mg W σ μ1 H1 ((noEx (lcLoop g ct me (wipeD env vs) (ds.drop (i + 1)) acc st2)).bind kk) k),
        fun H' hN => ⟨ds.length - (i + 1), by omega, hN⟩, fun v H' hy => ?_⟩
      obtain ⟨sm, hv⟩ := g2 v H' hy
      have x3 : Ext μ2 H μ2 H' := Ext.same r2 sm
      have r3 := r2.same sm
      unfold lcLoop at a2
      cases eg : g ds[i] (wipeD env vs) with
      | none => rw [eg] at a2; exact a2.elim
      | some env3 =>
        rw [eg] at a2
        refine ⟨μ2, wipeD env vs, ds[i], env3, re2.ext x3, hv, eg, fun σ3 re3 off => ⟨wipe_off off hsl, ?_⟩⟩
        have a3 : Aft K mg W σ μ1 H1 ((noEx ((ct env3 st2).bind fun b st1 => if b = true then (me env3 st1).bind fun y st2 => (if acc.length ≤ cap then lcLoop g ct me (wipeD env vs) (ds.drop (i + 1)) (acc ++ [y]) st2 else .bad) else lcLoop g ct me (wipeD env vs) (ds.drop (i + 1)) acc st1)).bind kk) k := a2
        refine ⟨μ2, env3, st2, r3, re3, ?_⟩
        cases ec : ct env3 st2 with
        | bad => rw [ec] at a3; exact a3.elim
        | ex c ks us s => rw [ec] at a3; exact a3.elim
        | ok b st3 =>
          rw [ec] at a3
          intro μ4 H4 x4 r4
          have x14 : Ext μ1 H1 μ4 H4 := (x2.trans x3).trans x4
          have d4 : Dd ∈ μ4.r := x4.res _ hd2
          have e4 : H4 Dd = some (.lst ws) := (x4.held _ hd2).trans (sm _ _ e2)
          have re4 := (re2.ext x3).ext x4
          have hl4 := (hl2.ext x3).ext x4
          cases b with
          | false =>
            exact ⟨rfl, hlt, μ4, st3, acc, ws, x14, d4, r4, re4, e4, hl4, a3⟩
          | true =>
            have a4 : Aft K mg W σ μ1 H1 ((noEx ((me env3 st3).bind fun y st2 => (if acc.length ≤ cap then lcLoop g ct me (wipeD env vs) (ds.drop (i + 1)) (acc ++ [y]) st2 else .bad))).bind kk) k := a3
            refine ⟨μ4, env3, st3, r4, re3.ext x4, ?_⟩
            cases em : me env3 st3 with
            | bad => rw [em] at a4; exact a4.elim
            | ex c ks us s => rw [em] at a4; exact a4.elim
            | ok y st5 =>
              rw [em] at a4
              intro μ5 H5 x5 r5 u hu
              have a5 : Aft K mg W σ μ1 H1 ((noEx (if acc.length ≤ cap then lcLoop g ct me (wipeD env vs) (ds.drop (i + 1)) (acc ++ [y]) st5 else .bad)).bind kk) k := a4
              by_cases c : acc.length ≤ cap
              · rw [if_pos c] at a5
                have d5 : Dd ∈ μ5.r := x5.res _ d4
                have e5 : H5 Dd = some (.lst ws) := (x5.held _ d4).trans e4
                have kc : Keeps μ5 H5 μ5 (upd H5 Dd (.lst (ws ++ [u]))) := Keeps.change d5
                refine ⟨ws, e5, by rw [← hl2.length]; exact cap_lt c, rfl, hlt, μ5, st5, acc ++ [y], ws ++ [u], Ext.changeR (x14.trans x5) r1 hD, d5, r5.changeR d5 e5, (re4.ext x5).keeps kc, upd_same, ?_, a5⟩
                exact ((hl4.ext x5).keeps kc).append ⟨u, [], rfl, hu.keeps kc, rfl⟩
              · rw [if_neg c] at a5
                exact a5.elim
    · have e : i = ds.length := by omega
      subst e
      rw [List.drop_length] at a2
      exact .inl ⟨stop (Nat.le_refl _), fin μ2 H st2 acc ws x2 hd2 r2 e2 hl2 a2⟩
/-- a held list becomes one of the store -/
theorem mem_adopt {μ : Mu} {p a : Addr} (h : a ∈ (μ.let p).push p) (hp : p ∈ μ.r) : a ∈ μ := by
  rcases h with h | h | h
  · rcases List.mem_append.mp (show a ∈ μ.l ++ [p] from h) with z | z
    · exact .inl z
    · have : a = p := by simpa using z
      subst this
      exact .inr (.inl hp)
  · exact .inr (.inl (List.mem_filter.mp h).1)
  · exact .inr (.inr h)
section
variable {K : PySem.W.Frag} {mg : Str → Option Value} {μ : Mu} {H : Hp} {st : Store} {p : Addr}
theorem Keeps.adopt (hp : p ∈ μ.r) : Keeps μ H ((μ.let p).push p) H := ⟨fun n a q => by
  show (μ.l ++ [p])[n]? = some a
  rw [List.getElem?_append_left (List.getElem?_eq_some_iff.mp q).1]
  exact q, fun a o n e => ⟨fun q => n (mem_adopt q hp), e⟩⟩
theorem Rel.adopt (r : Rel K mg μ H st) (hp : p ∈ μ.r) {acc : List D} {ws : List V} (e : H p = some (.lst ws)) (hl : RepL K mg μ H acc ws) : Rel K mg ((μ.let p).push p) H (st ++ [.lst acc]) := by
  have hn : p ∉ μ.l := fun z => r.apart p z hp
  refine ⟨by show (μ.l ++ [p]).length = _; simp [r.len], ?_, fun n ob a h1 h2 => ?_, fun a ha hb => ?_, fun a ha => r.held a (List.mem_filter.mp ha).1, r.tab, r.tc, fun a ha => r.rt a (List.mem_filter.mp ha).1⟩
  · show (μ.l ++ [p]).Nodup
    rw [List.nodup_append]
    refine ⟨r.nd, by simp, fun a ha b hb => ?_⟩
    have : b = p := by simpa using hb
    subst this
    intro z
    subst z
    exact hn ha
  · have h2' : (μ.l ++ [p])[n]? = some a := h2
    by_cases hl' : n < st.length
    · rw [List.getElem?_append_left hl'] at h1
      rw [List.getElem?_append_left (by rw [r.len]; exact hl')] at h2'
      exact (r.ob n ob a h1 h2').keeps (Keeps.adopt hp) rfl
    · have hlt := (List.getElem?_eq_some_iff.mp h1).1
      have en : n = st.length := by simp at hlt; omega
      subst en
      rw [List.getElem?_append_right (Nat.le_refl _)] at h1
      rw [List.getElem?_append_right (by rw [r.len]; exact Nat.le_refl _), r.len] at h2'
      simp at h1 h2'
      subst h1 h2'
      exact ⟨ws, e, hl.keeps (Keeps.adopt hp)⟩
  · have hb' := List.mem_filter.mp hb
    rcases List.mem_append.mp (show a ∈ μ.l ++ [p] from ha) with z | z
    · exact r.apart a z hb'.1
    · have : a = p := by simpa using z
      subst this
      simp at hb'
theorem Ext.adopt {μ1 : Mu} {H1 : Hp} {st1 : Store} (x : Ext μ1 H1 μ H) (r1 : Rel K mg μ1 H1 st1) (h : H1 p = none) (hp : p ∈ μ.r) : Ext μ1 H1 ((μ.let p).push p) H := by
  obtain ⟨m, em⟩ := x.more
  refine ⟨⟨m ++ [p], by show μ.l ++ [p] = _; rw [em, List.append_assoc]⟩, fun a ha => List.mem_filter.mpr ⟨x.res a ha, decide_eq_true fun z => ?_⟩, fun a o n e => ⟨fun q => (x.keep a o n e).1 (mem_adopt q hp), (x.keep a o n e).2⟩, x.held, x.tabs⟩
  subst z
  exact r1.nin h (.inr (.inl ha))
end
abbrev Wno : WX := fun _ _ _ _ => False
theorem lc_of {K : PySem.W.Frag} {mg : Str → Option Value} {W : WX} {σ : L2.St} {H : Hp} {vs : List Nat} {Q : VK} (hsl : ∀ i ∈ sl, i ∈ vs) (h : tM K mg W (eLc mi g ct me vs) σ H Q) : tLc (iM K mg W mi) (gM K mg g sl) (tMT K mg Wno ct) (tM K mg Wno me) vs σ H Q := by
  obtain ⟨μ, env, st, r, re, a⟩ := h
  refine ⟨μ, env, st, r, re, (Aft.bind a).imp fun ds st1 μ1 H1 x1 r1 a1 J hJ Dd hD => ?_⟩
  refine lc_turns hsl r1 (re.ext x1) hJ hD a1 fun μ2 H2 st2 acc ws x2 d2 r2 e2 hl2 a2 => ?_
  exact a2 (μ2.let Dd) H2 (x2.letgo r1 hD) r2.letgo _ ⟨Dd, ws, rfl, let_nin r2 d2 (fun q hq => by obtain ⟨ps, z, _⟩ := r2.tab _ hq; rw [show H2 (Dd, q).1 = H2 Dd from rfl, e2] at z; cases z), e2, hl2.keeps Keeps.letgo⟩
theorem lcM_of {K : PySem.W.Frag} {mg : Str → Option Value} {W : WX} {σ : L2.St} {H : Hp} {vs : List Nat} {Q : VK} (hsl : ∀ i ∈ sl, i ∈ vs) (h : tM K mg W (eLcM mi g ct me vs) σ H Q) : tLc (iM K mg W mi) (gM K mg g sl) (tMT K mg Wno ct) (tM K mg Wno me) vs σ H Q := by
  obtain ⟨μ, env, st, r, re, a⟩ := h
  refine ⟨μ, env, st, r, re, (Aft.bind a).imp fun ds st1 μ1 H1 x1 r1 a1 J hJ Dd hD => ?_⟩
  refine lc_turns hsl r1 (re.ext x1) hJ hD a1 fun μ2 H2 st2 acc ws x2 d2 r2 e2 hl2 a2 => ?_
  refine a2 ((μ2.let Dd).push Dd) H2 (x2.adopt r1 hD d2) (r2.adopt d2 e2 hl2) _ ⟨Dd, rfl, ?_⟩
  show (μ2.l ++ [Dd])[st2.length]? = some Dd
  rw [List.getElem?_append_right (by rw [r2.len]; exact Nat.le_refl _), r2.len]
  simp
section
variable {i : Nat} {y : Str} {py spos : Pos}
variable (hc : X.calm = true) (hN : X.N.Nodup) (hi : SI X tg iter mi) (ok : BlkOk X.N X.env.scope scope own) (hsl : ∀ i ∈ sl, i ∈ own.map (·.2))
    (hg : ∀ (s : Shared) (H : Hp) (C : Addr) (cl : List (Str × Addr)) (fp : List Addr), SG (X.blk s H scope (compEnvC scope cl C X.env) fp) tg g sl) (ht : ∀ (s : Shared) (H : Hp) (C : Addr) (cl : List (Str × Addr)) (fp : List Addr), STs (X.blk s H scope (compEnvC scope cl C X.env) fp) ifs ct)
    (he : ∀ (s : Shared) (H : Hp) (C : Addr) (cl : List (Str × Addr)) (fp : List Addr), SE (X.blk s H scope (compEnvC scope cl C X.env) fp) elt me)
include hc hN hi ok hsl hg ht he
theorem lc_pe (hs : ∀ x, foldedSetIterable iter X.env x = pure x) (pn : List (Addr × Obj)) (xe : Value → Shared → Prop) (W : WX) (tk : Takes (X.tr pn xe) W) : PE (X.tr pn xe) (.ListComp elt [⟨tg, iter, ifs, 0⟩] scope pos) (tLc (iM X.K X.mg W mi) (gM X.K X.mg g sl) (tMT X.K X.mg Wno ct) (tM X.K X.mg Wno me) (own.map (·.2))) :=
  pe_lc (X := X.tr pn xe) (g := gM X.K X.mg g sl) (tt := tMT X.K X.mg Wno ct) (te := tM X.K X.mg Wno me) hc hN (hi pn xe W tk) ok (fun s H C cl fp => hg s H C cl fp [] fun _ _ => False) (fun s H C cl fp => ht s H C cl fp [] (fun _ _ => False) _ takes0) (fun s H C cl fp => he s H C cl fp [] (fun _ _ => False) _ takes0) hs
theorem se_lc (hs : ∀ x, foldedSetIterable iter X.env x = pure x := by intro _; rfl) : SE X (.ListComp elt [⟨tg, iter, ifs, 0⟩] scope pos) (eLc mi g ct me (own.map (·.2))) := fun pn xe W tk =>
  PE.imp (lc_pe hc hN hi ok hsl hg ht he hs pn xe W tk) fun σ H Q h => lc_of hsl h
theorem se_lcM (hs : ∀ x, foldedSetIterable iter X.env x = pure x := by intro _; rfl) : SE X (.ListComp elt [⟨tg, iter, ifs, 0⟩] scope pos) (eLcM mi g ct me (own.map (·.2))) := fun pn xe W tk =>
  PE.imp (lc_pe hc hN hi ok hsl hg ht he hs pn xe W tk) fun σ H Q h => lcM_of hsl h
end
theorem sts_nil : STs X [] cYes := fun pn xe W _ => PTs.imp pts_nil fun σ H Q h => by
  obtain ⟨μ, env, st, r, re, a⟩ := h
  exact a μ H Ext.refl r
theorem sts_one {c : Expr} (h : ST X c ct) : STs X [c] ct := fun pn xe W tk => pts_one (h pn xe W tk)
end
end T5
namespace T5
open PySem PySem.Spec PyProof.Rows L2
variable [TabC]
/-! ### a, b = x, y: the pair itself is not laid -/
def sPar2 (i j : Nat) (ma : MA) : MS := fun env st => (ma env st).toS env fun ds st1 => match ds with
  | [a, b] => .nx ((env.set i (some a)).set j (some b)) st1
  | _ => .bad
def sPar3 (i j k : Nat) (ma : MA) : MS := fun env st => (ma env st).toS env fun ds st1 => match ds with
  | [a, b, c] => .nx (((env.set i (some a)).set j (some b)).set k (some c)) st1
  | _ => .bad
section
variable {X : Cx} {a b c : Expr} {ma : MA} {i j k : Nat} {x y z : Str} {px py pz pt pos : Pos}
theorem ss_par3 {kt k2 pt2} (hc : X.calm = true) (hN : X.N.Nodup) (hi : X.N[i]? = some x) (hj : X.N[j]? = some y) (hk : X.N[k]? = some z) (hij : i ≠ j) (hik : i ≠ k) (hjk : j ≠ k) (hx : X.env.scope.names.lookup x = some .local) (hy : X.env.scope.names.lookup y = some .local) (hz : X.env.scope.names.lookup z = some .local) (ha : SA X [a, b, c] ma)
    (hw : swappedStores [.Tuple [.Name x px, .Name y py, .Name z pz] kt pt] (.Tuple [a, b, c] k2 pt2) X.env = pure (some [x, y, z]))
    (hs : swapsWithSole [.Tuple [.Name x px, .Name y py, .Name z pz] kt pt] (.Tuple [a, b, c] k2 pt2) pos.line X.env = pure false := by rfl) :
    SS X (.Assign [.Tuple [.Name x px, .Name y py, .Name z pz] kt pt] (.Tuple [a, b, c] k2 pt2) pos) (sPar3 i j k ma) := fun pn xe W tk _ => by
  refine PS.imp (ps_par3 (X := X.tr pn xe) hc hN hi hj hk hij hik hjk hx hy hz (ha pn xe W tk) hw hs) fun E σ H h => ?_
  obtain ⟨μ, env, st, r, re, q⟩ := h
  refine ⟨μ, env, st, r, re, (AftS.ofR re q).imp fun ds st1 μ1 H1 x1 r1 q1 vs hv => ?_⟩
  match ds, q1 with
  | [d, d', d''], q1 =>
    obtain ⟨v, r2, e2, h1, v', r3, e3, h2, v'', r4, e4, h3, e5⟩ := hv
    have e6 : r4 = [] := e5
    subst e2 e3 e4 e6
    exact ⟨v, v', v'', rfl, q1 μ1 H1 _ Ext.refl r1 ((((re.ext x1).set h1 i).set h2 j).set h3 k)⟩
end
/-! ### isinstance with a built-in type -/
def tyD (st : Store) : D → Option String
  | .non => some "NoneType"
  | .bl _ => some "bool"
  | .int _ => some "int"
  | .str _ => some "str"
  | .tup _ => some "tuple"
  | .lst _ => some "list"
  | .dic false _ _ => some "dict"
  | .obj n => match st[n]? with
    | some (.lst _) => some "list"
    | some (.dic _ _ _) => some "dict"
    | _ => none
  | _ => none
def fIsi : BF := fun st ds => match ds with
  | [d, .ty T] => (tyD st d).bind fun t => (kitB t T).map .bl
  | _ => none
section
variable {X : Cx} {K : PySem.W.Frag} {mg : Str → Option Value} {μ : Mu} {H : Hp} {st : Store}
theorem ty_at (r : Rel K mg μ H st) {d : D} {v : V} {t : String} (h : Rep K mg μ H d v) (e : tyD st d = some t) : TyX K H v (.type t) := by
  cases d with
  | non => cases e; cases h; exact .base .non
  | bl b => cases e; cases h; exact .base (.bl b)
  | int i => cases e; cases h; exact .base (.int i)
  | str s => cases e; cases h; exact .base (.str _)
  | tup l =>
    cases e
    obtain ⟨a, vs, rfl, n, q, _⟩ := h
    exact .base (.tup q)
  | lst l =>
    cases e
    obtain ⟨a, vs, rfl, n, q, _⟩ := h
    exact .base (.lst q)
  | dic t' ks vs =>
    cases t' with
    | true => cases e
    | false =>
      cases e
      obtain ⟨a, ws, u, rfl, n, _, dh, q⟩ := h
      rcases dh with ⟨_, kk, e1, e2, rfl⟩ | ⟨c, _⟩
      · rcases q.rd with q | ⟨ob, q⟩
        · exact .base (.dK q)
        · exact .fDict q
      · cases c
  | obj n =>
    obtain ⟨a, rfl, hn⟩ := h
    cases ho : st[n]? with
    | none => simp [tyD, ho] at e
    | some o =>
      cases o with
      | lst l =>
        simp only [tyD, ho] at e
        cases e
        obtain ⟨ws, hh, _⟩ := r.ob n _ a ho hn
        exact .base (.lst hh)
      | dic t' ks vs =>
        simp only [tyD, ho] at e
        cases e
        obtain ⟨ws, u, _, dh, hh⟩ := r.ob n _ a ho hn
        rcases dh with ⟨_, kk, e1, e2, rfl⟩ | ⟨_, kk, e1, e2, rfl⟩
        · exact .base (.dK hh)
        · exact .base (.dT hh)
      | ins _ _ _ => simp [tyD, ho] at e
      | fdc _ _ => simp [tyD, ho] at e
  | _ => cases e
theorem calld_isi : CallD K mg (rIsi K) fIsi := by
  intro μ H st ds d vs Q r hv e q
  unfold fIsi at e
  split at e
  · rename_i d1 T
    obtain ⟨t, e1, e2⟩ := Option.bind_eq_some_iff.mp e
    obtain ⟨b, e3, e4⟩ := Option.map_eq_some_iff.mp e2
    cases e4
    obtain ⟨v, v2, rfl, h1, h2⟩ := repL2 hv
    have h2' : v2 = .ty T := h2
    subst h2'
    exact ⟨v, .ty T, .type t, .type T, b, rfl, .ty T, ty_at r h1 e1, kit_ty e3, q H _ Ext.refl r rfl⟩
  · cases e
variable {e : Expr} {es : List Expr} {ma : MA} {p pos : Pos} {x : Str}
theorem se_isi (hg : Gl X "isinstance") (hm : X.mg "isinstance" = none) (ha : SA X (e :: es) ma) (he : starEach (e :: es) X.env = (false, eval e X.env) :: starEach es X.env := by rfl) (hpl : (backTo pos (starEach es X.env)).any (·.1) = false := by rfl) : SE X (.Call (.Name "isinstance" p) (e :: es) [] pos) (eCB fIsi ma) :=
  se_callB (fun _ _ => call_isi) calld_isi hg hm PyProof.Rows.boot_isinstance ha (by decide) (by decide) he hpl
/-- a built-in type by its name -/
theorem se_ty (T : String) (hg : Gl X x) (hm : X.mg x = none) (hv : bootBuiltins x = some (.type T)) (hn : x ≠ "__name__" := by decide) (hd : (x == ("__debug__" : Str)) = false := by decide) : SE X (.Name x pos) (eC (.ty T)) :=
  se_const (v := .ty T) (fun pn xe => pe_bltn (X := X.tr pn xe) hg hm hv rfl hn hd) rfl
end
/-! ### dict displays -/
def eDnew (t : Bool) : ME := fun _ st => .ok (.obj st.length) (st ++ [.dic t [] []])
section
variable {X : Cx} {pos : Pos}
theorem get_push {K : PySem.W.Frag} {mg : Str → Option Value} {μ : Mu} {H : Hp} {st : Store} (r : Rel K mg μ H st) (p : Addr) : (μ.push p).get st.length = some p := by
  show (μ.l ++ [p])[st.length]? = some p
  rw [List.getElem?_append_right (by rw [r.len]; exact Nat.le_refl _), r.len]
  simp
end
end T5
namespace T5
open PySem PySem.Spec PyProof.Rows L2
variable [TabC]
/-! ### {k: v, ..} -/
abbrev MP := DEnv → Store → R (List D × List D)
def evP : List (ME × ME) → MP
  | [] => fun _ st => .ok ([], []) st
  | p :: ps => fun env st => (p.1 env st).bind fun k st1 => (p.2 env st1).bind fun v st2 => (evP ps env st2).bind fun r st3 => .ok (k :: r.1, v :: r.2) st3
def mergeD : List D → List D → List D → List D → List D × List D
  | k :: ks, v :: vs, ks0, vs0 => mergeD ks vs (putD false k v ks0 vs0).1 (putD false k v ks0 vs0).2
  | _, _, ks0, vs0 => (ks0, vs0)
def eDisp (ps : List (ME × ME)) : ME := fun env st => (evP ps env (st ++ [.dic false [] []])).bind fun kv st1 => match st1[st.length]? with
  | some (.dic false [] []) => if kv.1.all flatKey = true ∧ kv.1.length ≤ 15 ∧ kv.2.length = kv.1.length then .ok (.obj st.length) (st1.set st.length (.dic false (mergeD kv.1 kv.2 [] []).1 (mergeD kv.1 kv.2 [] []).2)) else .bad
  | _ => .bad
section
variable {X : Cx} {K : PySem.W.Frag} {mg : Str → Option Value} {W : WX} {μ : Mu} {H : Hp} {st : Store} {σ : L2.St} {env : DEnv} {pos : Pos}
theorem tPairs_of : ∀ {ps : List (ME × ME)} {μ : Mu} {H : Hp} {st : Store} {Q : List (V × V) → Hp → Prop} {k : List D × List D → Store → Mu → Hp → Prop}, Rel K mg μ H st → REnv K mg μ H env σ → Aft K mg W σ μ H (evP ps env st) k →
    (∀ kv st' μ' H' xs ys, Ext μ H μ' H' → Rel K mg μ' H' st' → k kv st' μ' H' → RepL K mg μ' H' kv.1 xs → RepL K mg μ' H' kv.2 ys → Q (xs.zip ys) H') → tPairs (ps.map fun p => (tM K mg W p.1, tM K mg W p.2)) σ H Q
  | [], μ, H, st, Q, k, r, re, a, f => f ([], []) st μ H [] [] Ext.refl r (a μ H Ext.refl r) rfl rfl
  | p :: ps, μ, H, st, Q, k, r, re, a, f => by
    refine ⟨μ, env, st, r, re, (Aft.bind a).imp fun d st1 μ1 H1 x1 r1 a1 x hx => ?_⟩
    refine ⟨μ1, env, st1, r1, re.ext x1, (Aft.bind a1).imp fun d2 st2 μ2 H2 x2 r2 a2 y hy => ?_⟩
    refine tPairs_of (ps := ps) r2 ((re.ext x1).ext x2) (Aft.bind a2) fun kv st3 μ3 H3 xs ys x3 r3 a3 h1 h2 => ?_
    exact f (d :: kv.1, d2 :: kv.2) st3 μ3 H3 (x :: xs) (y :: ys) ((x1.trans x2).trans x3) r3 (a3 μ3 H3 Ext.refl r3) ⟨x, xs, rfl, hx.ext (x2.trans x3), h1⟩ ⟨y, ys, rfl, hy.ext x3, h2⟩
def SP (X : Cx) (pos : Pos) (keys : List (Option Expr)) (values : List Expr) (ps : List (ME × ME)) : Prop := ∀ pn xe W, Takes (X.tr pn xe) W → PPs (X.tr pn xe) pos keys values (ps.map fun p => (tM X.K X.mg W p.1, tM X.K X.mg W p.2))
theorem sp_nil : SP X pos [] [] [] := fun pn xe W tk => pps_nil
theorem sp_cons {k v : Expr} {ks : List (Option Expr)} {vs : List Expr} {mk mv : ME} {ps : List (ME × ME)} (hk : SE X k mk) (hv : SE X v mv) (hr : SP X pos ks vs ps) : SP X pos (some k :: ks) (v :: vs) ((mk, mv) :: ps) := fun pn xe W tk =>
  pps_cons (hk pn xe W tk) (hv pn xe W tk) (hr pn xe W tk)
theorem merge_of : ∀ {kk : List Key} {ds : List D} {vs : List V} {k0 : List Key} {ds0 : List D} {vs0 : List V}, kk.length = vs.length → RepL K mg μ H ds vs → k0.length = vs0.length → RepL K mg μ H ds0 vs0 →
    ∃ (kk' : List Key) (vs' : List V), (mergeD (kk.map keyD) ds (k0.map keyD) ds0).1 = kk'.map keyD ∧ RepL K mg μ H (mergeD (kk.map keyD) ds (k0.map keyD) ds0).2 vs' ∧ kk'.length = vs'.length ∧ mergeK (k0.zip vs0) (kk.zip vs) = kk'.zip vs'
  | [], ds, vs, k0, ds0, vs0, h, hr, h0, hr0 => ⟨k0, vs0, rfl, hr0, h0, rfl⟩
  | k :: kk, ds, vs, k0, ds0, vs0, h, hr, h0, hr0 => by
    cases vs with
    | nil => simp at h
    | cons v vs =>
      cases ds with
      | nil => have := hr.length; simp at this
      | cons d ds =>
        obtain ⟨v', r', e, h1, h2⟩ := hr
        cases e
        obtain ⟨kk', vs', p1, p2, p3, p4⟩ := put_zip (kD := keyD) (t := false) (fun a b => by rw [same_false, keyD_same]) k h1 h0 hr0
        obtain ⟨k2, v2, q1, q2, q3, q4⟩ := merge_of (kk := kk) (ds := ds) (vs := vs) (k0 := kk') (vs0 := vs') (by simpa using h) h2 p3 p2
        refine ⟨k2, v2, ?_, ?_, q3, ?_⟩
        · show (mergeD (kk.map keyD) ds (putD false (keyD k) d (k0.map keyD) ds0).1 _).1 = _
          rw [p1]
          exact q1
        · show RepL K mg μ H (mergeD (kk.map keyD) ds (putD false (keyD k) d (k0.map keyD) ds0).1 _).2 v2
          rw [p1]
          exact q2
        · show mergeK (putK (k0.zip vs0) k v) (kk.zip vs) = _
          rw [p4]
          exact q4
theorem zip_kV : ∀ {kk : List Key} {vs : List V}, kk.length = vs.length → (kk.map kV).zip vs = (kk.zip vs).map fun kv => (kV kv.1, kv.2)
  | [], vs, h => by cases vs <;> rfl
  | k :: kk, vs, h => by
    cases vs with
    | nil => simp at h
    | cons v vs =>
      show (kV k, v) :: (kk.map kV).zip vs = (kV k, v) :: (kk.zip vs).map _
      rw [zip_kV (by simpa using h)]
theorem se_disp {keys : List (Option Expr)} {values : List Expr} {ps : List (ME × ME)} (h : SP X pos keys values ps) (hall : keys.all (·.isSome) = true := by rfl) (hl : keys.length = values.length := by rfl) (h0 : keys ≠ [] := by exact fun z => nomatch z)
    (h15 : keys.length ≤ 15 := by decide) : SE X (.Dict keys values pos) (eDisp ps) := fun pn xe W tk => by
  refine PE.imp (pe_disp (h pn xe W tk) hall hl h0 h15) fun σ H Q q p hp => ?_
  obtain ⟨μ, env, st, r, re, a⟩ := q
  have s := same_upd (o := HO.dK []) hp
  have x0 := Ext.push r s hp
  have r0 : Rel X.K X.mg (μ.push p) (upd H p (.dK [])) (st ++ [.dic false [] []]) := r.push s hp ⟨[], _, rfl, .inl ⟨rfl, [], rfl, rfl, rfl⟩, upd_same⟩
  refine tPairs_of r0 (re.ext x0) (Aft.bind (a.ext x0)) fun kv st' μ' H' xs ys x1 r1 a1 hx hy => ?_
  have hg : μ'.get st.length = some p := by
    obtain ⟨m, em⟩ := x1.more
    show μ'.l[st.length]? = some p
    rw [em, List.getElem?_append_left]
    · exact get_push r p
    · exact (List.getElem?_eq_some_iff.mp (get_push r p)).1
  split at a1
  · rename_i e1
    split at a1
    · rename_i c
      obtain ⟨c1, c2, c3⟩ := c
      obtain ⟨ws, u, e2, dh, eu⟩ := r1.ob _ _ _ e1 hg
      have e3 : ws = [] := e2
      subst e3
      rcases dh with ⟨_, kk0, z1, z2, rfl⟩ | ⟨z, _⟩
      · have z3 : kk0 = [] := List.eq_nil_of_length_eq_zero z2
        subst z3
        refine ⟨eu, ?_⟩
        obtain ⟨kk, ek⟩ := flat_keys c1
        rw [ek] at hx
        have ex := keysD_rep hx
        have hlen : kk.length = ys.length := by
          rw [← hy.length, c3, ek]
          simp
        refine ⟨kk.zip ys, by rw [ex, zip_kV hlen], by rw [List.length_zip, hlen, Nat.min_self, ← hy.length, c3]; exact c2, ?_⟩
        have x2 := Ext.change (o := HO.dK (mergeK [] (kk.zip ys))) r1 hg
        obtain ⟨k2, v2, q1, q2, q3, q4⟩ := merge_of (k0 := []) (vs0 := []) hlen (hy.ext x2) rfl (show RepL X.K X.mg μ' _ [] [] from rfl)
        refine a1 μ' _ x2 (r1.change hg ?_) _ ⟨p, rfl, hg⟩
        rw [ek]
        refine ⟨v2, _, q2, .inl ⟨rfl, k2, q1, q3, rfl⟩, ?_⟩
        rw [upd_same]
        exact congrArg (fun z => some (HO.dK z)) q4
      · cases z
    · exact a1.elim
  · exact a1.elim
end
/-! ### what lies only behind a mark is let go -/
mutual
/-- no place at n or behind -/
def clD (n : Nat) : D → Bool
  | .tup l | .lst l | .scr l => clL n l
  | .obj j => decide (j < n)
  | .dic _ _ vs | .ins _ _ vs | .exc _ _ vs => clL n vs
  | .fn _ _ _ vs _ => clL n vs
  | _ => true
def clL (n : Nat) : List D → Bool
  | [] => true
  | d :: ds => clD n d && clL n ds
end
def clO (n : Nat) : Ob → Bool
  | .lst l => clL n l
  | .dic _ _ vs | .ins _ _ vs => clL n vs
  | .fdc _ vs => clL n vs
def Mu.take (μ : Mu) (n : Nat) : Mu := ⟨μ.l.take n, μ.r, μ.t⟩
section
variable {K : PySem.W.Frag} {mg : Str → Option Value} {μ μ' : Mu} {H H' : Hp} {st : Store} {n : Nat}
theorem Mu.take_nin {a : Addr} (h : a ∉ μ) : a ∉ μ.take n := fun q => h (q.imp (fun q => List.mem_of_mem_take q) id)
theorem Mu.take_get {j : Nat} {a : Addr} (h : μ.get j = some a) (hj : j < n) : (μ.take n).get j = some a := by
  show (μ.l.take n)[j]? = some a
  rw [List.getElem?_take, if_pos hj]
  exact h
mutual
theorem Rep.letBe : ∀ {d : D} {v : V}, clD n d = true → Rep K mg μ H d v → Rep K mg (μ.take n) H d v
  | .non, _, _, h => h
  | .bl _, _, _, h => h
  | .int _, _, _, h => h
  | .str _, _, _, h => h
  | .ty _, _, _, h => h
  | .tup l, v, c, ⟨a, vs, e, m, r, q⟩ => ⟨a, vs, e, Mu.take_nin m, r, RepL.letBe (by simpa [clD] using c) q⟩
  | .lst l, v, c, ⟨a, vs, e, m, r, q⟩ => ⟨a, vs, e, Mu.take_nin m, r, RepL.letBe (by simpa [clD] using c) q⟩
  | .scr l, v, c, ⟨a, vs, e, m, q⟩ => ⟨a, vs, e, m.imp (fun m => ⟨Mu.take_nin m.1, m.2⟩) id, RepL.letBe (by simpa [clD] using c) q⟩
  | .obj j, v, c, ⟨a, e, q⟩ => ⟨a, e, Mu.take_get q (by simpa [clD] using c)⟩
  | .dic t ks ds, v, c, ⟨a, vs, u, e, m, q, dh, r⟩ => ⟨a, vs, u, e, Mu.take_nin m, RepL.letBe (by simpa [clD] using c) q, dh, r⟩
  | .ins _ ks ds, v, c, ⟨a, C, dx, vs, e, m, g, l, r, q⟩ => ⟨a, C, dx, vs, e, Mu.take_nin m, g, l, r, RepL.letBe (by simpa [clD] using c) q⟩
  | .exc c ks ds, v, cl, ⟨a, C, dx, us, e, m, g, l, r, q⟩ => ⟨a, C, dx, us, e, Mu.take_nin m, g, l, r.imp (fun z => ⟨z.1, Mu.take_nin z.2.1, z.2.2⟩) id, RepL.letBe (by simpa [clD] using cl) q⟩
  | .cls _, _, _, h => h
  | .fn a c q ds us, v, cl, ⟨e, n, r, y⟩ => ⟨e, Mu.take_nin n, r, RepL.letBe (by simpa [clD] using cl) y⟩
theorem RepL.letBe : ∀ {ds : List D} {vs : List V}, clL n ds = true → RepL K mg μ H ds vs → RepL K mg (μ.take n) H ds vs
  | [], _, _, h => h
  | d :: ds, vs, c, ⟨v, r, e, h1, h2⟩ => by
    have c' : clD n d = true ∧ clL n ds = true := by simpa [clL] using c
    exact ⟨v, r, e, Rep.letBe c'.1 h1, RepL.letBe c'.2 h2⟩
end
theorem ObR.drop {a : Addr} : ∀ {o : Ob}, clO n o = true → ObR K mg μ H a o → ObR K mg (μ.take n) H a o
  | .lst l, c, ⟨vs, h, q⟩ => ⟨vs, h, q.letBe c⟩
  | .dic t ks ds, c, ⟨vs, u, q, d, h⟩ => ⟨vs, u, q.letBe c, d, h⟩
  | .ins _ ks ds, c, ⟨C, dx, vs, g, l, h, q⟩ => ⟨C, dx, vs, g, l, h, q.letBe c⟩
  | .fdc ks ds, c, ⟨vs, u, o, q, d, h⟩ => ⟨vs, u, o, q.letBe c, d, h⟩
theorem Rel.drop (r : Rel K mg μ H st) (c : (st.take n).all (clO n) = true) : Rel K mg (μ.take n) H (st.take n) := by
  refine ⟨by show (μ.l.take n).length = _; simp [r.len], ?_, fun j o a h1 h2 => ?_, fun a h => r.apart a (List.mem_of_mem_take h), r.held, r.tab, r.tc, r.rt⟩
  · exact r.nd.sublist (List.take_sublist n μ.l)
  · have h2' : (μ.l.take n)[j]? = some a := h2
    have hm := List.mem_of_getElem? h1
    rw [List.getElem?_take] at h1 h2'
    split at h1
    · rename_i hj
      rw [if_pos hj] at h2'
      exact (r.ob j o a h1 h2').drop (List.all_eq_true.mp c o hm)
    · cases h1
theorem Ext.drop (x : Ext μ H μ' H') (h : μ.l.length ≤ n) : Ext μ H (μ'.take n) H' := by
  obtain ⟨m, e⟩ := x.more
  refine ⟨⟨m.take (n - μ.l.length), ?_⟩, x.res, fun a o q z => ⟨Mu.take_nin (x.keep a o q z).1, (x.keep a o q z).2⟩, x.held, x.tabs⟩
  show μ'.l.take n = _
  rw [e, List.take_append, List.take_of_length_le h]
end
/-- at a def's end: its own things are let go; a list or an instance of its own that it gives is changed no more -/
def fin (m : MF) : MF := fun ds st => match m ds st with
  | .ok d st1 => if st.length ≤ st1.length ∧ (st1.take st.length).all (clO st.length) = true then
      (if clD st.length d = true then .ok d (st1.take st.length) else match d with
        | .obj j => (match st1[j]? with
          | some (.lst l) => if clL st.length l = true then .ok (.lst l) (st1.take st.length) else .bad
          | some (.ins c ks vs) => if clL st.length vs = true then .ok (.ins c ks vs) (st1.take st.length) else .bad
          | _ => .bad)
        | _ => .bad)
    else .bad
  | .ex c ks vs st1 => if st.length ≤ st1.length ∧ (st1.take st.length).all (clO st.length) = true ∧ clL st.length vs = true then .ex c ks vs (st1.take st.length) else .bad
  | .bad => .bad
section
variable {K : PySem.W.Frag} {mg : Str → Option Value} {W : WX} {σ : L2.St} {μ : Mu} {H : Hp} {st : Store} {m : MF} {ds : List D} {k : D → Store → Mu → Hp → Prop}
theorem fin_aft {Q : VK} (r : Rel K mg μ H st) (h : Aft K mg W σ μ H (fin m ds st) fun d _ μ' H' => ∀ v, Rep K mg μ' H' d v → Q v H') : Aft K mg W σ μ H (m ds st) fun d _ μ' H' => ∀ v, Rep K mg μ' H' d v → Q v H' := by
  unfold fin at h
  cases e : m ds st with
  | bad => rw [e] at h; exact h
  | ex c ks vs st1 =>
    rw [e] at h
    have h' : Aft K mg W σ μ H (if st.length ≤ st1.length ∧ (st1.take st.length).all (clO st.length) = true ∧ clL st.length vs = true then (.ex c ks vs (st1.take st.length) : R D) else .bad) fun d _ μ' H' => ∀ v, Rep K mg μ' H' d v → Q v H' := h
    split at h'
    · rename_i cc
      obtain ⟨c1, c2, c3⟩ := cc
      intro μ' H' C dx us x r1 q1 q2 q3 q4 q5
      exact h' (μ'.take st.length) H' C dx us (x.drop (by rw [r.len]; exact Nat.le_refl _)) (r1.drop c2) q1 q2 q3 (Mu.take_nin q4) (q5.letBe c3)
    · exact h'.elim
  | ok d st1 =>
    rw [e] at h
    intro μ' H' x r1 v hv
    have xd : Ext μ H (μ'.take st.length) H' := x.drop (by rw [r.len]; exact Nat.le_refl _)
    simp only at h
    split at h
    · rename_i cc
      have rd := r1.drop cc.2
      split at h
      · rename_i c1
        exact h _ H' xd rd v (hv.letBe c1)
      · rename_i c1
        cases d with
        | obj j =>
          simp only at h
          obtain ⟨a, rfl, ha⟩ := hv
          have hj : ¬ j < st.length := fun z => c1 (by simpa [clD] using z)
          have na : a ∉ μ'.take st.length := fun q => by
            rcases q with q | q | ⟨t, q⟩
            · obtain ⟨i, hi⟩ := List.getElem?_of_mem q
              have hi' : (μ'.l.take st.length)[i]? = some a := hi
              rw [List.getElem?_take] at hi'
              split at hi'
              · rename_i hlt
                have e1 := (List.getElem?_inj (List.getElem?_eq_some_iff.mp (show μ'.l[i]? = some a from hi')).1 r1.nd).mp (hi'.trans (show μ'.l[j]? = some a from ha).symm)
                exact hj (e1 ▸ hlt)
              · cases hi'
            · exact r1.apart a (List.mem_of_getElem? ha) q
            · obtain ⟨u, hu, h1, _⟩ := r1.plain ha
              obtain ⟨ps, z, _⟩ := r1.tab _ q
              rw [show H' (a, t).1 = H' a from rfl, hu] at z
              exact h1 _ (Option.some.inj z)
          split at h
          · rename_i l ho
            split at h
            · rename_i c2
              obtain ⟨ws, hh, hl⟩ := r1.ob j _ a ho ha
              exact h _ H' xd rd _ ⟨a, ws, rfl, na, hh, hl.letBe c2⟩
            · exact h.elim
          · rename_i c ks vs ho
            split at h
            · rename_i c2
              obtain ⟨C, dx, ws, g, l, hh, hl⟩ := r1.ob j _ a ho ha
              exact h _ H' xd rd _ ⟨a, C, dx, ws, rfl, na, g, l, hh, hl.letBe c2⟩
            · exact h.elim
          · exact h.elim
        | _ => exact h.elim
    · exact h.elim
theorem Fn.fin {P : Program} {w : World} {base : Heap} {k : Nat} {f : Addr} {ps : List Str} (F : Fn P w K mg base k f ps m) : Fn P w K mg base k f ps (T5.fin m) := F.imp fun vs H Q E h => by
  obtain ⟨hn, μ, st, ds, r, rl, a⟩ := h
  exact ⟨hn, μ, st, ds, r, rl, fin_aft r a⟩
end
end T5
namespace T5
open PySem PySem.Spec PyProof.Rows L2
variable [TabC]
/-! ### instances -/
def insOf (st : Store) : D → Option (String × List String × List D)
  | .ins c ks vs => some (c, ks, vs)
  | .obj n => match st[n]? with
    | some (.ins c ks vs) => some (c, ks, vs)
    | _ => none
  | _ => none
def lookF (f : String) : List String → List D → Option D
  | k :: ks, d :: ds => if k = f then some d else lookF f ks ds
  | _, _ => none
def putFd (f : String) (v : D) : List String → List D → List String × List D
  | k :: ks, d :: ds => if k = f then (k :: ks, v :: ds) else ((k :: (putFd f v ks ds).1), d :: (putFd f v ks ds).2)
  | _, _ => ([f], [v])
theorem ofString_inj {a b : String} (h : Str.ofString a = Str.ofString b) : a = b := by
  rw [Str.ofString_eq_toList, Str.ofString_eq_toList] at h
  have h1 : (a.toList.map Char.toNat) = (b.toList.map Char.toNat) := by
    have := congrArg (fun z : Str => z.cps.toList) h
    simpa using this
  have h2 : a.toList = b.toList := (List.map_inj_right fun x y e => Char.ext (UInt32.toNat_inj.mp e)).mp h1
  exact String.toList_inj.mp h2
section
variable {K : PySem.W.Frag} {mg : Str → Option Value} {μ : Mu} {H : Hp} {st : Store}
theorem lookF_of {f : String} {d : D} : ∀ {ks : List String} {ds : List D} {vs : List V}, RepL K mg μ H ds vs → lookF f ks ds = some d → ∃ v, ((ks.map Str.ofString).zip vs).lookup (Str.ofString f) = some v ∧ Rep K mg μ H d v
  | [], ds, vs, h, e => by cases ds <;> simp [lookF] at e
  | k :: ks, [], vs, h, e => by simp [lookF] at e
  | k :: ks, d' :: ds, vs, h, e => by
    obtain ⟨v, r, ev, h1, h2⟩ := h
    subst ev
    by_cases c : k = f
    · subst c
      simp only [lookF, if_true] at e
      cases e
      refine ⟨v, ?_, h1⟩
      show List.lookup (Str.ofString k) ((Str.ofString k, v) :: (ks.map Str.ofString).zip r) = some v
      simp [List.lookup]
    · simp only [lookF, if_neg c] at e
      obtain ⟨w, e1, e2⟩ := lookF_of h2 e
      refine ⟨w, ?_, e2⟩
      show List.lookup (Str.ofString f) ((Str.ofString k, v) :: (ks.map Str.ofString).zip r) = some w
      have : (Str.ofString f == Str.ofString k) = false := by
        rw [beq_eq_false_iff_ne]
        exact fun z => c (ofString_inj z).symm
      rw [List.lookup, this]
      exact e1
theorem putFd_of {f : String} {d : D} {v : V} (hd : Rep K mg μ H d v) : ∀ {ks : List String} {ds : List D} {vs : List V}, ks.length = vs.length → RepL K mg μ H ds vs →
    ∃ vs', (putFd f d ks ds).1.length = vs'.length ∧ RepL K mg μ H (putFd f d ks ds).2 vs' ∧ putF (Str.ofString f) v ((ks.map Str.ofString).zip vs) = ((putFd f d ks ds).1.map Str.ofString).zip vs'
  | [], ds, vs, hl, h => by
    cases vs with
    | nil =>
      have : ds = [] := by
        have := h.length
        exact List.eq_nil_of_length_eq_zero (by simpa using this)
      subst this
      exact ⟨[v], rfl, ⟨v, [], rfl, hd, rfl⟩, rfl⟩
    | cons _ _ => simp at hl
  | k :: ks, [], vs, hl, h => by
    have := h.length
    rw [← this] at hl
    simp at hl
  | k :: ks, d' :: ds, vs, hl, h => by
    obtain ⟨v', r, ev, h1, h2⟩ := h
    subst ev
    by_cases c : k = f
    · subst c
      refine ⟨v :: r, ?_, ?_, ?_⟩
      · simp only [putFd, if_true]; simpa using hl
      · simp only [putFd, if_true]; exact ⟨v, r, rfl, hd, h2⟩
      · simp only [putFd, if_true]
        show putF (Str.ofString k) v ((Str.ofString k, v') :: (ks.map Str.ofString).zip r) = _
        simp [putF]
    · obtain ⟨vs', q1, q2, q3⟩ := putFd_of hd (ks := ks) (ds := ds) (vs := r) (by simpa using hl) h2
      refine ⟨v' :: vs', ?_, ?_, ?_⟩
      · simp only [putFd, if_neg c]; simpa using q1
      · simp only [putFd, if_neg c]; exact ⟨v', vs', rfl, h1, q2⟩
      · simp only [putFd, if_neg c]
        show putF (Str.ofString f) v ((Str.ofString k, v') :: (ks.map Str.ofString).zip r) = _
        have ne : ¬ Str.ofString k = Str.ofString f := fun z => c (ofString_inj z)
        simp only [putF, if_neg ne]
        rw [q3]
        rfl
end
/-- e.f of an instance of c -/
def eFld (c f : String) (m : ME) : ME := fun env st => (m env st).bind fun d st1 => match insOf st1 d with
  | some (c', ks, ds) => if c' = c then ofO (lookF f ks ds) st1 else .bad
  | none => .bad
/-- o.f = v -/
def sFldD (c f : String) (mo mv : ME) : MS := fun env st => (mv env st).toS env fun v st1 => (mo env st1).toS env fun d st2 => match d with
  | .obj n => (match st2[n]? with
    | some (.ins c' ks ds) => if c' = c ∧ ks.length ≤ 100 then .nx env (st2.set n (.ins c (putFd f v ks ds).1 (putFd f v ks ds).2)) else .bad
    | _ => .bad)
  | _ => .bad
section
variable {X : Cx} {e o value : Expr} {m mo mv : ME} {pos pos' : Pos} {c f : String} {fs : Str} {C : Addr}
theorem ss_fld (ho : SE X o mo) (hv : SE X value mv) (hm : X.mg (Str.ofString c) = some (.ref C)) (hc : Cls X.K C) (hn : NoAttr X.K C fs) (hf : fs = Str.ofString f := by rfl) (hs : swapsWith value (some (.Attribute o fs pos')) pos.line X.env = pure false := by rfl) :
    SS X (.Assign [.Attribute o fs pos'] value pos) (sFldD c f mo mv) := fun pn xe W tk _ => by
  refine PS.imp (ps_fld (X := X.tr pn xe) (ho pn xe W tk) (hv pn xe W tk) hs) fun E σ H h => ?_
  refine tM_of h fun v y μ env st H1 r re hy a => ?_
  refine ⟨μ, env, st, r, re, (AftS.ofR re a).imp fun d st2 μ2 H2 x2 r2 a2 x hx => ?_⟩
  cases d with
  | obj n =>
    simp only at a2
    obtain ⟨b, rfl, hn'⟩ := hx
    split at a2
    · rename_i c' ks ds ho'
      split at a2
      · rename_i cc
        obtain ⟨rfl, c2⟩ := cc
        obtain ⟨C', dx, vs, g, l, hh, hl⟩ := r2.ob n _ b ho' hn'
        have g' := g
        rw [hm] at g'
        cases g'
        have hlen : ((ks.map Str.ofString).zip vs).length < 1000 := by
          rw [List.length_zip, List.length_map]
          omega
        refine ⟨b, C, dx, _, rfl, hh, hc, hn, hlen, ?_⟩
        have x3 := Ext.change (o := HO.ins C dx (putF fs y ((ks.map Str.ofString).zip vs))) r2 hn'
        obtain ⟨vs', p1, p2, p3⟩ := putFd_of (f := f) ((hy.ext x2).ext x3) l (hl.ext x3)
        refine a2 μ2 _ σ x3 (r2.change hn' ⟨C, dx, vs', hm, p1, ?_, p2⟩) ((re.ext x2).ext x3)
        rw [upd_same, hf, p3]
      · exact a2.elim
    · exact a2.elim
  | _ => exact a2.elim
end
/-! ### calls with an instance: its making, its methods, its properties -/
section
variable {X : Cx} {CX : CXT} {k : Nat} {f C : Addr} {fd : FuncData} {ps : List Str} {sp : Sp} {E : XK} {pins : List (Addr × Obj)} {σ : L2.St} {H : Hp} {s : Shared} {Q : VK} {us : List Value} {vs : List V}
theorem make_runs {m : MF} (M : Mk X.K C f) (F : Fn X.prog X.w X.K X.mg X.base k f ps m) (hr : Room (k + 1) X.A) (hq : Gd X.A) (hx : PassesAt (L2.CX X.prog X.w) X σ E) (I : Inv X pins σ H s) (r : Vals vs us)
    (h : ∀ x dx, H x = none → H dx = none → dx ≠ x → spM X.K X.mg ps.length m (.ref x :: vs) (upd (upd H dx (.own x)) x (.ins C dx [])) (fun v H2 => v = .non ∧ Q (.ref x) H2) E) :
    wpAny (model X.prog X.w) X.A (call (.ref C) us) (EP X pins σ Q) X.xe s := by
  have q0 := h (s.heap.objs.size + 1) s.heap.objs.size (I.hok.fresh (Nat.le_succ _)) (I.hok.fresh (Nat.le_refl _)) (Nat.ne_of_lt (Nat.lt_succ_self _))
  have J := Inv.made (C := C) I
  have rr : Vals (V.ref (s.heap.objs.size + 1) :: vs) (Value.ref (s.heap.objs.size + 1) :: us) := .cons rfl r
  refine wpAny_call (make_map (f := f) I.kIn M.makes M.init (beq_iff_eq.mp M.fn) (codeAny_mono (F.run (hr.make C us []) (gd_make hq) (J.env0.make C us []) rr q0) fun res t hres => ?_))
  cases res with
  | error er => exact hx pins _ _ er t J hres
  | ok fl =>
    cases fl with
    | ret u =>
      obtain ⟨v, H', J2, rv, ev, q3⟩ := J.after hres
      subst ev
      exact ⟨rv, ⟨V.ref (s.heap.objs.size + 1), H', J2, rfl, q3⟩⟩
    | next => exact hres.elim
    | brk => exact hres.elim
    | cont => exact hres.elim
end
/-- an instance made: its __init__ runs at it -/
def mkF (c : String) (m : MF) : MF := fun ds st => (m (.obj st.length :: ds) (st ++ [.ins c [] []])).bind fun d st2 => match d with
  | .non => .ok (.obj st.length) st2
  | _ => .bad
def eProp (c : String) (m : MF) (mo : ME) : ME := fun env st => (mo env st).bind fun d st1 => match insOf st1 d with
  | some (c', _, _) => if c' = c then noEx (m [d] st1) else .bad
  | none => .bad
def eMeth (c n : String) (m : MF) (mo : ME) (ma : MA) : ME := fun env st => (mo env st).bind fun d st1 => match insOf st1 d with
  | some (c', ks, _) => if c' = c ∧ ks.contains n = false then (ma env st1).bind fun ds st2 => m (d :: ds) st2 else .bad
  | none => .bad
theorem aft_noEx {α : Type} {K : PySem.W.Frag} {mg : Str → Option Value} {W W' : WX} {σ σ' : L2.St} {μ : Mu} {H : Hp} {r : R α} {k : α → Store → Mu → Hp → Prop} (h : Aft K mg W σ μ H (noEx r) k) : Aft K mg W' σ' μ H r k := by
  cases r with
  | ok a st => exact h
  | ex c ks ds st => exact h.elim
  | bad => exact h
section
variable {X : Cx} {k : Nat} {f C : Addr} {ps : List Str} {m : MF} {c : String} {x : Str} {p pos apos : Pos} {e o : Expr} {es : List Expr} {ma : MA} {mo : ME}
theorem mk_spM {K : PySem.W.Frag} {mg : Str → Option Value} {W : WX} {σ : L2.St} {μ : Mu} {H : Hp} {st : Store} {ds : List D} {vs : List V} {n : Nat} {Q : VK} (hm : mg (Str.ofString c) = some (.ref C)) (r : Rel K mg μ H st) (rl : RepL K mg μ H ds vs) (hn : vs.length + 1 = n)
    (a : Aft K mg W σ μ H (mkF c m ds st) fun d _ μ' H' => ∀ v, Rep K mg μ' H' d v → Q v H') {x dx : Addr} (hx : H x = none) (hd : H dx = none) (ne : dx ≠ x) :
    spM K mg n m (.ref x :: vs) (upd (upd H dx (.own x)) x (.ins C dx [])) (fun v H2 => v = .non ∧ Q (.ref x) H2) (fun c d H => W c d σ H) := by
  have s1 := same_upd (o := HO.own x) hd
  have hx1 : upd H dx (HO.own x) x = none := by rw [upd_ne (Ne.symm ne)]; exact hx
  have s2 := same_upd (o := HO.ins C dx []) hx1
  have r1 := r.same s1
  have x1 := Ext.same r s1
  have x2 := Ext.push r1 s2 hx1
  have xx := x1.trans x2
  have r2 : Rel K mg (μ.push x) (upd (upd H dx (.own x)) x (.ins C dx [])) (st ++ [.ins c [] []]) := r1.push s2 hx1 ⟨C, dx, [], hm, rfl, upd_same, rfl⟩
  refine ⟨by simpa using hn, μ.push x, _, .obj st.length :: ds, r2, ⟨.ref x, vs, rfl, ⟨x, rfl, get_push r1 x⟩, rl.ext xx⟩, ?_⟩
  have a2 := Aft.bind (a.ext xx)
  cases q : m (.obj st.length :: ds) (st ++ [.ins c [] []]) with
  | bad => rw [q] at a2; exact a2
  | ex c' ks us st1 => rw [q] at a2; exact a2
  | ok d st1 =>
    rw [q] at a2
    intro μ' H' x3 r3 v hv
    have a3 := a2 μ' H' x3 r3
    cases d with
    | non =>
      cases hv
      refine ⟨rfl, a3 μ' H' Ext.refl r3 _ ⟨x, rfl, ?_⟩⟩
      obtain ⟨mm, em⟩ := x3.more
      show μ'.l[st.length]? = some x
      rw [em, List.getElem?_append_left]
      · exact get_push r1 x
      · exact (List.getElem?_eq_some_iff.mp (get_push r1 x)).1
    | _ => exact a3.elim
/-- whoever keeps m' keeps m -/
def Below (m' m : MF) : Prop := ∀ (K : PySem.W.Frag) (mg : Str → Option Value) (W : WX) (σ : L2.St) (μ : Mu) (H : Hp) (st : Store) (ds : List D) (Q : VK), Rel K mg μ H st →
  Aft K mg W σ μ H (m' ds st) (fun d _ μ' H' => ∀ v, Rep K mg μ' H' d v → Q v H') → Aft K mg W σ μ H (m ds st) (fun d _ μ' H' => ∀ v, Rep K mg μ' H' d v → Q v H')
theorem Below.refl : Below m m := fun _ _ _ _ _ _ _ _ _ _ a => a
theorem below_fin : Below (fin m) m := fun _ _ _ _ _ _ _ _ _ r a => fin_aft r a
theorem pass_no {P : Program} {w : World} {X : Cx} : Passes (L2.CX P w) X (fun _ _ _ => False) := fun pins σ H s e s' I h => by
  obtain ⟨a, B, H', cls, d, _, _, _, _, _, _, _, z⟩ := h
  exact z.elim
/-- C(e, ..) -/
theorem se_make {m' : MF} (M : Mk X.K C f) (F : Fn X.prog X.w X.K X.mg X.base k f ps m) (hr : Room (k + 1) X.A) (hq : Gd X.A) (hg : Gl X x) (hm : X.mg x = some (.ref C)) (ha : SA X (e :: es) ma) (hc : x = Str.ofString c := by rfl) (hdb : (x == ("__debug__" : Str)) = false := by decide)
    (he : starEach (e :: es) X.env = (false, eval e X.env) :: starEach es X.env := by rfl) (hpl : (backTo pos (starEach es X.env)).any (·.1) = false := by rfl)
    (hn : ∀ ds st, ds.length ≠ ps.length → m ds st = .bad) (hB : Below m' (mkF c m)) : SE X (.Call (.Name x p) (e :: es) [] pos) (eCall m' ma) := fun pn xe W tk => by
  refine ⟨fun pins s σ H Q I h => ?_⟩
  refine wpAny_Call_Name_kw (ld_glob (X := X.tr pn xe) I hg hm ?_ hdb)
  refine PySem.W.callWith_K (h₀ := (X.tr pn xe).base) I.ok.mod.kin M.kp (thn ((ha pn xe W tk).run pos pins s σ H (fun vs H1 => ∀ x dx, H1 x = none → H1 dx = none → dx ≠ x → spM X.K X.mg ps.length m (.ref x :: vs) (upd (upd H1 dx (.own x)) x (.ins C dx [])) (fun v H2 => v = .non ∧ Q (.ref x) H2) (fun c d H => W c d σ H)) I ?_) fun us s1 ⟨vs, H1, I1, r, q⟩ => ⟨I1.kIn, ?_⟩) he hpl
  · refine tMA_run h fun ds vs μ env st H1 r re hd a0 x dx hx hdx ne => ?_
    have a := hB _ _ _ _ _ _ _ _ _ r a0
    have hl : ds.length + 1 = ps.length := Classical.byContradiction fun z => by
      unfold mkF at a
      rw [hn (.obj st.length :: ds) _ (by simpa using z)] at a
      exact a
    exact mk_spM (hc ▸ hm) r hd (by rw [← hd.length]; exact hl) a hx hdx ne
  · exact make_runs (X := X.tr pn xe) M F hr hq (passAt tk σ) I1 r q
end
end T5
namespace T5
open PySem PySem.Spec PyProof.Rows L2
variable [TabC]
/-! ### a == b by the class's own __eq__ -/
def eEqC (c : String) (m : MF) (ma mb : ME) : ME := fun env st => (ma env st).bind fun d1 st1 => (mb env st1).bind fun d2 st2 => match insOf st2 d1, insOf st2 d2 with
  | some (c1, _, _), some (c2, _, _) => if c1 = c ∧ c2 = c then (noEx (m [d1, d2] st2)).bind fun d st3 => match d with
      | .bl b => .ok (.bl b) st3
      | _ => .bad
    else .bad
  | _, _ => .bad
def rEqC (K : PySem.W.Frag) (mg : Str → Option Value) (C : Addr) (m : MF) : R2 := fun x y H Q => ∃ a b dx dy fs gs, x = .ref a ∧ y = .ref b ∧ H a = some (.ins C dx fs) ∧ H b = some (.ins C dy gs) ∧ spM K mg 2 m [x, y] H (fun v H' => (∃ t, v = .bl t) ∧ Q v H') (fun _ _ _ => False)
section
variable {X : Cx} {k : Nat} {f C : Addr} {ps : List Str} {m : MF} {c : String} {a b : Expr} {pos : Pos} {ma mb : ME}
end
/-! ### isinstance with an own class -/
structure ClsF (K : PySem.W.Frag) (mg : Str → Option Value) (c : String) (C : Addr) : Prop where
  at_ : mg (Str.ofString c) = some (.ref C)
  cls : Cls K C
  ha : PySem.W.findIn K (.ref C) "__class__" = some (some (.builtin "object.__class__"))
  hn : PySem.W.specialIn K (.builtin "object.__class__") "__get__" = some (some (.builtin "getset_descriptor.__get__"))
  htk : PySem.W.takesIn K (.builtin "object.__class__") = some true
  hm : PySem.W.mroIn K C (.type "object") = some true
  ty : PySem.W.typeIn K (.ref C) = some (.type "type")
/-- isinstance(e, c): an instance of c itself, or of a built-in type -/
def fIsiC (c : String) : BF := fun st ds => match ds with
  | [d, .cls c'] => if c' = c then (match insOf st d with
    | some (c2, _, _) => if c2 = c then some (.bl true) else none
    | none => (match d with
      | .tup _ => some (.bl false)
      | .str _ => some (.bl false)
      | _ => none)) else none
  | _ => none
section
variable {X : Cx} {K : PySem.W.Frag} {mg : Str → Option Value} {c : String} {C : Addr} {e : Expr} {es : List Expr} {ma : MA} {p pos : Pos} {x : Str}
theorem se_cls (hg : Gl X x) (hm : X.mg x = some (.ref C)) (hx : x = Str.ofString c := by rfl) (hdb : (x == ("__debug__" : Str)) = false := by decide) : SE X (.Name x pos) (eC (.cls c)) := fun pn xe W tk => by
  refine PE.imp (pe_glob (X := X.tr pn xe) (v := .ref C) hg hm rfl hdb) fun σ H Q h => ?_
  obtain ⟨μ, env, st, r, re, a⟩ := h
  exact a μ H Ext.refl r _ ⟨C, rfl, hx ▸ hm⟩
end
/-! ### max(a, b, c) -/
def fMax3 : BF := fun _ ds => match ds with
  | [.int i, .int j, .int k] => some (.int (max (max i j) k))
  | _ => none
section
variable {X : Cx} {K : PySem.W.Frag} {mg : Str → Option Value} {e : Expr} {es : List Expr} {ma : MA} {p pos : Pos}
end
end T5
namespace T5
open PySem PySem.Spec PyProof.Rows L2
variable [TabC]
theorem fn_mkN {P : Program} {w : World} {K : PySem.W.Frag} {mg : Str → Option Value} {base : Heap} {x qual : Str} {pa : Arguments} {bd : List Stmt} {sc : Scope} {f : Addr} {fd : FuncData} {N ps : List Str} {k n j : Nat} (mb : MS) (hn : N.length = n) (hj : ps.length = j) (F : FunD K x qual pa bd sc [] [] f fd) (S : FnScope N ps sc) (hb : Binds K fd ps [])
    (h : ∀ (cdv : Value) (A : Around) (outer : List Env) (s : Shared) (H : Hp) (E : XK), codeV K f = cdv → Room k (A.deeper (envOfC qual sc s.heap.objs.size f cdv)) → Gd (A.deeper (envOfC qual sc s.heap.objs.size f cdv)) → SSs (cxOf (L2.CX P w) P w K mg base N qual sc f cdv A outer s H E) bd mb) :
    Fn P w K mg base (k + 1) f ps (runF n j mb) := by
  subst hn hj
  exact fn_mk F S hb h
end T5
namespace T5
open PySem PySem.Spec PyProof.Rows L2
variable [TabC]
/-! ### what the top has written: facts beside He's -/
inductive Fx where
  | isc (x : Str)
def Fx.ok (K : PySem.W.Frag) : Fx → Bool
  | .isc x => He.eqO (PySem.W.findIn K (.ref (He.ga K x)) "__class__") (some (some (.builtin "object.__class__"))) && (He.eqO (PySem.W.specialIn K (.builtin "object.__class__") "__get__") (some (some (.builtin "getset_descriptor.__get__"))) &&
      (decide (PySem.W.takesIn K (.builtin "object.__class__") = some true) && (decide (PySem.W.mroIn K (He.ga K x) (.type "object") = some true) && decide (PySem.W.typeIn K (.ref (He.ga K x)) = some (.type "type")))))
abbrev AlX : Type := He.AlD × Bool
def obsX (fa : List He.Fa) (fn : List He.DefD) (fx : List Fx) (K : PySem.W.Frag) : AlX := (He.obsD fa fn K, fx.all fun f => f.ok K)
def valX (fn : List He.DefD) : AlX := (He.valD fn, true)
def obsXG (n : Nat) (fa : List He.Fa) (fn : List He.DefD) (fx : List Fx) (g : Addr → Option Obj) : AlX := obsX fa fn fx (He.frG g (He.asD g n))
def hookX (n : Nat) (fa : List He.Fa) (fn : List He.DefD) (fx : List Fx) : PySem.W.Hook where
  α := AlX
  obs := fun s => obsXG n fa fn fx s.heap.get?
  val := fun _ => valX fn
  says := fun _ h => ∃ K : PySem.W.Frag, K.In h ∧ obsX fa fn fx K = valX fn
  of := fun _ _ e => ⟨_, He.frG_in, e⟩
  keeps := fun _ _ _ ⟨K, a, c⟩ k => ⟨K, PySem.W.Frag.In.keeps a k, c⟩
section
variable {fa : List He.Fa} {fn : List He.DefD} {fx : List Fx} {K : PySem.W.Frag}
end
/-! ### the law's own def -/
theorem rep_ints {K : PySem.W.Frag} {mg : Str → Option Value} {μ : Mu} {H : Hp} : ∀ ns : List Int, RepL K mg μ H (ns.map D.int) (ns.map V.int)
  | [] => rfl
  | n :: ns => ⟨.int n, _, rfl, rfl, rep_ints ns⟩
/-- the script as data: frozen, or a list -/
def isScr (ns : List Int) (d : D) : Prop := d = .scr (ns.map .int) ∨ d = .lst (ns.map .int)
theorem law_spT {K : PySem.W.Frag} {mg : Str → Option Value} {m : MF} {H : Hp} {a : Addr} {ns : List Int} (hT : ∀ p ∈ TabC.T, H p.1 = some (.tbl #[])) (hS : SqL K H a (ns.map V.int)) (h : ∀ d, isScr ns d → ∃ st', m [d] [] = .ok (.bl true) st') :
    spM K mg 1 m [.ref a] H (fun v _ => v = .bl true) (fun _ _ _ => False) := by
  have r : Rel K mg ⟨[], [], TabC.T⟩ H [] := ⟨rfl, List.nodup_nil, fun n o b h1 _ => by simp at h1, fun b hb => by simp at hb, fun b hb => by simp at hb, fun p hp => LamX.TabS.nil (hT p hp), rfl, fun b hb => by simp at hb⟩
  have nz : ∀ u : HO, (∀ ps, u ≠ .tbl ps) → H a = some u → a ∉ (⟨[], [], TabC.T⟩ : Mu) := fun u hu e z => by
    rcases z with z | z | ⟨q, z⟩
    · exact nomatch z
    · exact nomatch z
    · have := hT _ z
      rw [show H (a, q).1 = H a from rfl, e] at this
      exact hu _ (Option.some.inj this)
  have rp : ∃ d, isScr ns d ∧ Rep K mg ⟨[], [], TabC.T⟩ H d (.ref a) := by
    rcases hS with (hS | ⟨o, hS⟩) | hS
    · exact ⟨_, .inr rfl, a, ns.map V.int, rfl, nz _ (fun _ z => HO.noConfusion z) hS, hS, rep_ints ns⟩
    · exact ⟨_, .inl rfl, a, ns.map V.int, rfl, .inl ⟨nz _ (fun _ z => HO.noConfusion z) hS, o, hS⟩, rep_ints ns⟩
    · exact ⟨_, .inl rfl, a, ns.map V.int, rfl, .inr (.inr hS), rep_ints ns⟩
  obtain ⟨d, hd, rp⟩ := rp
  obtain ⟨st', e⟩ := h d hd
  refine ⟨rfl, ⟨[], [], TabC.T⟩, [], [d], r, ⟨_, [], rfl, rp, rfl⟩, ?_⟩
  rw [e]
  intro μ' H' x r' v hv
  exact hv
theorem hidT_of9 {h : Heap} {H : Hp} {b : Addr} {o : Obj} (e : h.get? b = some o) (n : H b = none) : (hidT h H).get? b = some o := hidT_get e n
/-- the law's run: m at the script gives True; cs: code objects and their tables -/
theorem law_run {P : Program} {w : World} {K : PySem.W.Frag} {mg mb : Str → Option Value} {k : Nat} {fa a : Addr} {cs : List (Addr × Addr)} {x : Str} {m : MF} {s1 : Shared} {vs : List Value} {ns : List Int}
    (KX : K.In s1.heap) (hns : s1.heap.Ns mainGlobals mg) (hb : s1.heap.Ns builtinsNs mb) (hbb : ∀ x : Str, x ≠ "__name__" → mb x = bootBuiltins x) (hlim : s1.heap.NoLimit) (hg : s1.gens = #[])
    (hT : ∀ p ∈ cs, s1.heap.get? p.2 = some { cls := .none, data := .fields #[] }) (nT : ∀ p ∈ cs, K.lookup p.2 = none) (C : ∀ p ∈ cs, PySem.W.CodeHd s1.heap p.1 p.2) (hTC : ∀ p ∈ TabC.T, ∃ c, (c, p.1) ∈ cs)
    (hbm : ∃ (bm : Addr) (ob : Obj), mg "__builtins__" = some (.ref bm) ∧ bm ≠ builtinsNs ∧ s1.heap.get? bm = some ob ∧ ob.cls = .type "module" ∧ ob.dict = some builtinsNs ∧ ob.data = .plain)
    (ha : s1.heap.get? a = some { cls := .type "list", data := .seq vs.toArray }) (hi : IntsAre vs ns) (hl : ns.length ≤ sizeLine) (hr : Room k callerA)
    (F : ∀ base : Heap, K.In base → base.Ns mainGlobals mg → (∀ p ∈ cs, LamX.TabB base mg p.1 p.2) → Fn P w K mg base k fa [x] m) (hm : ∀ d, isScr ns d → ∃ st', m [d] [] = .ok (.bl true) st') :
    codeAny (model P w) callerA (.call (.ref fa) ⟨[.ref a], []⟩) (fun r s' => r = .ok (.ret (.bool true)) ∧ OldK s1.heap s'.heap ∧ s'.os = s1.os ∧ AllBare s'.gens) s1 := by
  have rv := vals_ints hi
  have tab : ∀ b : Addr, b ∈ cs.map (·.2) → s1.heap.get? b = some { cls := .none, data := .fields #[] } := fun b z => by
    obtain ⟨p, hp, rfl⟩ := List.mem_map.mp z
    exact hT p hp
  have aNot : a ∉ cs.map (·.2) := fun z => by
    have q := tab a z
    rw [ha] at q
    exact nomatch congrArg Obj.data (Option.some.inj q)
  have inT : ∀ p ∈ cs, p.2 ∈ cs.map (·.2) := fun p hp => List.mem_map.mpr ⟨p, hp, rfl⟩
  have go : ∀ H : Hp, (∀ p ∈ cs, H p.2 = some (.tbl #[])) → (∀ b, H b = none ∨ b ∈ cs.map (·.2) ∨ ∃ o xs, H b = some (.frz o (.lst xs))) → SqL K H a (ns.map V.int) → HOk P w H s1.heap → (∀ b, H b ≠ none → b = a ∨ b ∈ cs.map (·.2)) → (H a ≠ none → K.lookup a = none) →
      codeAny (model P w) callerA (.call (.ref fa) ⟨[.ref a], []⟩) (fun r s' => r = .ok (.ret (.bool true)) ∧ OldK s1.heap s'.heap ∧ s'.os = s1.os ∧ AllBare s'.gens) s1 := by
    intro H hH hO hS hok hA hK
    -- what is neither the script nor a table isn't tracked
    have un : ∀ {b : Addr} {o : Obj}, s1.heap.get? b = some o → (∀ us n, o.data ≠ .seq us n) → o.data ≠ .fields #[] → H b = none := fun {b o} e n1 n2 => by
      cases q : H b with
      | none => rfl
      | some u =>
        rcases hA b (by rw [q]; exact fun z => nomatch z) with z | z
        · rw [z, ha] at e
          cases e
          exact absurd rfl (n1 _ _)
        · rw [tab b z] at e
          cases e
          exact absurd rfl n2
    have unD : ∀ {b : Addr} {o : Obj} {es : Array DictEntry} {ep : Nat}, s1.heap.get? b = some o → o.data = .dict es ep → H b = none := fun {b o es ep} e d => un e (fun us n z => by rw [d] at z; cases z) fun z => by rw [d] at z; cases z
    have ns2 : ∀ {b : Addr} {f : Str → Option Value}, s1.heap.Ns b f → (hidT s1.heap H).Ns b f := fun {b f} ⟨o, es, ep, e, d, r⟩ => ⟨o, es, ep, hidT_of9 e (unD e d), d, r⟩
    have hKb : K.In (hidT s1.heap H) := fun b o e => hidT_of9 (KX b o e) (by
      cases q : H b with
      | none => rfl
      | some u =>
        rcases hA b (by rw [q]; exact fun z => nomatch z) with z | z
        · rw [z] at e q
          have w0 := hK (by rw [q]; exact fun z => nomatch z)
          rw [w0] at e
          cases e
        · obtain ⟨p, hp, rfl⟩ := List.mem_map.mp z
          rw [nT p hp] at e
          cases e)
    have hM : L2.Mod K mg (hidT s1.heap H) := ⟨hKb, ns2 hns, ⟨mb, ns2 hb, hbb⟩, let ⟨mc, l1, l2⟩ := hlim; ⟨mc, ns2 l1, l2⟩⟩
    have TB : ∀ p ∈ cs, LamX.TabB (hidT s1.heap H) mg p.1 p.2 := fun p hp => by
      have at0 := hT p hp
      refine ⟨?_, ?_, fun z => ?_⟩
      · obtain ⟨o, us, file, tf, flags, tg, inF, text, tt, e1, r1, r2, r3, r4, r5, r6, r7, r8, hne⟩ := C p hp
        refine ⟨o, us, file, tf, flags, tg, inF, text, tt, hidT_of9 e1 (un e1 (fun us n z => by rw [r2] at z; cases z) fun z => ?_), r1, r2, r3, r4, r5, r6, r7, r8, hne⟩
        rw [r2] at z
        cases z
        simp at r3
      · obtain ⟨bm, ob, b1, b2, b3, b4, b5, b6⟩ := hbm
        have g0 : bm ≠ mainGlobals := fun q => by
          obtain ⟨o, es, ep, e, hd, _⟩ := hns
          rw [q, e] at b3
          cases b3
          rw [hd] at b6
          cases b6
        have p0 : bm ≠ p.2 := fun q => by
          rw [q, at0] at b3
          cases b3
          cases b6
        exact ⟨bm, ob, b1, b2, g0, p0, hidT_of9 b3 (un b3 (fun us n z => by rw [b6] at z; cases z) fun z => by rw [b6] at z; cases z), b4, b5, b6⟩
      · obtain ⟨o, es, ep, e, hd, _⟩ := hns
        rw [z, at0] at e
        cases e
        cases hd
    have e0 : Env0 P w K mg (hidT s1.heap H) callerA [] s1 H := ⟨rfl, hM, fun b o e => of_hidT e, Nat.le_of_eq (hidT_size _ _), trivial, fun b hb => absurd (show b ∈ ([] : List Addr) from hb) (by simp), hok, .of_eq hg⟩
    have hT2 : ∀ p ∈ TabC.T, H p.1 = some (.tbl #[]) := fun p hp => by
      obtain ⟨c, hc⟩ := hTC p hp
      exact hH _ hc
    refine codeAny_mono ((F _ hKb (ns2 hns) TB).run hr rfl e0 (us := [Value.ref a]) (vs := [V.ref a]) (.cons rfl .nil) (law_spT hT2 hS hm)) fun r s' h => ?_
    cases r with
    | error e =>
      obtain ⟨_, _, _, _, _, _, _, _, _, _, _, _, z⟩ := h
      exact z.elim
    | ok fl =>
      cases fl with
      | next => exact False.elim h
      | brk => exact False.elim h
      | cont => exact False.elim h
      | ret u =>
        obtain ⟨v, H', os, bare, kept, hok', r', q⟩ := h
        obtain rfl : v = .bl true := q
        obtain rfl : u = Value.bool true := r'
        have key : ∀ b o, b ∉ cs.map (·.2) → s1.heap.get? b = some o → s'.heap.get? b = some o := fun b o nb e => by
          cases q : H b with
          | none => exact kept.keep b o e q (fun z => nomatch (show b ∈ ([] : List Addr) from z)) (fun z => nomatch z)
          | some u =>
            rcases hO b with z | z | ⟨ob, xs, z⟩
            · rw [q] at z; cases z
            · exact absurd z nb
            · obtain ⟨e1, _⟩ := hok b _ z
              obtain ⟨e2, _⟩ := hok' b _ (kept.frzs b ob _ z)
              rw [e] at e1; cases e1
              exact e2
        have grown : ∀ p ∈ cs, ∃ more : Array Value, s'.heap.get? p.2 = some { cls := .none, data := .fields more } := fun p hp => by
          obtain ⟨more, z⟩ := kept.tbls p.2 #[] (hH p hp)
          exact ⟨_, hok' p.2 _ z⟩
        refine ⟨rfl, ⟨fun b o e => ?_, fun b o e => ?_⟩, os, bare⟩
        · by_cases hb : b ∈ cs.map (·.2)
          · obtain ⟨p, hp, rfl⟩ := List.mem_map.mp hb
            obtain ⟨more, hmo⟩ := grown p hp
            rw [hT p hp] at e
            cases e
            exact .inr (.inl ⟨((C p hp).tab (hT p hp)).isCodeTable, rfl, #[], more, rfl, by rw [Array.empty_append]; exact hmo⟩)
          · exact .inl (key b o hb e)
        · by_cases hb : b ∈ cs.map (·.2)
          · obtain ⟨p, hp, rfl⟩ := List.mem_map.mp hb
            obtain ⟨more, hmo⟩ := grown p hp
            exact ⟨_, hmo⟩
          · exact ⟨o, key b o hb e⟩
  cases hk : K.lookup a with
  | some o =>
    have e := KX a o hk
    rw [ha] at e
    cases e
    refine go (fun b => if b ∈ cs.map (·.2) then some (.tbl #[]) else none) (fun p hp => if_pos (inT p hp)) (fun b => ?_) (.inr ⟨_, vs.toArray, _, hk, rfl, rfl, rfl, by rw [List.size_toArray, hi.length]; exact hl, by simpa using rv⟩) (fun b u z => ?_) (fun b z => ?_) fun z => absurd (show (if a ∈ cs.map (·.2) then some (HO.tbl #[]) else none) = none from if_neg aNot) z
    · by_cases hb : b ∈ cs.map (·.2)
      · exact .inr (.inl hb)
      · exact .inl (if_neg hb)
    · by_cases hb : b ∈ cs.map (·.2)
      · have z' := (if_pos hb).symm.trans z
        cases z'
        exact tab b hb
      · exact nomatch (if_neg hb).symm.trans z
    · by_cases hb : b ∈ cs.map (·.2)
      · exact .inr hb
      · exact absurd (if_neg hb) z
  | none =>
    refine go (fun b => if b = a then some (.frz { cls := .type "list", data := .seq vs.toArray } (.lst (ns.map V.int))) else if b ∈ cs.map (·.2) then some (.tbl #[]) else none) (fun p hp => (if_neg (fun z => aNot (by rw [← z]; exact inT p hp))).trans (if_pos (inT p hp))) (fun b => ?_)
      (.inl (.inr ⟨{ cls := .type "list", data := .seq vs.toArray }, if_pos rfl⟩)) (fun b u z => ?_) (fun b z => ?_) fun _ => hk
    · by_cases hb : b = a
      · exact .inr (.inr ⟨_, _, if_pos hb⟩)
      · by_cases hb2 : b ∈ cs.map (·.2)
        · exact .inr (.inl hb2)
        · exact .inl ((if_neg hb).trans (if_neg hb2))
    · by_cases hb : b = a
      · have z' := (if_pos hb).symm.trans z
        cases z'
        rw [hb]
        exact ⟨ha, by rw [List.length_map]; exact hl, vs, _, rv, ha⟩
      · have z1 := (if_neg hb).symm.trans z
        by_cases hb2 : b ∈ cs.map (·.2)
        · have z' := (if_pos hb2).symm.trans z1
          cases z'
          exact tab b hb2
        · exact nomatch (if_neg hb2).symm.trans z1
    · by_cases hb : b = a
      · exact .inl hb
      · by_cases hb2 : b ∈ cs.map (·.2)
        · exact .inr hb2
        · exact absurd ((if_neg hb).trans (if_neg hb2)) z
/-- the law's end -/
theorem walk_ofX {l : PySem.W.OpenLaw} {n k : Nat} {q : Program} {loose : List Str} {XP : (Str → Option Value) → Heap → Prop} {YP : World → Heap → Prop} {d : DefRec} {x : Str}
    (hn : l.most = some n) (hn2 : n ≤ sizeLine) (hdf : d.params.defaults = []) (hr : Room k callerA)
    (F : ∀ (w : World) (mg : Str → Option Value) (fa : Addr) (h : Heap), YP w h → h.Ns mainGlobals mg → mg d.name = some (.ref fa) →
      ∃ (T : TabC) (K : PySem.W.Frag) (m : MF) (cs : List (Addr × Addr)), K.In h ∧ (∀ p ∈ cs, h.get? p.2 = some { cls := .none, data := .fields #[] }) ∧ (∀ p ∈ cs, K.lookup p.2 = none) ∧ (∀ p ∈ cs, PySem.W.CodeHd h p.1 p.2) ∧ (∀ p ∈ T.T, ∃ c, (c, p.1) ∈ cs) ∧
        (∀ ns : List Int, ns.length ≤ n → ∀ d, isScr ns d → ∃ st', m [d] [] = .ok (.bl true) st') ∧
        ∀ base : Heap, K.In base → base.Ns mainGlobals mg → (∀ p ∈ cs, LamX.TabB base mg p.1 p.2) → @Fn T l.prog w K mg base k fa [x] m) :
    PySem.W.WalkO q loose XP YP l.row.toRowW d [] (fun f vs => PySem.call f vs) := by
  refine Att.attach_call hn hdf fun w s0 s1 mg mb fa o pm cd doc a vs ns G Y ho hd hcd hmg hobj hints hlen hg => ?_
  obtain ⟨T, K, m, cs, KX, hT, nT, C, hTC, hm, hF⟩ := F w mg fa _ Y G.T.g hmg
  exact @law_run T _ _ _ _ _ _ _ _ _ _ _ _ _ _ KX G.T.g G.T.b G.T.builtins G.T.nolimit hg hT nT C hTC G.T.bmain hobj hints (Nat.le_trans hlen hn2) hr hF (hm ns hlen)
end T5
namespace T5
open PySem PySem.Spec PyProof.Rows L2
/-- no tables, where nothing else is said -/
instance (priority := low) noTab : TabC := ⟨[]⟩
/-! ### reckoning: what each form comes to, when env and store are given -/
section
variable {env : DEnv} {st : Store} {ma mb mc m mo mi mv : ME} {a b c : MS} {ca cb cc : MT} {as : MA} {g : MG0} {gs : MGs0} {n : Nat}
@[simp] theorem q_var {i : Nat} {d : D} (h : env[i]? = some (some d)) : eVar i env st = .ok d st := by unfold eVar; rw [h]
@[simp] theorem q_c {d : D} : eC d env st = .ok d st := rfl
@[simp] theorem q_seq : sSeq a b env st = (a env st).seq b := rfl
@[simp] theorem q_asg : sAsg m g env st = (m env st).toS env fun d st1 => match g d env with
  | some e => .nx e st1
  | none => .bad := rfl
@[simp] theorem q_pass : sPass env st = .nx env st := rfl
@[simp] theorem q_ret : sRet m env st = (m env st).toS env fun d st1 => .rt d st1 := rfl
@[simp] theorem q_retN : sRetN env st = .rt .non st := rfl
@[simp] theorem q_exp : sExp m env st = (m env st).toS env fun _ st1 => .nx env st1 := rfl
@[simp] theorem q_if : sIf cc a b env st = (cc env st).toS env fun d st1 => if d = true then a env st1 else b env st1 := rfl
@[simp] theorem q_never : sNever env st = .bad := rfl
@[simp] theorem q_brk : sBrk env st = .bk env st := rfl
@[simp] theorem q_for {mi : MI} : sFor mi g b env st = (mi env st).toS env fun ds st1 => loopS g b ds env st1 := rfl
@[simp] theorem q_gN {i : Nat} {d : D} : gN i d env = some (env.set i (some d)) := rfl
@[simp] theorem q_gTt {l : List D} : gT gs (.tup l) env = gs l env := rfl
@[simp] theorem q_gsN : gsNil [] env = some env := rfl
@[simp] theorem q_gsC {d : D} {l : List D} : gsCons g gs (d :: l) env = (g d env).bind fun e => gs l e := rfl
@[simp] theorem q_bin {f : BO} : eBin f ma mb env st = (ma env st).bind fun d1 st1 => (mb env st1).bind fun d2 st2 => ofO (f st2 d1 d2) st2 := rfl
@[simp] theorem q_chain {f f' : BO} : eChain f f' ma mb mc env st = (ma env st).bind fun d1 st1 => (mb env st1).bind fun d2 st2 => (ofO (f st2 d1 d2) st2).bind fun z st2' => match z with
  | .bl true => (mc env st2').bind fun d3 st3 => ofO (f' st3 d2 d3) st3
  | .bl false => .ok (.bl false) st2'
  | _ => .bad := rfl
@[simp] theorem q_cb {f : BF} : eCB f as env st = (as env st).bind fun ds st1 => ofO (f st1 ds) st1 := rfl
@[simp] theorem q_call {f : MF} : eCall f as env st = (as env st).bind fun ds st1 => f ds st1 := rfl
@[simp] theorem q_anil : aNil env st = .ok [] st := rfl
@[simp] theorem q_acons : aCons m as env st = (m env st).bind fun d st1 => (as env st1).bind fun ds st2 => .ok (d :: ds) st2 := rfl
@[simp] theorem q_tup : eTup as env st = (as env st).bind fun ds st1 => if ds.length ≤ 1000 then .ok (.tup ds) st1 else .bad := rfl
@[simp] theorem q_lst : eLst as env st = (as env st).bind fun ds st1 => if ds.length ≤ 1000 then .ok (.lst ds) st1 else .bad := rfl
@[simp] theorem q_lstM : eLstM as env st = (as env st).bind fun ds st1 => if ds.length ≤ 1000 then .ok (.obj st1.length) (st1 ++ [.lst ds]) else .bad := rfl
@[simp] theorem q_cTru : cTru m env st = (m env st).bind fun d st1 => ofO (bTru st1 d) st1 := rfl
@[simp] theorem q_cBool : cBool m env st = (m env st).bind fun d st1 => match d with
  | .bl b => .ok b st1
  | _ => .bad := rfl
@[simp] theorem q_cAnd : cAnd ca cb env st = (ca env st).bind fun c st1 => if c = true then cb env st1 else .ok false st1 := rfl
@[simp] theorem q_cOr : cOr ca cb env st = (ca env st).bind fun c st1 => if c = true then .ok true st1 else cb env st1 := rfl
@[simp] theorem q_cNot : cNot ca env st = (ca env st).bind fun c st1 => .ok (!c) st1 := rfl
@[simp] theorem q_eAnd : eAnd ma mb env st = (ma env st).bind fun d st1 => match d with
  | .bl true => mb env st1
  | .bl false => .ok (.bl false) st1
  | _ => .bad := rfl
@[simp] theorem q_eOr : eOr ma mb env st = (ma env st).bind fun d st1 => match d with
  | .bl true => .ok (.bl true) st1
  | .bl false => mb env st1
  | _ => .bad := rfl
@[simp] theorem q_eNot : eNot m env st = (m env st).bind fun d st1 => match d with
  | .bl b => .ok (.bl (!b)) st1
  | _ => .bad := rfl
@[simp] theorem q_eIf : eIf cc ma mb env st = (cc env st).bind fun d st1 => if d = true then ma env st1 else mb env st1 := rfl
@[simp] theorem q_mth {f : MethF} : eMthL f mo as env st = (mo env st).bind fun d st1 => if (lstOf st1 d).isSome = true then (as env st1).bind fun ds st2 => (match f st2 d ds with
  | some (d', st3) => .ok d' st3
  | none => .bad) else .bad := rfl
@[simp] theorem q_set : sSet mv mo mi env st = (mv env st).toS env fun v st1 => (mo env st1).toS env fun o st2 => (mi env st2).toS env fun i st3 => match bSet st3 o i v with
  | some st4 => .nx env st4
  | none => .bad := rfl
@[simp] theorem q_aug {i : Nat} {f : BO} {d : D} (h : env[i]? = some (some d)) : sAug i f m env st = (m env st).toS env fun d2 st1 => (match f st1 d d2 with
  | some d3 => .nx (env.set i (some d3)) st1
  | none => .bad) := by unfold sAug; rw [h] <;> rfl
@[simp] theorem q_par2 {i j : Nat} : sPar2 i j as env st = (as env st).toS env fun ds st1 => match ds with
  | [a, b] => .nx ((env.set i (some a)).set j (some b)) st1
  | _ => .bad := rfl
@[simp] theorem q_par3 {i j k : Nat} : sPar3 i j k as env st = (as env st).toS env fun ds st1 => match ds with
  | [a, b, c] => .nx (((env.set i (some a)).set j (some b)).set k (some c)) st1
  | _ => .bad := rfl
@[simp] theorem q_oN : oNone env st = .ok none st := rfl
@[simp] theorem q_oS : oSome m env st = (m env st).bind fun d st1 => match d with
  | .int i => .ok (some i) st1
  | _ => .bad := rfl
@[simp] theorem q_sl {lo hi : MO} : eSl m lo hi env st = (m env st).bind fun d st1 => (lo env st1).bind fun l st2 => (hi env st2).bind fun h st3 => ofO (bSl st3 d l h) st3 := rfl
@[simp] theorem q_iSeqT {l : List D} (h : m env st = .ok (.tup l) st) : iSeq m env st = .ok l st := by unfold iSeq; rw [h]; rfl
@[simp] theorem q_iSeqL {l : List D} (h : m env st = .ok (.lst l) st) : iSeq m env st = .ok l st := by unfold iSeq; rw [h]; rfl
@[simp] theorem q_cYes : cYes env st = .ok true st := rfl
/-! operators -/
variable {i j : Int}
@[simp] theorem v_addI : bAdd st (.int i) (.int j) = some (.int (i + j)) := rfl
@[simp] theorem v_addI' : bAddI st (.int i) (.int j) = some (.int (i + j)) := rfl
@[simp] theorem v_subI : bSub st (.int i) (.int j) = some (.int (i - j)) := rfl
@[simp] theorem v_modI : bMod st (.int i) (.int j) = if j ≠ 0 then some (.int (i.fmod j)) else none := rfl
@[simp] theorem v_lt : bLt st (.int i) (.int j) = some (.bl (decide (i < j))) := rfl
@[simp] theorem v_le : bLe st (.int i) (.int j) = some (.bl (decide (i ≤ j))) := rfl
@[simp] theorem v_gt : bGt st (.int i) (.int j) = some (.bl (decide (j < i))) := rfl
@[simp] theorem v_ge : bGe st (.int i) (.int j) = some (.bl (decide (j ≤ i))) := rfl
@[simp] theorem v_eqI : bEq st (.int i) (.int j) = some (.bl (decide (i = j))) := by
  show some (D.bl (i == j)) = _
  rfl
@[simp] theorem v_neI : bNe st (.int i) (.int j) = some (.bl (!decide (i = j))) := by
  show some (D.bl (!(i == j))) = _
  rfl
@[simp] theorem v_max : fMax st [.int i, .int j] = some (.int (maxI i j)) := rfl
@[simp] theorem v_min : fMin st [.int i, .int j] = some (.int (minI i j)) := rfl
@[simp] theorem v_int : fInt st [.int i] = some (.int i) := rfl
@[simp] theorem v_isi {d : D} {T : String} : fIsi st [d, .ty T] = (tyD st d).bind fun t => (kitB t T).map .bl := rfl
@[simp] theorem v_ixT {l : List D} {i : Int} : bIx st (.tup l) (.int i) = atI l i := rfl
@[simp] theorem v_ixL {l : List D} {i : Int} : bIx st (.lst l) (.int i) = atI l i := rfl
end
@[simp] theorem opt_bind_some {α β : Type} {a : α} {f : α → Option β} : (some a).bind f = f a := rfl
end T5
namespace T5
open PySem PySem.Spec PyProof.Rows L2
section
variable {st : Store} {env : DEnv}
/-- plain data: no truth values, short texts of true signs, not deep -/
def okS (s : List Nat) : Bool := s.all (· < 0x110000)
theorem dEq_S {a b : List Nat} (ha : okS a = true) (hb : okS b = true) : dEq st (.str a) (.str b) = some (decide (a = b)) := rfl
@[simp] theorem v_eqS {a b : List Nat} (ha : okS a = true) (hb : okS b = true) : bEq st (.str a) (.str b) = some (.bl (decide (a = b))) := by unfold bEq; rw [dEq_S ha hb]; rfl
@[simp] theorem v_neS {a b : List Nat} (ha : okS a = true) (hb : okS b = true) : bNe st (.str a) (.str b) = some (.bl (!decide (a = b))) := by unfold bNe; rw [dEq_S ha hb]; rfl
theorem py0_ints : ∀ l : List Int, py0L (l.map D.int) = some (l.map PyData.int)
  | [] => rfl
  | i :: l => by simp [py0L, py0, py0_ints l]
theorem ints_lay : ∀ l : List Int, PyData.canLayAll0 (l.map PyData.int) = true ∧ PyData.depthAll (l.map PyData.int) = 0
  | [] => by simp [PyData.canLayAll0, PyData.depthAll]
  | i :: l => by simp [PyData.canLayAll0, PyData.depthAll, PyData.canLay0, PyData.depth, ints_lay l]
theorem ints_eqv : ∀ a b : List Int, PyData.eqvAll (a.map PyData.int) (b.map PyData.int) = decide (a = b)
  | [], [] => by simp [PyData.eqvAll]
  | [], _ :: _ => by simp [PyData.eqvAll]
  | _ :: _, [] => by simp [PyData.eqvAll]
  | i :: a, j :: b => by
    simp only [List.map_cons, PyData.eqvAll, PyData.eqv, ints_eqv a b]
    by_cases h : i = j <;> by_cases h2 : a = b <;> simp [h, h2]
theorem dEq_tupI (a b : List Int) : dEq st (.tup (a.map .int)) (.tup (b.map .int)) = some (decide (a = b)) := by
  show dEq0 st _ _ = _
  unfold dEq0
  have sh : ∀ l : List Int, SeqAt.shaped (.tuple (l.map PyData.int)) = true := fun l => by
    unfold SeqAt.shaped
    simp [PyData.canLay0, PyData.depth, ints_lay l]
  simp only [py, py0, py0_ints, Option.map_some, opt_bind_some, sh, and_self, if_true]
  simp [PyData.eqv, ints_eqv]
@[simp] theorem v_eqTI (a b : List Int) : bEq st (.tup (a.map .int)) (.tup (b.map .int)) = some (.bl (decide (a = b))) := by unfold bEq; rw [dEq_tupI]; rfl
@[simp] theorem v_lenT {l : List D} : fLen st [.tup l] = some (.int l.length) := rfl
@[simp] theorem v_lenL {l : List D} : fLen st [.lst l] = some (.int l.length) := rfl
@[simp] theorem q_rng1 {as : MA} {j : Int} (h : as env st = .ok [.int j] st) (h1 : -(2 ^ 62) ≤ j ∧ j < 2 ^ 62) : iRng1 as env st = .ok (upTo 0 j.toNat) st := by
  unfold iRng1
  rw [h]
  simp only [bind_ok, if_pos h1]
@[simp] theorem q_all {l : List D} {bs : List Bool} (h : blsD l = some bs) : fAll st [.lst l] = some (.bl (bs.all id)) := by
  unfold fAll
  simp [h]
@[simp] theorem q_tuple {l : List D} : fTuple st [.lst l] = some (.tup l) := rfl
@[simp] theorem q_tuple' {l : List D} : fTuple st [.tup l] = some (.tup l) := rfl
theorem blsD_map {α : Type} (l : List α) (f : α → Bool) : blsD (l.map fun a => D.bl (f a)) = some (l.map f) := by
  induction l with
  | nil => rfl
  | cons a l ih => simp [blsD, ih]
@[simp] theorem atI_cons0 {d : D} {l : List D} : atI (d :: l) 0 = some d := by
  have : (0 : Int) < l.length + 1 := by omega
  simp [atI, ixN, this]
@[simp] theorem atI_cons1 {d d1 : D} {l : List D} : atI (d :: d1 :: l) 1 = some d1 := by
  have : (1 : Int) < l.length + 1 + 1 := by omega
  simp [atI, ixN, this]
@[simp] theorem atI_cons2 {d d1 d2 : D} {l : List D} : atI (d :: d1 :: d2 :: l) 2 = some d2 := by
  have : (2 : Int) < l.length + 1 + 1 + 1 := by omega
  simp [atI, ixN, this]
theorem atI_nat {l : List D} {i : Nat} {d : D} (h : l[i]? = some d) : atI l (i : Int) = some d := by
  have h1 := (List.getElem?_eq_some_iff.mp h).1
  have h2 : (i : Int) < l.length := by omega
  simp [atI, ixN, h2, h]
end
end T5
namespace T5
open PySem PySem.Spec PyProof.Rows L2
/-! ### what is asked of a run, told forwards -/
def OnR {α : Type} (r : R α) (K : α → Store → Prop) (X : String → List String → List D → Store → Prop) : Prop := match r with
  | .ok a st => K a st
  | .ex c ks vs st => X c ks vs st
  | .bad => False
def OnO {α : Type} (o : Option α) (K : α → Prop) : Prop := ∃ a, o = some a ∧ K a
def OnQ (r : SR) (Q : SR → Prop) : Prop := Q r
def OnB (c : Bool) (P Q : Prop) : Prop := if c = true then P else Q
def Sd (p q : Prop) : Prop := p ∧ q
def SetE (env : DEnv) (i : Nat) (d : D) (K : DEnv → Prop) : Prop := K (env.set i (some d))
def SetS (st : Store) (i : Nat) (o : Ob) (K : Store → Prop) : Prop := K (st.set i o)
def SeqK (b : MS) (Q : SR → Prop) (r : SR) : Prop := match r with
  | .nx e st => OnQ (b e st) Q
  | .bad => False
  | r => Q r
theorem onR_eq {α : Type} {r : R α} {a : α} {st : Store} {K : α → Store → Prop} {X} (h : r = .ok a st) (k : K a st) : OnR r K X := by subst h; exact k
theorem onB_t {c : Bool} {P Q : Prop} (h : c = true) (p : P) : OnB c P Q := by unfold OnB; rw [if_pos h]; exact p
theorem onB_f {c : Bool} {P Q : Prop} (h : c = false) (q : Q) : OnB c P Q := by unfold OnB; rw [if_neg (by rw [h]; decide)]; exact q
theorem onB_any {c : Bool} {P Q : Prop} (p : c = true → P) (q : c = false → Q) : OnB c P Q := by
  cases c
  · exact q rfl
  · exact p rfl
theorem sd_mk {p q : Prop} (h : p) (k : q) : Sd p q := ⟨h, k⟩
theorem setE_eq {env e1 : DEnv} {i : Nat} {d : D} {K : DEnv → Prop} (h : env.set i (some d) = e1) (k : K e1) : SetE env i d K := by subst h; exact k
theorem setS_eq {st s1 : Store} {i : Nat} {o : Ob} {K : Store → Prop} (h : st.set i o = s1) (k : K s1) : SetS st i o K := by subst h; exact k
theorem seqK_nx {b : MS} {Q : SR → Prop} {e : DEnv} {st : Store} (h : OnQ (b e st) Q) : SeqK b Q (.nx e st) := h
theorem seqK_rt {b : MS} {Q : SR → Prop} {d : D} {st : Store} (h : Q (.rt d st)) : SeqK b Q (.rt d st) := h
theorem seqK_bk {b : MS} {Q : SR → Prop} {e : DEnv} {st : Store} (h : Q (.bk e st)) : SeqK b Q (.bk e st) := h
theorem seqK_ct {b : MS} {Q : SR → Prop} {e : DEnv} {st : Store} (h : Q (.ct e st)) : SeqK b Q (.ct e st) := h
theorem seqK_ex {b : MS} {Q : SR → Prop} {c ks vs} {e : DEnv} {st : Store} (h : Q (.ex c ks vs e st)) : SeqK b Q (.ex c ks vs e st) := h
section
variable {env : DEnv} {st : Store} {ma mb mc m mo mi mv : ME} {a b c : MS} {ca cb cc : MT} {as : MA} {g : MG0} {gs : MGs0} {n : Nat} {X : String → List String → List D → Store → Prop} {Q : SR → Prop}
theorem onR_bind {α β : Type} {r : R α} {f : α → Store → R β} {K : β → Store → Prop} (h : OnR r (fun a st1 => OnR (f a st1) K X) X) : OnR (r.bind f) K X := by
  cases r with
  | ok a st => exact h
  | ex c ks vs st => exact h
  | bad => exact h
theorem onR_imp {α : Type} {r : R α} {K K' : α → Store → Prop} {X' : String → List String → List D → Store → Prop} (h : OnR r K X) (f : ∀ a st, K a st → K' a st) (x : ∀ c ks vs st, X c ks vs st → X' c ks vs st) : OnR r K' X' := by
  cases r with
  | ok a st => exact f _ _ h
  | ex c ks vs st => exact x _ _ _ _ h
  | bad => exact h
theorem onQ_imp {r : SR} {Q' : SR → Prop} (h : OnQ r Q) (f : ∀ r, Q r → Q' r) : OnQ r Q' := f _ h
theorem onR_toS {α : Type} {r : R α} {f : α → Store → SR} (h : OnR r (fun a st1 => OnQ (f a st1) Q) (fun c ks vs st1 => Q (.ex c ks vs env st1))) : OnQ (r.toS env f) Q := by
  cases r with
  | ok a st => exact h
  | ex c ks vs st => exact h
  | bad => exact h.elim
theorem onR_ofO {α : Type} {o : Option α} {K : α → Store → Prop} (h : OnO o fun d => K d st) : OnR (ofO o st) K X := by
  obtain ⟨d, e, k⟩ := h
  rw [e]
  exact k
/-! expressions -/
theorem w_c {d : D} {K} (h : K d st) : OnR (eC d env st) K X := h
theorem w_var {i : Nat} {d : D} {K} (hi : env[i]? = some (some d)) (h : K d st) : OnR (eVar i env st) K X := by
  rw [q_var hi]
  exact h
theorem w_bin {f : BO} {K} (h : OnR (ma env st) (fun d1 st1 => OnR (mb env st1) (fun d2 st2 => OnO (f st2 d1 d2) fun d => K d st2) X) X) : OnR (eBin f ma mb env st) K X := by
  rw [q_bin]
  exact onR_bind (onR_imp h (fun _ _ h => onR_bind (onR_imp h (fun _ _ h => onR_ofO h) fun _ _ _ _ h => h)) fun _ _ _ _ h => h)
theorem w_cb {f : BF} {K} (h : OnR (as env st) (fun ds st1 => OnO (f st1 ds) fun d => K d st1) X) : OnR (eCB f as env st) K X := by
  rw [q_cb]
  exact onR_bind (onR_imp h (fun _ _ h => onR_ofO h) fun _ _ _ _ h => h)
theorem w_call {f : MF} {K} (h : OnR (as env st) (fun ds st1 => OnR (f ds st1) K X) X) : OnR (eCall f as env st) K X := by
  rw [q_call]
  exact onR_bind h
theorem w_nil {K} (h : K [] st) : OnR (aNil env st) K X := h
theorem w_cons {K} (h : OnR (m env st) (fun d st1 => OnR (as env st1) (fun ds st2 => K (d :: ds) st2) X) X) : OnR (aCons m as env st) K X := by
  rw [q_acons]
  exact onR_bind (onR_imp h (fun _ _ h => onR_bind h) fun _ _ _ _ h => h)
theorem w_tup {K} (h : OnR (as env st) (fun ds st1 => Sd (ds.length ≤ 1000) (K (.tup ds) st1)) X) : OnR (eTup as env st) K X := by
  rw [q_tup]
  exact onR_bind (onR_imp h (fun ds _ h => by rw [if_pos h.1]; exact h.2) fun _ _ _ _ h => h)
theorem w_lst {K} (h : OnR (as env st) (fun ds st1 => Sd (ds.length ≤ 1000) (K (.lst ds) st1)) X) : OnR (eLst as env st) K X := by
  rw [q_lst]
  exact onR_bind (onR_imp h (fun ds _ h => by rw [if_pos h.1]; exact h.2) fun _ _ _ _ h => h)
theorem w_lstM {K} (h : OnR (as env st) (fun ds st1 => Sd (ds.length ≤ 1000) (K (.obj st1.length) (st1 ++ [.lst ds]))) X) : OnR (eLstM as env st) K X := by
  rw [q_lstM]
  exact onR_bind (onR_imp h (fun ds _ h => by rw [if_pos h.1]; exact h.2) fun _ _ _ _ h => h)
theorem w_eif {K} (h : OnR (cc env st) (fun c st1 => OnB c (OnR (ma env st1) K X) (OnR (mb env st1) K X)) X) : OnR (eIf cc ma mb env st) K X := by
  rw [q_eIf]
  exact onR_bind (onR_imp h (fun c _ h => by unfold OnB at h; split at h <;> rename_i z <;> simp only [z, if_true, if_false, Bool.false_eq_true] <;> exact h) fun _ _ _ _ h => h)
theorem w_neg {K} (h : OnR (m env st) (fun d st1 => ∃ i, d = .int i ∧ K (.int (-i)) st1) X) : OnR (eNeg m env st) K X := by
  show OnR ((m env st).bind _) K X
  exact onR_bind (onR_imp h (fun d _ ⟨i, e, h⟩ => by subst e; exact h) fun _ _ _ _ h => h)
/-! tests -/
theorem w_tru {K} (h : OnR (m env st) (fun d st1 => OnO (bTru st1 d) fun b => K b st1) X) : OnR (cTru m env st) K X := by
  rw [q_cTru]
  exact onR_bind (onR_imp h (fun _ _ h => onR_ofO h) fun _ _ _ _ h => h)
theorem w_bool {K} (h : OnR (m env st) (fun d st1 => ∃ b, d = .bl b ∧ K b st1) X) : OnR (cBool m env st) K X := by
  rw [q_cBool]
  exact onR_bind (onR_imp h (fun d _ ⟨b, e, h⟩ => by subst e; exact h) fun _ _ _ _ h => h)
theorem w_and {K} (h : OnR (ca env st) (fun c st1 => OnB c (OnR (cb env st1) K X) (K false st1)) X) : OnR (cAnd ca cb env st) K X := by
  rw [q_cAnd]
  exact onR_bind (onR_imp h (fun c _ h => by unfold OnB at h; split at h <;> rename_i z <;> simp only [z, if_true, if_false, Bool.false_eq_true] <;> exact h) fun _ _ _ _ h => h)
theorem w_or {K} (h : OnR (ca env st) (fun c st1 => OnB c (K true st1) (OnR (cb env st1) K X)) X) : OnR (cOr ca cb env st) K X := by
  rw [q_cOr]
  exact onR_bind (onR_imp h (fun c _ h => by unfold OnB at h; split at h <;> rename_i z <;> simp only [z, if_true, if_false, Bool.false_eq_true] <;> exact h) fun _ _ _ _ h => h)
theorem w_not {K} (h : OnR (ca env st) (fun c st1 => K (!c) st1) X) : OnR (cNot ca env st) K X := by
  rw [q_cNot]
  exact onR_bind (onR_imp h (fun _ _ h => h) fun _ _ _ _ h => h)
theorem w_yes {K : Bool → Store → Prop} (h : K true st) : OnR (cYes env st) K X := h
theorem w_eand {K} (h : OnR (ma env st) (fun d st1 => ∃ b, d = .bl b ∧ OnB b (OnR (mb env st1) K X) (K (.bl false) st1)) X) : OnR (eAnd ma mb env st) K X := by
  rw [q_eAnd]
  exact onR_bind (onR_imp h (fun d _ ⟨b, e, h⟩ => by subst e; cases b <;> exact h) fun _ _ _ _ h => h)
theorem w_eor {K} (h : OnR (ma env st) (fun d st1 => ∃ b, d = .bl b ∧ OnB b (K (.bl true) st1) (OnR (mb env st1) K X)) X) : OnR (eOr ma mb env st) K X := by
  rw [q_eOr]
  exact onR_bind (onR_imp h (fun d _ ⟨b, e, h⟩ => by subst e; cases b <;> exact h) fun _ _ _ _ h => h)
theorem w_enot {K} (h : OnR (m env st) (fun d st1 => ∃ b, d = .bl b ∧ K (.bl (!b)) st1) X) : OnR (eNot m env st) K X := by
  rw [q_eNot]
  exact onR_bind (onR_imp h (fun d _ ⟨b, e, h⟩ => by subst e; exact h) fun _ _ _ _ h => h)
theorem w_bl {b : Bool} {P : Bool → Prop} (h : P b) : ∃ b', D.bl b = .bl b' ∧ P b' := ⟨b, rfl, h⟩
theorem w_in {i : Int} {P : Int → Prop} (h : P i) : ∃ i', D.int i = .int i' ∧ P i' := ⟨i, rfl, h⟩
theorem w_chain {f f' : BO} {K} (h : OnR (ma env st) (fun d1 st1 => OnR (mb env st1) (fun d2 st2 => OnO (f st2 d1 d2) fun z => ∃ b, z = .bl b ∧ OnB b (OnR (mc env st2) (fun d3 st3 => OnO (f' st3 d2 d3) fun d => K d st3) X) (K (.bl false) st2)) X) X) : OnR (eChain f f' ma mb mc env st) K X := by
  rw [q_chain]
  refine onR_bind (onR_imp h (fun _ _ h => onR_bind (onR_imp h (fun _ _ h => ?_) fun _ _ _ _ h => h)) fun _ _ _ _ h => h)
  obtain ⟨z, e, b, ez, h⟩ := h
  subst ez
  rw [e, ofO_some, bind_ok]
  cases b
  · exact h
  · have h' : OnR (mc env _) (fun d3 st3 => OnO (f' st3 _ d3) fun d => K d st3) X := h
    exact onR_bind (onR_imp h' (fun _ _ h => onR_ofO h) fun _ _ _ _ h => h)
/-! slices, methods -/
theorem w_oN {K : Option Int → Store → Prop} (h : K none st) : OnR (oNone env st) K X := h
theorem w_oS {K : Option Int → Store → Prop} (h : OnR (m env st) (fun d st1 => ∃ i, d = .int i ∧ K (some i) st1) X) : OnR (oSome m env st) K X := by
  rw [q_oS]
  exact onR_bind (onR_imp h (fun d _ ⟨i, e, h⟩ => by subst e; exact h) fun _ _ _ _ h => h)
theorem w_sl {lo hi : MO} {K} (h : OnR (m env st) (fun d st1 => OnR (lo env st1) (fun l st2 => OnR (hi env st2) (fun h st3 => OnO (bSl st3 d l h) fun d => K d st3) X) X) X) : OnR (eSl m lo hi env st) K X := by
  rw [q_sl]
  exact onR_bind (onR_imp h (fun _ _ h => onR_bind (onR_imp h (fun _ _ h => onR_bind (onR_imp h (fun _ _ h => onR_ofO h) fun _ _ _ _ h => h)) fun _ _ _ _ h => h)) fun _ _ _ _ h => h)
theorem w_mth {f : MethF} {K} (h : OnR (mo env st) (fun d st1 => Sd ((lstOf st1 d).isSome = true) (OnR (as env st1) (fun ds st2 => OnO (f st2 d ds) fun p => K p.1 p.2) X)) X) : OnR (eMthL f mo as env st) K X := by
  rw [q_mth]
  refine onR_bind (onR_imp h (fun d _ h => ?_) fun _ _ _ _ h => h)
  rw [if_pos h.1]
  refine onR_bind (onR_imp h.2 (fun ds _ h => ?_) fun _ _ _ _ h => h)
  obtain ⟨p, e, h⟩ := h
  rw [e]
  exact h
theorem o_app {l : List D} {x : D} {i : Nat} {K : D × Store → Prop} (hs : st[i]? = some (.lst l)) (hl : l.length ≤ cap) (h : SetS st i (.lst (l ++ [x])) fun s => K (.non, s)) : OnO (fApp st (.obj i) [x]) K := by
  refine ⟨(.non, st.set i (.lst (l ++ [x]))), ?_, h⟩
  unfold fApp
  simp only [hs, if_pos hl]
/-! statements -/
theorem s_seq (h : OnQ (a env st) (SeqK b Q)) : OnQ (sSeq a b env st) Q := by
  rw [q_seq]
  revert h
  generalize a env st = r
  intro h
  cases r with
  | nx e st => exact h
  | rt d st => exact h
  | bk e st => exact h
  | ct e st => exact h
  | ex c ks vs e st => exact h
  | bad => exact h.elim
theorem s_pass (h : Q (.nx env st)) : OnQ (sPass env st) Q := h
theorem s_brk (h : Q (.bk env st)) : OnQ (sBrk env st) Q := h
theorem s_cnt (h : Q (.ct env st)) : OnQ (sCnt env st) Q := h
theorem s_ret (h : OnR (m env st) (fun d st1 => Q (.rt d st1)) (fun c ks vs st1 => Q (.ex c ks vs env st1))) : OnQ (sRet m env st) Q := by
  rw [q_ret]
  exact onR_toS h
theorem s_retN (h : Q (.rt .non st)) : OnQ (sRetN env st) Q := h
theorem s_exp (h : OnR (m env st) (fun _ st1 => Q (.nx env st1)) (fun c ks vs st1 => Q (.ex c ks vs env st1))) : OnQ (sExp m env st) Q := by
  rw [q_exp]
  exact onR_toS h
theorem s_asg {i : Nat} (h : OnR (m env st) (fun d st1 => SetE env i d fun e => Q (.nx e st1)) (fun c ks vs st1 => Q (.ex c ks vs env st1))) : OnQ (sAsg m (gN i) env st) Q := by
  rw [q_asg]
  exact onR_toS h
/-- what a target makes of the slots -/
def TgE (g : MG0) (d : D) (env : DEnv) (K : DEnv → Prop) : Prop := ∃ e, g d env = some e ∧ K e
def TgsE (g : MGs0) (ds : List D) (env : DEnv) (K : DEnv → Prop) : Prop := ∃ e, g ds env = some e ∧ K e
theorem tg_n {i : Nat} {d : D} {K : DEnv → Prop} (h : SetE env i d K) : TgE (gN i) d env K := ⟨_, rfl, h⟩
theorem tg_t {l : List D} {K : DEnv → Prop} (h : TgsE gs l env K) : TgE (gT gs) (.tup l) env K := h
theorem tgs_n {K : DEnv → Prop} (h : K env) : TgsE gsNil [] env K := ⟨_, rfl, h⟩
theorem tgs_c {d : D} {l : List D} {K : DEnv → Prop} (h : TgE g d env fun e => TgsE gs l e K) : TgsE (gsCons g gs) (d :: l) env K := by
  obtain ⟨e, h1, e2, h2, k⟩ := h
  exact ⟨e2, by rw [q_gsC, h1]; exact h2, k⟩
theorem s_asgT {gs : MGs0} (h : OnR (m env st) (fun d st1 => TgE (gT gs) d env fun e => Q (.nx e st1)) (fun c ks vs st1 => Q (.ex c ks vs env st1))) : OnQ (sAsg m (gT gs) env st) Q := by
  rw [q_asg]
  refine onR_toS (onR_imp h (fun d _ h => ?_) fun _ _ _ _ h => h)
  obtain ⟨e, h1, k⟩ := h
  rw [h1]
  exact k
theorem s_if (h : OnR (cc env st) (fun d st1 => OnB d (OnQ (a env st1) Q) (OnQ (b env st1) Q)) (fun c ks vs st1 => Q (.ex c ks vs env st1))) : OnQ (sIf cc a b env st) Q := by
  rw [q_if]
  refine onR_toS (onR_imp h (fun d _ h => ?_) fun _ _ _ _ h => h)
  unfold OnB at h
  split at h <;> rename_i z <;> simp only [z, if_true, if_false, Bool.false_eq_true] <;> exact h
theorem s_aug {i : Nat} {f : BO} {d : D} (hi : env[i]? = some (some d)) (h : OnR (m env st) (fun d2 st1 => OnO (f st1 d d2) fun d3 => SetE env i d3 fun e => Q (.nx e st1)) (fun c ks vs st1 => Q (.ex c ks vs env st1))) : OnQ (sAug i f m env st) Q := by
  rw [q_aug hi]
  refine onR_toS (onR_imp h (fun d _ h => ?_) fun _ _ _ _ h => h)
  obtain ⟨e, h1, k⟩ := h
  rw [h1]
  exact k
theorem s_par2 {i j : Nat} (h : OnR (as env st) (fun ds st1 => ∃ x y, ds = [x, y] ∧ SetE env i x fun e => SetE e j y fun e => Q (.nx e st1)) (fun c ks vs st1 => Q (.ex c ks vs env st1))) : OnQ (sPar2 i j as env st) Q := by
  rw [q_par2]
  refine onR_toS (onR_imp h (fun d _ h => ?_) fun _ _ _ _ h => h)
  obtain ⟨x, y, e, k⟩ := h
  subst e
  exact k
theorem s_par3 {i j k : Nat} (h : OnR (as env st) (fun ds st1 => ∃ x y z, ds = [x, y, z] ∧ SetE env i x fun e => SetE e j y fun e => SetE e k z fun e => Q (.nx e st1)) (fun c ks vs st1 => Q (.ex c ks vs env st1))) : OnQ (sPar3 i j k as env st) Q := by
  rw [q_par3]
  refine onR_toS (onR_imp h (fun d _ h => ?_) fun _ _ _ _ h => h)
  obtain ⟨x, y, z, e, k⟩ := h
  subst e
  exact k
theorem w_two {x y : D} {P : D → D → Prop} (h : P x y) : ∃ x' y', [x, y] = [x', y'] ∧ P x' y' := ⟨x, y, rfl, h⟩
theorem w_three {x y z : D} {P : D → D → D → Prop} (h : P x y z) : ∃ x' y' z', [x, y, z] = [x', y', z'] ∧ P x' y' z' := ⟨x, y, z, rfl, h⟩
/-! loops -/
theorem s_for {mi : MI} (h : OnR (mi env st) (fun ds st1 => OnQ (loopS g b ds env st1) Q) (fun c ks vs st1 => Q (.ex c ks vs env st1))) : OnQ (sFor mi g b env st) Q := by
  rw [q_for]
  exact onR_toS h
/-- behind a turn of a loop -/
def TurnK (J : DEnv → Store → Prop) (Q : SR → Prop) (r : SR) : Prop := match r with
  | .nx e st => J e st
  | .ct e st => J e st
  | .bk e st => Q (.nx e st)
  | .bad => False
  | r => Q r
theorem turn_nx {J : DEnv → Store → Prop} {e : DEnv} (h : J e st) : TurnK J Q (.nx e st) := h
theorem turn_ct {J : DEnv → Store → Prop} {e : DEnv} (h : J e st) : TurnK J Q (.ct e st) := h
theorem turn_bk {J : DEnv → Store → Prop} {e : DEnv} (h : Q (.nx e st)) : TurnK J Q (.bk e st) := h
theorem turn_rt {J : DEnv → Store → Prop} {d : D} (h : Q (.rt d st)) : TurnK J Q (.rt d st) := h
theorem turn_ex {J : DEnv → Store → Prop} {c ks vs} {e : DEnv} (h : Q (.ex c ks vs e st)) : TurnK J Q (.ex c ks vs e st) := h
theorem onQ_loop {r : SR} {k : DEnv → Store → SR} (h : OnQ r (TurnK (fun e st => OnQ (k e st) Q) Q)) : OnQ (r.loop k) Q := by
  cases r with
  | nx e st => exact h
  | rt d st => exact h
  | bk e st => exact h
  | ct e st => exact h
  | ex c ks vs e st => exact h
  | bad => exact h.elim
/-- the same of any data, with the turn's number -/
theorem l_num (I : Nat → DEnv → Store → Prop) : ∀ {ds : List D} {k : Nat} {env : DEnv} {st : Store}, I k env st →
    (∀ i d env st, ds[i]? = some d → I (k + i) env st → TgE g d env fun e => OnQ (b e st) (TurnK (I (k + i + 1)) Q)) → (∀ env st, I (k + ds.length) env st → Q (.nx env st)) → OnQ (loopS g b ds env st) Q
  | [], k, env, st, h, _, f => f env st h
  | d :: ds, k, env, st, h, hb, f => by
    obtain ⟨e, h1, h2⟩ := hb 0 d env st rfl h
    unfold loopS
    rw [h1]
    refine onQ_loop (onQ_imp h2 fun r hr => ?_)
    have q : ∀ e st, I (k + 1) e st → OnQ (loopS g b ds e st) Q := fun e st h => l_num I (k := k + 1) h (fun i d env st hi hI => by
      have q := hb (i + 1) d env st hi (by rw [show k + (i + 1) = k + 1 + i by omega]; exact hI)
      rw [show k + (i + 1) + 1 = k + 1 + i + 1 by omega] at q
      exact q) fun env st h => f env st (by rw [show k + (d :: ds).length = k + 1 + ds.length by simp; omega]; exact h)
    cases r with
    | nx e st => exact q e st hr
    | ct e st => exact q e st hr
    | rt d st => exact hr
    | bk e st => exact hr
    | ex c ks vs e st => exact hr
    | bad => exact hr.elim
def SeqE (d : D) (K : List D → Prop) : Prop := match d with
  | .tup l => K l
  | .lst l => K l
  | .scr l => K l
  | _ => False
theorem seqE_t {l : List D} {K : List D → Prop} (h : K l) : SeqE (.tup l) K := h
theorem seqE_l {l : List D} {K : List D → Prop} (h : K l) : SeqE (.lst l) K := h
theorem seqE_s {l : List D} {K : List D → Prop} (h : K l) : SeqE (.scr l) K := h
theorem i_seq {K : List D → Store → Prop} (h : OnR (m env st) (fun d st1 => SeqE d fun l => K l st1) X) : OnR (iSeq m env st) K X := by
  unfold iSeq
  refine onR_bind (onR_imp h (fun d _ h => ?_) fun _ _ _ _ h => h)
  cases d <;> first | exact h | exact h.elim
def numb (l : List D) : List D := l.zipIdx.map fun p => .tup [.int (p.2 : Nat), p.1]
theorem i_en {K : List D → Store → Prop} (h : OnR (m env st) (fun d st1 => SeqE d fun l => K (numb l) st1) X) : OnR (iEn m env st) K X := by
  unfold iEn
  refine onR_bind (onR_imp h (fun d _ h => ?_) fun _ _ _ _ h => h)
  cases d <;> first | exact h | exact h.elim
theorem i_rng1 {K : List D → Store → Prop} (h : OnR (as env st) (fun ds st1 => ∃ j, ds = [.int j] ∧ Sd (-(2 ^ 62) ≤ j ∧ j < 2 ^ 62) (K (upTo 0 j.toNat) st1)) X) : OnR (iRng1 as env st) K X := by
  unfold iRng1
  refine onR_bind (onR_imp h (fun d _ h => ?_) fun _ _ _ _ h => h)
  obtain ⟨j, e, hj, k⟩ := h
  subst e
  simp only [if_pos hj]
  exact k
theorem i_rng2 {K : List D → Store → Prop} (h : OnR (as env st) (fun ds st1 => ∃ i j, ds = [.int i, .int j] ∧ Sd ((-(2 ^ 62) ≤ i ∧ i < 2 ^ 62) ∧ -(2 ^ 62) ≤ j ∧ j < 2 ^ 62) (K (upTo i (j - i).toNat) st1)) X) : OnR (iRng2 as env st) K X := by
  unfold iRng2
  refine onR_bind (onR_imp h (fun d _ h => ?_) fun _ _ _ _ h => h)
  obtain ⟨i, j, e, hj, k⟩ := h
  subst e
  simp only [if_pos hj]
  exact k
theorem w_i1 {i : Int} {P : Int → Prop} (h : P i) : ∃ j, [D.int i] = [.int j] ∧ P j := ⟨i, rfl, h⟩
theorem w_i2 {i j : Int} {P : Int → Int → Prop} (h : P i j) : ∃ i' j', [D.int i, .int j] = [.int i', .int j'] ∧ P i' j' := ⟨i, j, rfl, h⟩
/-! defs -/
theorem f_run {N n : Nat} {b : MS} {ds : List D} {K : D → Store → Prop} (hl : ds.length = n) (h : OnQ (b (ds.map some ++ List.replicate (N - n) none) st) (fun r => match r with
  | .nx _ st1 => K .non st1
  | .rt d st1 => K d st1
  | .ex c ks us _ st1 => X c ks us st1
  | _ => False)) : OnR (runF N n b ds st) K X := by
  unfold runF
  rw [if_pos hl]
  revert h
  generalize b _ st = r
  intro h
  cases r <;> first | exact h | exact h.elim
/-- what is told of a def's end -/
def EndK (K : D → Store → Prop) (X : String → List String → List D → Store → Prop) (r : SR) : Prop := match r with
  | .nx _ st1 => K .non st1
  | .rt d st1 => K d st1
  | .ex c ks us _ st1 => X c ks us st1
  | _ => False
theorem f_runK {N n : Nat} {b : MS} {ds : List D} {K : D → Store → Prop} (hl : ds.length = n) (h : OnQ (b (ds.map some ++ List.replicate (N - n) none) st) (EndK K X)) : OnR (runF N n b ds st) K X := by
  refine f_run hl ?_
  revert h
  generalize b _ st = r
  intro h
  cases r <;> exact h
theorem end_nx {K : D → Store → Prop} {e : DEnv} (h : K .non st) : EndK K X (.nx e st) := h
theorem end_rt {K : D → Store → Prop} {d : D} (h : K d st) : EndK K X (.rt d st) := h
theorem end_ex {K : D → Store → Prop} {e : DEnv} {c ks vs} (h : X c ks vs st) : EndK K X (.ex c ks vs e st) := h
/-- list comprehensions -/
theorem w_lc {mi : MI} {g : MG0} {ct : MT} {me : ME} {own : List Nat} {K : D → Store → Prop} (h : OnR (mi env st) (fun ds st1 => ∃ ys st2, lcLoop g ct me (wipeD env own) ds [] st1 = .ok ys st2 ∧ K (.lst ys) st2) X) : OnR (eLc mi g ct me own env st) K X := by
  unfold eLc
  refine onR_bind (onR_imp h (fun ds st1 h => ?_) fun _ _ _ _ h => h)
  obtain ⟨ys, st2, e, k⟩ := h
  rw [e]
  exact k
/-- a comprehension over data that yields f of each x that p lets by -/
theorem lc_mapP {α : Type} {enc : α → D} {g : MG0} {ct : MT} {me : ME} (p : α → Bool) (f : α → D) : ∀ {xs : List α} {acc : List D}, (∀ x ∈ xs, TgE g (enc x) env fun e => OnR (ct e st) (fun c s => s = st ∧ c = p x ∧ (c = true → OnR (me e st) (fun d s => s = st ∧ d = f x) fun _ _ _ _ => False)) fun _ _ _ _ => False) → acc.length + xs.length ≤ cap →
    lcLoop g ct me env (xs.map enc) acc st = .ok (acc ++ (xs.filter p).map f) st
  | [], acc, _, _ => by simp [lcLoop]
  | x :: xs, acc, h, hl => by
    obtain ⟨e, h1, h2⟩ := h x (List.mem_cons_self ..)
    rw [List.map_cons]
    unfold lcLoop
    rw [h1]
    simp only
    have hl2 : acc.length ≤ cap := by simp at hl; omega
    revert h2
    generalize ct e st = r
    intro h2
    cases r with
    | bad => exact h2.elim
    | ex => exact h2.elim
    | ok c s =>
      obtain ⟨e1, e2, h3⟩ := h2
      rw [bind_ok, e1, e2]
      rw [e2] at h3
      cases hp : p x with
      | false =>
        rw [if_neg (by decide), List.filter_cons_of_neg (by rw [hp]; decide)]
        exact lc_mapP p f (fun x hx => h x (List.mem_cons_of_mem _ hx)) (by simp at hl; omega)
      | true =>
        rw [if_pos rfl, List.filter_cons_of_pos hp]
        have h4 := h3 hp
        revert h4
        generalize me e st = r
        intro h4
        cases r with
        | bad => exact h4.elim
        | ex => exact h4.elim
        | ok d s =>
          obtain ⟨e3, e4⟩ := h4
          rw [bind_ok, e3, e4, if_pos hl2, lc_mapP p f (acc := acc ++ [f x]) (fun x hx => h x (List.mem_cons_of_mem _ hx)) (by simp at hl ⊢; omega)]
          simp
end
end T5
namespace T5
open PySem PySem.Spec PyProof.Rows L2
theorem nb_t {c : Bool} (h : c = false) : (!c) = true := by rw [h]; rfl
theorem nb_f {c : Bool} (h : c = true) : (!c) = false := by rw [h]; rfl
theorem onB_dec {p : Prop} [Decidable p] {P Q : Prop} (h : p → P) (k : ¬ p → Q) : OnB (decide p) P Q := onB_any (fun z => h (of_decide_eq_true z)) (fun z => k (of_decide_eq_false z))
theorem onB_not {c : Bool} {P Q : Prop} (h : OnB c Q P) : OnB (!c) P Q := by cases c <;> exact h
section
variable {st : Store} {i j : Int} {K : D → Prop}
theorem o_addI (h : K (.int (i + j))) : OnO (bAdd st (.int i) (.int j)) K := ⟨_, rfl, h⟩
theorem o_addI2 (h : K (.int (i + j))) : OnO (bAddI st (.int i) (.int j)) K := ⟨_, rfl, h⟩
theorem o_subI (h : K (.int (i - j))) : OnO (bSub st (.int i) (.int j)) K := ⟨_, rfl, h⟩
theorem o_lt (h : K (.bl (decide (i < j)))) : OnO (bLt st (.int i) (.int j)) K := ⟨_, rfl, h⟩
theorem o_le (h : K (.bl (decide (i ≤ j)))) : OnO (bLe st (.int i) (.int j)) K := ⟨_, rfl, h⟩
theorem o_gt (h : K (.bl (decide (j < i)))) : OnO (bGt st (.int i) (.int j)) K := ⟨_, rfl, h⟩
theorem o_ge (h : K (.bl (decide (j ≤ i)))) : OnO (bGe st (.int i) (.int j)) K := ⟨_, rfl, h⟩
theorem o_eqI (h : K (.bl (decide (i = j)))) : OnO (bEq st (.int i) (.int j)) K := ⟨_, rfl, h⟩
theorem o_neI (h : K (.bl (!decide (i = j)))) : OnO (bNe st (.int i) (.int j)) K := ⟨_, rfl, h⟩
theorem o_max (h : K (.int (maxI i j))) : OnO (fMax st [.int i, .int j]) K := ⟨_, rfl, h⟩
theorem o_min (h : K (.int (minI i j))) : OnO (fMin st [.int i, .int j]) K := ⟨_, rfl, h⟩
theorem o_int (h : K (.int i)) : OnO (fInt st [.int i]) K := ⟨_, rfl, h⟩
theorem o_lenL {l : List D} (h : K (.int (l.length : Int))) : OnO (fLen st [.lst l]) K := ⟨_, rfl, h⟩
theorem o_lenT {l : List D} (h : K (.int (l.length : Int))) : OnO (fLen st [.tup l]) K := ⟨_, rfl, h⟩
theorem o_tuple {l : List D} (h : K (.tup l)) : OnO (fTuple st [.lst l]) K := ⟨_, rfl, h⟩
theorem o_isNon {d : D} (h : K (.bl (isNon d))) : OnO (bIs st d .non) K := ⟨_, rfl, h⟩
theorem o_isnNon {d : D} (h : K (.bl (!isNon d))) : OnO (bIsNot st d .non) K := ⟨_, rfl, h⟩
theorem o_isBl {a b : Bool} (h : K (.bl (decide (a = b)))) : OnO (bIs st (.bl a) (.bl b)) K := ⟨_, rfl, h⟩
theorem o_isnBl {a b : Bool} (h : K (.bl (!decide (a = b)))) : OnO (bIsNot st (.bl a) (.bl b)) K := ⟨_, rfl, h⟩
theorem o_tbl {b : Bool} {K : Bool → Prop} (h : K b) : OnO (bTru st (.bl b)) K := ⟨_, rfl, h⟩
theorem o_slL {l : List D} {lo hi : Option Int} (h : K (.lst (cutD l lo hi))) : OnO (bSl st (.lst l) lo hi) K := ⟨_, rfl, h⟩
theorem o_slT {l : List D} {lo hi : Option Int} (h : K (.tup (cutD l lo hi))) : OnO (bSl st (.tup l) lo hi) K := ⟨_, rfl, h⟩
theorem o_addT {a b : List D} (h : Sd (a.length + b.length ≤ cap) (K (.tup (a ++ b)))) : OnO (bAdd st (.tup a) (.tup b)) K := by
  refine ⟨_, ?_, h.2⟩
  show (if a.length + b.length ≤ cap then _ else _) = _
  rw [if_pos h.1]
theorem o_addL {a b : List D} (h : Sd (a.length + b.length ≤ cap) (K (.lst (a ++ b)))) : OnO (bAdd st (.lst a) (.lst b)) K := by
  refine ⟨_, ?_, h.2⟩
  show (if a.length + b.length ≤ cap then some (D.lst (a ++ b)) else none) = _
  rw [if_pos h.1]
theorem o_ixT {l : List D} {k : Nat} {d : D} (hd : l[k]? = some d) (h : K d) : OnO (bIx st (.tup l) (.int (k : Int))) K := ⟨_, atI_nat hd, h⟩
theorem o_ixL {l : List D} {k : Nat} {d : D} (hd : l[k]? = some d) (h : K d) : OnO (bIx st (.lst l) (.int (k : Int))) K := ⟨_, atI_nat hd, h⟩
theorem o_ixT0 {l : List D} {a : D} (h : K a) : OnO (bIx st (.tup (a :: l)) (.int 0)) K := ⟨_, atI_cons0, h⟩
theorem o_ixT1 {l : List D} {a b : D} (h : K b) : OnO (bIx st (.tup (a :: b :: l)) (.int 1)) K := ⟨_, atI_cons1, h⟩
theorem o_ixT2 {l : List D} {a b c : D} (h : K c) : OnO (bIx st (.tup (a :: b :: c :: l)) (.int 2)) K := ⟨_, atI_cons2, h⟩
theorem o_ixL0 {l : List D} {a : D} (h : K a) : OnO (bIx st (.lst (a :: l)) (.int 0)) K := ⟨_, atI_cons0, h⟩
theorem o_ixL1 {l : List D} {a b : D} (h : K b) : OnO (bIx st (.lst (a :: b :: l)) (.int 1)) K := ⟨_, atI_cons1, h⟩
theorem o_ixL2 {l : List D} {a b c : D} (h : K c) : OnO (bIx st (.lst (a :: b :: c :: l)) (.int 2)) K := ⟨_, atI_cons2, h⟩
end
/-! ### == of plain data -/
mutual
def shD : Nat → D → Bool
  | _, .non => true
  | _, .bl _ => true
  | _, .int _ => true
  | _, .str s => okS s
  | 0, .tup _ => false
  | 0, .lst _ => false
  | k + 1, .tup l => shL k l
  | k + 1, .lst l => shL k l
  | _, _ => false
def shL : Nat → List D → Bool
  | _, [] => true
  | k, d :: ds => shD k d && shL k ds
end
mutual
def eqD : D → D → Bool
  | .non, .non => true
  | .bl a, .bl b => a == b
  | .bl a, .int j => (if a then 1 else 0) == j
  | .int i, .bl b => i == (if b then 1 else 0)
  | .int i, .int j => decide (i = j)
  | .str x, .str y => decide (x = y)
  | .tup a, .tup b => eqL a b
  | .lst a, .lst b => eqL a b
  | _, _ => false
def eqL : List D → List D → Bool
  | [], [] => true
  | x :: xs, y :: ys => eqD x y && eqL xs ys
  | _, _ => false
end
mutual
theorem shD_ok : ∀ {k : Nat} {d : D}, shD k d = true → ∃ p, py0 d = some p ∧ PyData.canLay0 p = true ∧ PyData.depth p ≤ k
  | k, .non, _ => ⟨_, rfl, rfl, Nat.zero_le _⟩
  | k, .bl _, _ => ⟨_, rfl, rfl, Nat.zero_le _⟩
  | k, .int _, _ => ⟨_, rfl, rfl, Nat.zero_le _⟩
  | k, .str s, h => by
    refine ⟨_, rfl, ?_, Nat.zero_le _⟩
    have h' : okS s = true := by cases k <;> simpa [shD] using h
    simp [PyData.canLay0, PyData.strOk, toStr]
    simpa [okS] using h'
  | 0, .tup _, h => by simp [shD] at h
  | 0, .lst _, h => by simp [shD] at h
  | k + 1, .tup l, h => by
    obtain ⟨ps, h1, h2, h3⟩ := shL_ok (k := k) (ds := l) (by simpa [shD] using h)
    exact ⟨.tuple ps, by simp [py0, h1], by simpa [PyData.canLay0] using h2, by simp only [PyData.depth]; omega⟩
  | k + 1, .lst l, h => by
    obtain ⟨ps, h1, h2, h3⟩ := shL_ok (k := k) (ds := l) (by simpa [shD] using h)
    exact ⟨.list ps, by simp [py0, h1], by simpa [PyData.canLay0] using h2, by simp only [PyData.depth]; omega⟩
  | 0, .ty _, h => by simp [shD] at h
  | 0, .scr _, h => by simp [shD] at h
  | 0, .obj _, h => by simp [shD] at h
  | 0, .dic _ _ _, h => by simp [shD] at h
  | 0, .ins _ _ _, h => by simp [shD] at h
  | 0, .exc _ _ _, h => by simp [shD] at h
  | 0, .cls _, h => by simp [shD] at h
  | 0, .fn _ _ _ _ _, h => by simp [shD] at h
  | _ + 1, .ty _, h => by simp [shD] at h
  | _ + 1, .scr _, h => by simp [shD] at h
  | _ + 1, .obj _, h => by simp [shD] at h
  | _ + 1, .dic _ _ _, h => by simp [shD] at h
  | _ + 1, .ins _ _ _, h => by simp [shD] at h
  | _ + 1, .exc _ _ _, h => by simp [shD] at h
  | _ + 1, .cls _, h => by simp [shD] at h
  | _ + 1, .fn _ _ _ _ _, h => by simp [shD] at h
theorem shL_ok : ∀ {k : Nat} {ds : List D}, shL k ds = true → ∃ ps, py0L ds = some ps ∧ PyData.canLayAll0 ps = true ∧ PyData.depthAll ps ≤ k
  | k, [], _ => ⟨[], rfl, rfl, Nat.zero_le _⟩
  | k, d :: ds, h => by
    have h' : shD k d = true ∧ shL k ds = true := by simpa [shL] using h
    obtain ⟨p, h1, h2, h3⟩ := shD_ok h'.1
    obtain ⟨ps, h4, h5, h6⟩ := shL_ok h'.2
    exact ⟨p :: ps, by simp [py0L, h1, h4], by simp [PyData.canLayAll0, h2, h5], by simp only [PyData.depthAll]; omega⟩
end
mutual
theorem eqv_eqD : ∀ {a b : D} {p q : PyData}, py0 a = some p → py0 b = some q → PyData.eqv p q = eqD a b
  | .tup l, .tup m, p, q, h1, h2 => by
    simp only [py0, Option.map_eq_some_iff] at h1 h2
    obtain ⟨ps, h1, rfl⟩ := h1
    obtain ⟨qs, h2, rfl⟩ := h2
    simp only [PyData.eqv, eqD]
    exact eqv_eqL h1 h2
  | .lst l, .lst m, p, q, h1, h2 => by
    simp only [py0, Option.map_eq_some_iff] at h1 h2
    obtain ⟨ps, h1, rfl⟩ := h1
    obtain ⟨qs, h2, rfl⟩ := h2
    simp only [PyData.eqv, eqD]
    exact eqv_eqL h1 h2
  | .tup l, .lst m, p, q, h1, h2 => by
    simp only [py0, Option.map_eq_some_iff] at h1 h2
    obtain ⟨ps, h1, rfl⟩ := h1
    obtain ⟨qs, h2, rfl⟩ := h2
    simp [PyData.eqv, eqD]
  | .lst l, .tup m, p, q, h1, h2 => by
    simp only [py0, Option.map_eq_some_iff] at h1 h2
    obtain ⟨ps, h1, rfl⟩ := h1
    obtain ⟨qs, h2, rfl⟩ := h2
    simp [PyData.eqv, eqD]
  | .tup l, .non, p, q, h1, h2 | .tup l, .bl _, p, q, h1, h2 | .tup l, .int _, p, q, h1, h2 | .tup l, .str _, p, q, h1, h2 => by
    simp only [py0, Option.map_eq_some_iff, Option.some.injEq] at h1 h2
    obtain ⟨ps, h1, rfl⟩ := h1
    subst h2
    simp [PyData.eqv, eqD]
  | .lst l, .non, p, q, h1, h2 | .lst l, .bl _, p, q, h1, h2 | .lst l, .int _, p, q, h1, h2 | .lst l, .str _, p, q, h1, h2 => by
    simp only [py0, Option.map_eq_some_iff, Option.some.injEq] at h1 h2
    obtain ⟨ps, h1, rfl⟩ := h1
    subst h2
    simp [PyData.eqv, eqD]
  | .non, .tup l, p, q, h1, h2 | .bl _, .tup l, p, q, h1, h2 | .int _, .tup l, p, q, h1, h2 | .str _, .tup l, p, q, h1, h2 => by
    simp only [py0, Option.map_eq_some_iff, Option.some.injEq] at h1 h2
    obtain ⟨ps, h2, rfl⟩ := h2
    subst h1
    simp [PyData.eqv, eqD]
  | .non, .lst l, p, q, h1, h2 | .bl _, .lst l, p, q, h1, h2 | .int _, .lst l, p, q, h1, h2 | .str _, .lst l, p, q, h1, h2 => by
    simp only [py0, Option.map_eq_some_iff, Option.some.injEq] at h1 h2
    obtain ⟨ps, h2, rfl⟩ := h2
    subst h1
    simp [PyData.eqv, eqD]
  | .non, .non, p, q, h1, h2 | .non, .bl _, p, q, h1, h2 | .non, .int _, p, q, h1, h2 | .non, .str _, p, q, h1, h2
  | .bl _, .non, p, q, h1, h2 | .bl _, .bl _, p, q, h1, h2 | .bl _, .int _, p, q, h1, h2 | .bl _, .str _, p, q, h1, h2
  | .int _, .non, p, q, h1, h2 | .int _, .bl _, p, q, h1, h2 | .int _, .str _, p, q, h1, h2
  | .str _, .non, p, q, h1, h2 | .str _, .bl _, p, q, h1, h2 | .str _, .int _, p, q, h1, h2 => by
    simp only [py0, Option.some.injEq] at h1 h2
    subst h1 h2
    simp [PyData.eqv, eqD]
  | .int i, .int j, p, q, h1, h2 => by
    simp only [py0, Option.some.injEq] at h1 h2
    subst h1 h2
    simp only [PyData.eqv, eqD]
    rfl
  | .str x, .str y, p, q, h1, h2 => by
    simp only [py0, Option.some.injEq] at h1 h2
    subst h1 h2
    simp only [PyData.eqv, eqD]
    by_cases e : x = y
    · simp [e]
    · have : ¬ toStr x = toStr y := fun z => e (toStr_inj z)
      simp [e, this]
  | .ty _, _, p, q, h1, h2 | .scr _, _, p, q, h1, h2 | .obj _, _, p, q, h1, h2 | .dic _ _ _, _, p, q, h1, h2 | .ins _ _ _, _, p, q, h1, h2 | .exc _ _ _, _, p, q, h1, h2 | .cls _, _, p, q, h1, h2 | .fn _ _ _ _ _, _, p, q, h1, h2 => by simp [py0] at h1
  | _, .ty _, p, q, h1, h2 | _, .scr _, p, q, h1, h2 | _, .obj _, p, q, h1, h2 | _, .dic _ _ _, p, q, h1, h2 | _, .ins _ _ _, p, q, h1, h2 | _, .exc _ _ _, p, q, h1, h2 | _, .cls _, p, q, h1, h2 | _, .fn _ _ _ _ _, p, q, h1, h2 => by simp [py0] at h2
theorem eqv_eqL : ∀ {a b : List D} {p q : List PyData}, py0L a = some p → py0L b = some q → PyData.eqvAll p q = eqL a b
  | [], [], p, q, h1, h2 => by
    simp only [py0L, Option.some.injEq] at h1 h2
    subst h1 h2
    rfl
  | [], d :: ds, p, q, h1, h2 => by
    simp only [py0L, Option.some.injEq, Option.bind_eq_some_iff, Option.map_eq_some_iff] at h1 h2
    obtain ⟨x, _, y, _, rfl⟩ := h2
    subst h1
    rfl
  | d :: ds, [], p, q, h1, h2 => by
    simp only [py0L, Option.some.injEq, Option.bind_eq_some_iff, Option.map_eq_some_iff] at h1 h2
    obtain ⟨x, _, y, _, rfl⟩ := h1
    subst h2
    rfl
  | d :: ds, e :: es, p, q, h1, h2 => by
    simp only [py0L, Option.bind_eq_some_iff, Option.map_eq_some_iff] at h1 h2
    obtain ⟨x, hx, xs, hxs, rfl⟩ := h1
    obtain ⟨y, hy, ys, hys, rfl⟩ := h2
    simp only [PyData.eqvAll, eqL]
    rw [eqv_eqD hx hy, eqv_eqL hxs hys]
end
theorem dEq_sh {st : Store} {a b : D} (ha : shD 64 a = true) (hb : shD 64 b = true) : dEq st a b = some (eqD a b) := by
  obtain ⟨p, h1, h2, h3⟩ := shD_ok ha
  obtain ⟨q, h4, h5, h6⟩ := shD_ok hb
  have e1 : py st a = some p := by cases a <;> first | exact h1 | (simp [py0] at h1)
  have e2 : py st b = some q := by cases b <;> first | exact h4 | (simp [py0] at h4)
  have go : dEq0 st a b = some (eqD a b) := by
    unfold dEq0
    rw [e1, e2]
    have s1 : SeqAt.shaped p = true := by unfold SeqAt.shaped; simp [h2, h3]
    have s2 : SeqAt.shaped q = true := by unfold SeqAt.shaped; simp [h5, h6]
    simp only [opt_bind_some, s1, s2, and_self, if_true, eqv_eqD h1 h4]
  unfold dEq
  split
  · rename_i x y
    by_cases z : x = y
    · subst z; simp [eqD]
    · simp [eqD, z]
  · exact go
section
variable {st : Store} {K : D → Prop} {a b : D}
theorem o_eqD (ha : shD 64 a = true) (hb : shD 64 b = true) (h : K (.bl (eqD a b))) : OnO (bEq st a b) K := ⟨_, by unfold bEq; rw [dEq_sh ha hb]; rfl, h⟩
theorem o_neD (ha : shD 64 a = true) (hb : shD 64 b = true) (h : K (.bl (!eqD a b))) : OnO (bNe st a b) K := ⟨_, by unfold bNe; rw [dEq_sh ha hb]; rfl, h⟩
end
section
variable {st : Store} {K : D → Prop} {i j : Int}
theorem o_lenS {l : List D} (h : K (.int (l.length : Int))) : OnO (fLen st [.scr l]) K := ⟨_, rfl, h⟩
theorem o_div (h : Sd (CDivN i j) (K (.int (i.fdiv j)))) : OnO (bDiv st (.int i) (.int j)) K := by
  refine ⟨_, ?_, h.2⟩
  show (if CDivN i j then some (D.int (i.fdiv j)) else none) = _
  rw [if_pos h.1]
theorem o_mod (h : Sd (j ≠ 0) (K (.int (i.fmod j)))) : OnO (bMod st (.int i) (.int j)) K := by
  refine ⟨_, ?_, h.2⟩
  show (if j ≠ 0 then some (D.int (i.fmod j)) else none) = _
  rw [if_pos h.1]
theorem o_mul (h : Sd (CMul i j) (K (.int (i * j)))) : OnO (bMul st (.int i) (.int j)) K := by
  refine ⟨_, ?_, h.2⟩
  show (if CMul i j then some (D.int (i * j)) else none) = _
  rw [if_pos h.1]
end
end T5
namespace T5
open PySem PySem.Spec PyProof.Rows L2
variable [TabC]
/-! ### own exceptions: their making, raise -/
/-- a base class b of own exceptions, without an __init__ of its own -/
structure BaseI (K : PySem.W.Frag) (mg : Str → Option Value) (b : Str) (B : Addr) : Prop where
  at_ : mg b = some (.ref B)
  ga : PySem.W.specialIn K (.ref B) "__getattribute__" = some (some (.builtin "type.__getattribute__"))
  ty : PySem.W.typeIn K (.ref B) = some (.type "type")
  rd : PySem.W.readsIn K B (.type "type") = true
  ini : PySem.W.findCls K (.ref B) (.type "type") "__init__" = some (.val (.builtin "ValueError.__init__"))
section
variable {X : Cx} {e : Expr} {es : List Expr} {ta : TA} {p1 p2 pos : Pos} {b : Str} {B : Addr}
/-- b.__init__(self, ..) -/
theorem pe_baseI {pl : Sem Bool} (hg : Gl X b) (F : BaseI X.K X.mg b B) (ha : PA X (e :: es) ta) (hdb : (b == ("__debug__" : Str)) = false)
    (hc : eval (.Call (.Attribute (.Name b p1) "__init__" p2) (e :: es) [] pos) X.env = (do
      let ov ← eval (.Name b p1) X.env
      standAt p2.atName
      let (f, first) ← holding [ov] (getMethod ov "__init__" pl)
      callWith pos f first (backTo pos (starEach (e :: es) X.env)) (backToKw pos (keywordEach [] X.env))) := by rfl)
    (he : starEach (e :: es) X.env = (false, eval e X.env) :: starEach es X.env := by rfl) (hpl : (backTo pos (starEach es X.env)).any (·.1) = false := by rfl) :
    PE X (.Call (.Attribute (.Name b p1) "__init__" p2) (e :: es) [] pos) (tVeI X.K ta) := by
  constructor
  intro pins s σ H Q I h
  refine PySem.W.methodCall_KW (ld_glob I hg F.at_ ?_ hdb) hc
  obtain ⟨m, fr⟩ := I.fr
  refine PySem.W.method_of_cls fr I.ok.mod.kin F.ga ?_
  refine PySem.W.cls_val fr I.ok.mod.kin F.ty F.rd F.ini (by decide +kernel) ?_
  show wpAny _ _ (callWith pos (Value.builtin "ValueError.__init__") [] (backTo pos (starEach (e :: es) X.env)) []) _ _ _
  refine PyProof.Rows.callWith_method1 (thn (ha.run pos pins _ σ H _ (I.tok _) h) fun us s1 z => ?_) he hpl
  obtain ⟨vs, H1, I1, r1, a, C, ws, ev, hl, T, ea, q⟩ := z
  subst ev
  cases r1 with
  | @cons _ u0 _ ur ra rws =>
    obtain rfl : u0 = Value.ref a := ra
    refine oinit_ok T I1 ea ?_ fun s2 J => ⟨.non, H1, J, rfl, q⟩
    have e1 := Paired.length rws
    have e2 := sizeLine_eq
    omega
end
def spX1 (K : PySem.W.Frag) (f : Str) : Sp := fun vs H Q _ => ∃ (a C : Addr) (y : V), vs = [.ref a, y] ∧ OexC K C ∧ PySem.W.findIn K (.ref C) f = some none ∧ H a = some (exo a C none) ∧
  ∀ dx, H dx = none → dx ≠ a → Q .non (upd (upd H dx (exd dx [(f, y)])) a (exo a C (some dx)))
def spX2 (K : PySem.W.Frag) (f g : Str) : Sp := fun vs H Q _ => ∃ (a C : Addr) (y z : V), vs = [.ref a, y, z] ∧ OexC K C ∧ PySem.W.findIn K (.ref C) f = some none ∧ PySem.W.findIn K (.ref C) g = some none ∧ H a = some (exo a C none) ∧
  ∀ dx, H dx = none → dx ≠ a → Q .non (upd (upd (upd H dx (exd dx [(f, y)])) a (exo a C (some dx))) dx (exd dx [(g, z), (f, y)]))
def tX1 (K : PySem.W.Frag) (tx f : Str) : TS := tSeq (tDrop (tVeI K (tCons (tVar 0) (tCons (tC (.str tx)) tNil)))) (tOst K f (tVar 0) (tVar 1))
def tX2 (K : PySem.W.Frag) (tx f g : Str) : TS := tSeq (tDrop (tVeI K (tCons (tVar 0) (tCons (tC (.str tx)) tNil)))) (tSeq (tOst K f (tVar 0) (tVar 1)) (tOst K g (tVar 0) (tVar 2)))
section
variable {P : Program} {w : World} {K : PySem.W.Frag} {mg : Str → Option Value} {base : Heap} {qual f g tx : Str} {pa : Arguments} {bd : List Stmt} {sc : Scope} {fI : Addr} {fd : FuncData}
theorem fn_exI1 (tx : Str) (F : FunD K "__init__" qual pa bd sc [] [] fI fd) (S : FnScope ["self", f] ["self", f] sc)
    (hb : ∀ (cdv : Value) (A : Around) (outer : List Env) (s : Shared) (H : Hp) (E : XK), PSs (cxOf (L2.CX P w) P w K mg base ["self", f] qual sc fI cdv A outer s H E) bd (tX1 K tx f)) :
    FnOk P w K mg base (L2.CX P w) 1 fI fd ["self", f] (spX1 K f) := by
  refine F.ok S (fun vs H Q E h => by obtain ⟨a, C, y, rfl, _⟩ := h; rfl) fun cdv A outer s H vs Q E hr hsp => ?_
  obtain ⟨a, C, y, rfl, T, hno, ea, q⟩ := hsp
  refine ⟨_, hb cdv A outer s H E, ?_⟩
  refine ⟨_, rfl, a, C, _, rfl, ?_, T, ea, ?_⟩
  · exact Nat.le_of_ble_eq_true rfl
  · exact ⟨_, rfl, _, rfl, a, C, rfl, T, hno, .inl ⟨ea, fun dx n ne => q dx n ne⟩⟩
end
end T5
namespace T5
open PySem PySem.Spec PyProof.Rows L2
variable [TabC]
/-! ### raise c(..) -/
structure ExcF (K : PySem.W.Frag) (mg : Str → Option Value) (c : String) (C fI : Addr) : Prop where
  at_ : mg (Str.ofString c) = some (.ref C)
  oex : OexC K C
  ini : PySem.W.findIn K (.ref C) "__init__" = some (some (.ref fI))
  ty : PySem.W.typeIn K (.ref fI) = some (.type "function")
def sRaise (c : String) (ks : List String) (m : MA) : MS := fun env st => (m env st).toS env fun ds st1 => if ds.length = ks.length then .ex c ks.reverse ds.reverse env st1 else .bad
section
variable {X : Cx} {c f g : String} {C fI : Addr} {x : Str} {e : Expr} {es : List Expr} {ma : MA} {p pos pos' : Pos} {fd : FuncData}
theorem ext_xd {K : PySem.W.Frag} {mg : Str → Option Value} {μ : Mu} {H H2 : Hp} {st : Store} {a dx : Addr} {fs : List (Str × V)} (r : Rel K mg μ H st) (ha : H a = none) (hd : H dx = none) (hs : ∀ b o, H b = some o → H2 b = some o) : Same H (upd (del H2 a) dx (.xd fs)) := fun b o eb => by
  rw [upd_ne (ne_of_none eb hd), del_ne (ne_of_none eb ha)]
  exact hs b o eb
theorem ss_raise1 (hc : X.calm = true) (EF : ExcF X.K X.mg c C fI) (hno : PySem.W.findIn X.K (.ref C) (Str.ofString f) = some none) (G : ∃ fd, FnOk X.prog X.w X.K X.mg X.base (L2.CX X.prog X.w) 1 fI fd ["self", Str.ofString f] (spX1 X.K (Str.ofString f)) ∧ Binds X.K fd ["self", Str.ofString f] [])
    (hr : Room 2 X.A) (hg : Gl X x) (ha : SA X (e :: es) ma) (hx : x = Str.ofString c := by rfl) (hdb : (x == ("__debug__" : Str)) = false := by decide)
    (he : starEach (e :: es) X.env = (false, eval e X.env) :: starEach es X.env := by rfl) (hpl : (backTo pos' (starEach es X.env)).any (·.1) = false := by rfl) :
    SS X (.Raise (some (.Call (.Name x p) (e :: es) [] pos')) none pos) (sRaise c [f] ma) := fun pn xe W tk hp => by
  obtain ⟨fd, G, hb⟩ := G
  refine PS.imp (ps_raise (X := X.tr pn xe) hc tk (pmk_oex (X := X.tr pn xe) (CX := L2.CX X.prog X.w) (ds := []) (dvs := []) EF.oex EF.ini EF.ty G hr hb .nil pass_no hg (hx ▸ EF.at_) (ha pn xe W tk) hdb he hpl)) fun En σ H h => ?_
  obtain ⟨μ, env, st, r, re, q⟩ := h
  refine ⟨μ, env, st, r, re, (AftS.ofR re q).imp fun ds st1 μ1 H1 x1 r1 q1 vs hv => ?_⟩
  split at q1
  · rename_i hl
    cases ds with
    | nil => simp at hl
    | cons d ds =>
      cases ds with
      | cons _ _ => simp at hl
      | nil =>
        obtain ⟨v, w, rfl, hv1, hv2⟩ := hv
        have hw : w = [] := hv2
        subst hw
        refine ⟨Nat.le_of_ble_eq_true rfl, fun a na => ⟨a, C, v, rfl, EF.oex, hno, upd_same, fun dx nd ne => ?_⟩⟩
        have nd1 : H1 dx = none := by rwa [upd_ne ne] at nd
        refine ⟨rfl, dx, [(Str.ofString f, v)], upd_same, by rw [upd_ne ne]; exact upd_same, nd1, ?_⟩
        have sm := ext_xd (fs := [(Str.ofString f, v)]) (H2 := upd (upd (upd H1 a (exo a C none)) dx (exd dx [(Str.ofString f, v)])) a (exo a C (some dx))) r1 na nd1 fun b o eb => by
          rw [upd_ne (ne_of_none eb na), upd_ne (ne_of_none eb nd1), upd_ne (ne_of_none eb na)]
          exact eb
        have x2 := Ext.same r1 sm
        exact q1 μ1 _ σ C dx [v] x2 (r1.same sm) ((re.ext x1).ext x2) EF.at_ rfl (by rw [upd_same]; rfl) (r1.nin nd1) ⟨v, [], rfl, hv1.ext x2, rfl⟩
  · exact q1.elim
end
end T5
namespace T5
open PySem PySem.Spec PyProof.Rows L2
variable [TabC]
/-! ### try: .. except (A, B) as n: x = n, the exception kept as a value -/
section
variable {X : Cx} {pins : List (Addr × Obj)} {σ : L2.St} {H : Hp} {s : Shared} {a C dx : Addr} {oe : Obj} {vs : Array Value}
/-- an exception's object is known from now on -/
theorem Inv.track (J : Inv X pins σ H s) (e0 : s.heap.get? a = some oe) (ed : oe.data = .fields vs) (ez : Zc (.ref C) (some dx) oe) (na : H a = none) (nL : a ≠ X.env.locals) (n0 : X.s_0.heap.get? a = none) (nP : ∀ p ∈ X.pn ++ pins, p.1 ≠ a) :
    Inv X pins σ (upd H a (exV a C dx)) s := by
  have ne : ∀ {b : Addr} {u : HO}, H b = some u → b ≠ a := fun z => ne_of_none z na
  have old : ∀ {b : Addr} {o : Obj}, X.s_0.heap.get? b = some o → b ≠ a := fun {b o} z w => by
    rw [w, n0] at z
    cases z
  refine ⟨J.ok, J.os, J.bare, ⟨J.base.keep, J.base.slot, fun b o z n x => ?_, J.base.there, fun b xs z => ?_, fun b o u z => ?_, fun b ps z => ?_⟩, J.loc, J.cell, ?_, fun x c z => ?_, fun p hp => ?_, fun b u z => ?_, J.len⟩
  · rw [upd_ne (old z)]
    exact J.base.free b o z n x
  · have w := J.base.tups b xs z
    rw [upd_ne (ne w)]
    exact w
  · have w := J.base.frzs b o u z
    rw [upd_ne (ne w)]
    exact w
  · obtain ⟨m, w⟩ := J.base.tbls b ps z
    exact ⟨m, by rw [upd_ne (ne w)]; exact w⟩
  · rw [upd_ne (Ne.symm nL)]
    exact J.free
  · have nc : c ≠ a := fun w => by
      obtain ⟨v, o, q1, q2⟩ := J.cell x c z
      rw [w, e0] at q1
      cases q1
      rw [ed] at q2
      cases q2
    rw [upd_ne nc]
    exact J.freeC x c z
  · obtain ⟨q1, q2, q3, q4, q5⟩ := J.pin p hp
    exact ⟨q1, by rw [upd_ne (nP p hp)]; exact q2, q3, q4, q5⟩
  · by_cases hb : b = a
    · subst hb
      rw [upd_same] at z
      cases z
      exact ⟨⟨oe, vs, e0, ez, ed⟩, ⟨oe, e0⟩, fun h1 h2 ⟨o, w, q1, q2, q3⟩ k => ⟨o, w, k _ q1, q2, q3⟩⟩
    · rw [upd_ne hb] at z
      refine (J.hok b u z).stay (fun c v _ w => w) (fun c w => ?_) fun c xs w => ?_
      · rw [upd_ne (ne w)]
        exact w
      · rw [upd_ne (ne w)]
        exact w
theorem flying_push {B : Heap} {l : List Env} {Z : Obj → Prop} {h : Heap} {o : Obj} (x : HandSPX.FlyingZ B l a Z h) : HandSPX.FlyingZ B l a Z (h.push o) := by
  obtain ⟨f1, f2, f3, oe, vs, T, oT, ts, g1, g2, g3, g4, g5, g6, g7, g8⟩ := x
  exact ⟨fun b u z => Heap.get?_push_of_some _ (f1 b u z), f2, Heap.FunFrames.of_keeps (fun b u z _ => ⟨u, Heap.get?_push_of_some _ z, rfl⟩) f3, oe, vs, T, oT, ts, Heap.get?_push_of_some _ g1, g2, g3, g4, g5, g6, Heap.get?_push_of_some _ g7, g8⟩
end
/-- what the clause wishes of an exception of the body: i is the name's slot, j that of what keeps it -/
def wHold (K : PySem.W.Frag) (c1 c2 : Value) (i j : Nat) (D : Ends) : WX := fun cls d σ H =>
  ∃ C dx, cls = .ref C ∧ d = some dx ∧ PySem.W.exmAny K cls [c1, c2] = some true ∧ ∀ a, H a = none → D.nx (((σ.set i (some (.ref a))).set j (some (.ref a))).set i none) (upd H a (exV a C dx))
section
variable {X : Cx} {xA xB n x : Str} {c1 c2 : Addr} {i j : Nat} {body : List Stmt} {k0 : Nat} {pos p1 p2 p3 p4 p5 p6 p7 : Pos} {tb : WX → TS}
theorem ps_try_hold (hs : X.stack = X.env :: X.outer) (hf : X.env.frame = some X.env.locals) (hex : X.ex = []) (hN : X.N.Nodup) (hi : X.N[i]? = some n) (hj : X.N[j]? = some x) (hij : i ≠ j) (hln : X.env.kindOf n = some .local) (hlx : X.env.kindOf x = some .local)
    (hA : Gl X xA) (mA : X.mg xA = some (.ref c1)) (hB : Gl X xB) (mB : X.mg xB = some (.ref c2)) (dA : (xA == ("__debug__" : Str)) = false) (dB : (xB == ("__debug__" : Str)) = false) (dn : (n == ("__debug__" : Str)) = false) (dn2 : (n == ("__classdict__" : Str)) = false)
    (hst : ∀ (a : Addr) (pn : List (Addr × Obj)), swapsWith (.Name n p4) (some (.Name x p5)) p6.line (X.suite a pn).env = pure false)
    (hsp : ∀ (a : Addr) (oe : Obj), backTo p3 (starEach [.Name xA p1, .Name xB p2] X.env) = [(false, eval (.Name xA p1) X.env), (false, eval (.Name xB p2) X.env)])
    (hb : ∀ (W : WX) (pn : List (Addr × Obj)) (xe : Value → Shared → Prop), Takes (X.tr pn xe) W → PassesOwn (model X.prog X.w) X.A X.env xe → PSs (X.tr pn xe) body (tb W)) :
    PS X (.Try body [.ExceptHandler (some (.Tuple [.Name xA p1, .Name xB p2] k0 p3)) (some n) [.Assign [.Name x p5] (.Name n p4) p6] p7] [] [] pos) (fun D σ H => tb (wHold X.K (.ref c1) (.ref c2) i j D) D σ H) := by
  constructor
  intro pins s σ H D I h
  have ok := I.ok
  have fr := ok.frames
  rw [hs] at fr
  refine wpAny_Try_except (wpAny_mono ((hb (wHold X.K (.ref c1) (.ref c2) i j D) (X.pn ++ pins) _ (fun u s2 air => ?hit) PassesOwn.looking).run [] s σ H D (I.toTry _) h) (fun f s1 q => ?thr) (fun _ _ z => z))
  case thr =>
    cases f <;> first
      | (obtain ⟨σ1, H1, I1, q1⟩ := q; exact wpAny_execs_nil ⟨σ1, H1, I1.ofTry ok, q1⟩)
      | (obtain ⟨σ1, H1, I1, q1⟩ := q; exact ⟨σ1, H1, I1.ofTry ok, q1⟩)
      | (obtain ⟨v, σ1, H1, I1, r1, q1⟩ := q; exact ⟨v, σ1, H1, I1.ofTry ok, r1, q1⟩)
  case hit =>
    obtain ⟨a, B, sI, pins2, σ2, H2, cls, d, rfl, I2, ground, slots, sky, na, os, bare, C, dx, rfl, rfl, match_, wish⟩ := air
    have I3 : Inv X pins σ2 H2 sI := I2.ofTry ok
    rw [show (X.tr (X.pn ++ pins) _).stack = X.env :: X.outer from hs] at sky
    refine Sky.land Zc.steady fr hf sky fun h3 fl3 up3 => ?_
    obtain ⟨oe, vs, at3, z3, d3⟩ := fl3.there
    have nfr : a ∉ frs (X.env :: X.outer) := fun m => by
      obtain ⟨_, o, e, nf⟩ := fl3.2.2.1.mem m
      rw [at3] at e
      cases e
      exact nf _ d3
    have nLoc : a ≠ X.env.locals := fun z => nfr (List.mem_filterMap.mpr ⟨X.env, List.mem_cons_self, by rw [hf, z]⟩)
    have nOut : a ∉ X.fs := fun m => by
      obtain ⟨e, he, q⟩ := List.mem_filterMap.mp m
      exact nfr (List.mem_filterMap.mpr ⟨e, List.mem_cons_of_mem _ he, q⟩)
    have gr : ∀ b o, sI.heap.get? b = some o → b ∉ frs X.stack → b ≠ a := fun b o e m z => by
      have w := ground b o e m
      rw [z, fl3.2.1] at w
      cases w
    have n0 : X.s_0.heap.get? a = none := by
      cases e : X.s_0.heap.get? a with
      | none => rfl
      | some o =>
        obtain ⟨o2, w⟩ := I3.base.there a o e (by rw [hex]; exact fun z => nomatch z)
        exact absurd rfl (gr a o2 w (by rw [hs]; exact nfr))
    have nP : ∀ p ∈ X.pn ++ pins, p.1 ≠ a := fun p hp => by
      obtain ⟨q1, q2, q3, q4, _⟩ := I3.pin p hp
      refine gr p.1 p.2 q1 fun m => ?_
      rcases List.mem_cons.mp (I3.stkSub _ m) with z | z
      · exact q3 z
      · exact q4 z
    -- the state on the ground, at any heap behind
    have land : ∀ {h : Heap}, HandSPX.FlyingZ B (X.env :: X.outer) a (Zc (.ref C) (some dx)) h → s2.heap.UpToSlots h → Inv X pins σ2 H2 { s2 with heap := h } := fun fl up => I3.landed ground fl.1 (slots.trans up) os bare
    have K3 : X.K.In h3 := (land fl3 up3).kIn
    have up4 : s2.heap.UpToSlots (h3.push { cls := .type "tuple", data := .seq [Value.ref c1, Value.ref c2].toArray }) := up3.trans (Heap.UpToSlots.of_keeps fun b o e => Heap.get?_push_of_some _ e)
    have fl4 := flying_push (o := { cls := .type "tuple", data := .seq [Value.ref c1, Value.ref c2].toArray }) fl3
    obtain ⟨oe4, vs4, at4, z4, d4⟩ := fl4.there
    refine wpAny_handleBy_cons (codeAny_handlers_test (wpAny_Tuple_spliced ?_)) (by intro q; cases q)
    have S3 := (land fl3 up3).suite at3 d3 na nLoc nOut
    rw [hsp a oe]
    refine Calls.spliced_cons (ld_glob (X := X.suite a ((a, oe) :: (X.pn ++ pins))) S3 hA mA ?_ dA)
    refine Calls.spliced_cons (ld_glob (X := X.suite a ((a, oe) :: (X.pn ++ pins))) S3 hB mB ?_ dB)
    refine Calls.spliced_nil ⟨Nat.le_of_ble_eq_true rfl, ?_⟩
    have LT : PySem.W.Looks (model X.prog X.w) (h3.push { cls := .type "tuple", data := .seq [Value.ref c1, Value.ref c2].toArray }) (typeOf (.ref a)) (.ref C) := fun _ _ _ _ k q => wpAny_typeOf_ref (k _ _ at4) (by rw [z4.1]; exact q)
    have LM := PySem.W.exm_tup2 (M := model X.prog X.w) (tp := h3.objs.size) ((land fl4 up4).kIn) LT (Heap.get?_push_size _ rfl) match_
    refine LM.here (codeAny_handlers_suite_as (HandSPX.lands_againZ fl4 fun h5 fl5 up5 => ?_))
    obtain ⟨oe5, vs5, at5, z5, d5⟩ := fl5.there
    have S5 := (land fl5 (up4.trans up5)).suite at5 d5 na nLoc nOut
    refine store_ok (X := X.suite a ((a, oe5) :: (X.pn ++ pins))) (v := .ref a) S5 hN hi (.inl hln) rfl (fun s6 S6 => ?_) (.inr hln)
    have hn6 : (σ2.set i (some (V.ref a)))[i]? = some (some (V.ref a)) := List.getElem?_set_self (by rw [S5.len]; exact (List.getElem?_eq_some_iff.mp hi).1)
    have bd := pss_one (ps_set (X := X.suite a ((a, oe5) :: (X.pn ++ pins))) (pos := p6) (pos' := p5) (i := j) hN hj (.inl hlx) (pe_var (pos := p4) (i := i) hi (.inl hln) dn dn2) (hst a _) (.inr hlx))
    refine wpAny_mono (bd.run [] s6 _ H2 { nx := fun σ7 H7 => σ7 = (σ2.set i (some (V.ref a))).set j (some (V.ref a)) ∧ H7 = H2, rt := fun _ _ => False } S6 ⟨_, hn6, rfl, rfl⟩) (fun f s7 q => ?_) fun _ _ z => False.elim z
    cases f with
    | next =>
      obtain ⟨σ7, H7, S7, e1, e2⟩ := q
      subst e1 e2
      obtain ⟨w1, w2, _⟩ := S7.pin (a, oe5) (List.mem_append.mpr (.inl List.mem_cons_self))
      have J7 : Inv X pins _ _ s7 := Inv.track (S7.unsuite ok) w1 d5 z5 w2 nLoc n0 nP
      exact gone_ok J7 hN hi hln fun s8 J8 => ⟨_, _, J8, wish a na⟩
    | brk => obtain ⟨_, _, _, z⟩ := q; exact z.elim
    | cont => obtain ⟨_, _, _, z⟩ := q; exact z.elim
    | ret u => obtain ⟨_, _, _, _, _, z⟩ := q; exact z.elim
end
end T5
namespace T5
open PySem PySem.Spec PyProof.Rows L2
variable [TabC]
/-! ### isinstance of an exception that is kept, its fields -/
section
open PySem.W PySem.Calls
variable {prog : Program} {w : World} {A : Around} {E : Value → Shared → Prop} {s : Shared} {K : Frag} {x D : Addr} {ox : Obj} {od : Option Obj}
theorem find_cls_any (C : ExcC K D) : findObj K D od "__class__" = some (.bind (.builtin "getset_descriptor.__get__") (.builtin "object.__class__")) := by
  obtain ⟨cd, hc, _⟩ := any_some C.hd
  unfold findObj
  rw [hc, Option.bind_some, C.ha, Option.bind_some]
  simp [C.hn, C.ht]
theorem cls_of_exc {Q : Option Value → Shared → Prop} (C : ExcC K D) (X : K.In s.heap) (I : InstAt s.heap x ox D od) (h : Q (some (.ref D)) { s with toks := s.toks + 1 }) : wpAny (model prog w) A (getAttr? (.ref x) "__class__") Q E s := by
  obtain ⟨hp, g, d, t, os⟩ := s
  have Lt := I.type (M := model prog w)
  have Lg := looks_findIn (M := model prog w) X C.hg
  have Lk := looks_findIn (M := model prog w) X C.hk
  have Lf := looks_find (M := model prog w) X I (find_cls_any C)
  have Ls : Looks (model prog w) hp (isInstance (.ref x) (.type "BaseException")) true := Lt.andThen (looks_subIn X C.hs)
  have n0 : (false && onTheHeap (Value.builtin "BaseException.__getattribute__")) = false := rfl
  have n2 : (Value.builtin "BaseException.__getattribute__" == Value.builtin "object.__getattribute__") = false := by decide +kernel
  have n1 : (onTheHeap (Value.ref D) && Value.builtin "BaseException.__getattribute__" == Value.builtin "object.__getattribute__") = false := by rw [n2]; rfl
  unfold getAttr? getAttrBy? getAttrBy
  refine wpAny_bind (wpAny_mkText (wpAny_bind (wpAny_attempt (wpAny_holding (wpAny_bind (Lt.at (wpAny_bind (Lg.at ?_))))))))
  show wpAny _ _ (if (onTheHeap (Value.ref D) && Value.builtin "BaseException.__getattribute__" == Value.builtin "object.__getattribute__") = true then _ else _) _ _ _
  rw [n1, if_neg Bool.false_ne_true]
  unfold getAttrByItsOwn hookBefore
  refine wpAny_bind ?_
  rw [if_pos (show onTheHeap (Value.ref D) = true from rfl)]
  refine Lk.at (wpAny_bind (wpAny_attempt (wpAny_holding ?_)))
  unfold callGetattribute
  rw [n0, if_neg Bool.false_ne_true]
  unfold boundAndCalled
  rw [PySem.F.excAttr_ValueError.ga.bind (.ref x)]
  refine wpAny_bind (wpAny_pure ?_)
  show wpAny _ _ (call (.builtin "BaseException.__getattribute__") [.ref x, .str "__class__" t]) _ _ _
  refine wpAny_call (codeAny_call_builtin PySem.F.excAttr_ValueError.ga.plain PySem.F.entry_bexc_ga (@check_slot (model prog w) _ _ ⟨hp, g, d, t + 1, os⟩ "BaseException.__getattribute__" "BaseException" "__getattribute__" (.ref x) [.str "__class__" t] [] _ (by decide +kernel) (by decide +kernel) Ls (PySem.F.args_bexc_ga (.ref x) (.str "__class__" t)) ?_))
  unfold Builtin.«object.__getattribute__»
  refine wpAny_bind (wpAny_of_eq (a := ((Value.ref x : Value), [Value.str "__class__" t])) (by first | rfl | (simp only [slotArgs]; rfl)) (wpAny_bind (wpAny_pure (wpAny_bind (Lt.at (wpAny_bind (Lf.at ?_)))))))
  show wpAny _ _ (holding [Value.builtin "object.__class__"] (call (.builtin "getset_descriptor.__get__") [.builtin "object.__class__", .ref x, .ref D]) >>= ret) _ _ _
  refine wpAny_bind (wpAny_holding (wpAny_call (class_get (s := ⟨hp, g, d, t + 1, os⟩) (ox := ox) (od := od) X I C.hm (wpAny_pure ?_))))
  show wpAny _ _ (handedOut (.ref D)) _ _ _
  rw [handedOut_of (v := .ref D) rfl]
  first
    | exact wpAny_pure (wpAny_pure h)
    | exact wpAny_pure h
    | exact wpAny_pure (wpAny_bind (wpAny_pure (wpAny_pure h)))
theorem kitx_exc (C : ExcC K D) : KitX K (.ref x) (.ref D) (fun h => ∃ od, InstAt h x ox D od) where
  ty := fun _ _ _ ⟨_, I⟩ => I.type
  it := fun _ _ X _ => by
    obtain ⟨cd, hc, _⟩ := any_some C.hd
    unfold clsIn at hc
    split at hc
    · rename_i c1 d1 cd1 sl1 ho
      intro A1 Q1 E1 s1 k q
      unfold isType loadHead
      exact wpAny_bind (wpAny_loadPart (k _ _ (X _ _ ho)) (wpAny_pure q))
    · cases hc
  ne := fun h tp dd its n sl X htp => by
    obtain ⟨cd, hc, _⟩ := any_some C.hd
    refine Bool.eq_false_iff.mpr fun q => ?_
    have e : D = tp := Value.ref.inj (beq_iff_eq.mp q)
    subst e
    unfold clsIn at hc
    split at hc
    · rename_i c1 d1 cd1 sl1 ho
      have z := (X _ _ ho).symm.trans htp
      cases z
    · cases hc
  ca := fun X ⟨_, I⟩ k => cls_of_exc C X I k
end
/-- what the top says of an exception class, for its kept instances -/
structure ExcK (K : PySem.W.Frag) (mg : Str → Option Value) (c : String) (C : Addr) : Prop where
  at_ : mg (Str.ofString c) = some (.ref C)
  ec : ExcC K C
section
variable {X : Cx} {pins : List (Addr × Obj)} {σ : L2.St} {H : Hp} {s : Shared} {a C dx : Addr}
theorem exV_at (I : Inv X pins σ H s) (h : H a = some (exV a C dx)) (hd : ∃ fs, H dx = some (.xd fs)) : ∃ oe o, PySem.W.InstAt s.heap a oe C (some o) := by
  have z : ObjOk X.prog X.w H s.heap a (.ext fun h => ∃ (oe : Obj) (vs : Array Value), h.get? a = some oe ∧ Zc (.ref C) (some dx) oe ∧ oe.data = .fields vs) := I.hok a _ h
  obtain ⟨⟨oe, vs, e1, ⟨e2, e3⟩, e4⟩, _⟩ := z
  obtain ⟨fs, hd⟩ := hd
  have y : ObjOk X.prog X.w H s.heap dx (.xd fs) := I.hok dx _ hd
  obtain ⟨mA, ⟨o, es, ep, ho, _⟩, _⟩ := y
  exact ⟨oe, o, e1, e2, by unfold PySem.W.notCls; rw [e4] <;> rfl, by rw [e3]; exact ho⟩
/-- there stands an exception -/
def ExAt (H : Hp) (a C : Addr) : Prop := (∃ dx fs, H a = some (exV a C dx) ∧ H dx = some (.xd fs)) ∨ H a = some (exN a C)
theorem exAt (I : Inv X pins σ H s) (h : ExAt H a C) : ∃ oe od, PySem.W.InstAt s.heap a oe C od := by
  rcases h with ⟨dx, fs, h, hd⟩ | h
  · obtain ⟨oe, o, J⟩ := exV_at I h ⟨fs, hd⟩
    exact ⟨oe, some o, J⟩
  · have z : ObjOk X.prog X.w H s.heap a (.ext fun h => ∃ (oe : Obj) (vs : Array Value), h.get? a = some oe ∧ Zc (.ref C) none oe ∧ oe.data = .fields vs) := I.hok a _ h
    obtain ⟨⟨oe, vs, e1, ⟨e2, e3⟩, e4⟩, _⟩ := z
    exact ⟨oe, none, e1, e2, by unfold PySem.W.notCls; rw [e4] <;> rfl, by rw [e3]; trivial⟩
/-- isinstance(e, c) -/
def rIsX (K : PySem.W.Frag) : List V → Hp → VK → Prop := fun xs H Q => ∃ (a C : Addr) (c : V) (cv : Value) (b : Bool), xs = [.ref a, c] ∧ ExAt H a C ∧ ExcC K C ∧ (∀ u, RelV c u → u = cv) ∧ PySem.W.kitOne K (.ref C) cv = some b ∧ Q (.bl b) H
theorem call_isX : CallR X (.builtin "isinstance") (rIsX X.K) := by
  intro pins s σ H xs us Q I r h
  obtain ⟨a, C, c, cv, b, rfl, ha, EC, hcv, hk, q⟩ := h
  cases r with
  | cons rx rr =>
    cases rr with
    | cons rt rr =>
      cases rr
      cases rx
      have ec := hcv _ rt
      subst ec
      obtain ⟨oe, od, J⟩ := exAt I ha
      exact PySem.W.kia_one (kitx_exc EC) I.kIn ⟨od, J⟩ hk (fun z => nomatch z) fun tk => ⟨.bl b, H, I.kept (t' := tk) fun _ _ z => z, rfl, q⟩
end
end T5
namespace T5
open PySem PySem.Spec PyProof.Rows L2
variable [TabC]
/-! ### kept exceptions as data: try, isinstance, fields -/
def sTry (cs : List String) (i j : Nat) (m : MS) : MS := fun env st => match m env st with
  | .ex c ks vs e st1 => if cs.contains c = true then .nx (((e.set i (some (.exc c ks vs))).set j (some (.exc c ks vs))).set i none) st1 else .bad
  | r => r
section
variable {X : Cx} {xA xB n x : Str} {c1 c2 : Addr} {i j : Nat} {body : List Stmt} {k0 : Nat} {pos p1 p2 p3 p4 p5 p6 p7 : Pos} {m : MS} {cs : List String}
theorem ss_try (hs : X.stack = X.env :: X.outer) (hf : X.env.frame = some X.env.locals) (hex : X.ex = []) (hN : X.N.Nodup) (hi : X.N[i]? = some n) (hj : X.N[j]? = some x) (hij : i ≠ j) (hln : X.env.kindOf n = some .local) (hlx : X.env.kindOf x = some .local)
    (hA : Gl X xA) (mA : X.mg xA = some (.ref c1)) (hB : Gl X xB) (mB : X.mg xB = some (.ref c2)) (hcs : ∀ c ∈ cs, ∃ C, X.mg (Str.ofString c) = some (.ref C) ∧ PySem.W.exmAny X.K (.ref C) [.ref c1, .ref c2] = some true) (hb : SSs X body m)
    (dA : (xA == ("__debug__" : Str)) = false := by decide) (dB : (xB == ("__debug__" : Str)) = false := by decide) (dn : (n == ("__debug__" : Str)) = false := by decide) (dn2 : (n == ("__classdict__" : Str)) = false := by decide)
    (hst : ∀ (a : Addr) (pn : List (Addr × Obj)), swapsWith (.Name n p4) (some (.Name x p5)) p6.line (X.suite a pn).env = pure false := by intro _ _; rfl)
    (hsp : ∀ (a : Addr) (oe : Obj), backTo p3 (starEach [.Name xA p1, .Name xB p2] X.env) = [(false, eval (.Name xA p1) X.env), (false, eval (.Name xB p2) X.env)] := by intro _ _; rfl) :
    SS X (.Try body [.ExceptHandler (some (.Tuple [.Name xA p1, .Name xB p2] k0 p3)) (some n) [.Assign [.Name x p5] (.Name n p4) p6] p7] [] [] pos) (sTry cs i j m) := fun pn xe W tk hp => by
  refine PS.imp (ps_try_hold (X := X.tr pn xe) (tb := fun W => tS X.K X.mg W m) hs hf hex hN hi hj hij hln hlx hA mA hB mB dA dB dn dn2 (fun a pn' => hst a pn') hsp (fun W pn' xe' tk' hp' => hb pn' xe' W tk' hp')) fun D σ H h => ?_
  obtain ⟨μ, env, st, r, re, q⟩ := h
  refine ⟨μ, env, st, r, re, ?_⟩
  unfold sTry at q
  cases e : m env st with
  | nx e1 st1 => rw [e] at q; exact q
  | rt d st1 => rw [e] at q; exact q
  | bk e1 st1 => rw [e] at q; exact q
  | ct e1 st1 => rw [e] at q; exact q
  | bad => rw [e] at q; exact q
  | ex c ks vs e1 st1 =>
    rw [e] at q
    simp only at q
    split at q
    · rename_i hc
      intro μ1 H1 σ1 C dx us x1 r1 re1 g1 l1 d1 n1 q1
      obtain ⟨C', g2, me⟩ := hcs c (by simpa using hc)
      rw [g1] at g2
      cases g2
      refine ⟨C, dx, rfl, rfl, me, fun a na => ?_⟩
      have sm := same_upd (o := exV a C dx) na
      have x2 := Ext.same r1 sm
      have rx : Rep X.K X.mg μ1 (upd H1 a (exV a C dx)) (.exc c ks vs) (.ref a) := ⟨a, C, dx, us, rfl, r1.nin na, g1, l1, .inl ⟨upd_same, n1, by rw [upd_ne (ne_of_none d1 na)]; exact d1⟩, q1.ext x2⟩
      exact q μ1 _ _ (x1.trans x2) (r1.same sm) ((((re1.ext x2).set rx i).set rx j).none i none)
    · exact q.elim
end
/-! isinstance of a kept exception -/
abbrev Tbl := List (String × Bool × String × Bool)
def lkT (tb : Tbl) (c : String) (k : Bool) (n : String) : Option D := (tb.find? fun e => e.1 == c && e.2.1 == k && e.2.2.1 == n).map fun e => .bl e.2.2.2
def fIsX (tb : Tbl) : BF := fun _ ds => match ds with
  | [.exc c _ _, .cls n] => lkT tb c true n
  | [.exc c _ _, .ty n] => lkT tb c false n
  | _ => none
def TblOk (K : PySem.W.Frag) (mg : Str → Option Value) (tb : Tbl) : Prop := ∀ e ∈ tb, ∃ C, mg (Str.ofString e.1) = some (.ref C) ∧ ExcC K C ∧
  if e.2.1 = true then ∃ C', mg (Str.ofString e.2.2.1) = some (.ref C') ∧ PySem.W.kitOne K (.ref C) (.ref C') = some e.2.2.2 else PySem.W.kitOne K (.ref C) (.type e.2.2.1) = some e.2.2.2
theorem lkT_mem {tb : Tbl} {c n : String} {k : Bool} {d : D} (h : lkT tb c k n = some d) : ∃ b, (c, k, n, b) ∈ tb ∧ d = .bl b := by
  obtain ⟨e, h1, rfl⟩ := Option.map_eq_some_iff.mp h
  have h2 := List.find?_some h1
  simp only [Bool.and_eq_true, beq_iff_eq] at h2
  obtain ⟨⟨rfl, rfl⟩, rfl⟩ := h2
  exact ⟨e.2.2.2, List.mem_of_find?_eq_some h1, rfl⟩
section
variable {X : Cx} {K : PySem.W.Frag} {mg : Str → Option Value} {tb : Tbl} {e : Expr} {es : List Expr} {ma : MA} {m : ME} {p pos : Pos}
theorem repx_at {μ : Mu} {H : Hp} {a C dx : Addr} {ks : List String} {fs : List (Str × V)} (h : (H a = some (exV a C dx) ∧ dx ∉ μ ∧ H dx = some (.xd fs)) ∨ (ks = [] ∧ H a = some (exN a C))) : ExAt H a C :=
  h.imp (fun z => ⟨dx, _, z.1, z.2.2⟩) fun z => z.2
theorem calld_isX (F : TblOk K mg tb) : CallD K mg (rIsX K) (fIsX tb) := by
  intro μ H st ds d vs Q r hv e q
  unfold fIsX at e
  split at e
  · rename_i c ks us n
    obtain ⟨b, hm, rfl⟩ := lkT_mem e
    obtain ⟨C, g, ec, z⟩ := F _ hm
    rw [if_pos rfl] at z
    obtain ⟨C', g', kt⟩ := z
    obtain ⟨v, v2, rfl, h1, C2, rfl, h2⟩ := repL2 hv
    obtain ⟨a, C3, dx, ws, rfl, n1, g1, l1, e1, h3⟩ := h1
    cases h2.symm.trans g'
    cases g1.symm.trans g
    exact ⟨a, _, _, .ref _, b, rfl, repx_at e1, ec, fun u hu => hu, kt, q H _ Ext.refl r rfl⟩
  · rename_i c ks us n
    obtain ⟨b, hm, rfl⟩ := lkT_mem e
    obtain ⟨C, g, ec, z⟩ := F _ hm
    have z : PySem.W.kitOne K (.ref C) (.type n) = some b := z
    obtain ⟨v, v2, rfl, h1, h2⟩ := repL2 hv
    have h2' : v2 = .ty n := h2
    subst h2'
    obtain ⟨a, C3, dx, ws, rfl, n1, g1, l1, e1, h3⟩ := h1
    cases g1.symm.trans g
    exact ⟨a, _, _, .type n, b, rfl, repx_at e1, ec, fun u hu => hu, z, q H _ Ext.refl r rfl⟩
  · cases e
theorem se_isX (F : TblOk X.K X.mg tb) (hg : Gl X "isinstance") (hm : X.mg "isinstance" = none) (ha : SA X (e :: es) ma)
    (he : starEach (e :: es) X.env = (false, eval e X.env) :: starEach es X.env := by rfl) (hpl : (backTo pos (starEach es X.env)).any (·.1) = false := by rfl) : SE X (.Call (.Name "isinstance" p) (e :: es) [] pos) (eCB (fIsX tb) ma) :=
  se_callB (fun _ _ => call_isX) (calld_isX F) hg hm PyProof.Rows.boot_isinstance ha (by decide) (by decide) he hpl
/-! e.f of a kept exception -/
def eXf (cs : List String) (f : String) (m : ME) : ME := fun env st => (m env st).bind fun d st1 => match d with
  | .exc c ks vs => if cs.contains c = true then ofO (lookF f ks vs) st1 else .bad
  | _ => .bad
/-- the reading -/
def tXv (K : PySem.W.Frag) (n : Str) (te : TE) : TE := fun σ H Q => te σ H fun x H1 => ∃ (a C dx : Addr) (fs : List (Str × V)) (v : V), x = .ref a ∧ H1 a = some (exV a C dx) ∧ H1 dx = some (.xd fs) ∧ ExcC K C ∧ PySem.W.findIn K (.ref C) n = some none ∧ fs.lookup n = some v ∧ Q v H1
theorem pe_xv {te : TE} {n : Str} (he : PE X e te) (hb : attributeBase e n X.env (eval e X.env) = eval e X.env := by rfl) : PE X (.Attribute e n pos) (tXv X.K n te) := by
  constructor
  intro pins s σ H Q I h
  refine attr_of hb (thn (he.run pins s σ H _ I h) fun u s1 z => ?_)
  obtain ⟨x, H1, I1, rx, a, C, dx, fs, v, rfl, ha, hd, EC, hno, l, q⟩ := z
  obtain rfl : u = Value.ref a := rx
  have y : ObjOk X.prog X.w H1 s1.heap a (.ext fun h => ∃ (oe : Obj) (vs : Array Value), h.get? a = some oe ∧ Zc (.ref C) (some dx) oe ∧ oe.data = .fields vs) := I1.hok a _ ha
  obtain ⟨⟨oe, vs, e1, ⟨e2, e3⟩, e4⟩, _⟩ := y
  have w : ObjOk X.prog X.w H1 s1.heap dx (.xd fs) := I1.hok dx _ hd
  obtain ⟨mA, hns, hr⟩ := w
  obtain ⟨od, ho, hl⟩ := lookIn_ns hns
  obtain ⟨u, hu, ru⟩ := RelO.some_of (v := v) (o := mA n) (by rw [← l]; exact hr n)
  have J : PySem.W.InstAt s1.heap a oe C (some od) := ⟨e1, e2, by unfold PySem.W.notCls; rw [e4] <;> rfl, by rw [e3]; exact ho⟩
  exact PySem.HandSPX.exc_get I1.kIn J EC.hg EC.hk EC.hs (PySem.W.findObj_own EC.hd hno rfl (by rw [hl, hu])) (handed_of ru) ⟨v, H1, I1.tok _, ru, q⟩
theorem se_xf {cs : List String} {f : String} {fs : Str} (he : SE X e m) (hcs : ∀ c ∈ cs, ∃ C, X.mg (Str.ofString c) = some (.ref C) ∧ ExcC X.K C ∧ PySem.W.findIn X.K (.ref C) fs = some none) (hf : fs = Str.ofString f := by rfl)
    (hb : attributeBase e fs X.env (eval e X.env) = eval e X.env := by rfl) : SE X (.Attribute e fs pos) (eXf cs f m) := fun pn xe W tk => by
  refine PE.imp (pe_xv (X := X.tr pn xe) (he pn xe W tk) hb) fun σ H Q h => ?_
  refine tM_seq h fun d v μ env st H1 r re hd a => ?_
  cases d with
  | exc c ks vs =>
    simp only at a
    split at a
    · rename_i hc
      cases e2 : lookF f ks vs with
      | none => rw [e2] at a; exact a.elim
      | some d2 =>
        rw [e2] at a
        obtain ⟨C, g, EC, hno⟩ := hcs c (by simpa using hc)
        obtain ⟨b, C3, dx, ws, rfl, n1, g1, l1, e1, h3⟩ := hd
        cases g1.symm.trans g
        obtain ⟨w, e4, e5⟩ := lookF_of h3 e2
        rcases e1 with ⟨e1, n2, e3⟩ | ⟨e1, _⟩
        case inr =>
          subst e1
          cases e2
        exact ⟨b, _, dx, _, w, rfl, e1, e3, EC, hno, by rw [hf]; exact e4, a μ H1 Ext.refl r w e5⟩
    · exact a.elim
  | _ => exact a.elim
end
end T5
namespace T5
open PySem PySem.Spec PyProof.Rows L2 LamX
variable [TabC]
/-! ### x(lambda: e): what stands in the slots is carried along -/
def pairsE : DEnv → L2.St → List (D × V)
  | some d :: e, some v :: s => (d, v) :: pairsE e s
  | _ :: e, _ :: s => pairsE e s
  | _, _ => []
def Cov (env : DEnv) (σ : L2.St) : Prop := env.length = σ.length ∧ ∀ (i : Nat) (d : D), env[i]? = some (some d) → ∃ v, σ[i]? = some (some v)
section
variable {K : PySem.W.Frag} {mg : Str → Option Value} {μ : Mu} {H : Hp}
theorem renv_pairs : ∀ {env : DEnv} {σ : L2.St}, REnv K mg μ H env σ → RepL K mg μ H ((pairsE env σ).map (·.1)) ((pairsE env σ).map (·.2)) ∧ Cov env σ
  | [], [], r => ⟨rfl, rfl, fun i d h => by simp at h⟩
  | [], _ :: _, r => by have := r.len; simp at this
  | _ :: _, [], r => by have := r.len; simp at this
  | o :: e, u :: s, r => by
    have r' : REnv K mg μ H e s := ⟨by have := r.len; simpa using this, fun i d h => by
      have := r.at_ (i + 1) d (by simpa using h)
      simpa using this⟩
    obtain ⟨h1, h2⟩ := renv_pairs r'
    refine ⟨?_, r.len, fun i d h => let ⟨v, h, _⟩ := r.at_ i d h; ⟨v, h⟩⟩
    cases o with
    | none => cases u <;> exact h1
    | some d =>
      obtain ⟨v, e1, e2⟩ := r.at_ 0 d rfl
      have e3 : u = some v := by simpa using e1
      subst e3
      exact ⟨v, _, rfl, e2, h1⟩
theorem pairs_renv : ∀ {env : DEnv} {σ : L2.St}, Cov env σ → RepL K mg μ H ((pairsE env σ).map (·.1)) ((pairsE env σ).map (·.2)) → REnv K mg μ H env σ
  | [], [], c, h => ⟨rfl, fun i d h => by simp at h⟩
  | [], _ :: _, c, h => by have := c.1; simp at this
  | _ :: _, [], c, h => by have := c.1; simp at this
  | o :: e, u :: s, c, h => by
    have c' : Cov e s := ⟨by have := c.1; simpa using this, fun i d h => by
      have := c.2 (i + 1) d (by simpa using h)
      simpa using this⟩
    cases o with
    | none =>
      have h' : RepL K mg μ H ((pairsE e s).map (·.1)) ((pairsE e s).map (·.2)) := by cases u <;> exact h
      have r := pairs_renv c' h'
      refine ⟨c.1, fun i d hi => ?_⟩
      cases i with
      | zero => simp at hi
      | succ i => simpa using r.at_ i d (by simpa using hi)
    | some d =>
      obtain ⟨v, hv⟩ := c.2 0 d rfl
      have e3 : u = some v := by simpa using hv
      subst e3
      obtain ⟨v', w, e4, h1, h2⟩ := h
      cases e4
      have r := pairs_renv c' h2
      refine ⟨c.1, fun i d' hi => ?_⟩
      cases i with
      | zero =>
        have : d = d' := by simpa using hi
        subst this
        exact ⟨v, rfl, h1⟩
      | succ i => simpa using r.at_ i d' (by simpa using hi)
end
open Classical in
/-- a call of the lambda that this def got -/
noncomputable def eThunk (fn : D) (mt : Store → R D) : ME := fun env st => if env[0]? = some (some fn) then mt st else .bad
noncomputable def eHeard (hS : (Store → R D) → Store → R D) (mE : ME) : ME := fun env st => noEx (hS (fun st1 => mE env st1) st)
section
variable {X : Cx} {pins : List (Addr × Obj)} {σ : L2.St} {H HZ : Hp} {s : Shared}
/-- the lambda is made; nothing but the table at P changes -/
theorem lam_make3 {c P : Addr} {params : Arguments} {body : Expr} {scope : Scope} {pos : Pos} {E : Value → Shared → Prop} {Q : Value → Shared → Prop} (I : Inv X pins σ H s) (TB : TabB X.base X.mg c P) (hcode : X.env.code = .ref c)
    (hT : TabS H P (X.env.qual ++ "<lambda>")) (hdef : defaultsOf params X.env = ([], [])) (hfree : ∀ y ∈ scope.names, y.2 = .free → ∃ c, X.env.cells.lookup y.1 = some c)
    (h : ∀ (f c' : Addr) (pm ctv : Value) (H1 : Hp) (s' : Shared), Inv X pins σ H1 s' → (∀ b o, b ≠ P → H b = some o → H1 b = some o) → TabS H1 P (X.env.qual ++ "<lambda>") →
      s'.heap.get? f = some (PySem.W.kla_obj "<lambda>" (X.env.qual ++ "<lambda>") params body scope (cloFrom X.env.cells scope.names []) pm c' ctv) → H1 f = none → f ∉ frs X.stack → H1 c' = some (CodeO c' (X.env.qual ++ "<lambda>")) → Q (.ref f) s') :
    wpAny (model X.prog X.w) X.A (eval (.Lambda params body scope pos) X.env) Q E s := by
  obtain ⟨ps, hP, ht, ha⟩ := hT
  refine PySem.W.kla_eval hdef ?_
  have bP : s.heap.BuiltinsAt X.mg P := TB.bm.keeps I.bk
  have gP : s.heap.get? P = some { cls := .none, data := .fields ps } := I.hok P _ hP
  have nofr : ∀ f, s.heap.objs.size ≤ f → f ∉ frs X.stack := fun f hf z => by
    rcases List.mem_cons.mp (I.stkSub _ z) with e | e
    · exact absurd (Nat.lt_of_lt_of_le (e ▸ I.lt) hf) (Nat.lt_irrefl _)
    · exact I.nofs hf e
  cases hc : codeAmong pos ps.toList with
  | some cv =>
    obtain ⟨c', e, hco⟩ := ha pos cv hc
    subst e
    refine PySem.W.kla_makeFunctionHit (mg := X.mg) (c := c) (P := P) (ps := ps) (closure_ok hfree) I.ok.glob (I.mod.glob.keeps I.bk) hcode (TB.code.keeps I.bk) gP ht hc bP fun ctv h' tk hx hsz => ?_
    refine h h'.objs.size c' ((X.mg "__name__").getD .none) ctv H _ (I.kept (t' := tk) fun b o e => Heap.get?_push_of_some _ (hx b o e)) (fun _ _ _ e => e) ⟨ps, hP, ht, ha⟩ (Heap.get?_push_size _ rfl) (I.hok.fresh hsz) (nofr _ hsz) hco
  | none =>
    refine PySem.W.kla_makeFunction (mg := X.mg) (c := c) (P := P) (ps := ps) (closure_ok hfree) I.ok.glob (I.mod.glob.keeps I.bk) hcode (TB.code.keeps I.bk) gP ht hc TB.gP bP fun c' ctv h' tk hx hge hlt hrec htb => ?_
    obtain ⟨c2, oc, vs, t, e2, hoc, hd, hv⟩ := hrec
    cases e2
    have hsz : s.heap.objs.size ≤ h'.objs.size := by omega
    have nC : H c' = none := I.hok.fresh hge
    have I1 := inv_table (t' := tk) (more := #[rawInt pos.line, rawInt pos.col, .ref c']) (h' := h'.push (PySem.W.kla_obj "<lambda>" (X.env.qual ++ "<lambda>") params body scope (cloFrom X.env.cells scope.names []) ((X.mg "__name__").getD .none) c' ctv)) I hP
      (fun b o hb e => Heap.get?_push_of_some _ (hx b o hb e)) (Heap.get?_push_of_some _ htb) hge ⟨oc, vs, t, Heap.get?_push_of_some _ hoc, hd, hv⟩
    have kp : ∀ b o, b ≠ P → H b = some o → upd (upd H P (.tbl (ps ++ #[rawInt pos.line, rawInt pos.col, .ref c']))) c' (CodeO c' (X.env.qual ++ "<lambda>")) b = some o := fun b o n e => by
      rw [upd_ne (ne_of_none e nC), upd_ne n]
      exact e
    refine h h'.objs.size c' ((X.mg "__name__").getD .none) ctv _ _ I1 kp ?_ (Heap.get?_push_size _ rfl) ?_ (nofr _ hsz) upd_same
    · have eL : (ps ++ #[rawInt pos.line, rawInt pos.col, .ref c']).toList = ps.toList ++ [rawInt pos.line, rawInt pos.col, .ref c'] := by simp
      refine ⟨_, by rw [upd_ne (ne_of_none hP nC), upd_same], by rw [eL]; exact PySem.TriplesOk_snoc _ _ _ _ ht, fun p' cv hcv => ?_⟩
      rw [eL] at hcv
      rcases among_app _ ht hcv with z | z
      · obtain ⟨c0, e1, e2⟩ := ha p' cv z
        refine ⟨c0, e1, kp _ _ (fun w => ?_) e2⟩
        rw [w, hP] at e2
        exact codeO_ne _ (Option.some.inj e2).symm
      · exact ⟨c', z, upd_same⟩
    · rw [upd_ne (Nat.ne_of_gt hlt), upd_ne (Nat.ne_of_gt (Nat.lt_of_lt_of_le (Heap.lt_size gP) hsz))]
      exact I.hok.fresh hsz
/-- its call there; what is wished of exceptions may look at the slots -/
theorem pe_actS {CXg : CXT} {Eg : XK} {Ng : List Str} {qg : Str} {sg : Scope} {g f c' : Addr} {cdg pm ctv : Value} {params : Arguments} {body : Expr} {scope : Scope} {k i : Nat} {a : Str} {pn : List (Addr × Obj)} {xe : Value → Shared → Prop} {W : WX} {tb : XK → TE} {p1 p2 : Pos}
    (I : Inv X pins σ H s) (L : LamS X.env.scope scope) (hf : s.heap.get? f = some (PySem.W.kla_obj "<lambda>" (X.env.qual ++ "<lambda>") params body scope (cloFrom X.env.cells scope.names []) pm c' ctv)) (hfn : H f = none) (hfr : f ∉ frs X.stack)
    (hbind : bindArgs (PySem.W.kla_fn "<lambda>" (X.env.qual ++ "<lambda>") params body scope (cloFrom X.env.cells scope.names []) pm (.ref c') ctv) ⟨[], []⟩ = pure [])
    (tk : Takes ((cxOf CXg X.prog X.w X.K X.mg X.base Ng qg sg g cdg X.A X.stack s H Eg).tr pn xe) W) (hr : Room (k + 1) (X.A.deeper (envOfC qg sg s.heap.objs.size g cdg))) (hq0 : Gd X.A)
    (hbody : ∀ (A : Around) (outer : List Env) (s1 : Shared) (H1 : Hp) (E : XK), Room k (A.deeper (lamEnv X scope s1.heap.objs.size f c')) → Gd (A.deeper (lamEnv X scope s1.heap.objs.size f c')) → PE (lamCx X A outer s1 H1 E scope f c') body (tb E))
    (hN : Ng[i]? = some a) (hv : Vis sg a) (hd : (a == ("__debug__" : Str)) = false) (hcd : (a == ("__classdict__" : Str)) = false) :
    PE ((cxOf CXg X.prog X.w X.K X.mg X.base Ng qg sg g cdg X.A X.stack s H Eg).tr pn xe) (.Call (.Name a p1) [] [] p2)
      (fun σZ HZ Q => σZ[i]? = some (some (.ref f)) ∧ HZ c' = some (CodeO c' (X.env.qual ++ "<lambda>")) ∧ tb (fun cls d H' => W cls d σZ H') σ HZ Q) := by
  constructor
  intro pinsZ sZ σZ HZ Q IZ h
  obtain ⟨hs, hc, ht⟩ := h
  refine wpAny_Call_Name_kw (thn ((pe_var (pos := p1) (i := i) hN hv hd hcd).run pinsZ sZ σZ HZ (fun v H1 => v = .ref f ∧ H1 = HZ) IZ ⟨.ref f, hs, rfl, rfl⟩) fun u s1 z => ?_)
  obtain ⟨v, H1, I1, r1, rfl, rfl⟩ := z
  obtain rfl : u = Value.ref f := r1
  have at1 : s1.heap.get? f = some (PySem.W.kla_obj "<lambda>" (X.env.qual ++ "<lambda>") params body scope (cloFrom X.env.cells scope.names []) pm c' ctv) := I1.base.keep f _ hf hfn hfr (fun z => nomatch (show f ∈ ([] : List Addr) from z))
  refine PySem.W.callWith_F0 ⟨_, _, _, _, at1⟩ ?_
  have un : Un (frs X.stack) [] H H1 s.heap s1.heap := I1.base
  obtain ⟨⟨oc, vs, t, hoc, hdc, hvc⟩, _, _⟩ := I1.hok c' _ hc
  have rc : codeAny (model X.prog X.w) (X.A.deeper (envOfC qg sg s.heap.objs.size g cdg)) (.call (.ref f) ⟨[], []⟩) (CR (L2.CX X.prog X.w) (envOfC qg sg s.heap.objs.size g cdg :: X.stack) X.prog X.w H1 s1 Q (fun cls d H' => W cls d σZ H')) s1 := by
    refine PySem.W.kla_callFunE hr.depth at1 rfl L.co L.gen rfl ⟨c', oc, vs, t, rfl, hoc, hdc, hvc⟩ ?_
    rw [hbind]
    refine wpAny_pure (wpAny_newFunctionEnv (fun y hy => (L.own y hy).2) (fun y hy => absurd hy (by simp)) (fun h1 hns hsb => ⟨I1.nolimit.fresh _ hsb, ?_⟩) L.kind)
    have kp : ∀ b o, s1.heap.get? b = some o → h1.get? b = some o := fun b o e => hsb.extBut b o (Nat.ne_of_lt (Heap.lt_size e)) (Heap.get?_push_of_some _ e)
    have J := lam_start2 (E := fun cls d H' => W cls d σZ H') (c' := c') (f := f) (tk := s1.toks + ([] : List (Str × Value)).length) I L I1.env0 hr.hd un hns kp
    refine PySem.W.kla_codeExpr (wpAny_mono ((hbody _ _ s1 H1 _ (hr.deeper _) hq0).run [] _ _ H1 Q J ht) (fun v s' hq => ?_) fun e s' hq => hq)
    obtain ⟨w', H', J', rv, q⟩ := hq
    exact ⟨w', H', J'.os, J'.bare, J'.base, J'.hok, rv, q⟩
  refine wpAny_call (codeAny_mono rc fun r s' hq => ?_)
  cases r with
  | error e => exact tk _ _ (XE.of_call I1 (fun _ _ _ z => z) hq)
  | ok fl =>
    cases fl with
    | ret u => exact I1.after hq
    | next => exact False.elim hq
    | brk => exact False.elim hq
    | cont => exact False.elim hq
end
section
variable {X : Cx}
theorem rel_tab {K : PySem.W.Frag} {mg : Str → Option Value} {μ : Mu} {H H1 : Hp} {st : Store} {P : Addr} {q : Str} (r : Rel K mg μ H st) (hm : (P, q) ∈ TabC.T) (hu : ∀ p ∈ TabC.T, p.1 = P → p.2 = q) (k : ∀ b o, b ≠ P → H b = some o → H1 b = some o) (t : TabS H1 P q) :
    Ext μ H μ H1 ∧ Rel K mg μ H1 st := by
  have tP : μ.isT P := ⟨q, by rw [r.tc]; exact hm⟩
  obtain ⟨ps, hP, _⟩ := r.tab (P, q) (by rw [r.tc]; exact hm)
  have nl : ∀ {n : Nat} {a : Addr}, μ.get n = some a → a ≠ P := fun hn z => by
    obtain ⟨u, hu, n1, _⟩ := r.plain hn
    rw [z, show H P = _ from hP] at hu
    exact n1 _ (Option.some.inj hu).symm
  have x : Ext μ H μ H1 := ⟨⟨[], by simp⟩, fun _ h => h, fun a o n e => ⟨n, k a o (fun z => n (by rw [z]; exact .inr (.inr tP))) e⟩, fun a ha => by
    obtain ⟨o, e⟩ := r.held a ha
    rw [e]
    exact k a o (fun z => (r.rt a ha).1 (by rw [z]; exact tP)) e, rfl⟩
  refine ⟨x, r.len, r.nd, fun n o a h1 h2 => ?_, r.apart, fun a ha => ?_, fun p hp => ?_, r.tc, fun a ha => ⟨(r.rt a ha).1, fun φ hφ z => ?_⟩⟩
  · obtain ⟨u, hu, _⟩ := r.plain h2
    exact (r.ob n o a h1 h2).ext x ((k a u (nl h2) hu).trans hu.symm)
  · obtain ⟨o, e⟩ := r.held a ha
    exact ⟨o, k a o (fun z => (r.rt a ha).1 (by rw [z]; exact tP)) e⟩
  · have hp' : p ∈ TabC.T := by rw [← r.tc]; exact hp
    by_cases z : p.1 = P
    · rw [z, hu p hp' z]
      exact t
    · obtain ⟨ps2, a1, a2, a3⟩ := r.tab p hp
      refine ⟨ps2, k _ _ z a1, a2, fun pos cv hc => ?_⟩
      obtain ⟨c, e1, e2⟩ := a3 pos cv hc
      refine ⟨c, e1, k _ _ (fun w => ?_) e2⟩
      rw [w, show H P = _ from hP] at e2
      exact codeO_ne _ (Option.some.inj e2).symm
  · obtain ⟨o, e⟩ := r.held a ha
    rw [k a o (fun z => (r.rt a ha).1 (by rw [z]; exact tP)) e] at z
    cases z
    exact (r.rt a ha).2 _ hφ e
/-- x(lambda: body) -/
theorem se_heard {x a : Str} {g c P : Addr} {k N : Nat} {pg : Arguments} {bg : List Stmt} {sg : Scope} {cdg : Value} {Ng : List Str} {params : Arguments} {body : Expr} {scope : Scope} {mE : ME} {bS : ME → MS} {hS : (Store → R D) → Store → R D} {p lpos pos : Pos}
    (hg : Gl X x) (hm : X.mg x = some (.ref g)) (G : ∃ fd, FunD X.K x x pg bg sg [] [] g fd ∧ L2.Binds X.K fd [a] []) (hcdg : codeV X.K g = cdg) (Sg : FnScope Ng [a] sg) (hNl : Ng.length = N) (hNg : Ng[0]? = some a) (hva : Vis sg a)
    (hG : ∀ (s : Shared) (H : Hp) (mt : ME), Room (k + 1) (X.A.deeper (envOfC x sg s.heap.objs.size g cdg)) → Gd (X.A.deeper (envOfC x sg s.heap.objs.size g cdg)) → (∀ p1 p2, SE (cxOf (L2.CX X.prog X.w) X.prog X.w X.K X.mg X.base Ng x sg g cdg X.A X.stack s H fun _ _ _ => False) (.Call (.Name a p1) [] [] p2) mt) → SSs (cxOf (L2.CX X.prog X.w) X.prog X.w X.K X.mg X.base Ng x sg g cdg X.A X.stack s H fun _ _ _ => False) bg (bS mt))
    (hR : ∀ (fn : D) (mt : Store → R D) (st : Store), hS mt st = .bad ∨ runF N 1 (bS (eThunk fn mt)) [fn] st = hS mt st)
    (TB : TabB X.base X.mg c P) (hcode : X.env.code = .ref c) (hmT : (P, X.env.qual ++ "<lambda>") ∈ TabC.T) (hu : ∀ p ∈ TabC.T, p.1 = P → p.2 = X.env.qual ++ "<lambda>") (hr : Room (k + 2) X.A) (hq : Gd X.A) (L : LamS X.env.scope scope) (hdef : defaultsOf params X.env = ([], []))
    (hbind : ∀ (q : Str) (cl : List (Str × Addr)) (pm cv ctv : Value), bindArgs (PySem.W.kla_fn "<lambda>" q params body scope cl pm cv ctv) ⟨[], []⟩ = pure [])
    (hbody : ∀ (A : Around) (outer : List Env) (s : Shared) (H : Hp) (E : XK) (f c' : Addr), Room k (A.deeper (lamEnv X scope s.heap.objs.size f c')) → Gd (A.deeper (lamEnv X scope s.heap.objs.size f c')) → SE (lamCx X A outer s H E scope f c') body mE)
    (hdb : (x == ("__debug__" : Str)) = false := by decide) (hd : (a == ("__debug__" : Str)) = false := by decide) (hcd : (a == ("__classdict__" : Str)) = false := by decide) :
    SE X (.Call (.Name x p) [.Lambda params body scope lpos] [] pos) (eHeard hS mE) := fun pn xe W tk => by
  constructor
  intro pins s σ H Q I h
  obtain ⟨μ, env, st, r, re, a0⟩ := h
  obtain ⟨fd, GF, hb⟩ := G
  have kp0 := GF.kp
  obtain ⟨oc, od, dV, kV, doc, pm0, an, cdv, ct, osl, rfl, lk, hcd0, _, _⟩ := GF.ex
  have ecd : cdg = cdv := by rw [← hcdg]; unfold codeV; rw [lk]
  subst ecd
  refine wpAny_Call_Name_kw (ld_glob (X := X.tr pn xe) I hg hm ?_ hdb)
  refine PySem.W.callWith_K (h₀ := X.base) I.ok.mod.kin kp0 ?_ (by rfl) (by rfl)
  show wpAny _ _ (spliced ((false, eval (.Lambda params body scope lpos) X.env) :: backTo pos (starEach [] X.env))) _ _ s
  have tS0 : TabS H P (X.env.qual ++ "<lambda>") := r.tab _ (by rw [r.tc]; exact hmT)
  refine Calls.spliced_cons (lam_make3 (X := X.tr pn xe) I TB hcode tS0 hdef (L.has I.ok.ofTry) fun f c' pm' ctv H1 s' I1 kp T1 hf hfn hfr hco => ?_)
  refine Calls.spliced_nil ⟨I1.kIn, ?_⟩
  obtain ⟨x1, r1⟩ := rel_tab r hmT hu kp T1
  have re1 := re.ext x1
  obtain ⟨rp, cov⟩ := renv_pairs re1
  have nC : c' ∉ μ := fun z => by
    rcases z with z | z | ⟨q, z⟩
    · obtain ⟨n, hn⟩ := List.mem_iff_getElem?.mp z
      obtain ⟨u, hu2, _, n2⟩ := r1.plain (show μ.get n = some c' from hn)
      rw [hco] at hu2
      exact n2 _ (Option.some.inj hu2).symm
    · exact (r1.rt _ z).2 _ rfl hco
    · obtain ⟨ps, z2, _⟩ := r1.tab _ z
      rw [show H1 (c', q).1 = H1 c' from rfl, hco] at z2
      exact codeO_ne _ (Option.some.inj z2)
  have fnR : Rep X.K X.mg μ H1 (.fn f c' (X.env.qual ++ "<lambda>") ((pairsE env σ).map (·.1)) ((pairsE env σ).map (·.2))) (.ref f) := ⟨rfl, nC, hco, rp⟩
  have rc : codeAny (model X.prog X.w) X.A (.call (.ref g) ⟨[.ref f], []⟩) (CR (L2.CX X.prog X.w) X.stack X.prog X.w H1 s' Q (fun _ _ _ => False)) s' := by
    refine run_ofS (N := Ng) (ps := [a]) (us := [.ref f]) (vs := [.ref f]) lk hcd0 Sg hr I1.env0 (hb s' [.ref f] I1.kIn rfl) (.cons rfl .nil) rfl fun hr' => ?_
    have bd := hG s' H1 (eThunk (.fn f c' (X.env.qual ++ "<lambda>") ((pairsE env σ).map (·.1)) ((pairsE env σ).map (·.2))) fun st1 => mE env st1) hr' hq fun p1 p2 pn2 xe2 W2 tk2 => ?_
    · refine ⟨_, bd [] (cxOf (L2.CX X.prog X.w) X.prog X.w X.K X.mg X.base Ng x sg g cdg X.A X.stack s' H1 fun _ _ _ => False).xe (fun _ _ _ _ => False) (takes_of rfl rfl rfl rfl) (passes_of rfl), ?_⟩
      refine ⟨μ, [some (.fn f c' (X.env.qual ++ "<lambda>") ((pairsE env σ).map (·.1)) ((pairsE env σ).map (·.2)))] ++ List.replicate (Ng.length - 1) none, st, r1, ?_, ?_⟩
      · exact renv_start (ds := [.fn f c' (X.env.qual ++ "<lambda>") ((pairsE env σ).map (·.1)) ((pairsE env σ).map (·.2))]) (vs := [.ref f]) ⟨.ref f, [], rfl, fnR, rfl⟩
      · have a1 := aft_noEx (W' := fun _ _ _ _ => False) (σ' := σ) (a0.ext x1)
        rcases hR (.fn f c' (X.env.qual ++ "<lambda>") ((pairsE env σ).map (·.1)) ((pairsE env σ).map (·.2))) (fun st1 => mE env st1) st with hR0 | hR0
        · rw [hR0] at a1
          exact a1.elim
        rw [← hR0] at a1
        unfold runF at a1
        rw [if_pos (show [D.fn f c' (X.env.qual ++ "<lambda>") ((pairsE env σ).map (·.1)) ((pairsE env σ).map (·.2))].length = 1 from rfl), ← hNl] at a1
        show AftS X.K X.mg _ _ μ H1 (bS _ (List.map some [_] ++ List.replicate (Ng.length - 1) none) st)
        revert a1
        generalize bS _ (List.map some [_] ++ List.replicate (Ng.length - 1) none) st = z
        intro a1
        cases z with
        | nx e1 st1 => exact fun μ' H' σ' y q1 q2 => a1 μ' H' y q1 _ rfl
        | rt d st1 => exact fun μ' H' v y q1 q2 => a1 μ' H' y q1 v q2
        | ex c ks us e1 st1 => exact fun μ' H' σ' C dx us y q1 q2 q3 q4 q5 q6 q7 => a1 μ' H' C dx us y q1 q3 q4 q5 q6 q7
        | bk e1 st1 => exact a1.elim
        | ct e1 st1 => exact a1.elim
        | bad => exact a1.elim
    · refine PE.imp (pe_actS (X := X.tr pn xe) (i := 0) (k := k) (W := W2) (tb := fun E => tM X.K X.mg (fun c d _ H' => E c d H') mE) I1 L hf hfn hfr (hbind _ _ _ _ _) tk2 hr' hq (fun A outer s2 H2 E hr2 hq2 => hbody A outer s2 H2 E f c' hr2 hq2 [] _ _ (takes_of rfl rfl rfl rfl)) hNg hva hd hcd) fun σZ HZ Qz hz => ?_
      obtain ⟨μZ, envZ, stZ, rZ, reZ, aZ⟩ := hz
      unfold eThunk at aZ
      split at aZ
      · rename_i e0
        obtain ⟨v, hv0, eq, nq, hq, hp⟩ := reZ.at_ 0 _ e0
        subst eq
        exact ⟨hv0, hq, μZ, env, stZ, rZ, pairs_renv cov hp, aZ.imp fun _ _ _ _ _ _ z => z⟩
      · exact aZ.elim
  refine wpAny_call (codeAny_mono rc fun r2 s2 hq => ?_)
  cases r2 with
  | error e =>
    obtain ⟨_, _, _, _, _, _, _, _, _, _, _, _, z⟩ := hq
    exact z.elim
  | ok fl =>
    cases fl with
    | ret u => exact I1.after hq
    | next => exact False.elim hq
    | brk => exact False.elim hq
    | cont => exact False.elim hq
end
end T5
namespace T5
open PySem PySem.Spec PyProof.Rows L2
variable [TabC]
/-! ### count and index of a list of flat things -/
def cntF (x : D) (l : List D) : Nat := l.countP fun y => eqF y x
def idxF (x : D) (l : List D) : Option Nat := l.findIdx? fun y => eqF y x
def fCnt : MethF := fun st d ds => match ds with
  | [x] => (lstOf st d).bind fun l => if flatD x = true ∧ l.all flatD = true then some (.int (cntF x l : Nat), st) else none
  | _ => none
def fIdx : MethF := fun st d ds => match ds with
  | [x] => (lstOf st d).bind fun l => if flatD x = true ∧ l.all flatD = true then (idxF x l).map fun i => (.int (i : Nat), st) else none
  | _ => none
end T5
namespace T5
open PySem PySem.Spec PyProof.Rows L2
variable [TabC]
section
variable {X : Cx}
theorem eqU_flat {y z : V} {u : Value} (r : RelV z u) (f : flatV z = true) : eqU y u = eqV z y := eqU_of r f
theorem countU : ∀ {ys : List V} {its : List Value} {y : V}, Vals ys its → ys.all flatV = true → its.countP (eqU y) = ys.countP fun z => eqV z y
  | [], [], _, _, _ => rfl
  | z :: ys, u :: its, y, .cons r t, f => by
    have f' : flatV z = true ∧ ys.all flatV = true := by simpa using f
    rw [List.countP_cons, List.countP_cons, countU t f'.2, eqU_flat r f'.1]
def rCntF (K : PySem.W.Frag) : V → List V → Hp → VK → Prop := fun x xs H Q => ∃ (a : Addr) (ys : List V) (y : V), x = .ref a ∧ xs = [y] ∧ SqL K H a ys ∧ flatV y = true ∧ ys.all flatV = true ∧ Q (.int (ys.countP fun z => eqV z y : Nat)) H
theorem mt_cntF : MtR X "list.count" (rCntF X.K) := by
  intro pins s σ H x xs v us Q I rx rxs h
  obtain ⟨a, ys, y, rfl, rfl, hs, fy, fys, q⟩ := h
  cases rx
  obtain ⟨u, rfl, ry⟩ := rxs.one
  obtain ⟨its, rv, ⟨⟨cls, dd, data, sl⟩, n, ho, hc, hdn, hd⟩, hlen⟩ := I.list hs
  simp only at hc hd
  subst hc hd
  refine call_meets PySem.F.slot_list_count ⟨_, ho, rfl⟩ PySem.F.entry_list_count (PySem.F.args_list_count_2 _ _) (SeqAt.list_countAt a its.toArray n dd sl u (eqU y)) ⟨ho, fun w hw => mem_eqAt ry fy rv fys w (by simpa using hw), ?_⟩
  refine ⟨.int (ys.countP fun z => eqV z y : Nat), H, I.tok _, ⟨s.toks, ?_⟩, q⟩
  show Value.int ((its.toArray.toList.countP (eqU y) : Nat) : Int) s.toks = _
  rw [countU rv fys]
variable {K : PySem.W.Frag} {mg : Str → Option Value} {o e : Expr} {es : List Expr} {mo : ME} {ma : MA} {apos cpos : Pos}
theorem cntF_rep {μ : Mu} {H : Hp} {x : D} {u : V} (hx : Rep K mg μ H x u) (fx : flatD x = true) : ∀ {l : List D} {vs : List V}, RepL K mg μ H l vs → l.all flatD = true → (vs.countP fun z => eqV z u) = cntF x l
  | [], vs, h, _ => by
    have e : vs = [] := h
    subst e
    rfl
  | d :: ds, vs, ⟨v, r, e, h1, h2⟩, f => by
    subst e
    have f' : flatD d = true ∧ ds.all flatD = true := by simpa using f
    unfold cntF
    rw [List.countP_cons, List.countP_cons, cntF_rep hx fx h2 f'.2, eqF_rep hx h1 fx f'.1]
    rfl
theorem mthd_cnt : MthD K mg (rCntF K) fCnt := by
  intro μ H st st' d d' ds x vs Q r hx hv e q
  unfold fCnt at e
  split at e
  · rename_i y
    obtain ⟨l, e1, e2⟩ := Option.bind_eq_some_iff.mp e
    split at e2
    · rename_i c
      cases e2
      obtain ⟨b, ws, rfl, hb, hl⟩ := lst_at r hx e1
      obtain ⟨v, rfl, hy⟩ := repL1 hv
      refine ⟨b, ws, v, rfl, rfl, .inl (.inl hb), flat_rep hy c.1, flats_rep hl c.2, ?_⟩
      rw [cntF_rep hy c.1 hl c.2]
      exact q μ H _ Ext.refl r rfl
    · cases e2
  · cases e
theorem mthd_idx : MthD K mg (rIndex K) fIdx := by
  intro μ H st st' d d' ds x vs Q r hx hv e q
  unfold fIdx at e
  split at e
  · rename_i y
    obtain ⟨l, e1, e2⟩ := Option.bind_eq_some_iff.mp e
    split at e2
    · rename_i c
      obtain ⟨i, e3, e4⟩ := Option.map_eq_some_iff.mp e2
      cases e4
      obtain ⟨b, ws, rfl, hb, hl⟩ := lst_at r hx e1
      obtain ⟨v, rfl, hy⟩ := repL1 hv
      unfold idxF at e3
      obtain ⟨hi, hp, hno⟩ := List.findIdx?_eq_some_iff_getElem.mp e3
      have gi : l[i]? = some l[i] := List.getElem?_eq_getElem hi
      obtain ⟨w, e5, hw⟩ := hl.get gi
      have fl : ∀ {m : Nat} {z : D}, l[m]? = some z → flatD z = true := fun h => List.all_eq_true.mp c.2 _ (List.mem_of_getElem? h)
      refine ⟨b, ws, v, i, w, rfl, rfl, .inl (.inl hb), flat_rep hy c.1, flats_rep hl c.2, e5, by rw [eqF_rep hy hw c.1 (fl gi)]; exact hp, fun m z hm hz => ?_, q μ H _ Ext.refl r rfl⟩
      have hml : m < l.length := by omega
      have gm : l[m]? = some l[m] := List.getElem?_eq_getElem hml
      obtain ⟨w2, e6, hw2⟩ := hl.get gm
      rw [hz] at e6
      cases e6
      rw [eqF_rep hy hw2 c.1 (fl gm)]
      have := hno m hm
      simpa using this
    · cases e2
  · cases e
theorem se_cnt (ho : SE X o mo) (ha : SA X (e :: es) ma)
    (hbase : attributeBase o "count" X.env (eval o X.env) = eval o X.env := by rfl)
    (hfew : ((backTo cpos (starEach (e :: es) X.env)).all (fun x => !x.1) && (backToKw cpos (keywordEach [] X.env)).all (fun x => x.1.isSome)
      && decide ((e :: es).length + ([] : List Keyword).length + (if ([] : List Keyword).isEmpty then 0 else 1) < 30)) = true := by rfl)
    (hline : (apos.endLine == cpos.line) = true := by rfl) (hs : starEach (e :: es) X.env = (false, eval e X.env) :: starEach es X.env := by rfl) (hplain : (backTo cpos (starEach es X.env)).any (·.1) = false := by rfl) :
    SE X (.Call (.Attribute o "count" apos) (e :: es) [] cpos) (eMthL fCnt mo ma) := se_mthL PySem.F.slot_list_count PySem.F.type_list_count (fun pn xe => mt_cntF (X := X.tr pn xe)) mthd_cnt ho ha hbase hfew hline hs hplain
theorem se_idx (ho : SE X o mo) (ha : SA X (e :: es) ma)
    (hbase : attributeBase o "index" X.env (eval o X.env) = eval o X.env := by rfl)
    (hfew : ((backTo cpos (starEach (e :: es) X.env)).all (fun x => !x.1) && (backToKw cpos (keywordEach [] X.env)).all (fun x => x.1.isSome)
      && decide ((e :: es).length + ([] : List Keyword).length + (if ([] : List Keyword).isEmpty then 0 else 1) < 30)) = true := by rfl)
    (hline : (apos.endLine == cpos.line) = true := by rfl) (hs : starEach (e :: es) X.env = (false, eval e X.env) :: starEach es X.env := by rfl) (hplain : (backTo cpos (starEach es X.env)).any (·.1) = false := by rfl) :
    SE X (.Call (.Attribute o "index" apos) (e :: es) [] cpos) (eMthL fIdx mo ma) := se_mthL PySem.F.slot_list_index PySem.F.type_list_index (fun pn xe => mt_index (X := X.tr pn xe)) mthd_idx ho ha hbase hfew hline hs hplain
end
end T5
namespace T5
open PySem PySem.Spec PyProof.Rows L2
/-! ### repr of plain data -/
/-! ### it fits -/
theorem natAbs_log {i : Int} (h : -10 ^ 30 < i ∧ i < 10 ^ 30) : i.natAbs.log2 < 1920 := by
  have e : i.natAbs < 10 ^ 30 := by omega
  by_cases z : i.natAbs = 0
  · rw [z]; decide
  · have h2 : i.natAbs.log2 < 100 := (Nat.log2_lt z).mpr (Nat.lt_of_lt_of_le e (show 10 ^ 30 ≤ 2 ^ 100 by decide))
    omega
theorem ofNat_len (n : Nat) (h : n < 10 ^ 30) : (Str.ofString (toString (n : Int))).length ≤ 30 := toString_length_le (by omega) (by decide) (by exact_mod_cast h)
theorem int_len {i : Int} (h : -10 ^ 30 < i ∧ i < 10 ^ 30) : (PyData.shown (.int i)).length ≤ 40 := by
  show (Str.ofString (toString i)).length ≤ 40
  cases i with
  | ofNat n =>
    have q : n < 10 ^ 30 := by have := h.2; rw [Int.ofNat_eq_natCast] at this; omega
    have := ofNat_len n q
    exact Nat.le_trans this (by decide)
  | negSucc n =>
    have q : n + 1 < 10 ^ 30 := by have := h.1; rw [Int.negSucc_eq] at this; omega
    have := ofNat_len (n + 1) q
    have e : toString (Int.negSucc n) = "-" ++ toString ((n + 1 : Nat) : Int) := rfl
    have l : ∀ s : String, (Str.ofString s).length = s.toList.length := fun s => by
      rw [TL.len_tl, TL.tl_ofString, List.length_map]
    rw [l] at this ⊢
    rw [e, String.toList_append, List.length_append]
    have : "-".toList.length = 1 := by decide
    omega
variable [TabC]
def pyL (f : D → Option PyData) : List D → Option (List PyData)
  | [] => some []
  | x :: xs => (f x).bind fun a => (pyL f xs).map (a :: ·)
def toPy (st : Store) : Nat → D → Option PyData
  | 0, _ => none
  | n + 1, d => match d with
    | .non => some .none
    | .bl b => some (.bool b)
    | .int i => some (.int i)
    | .str s => some (.str (toStr s))
    | .tup l => (pyL (toPy st n) l).map .tuple
    | .dic false [] [] => some (.dict [])
    | d => (lstOf st d).bind fun l => (pyL (toPy st n) l).map .list
mutual
def okPy : PyData → Bool
  | .none | .bool _ => true
  | .int i => decide (-10 ^ 30 < i ∧ i < 10 ^ 30)
  | .str x => x.cps.toList.all fun c => decide (c < 16 ^ 8)
  | .list xs | .tuple xs => okPyL xs
  | .dict kvs => kvs.isEmpty
def okPyL : List PyData → Bool
  | [] => true
  | x :: xs => okPy x && okPyL xs
end
def fRepr : BF := fun st ds => match ds with
  | [d] => (toPy st 12 d).bind fun p => if okPy p = true ∧ p.bulk ≤ 2 ^ 18 then some (.str p.shown.cps.toList) else none
  | _ => none
mutual
theorem okPy_show : ∀ p : PyData, okPy p = true → p.showable = true ∧ p.leavesShort 40 = true
  | .none, _ => ⟨rfl, rfl⟩
  | .bool _, _ => ⟨rfl, rfl⟩
  | .int i, h => by
    have h' : -10 ^ 30 < i ∧ i < 10 ^ 30 := by simpa only [okPy, decide_eq_true_eq] using h
    exact ⟨by simpa only [PyData.showable, decide_eq_true_eq] using natAbs_log h', by simpa only [PyData.leavesShort, decide_eq_true_eq] using int_len h'⟩
  | .str x, h => ⟨rfl, by simpa only [PyData.leavesShort, okPy] using h⟩
  | .list xs, h => by
    obtain ⟨a, b⟩ := okPyL_show xs (by simpa only [okPy] using h)
    exact ⟨by simpa only [PyData.showable] using a, by simpa only [PyData.leavesShort] using b⟩
  | .tuple xs, h => by
    obtain ⟨a, b⟩ := okPyL_show xs (by simpa only [okPy] using h)
    exact ⟨by simpa only [PyData.showable] using a, by simpa only [PyData.leavesShort] using b⟩
  | .dict [], _ => ⟨rfl, rfl⟩
theorem okPyL_show : ∀ xs : List PyData, okPyL xs = true → PyData.showableAll xs = true ∧ PyData.leavesShortAll 40 xs = true
  | [], _ => ⟨rfl, rfl⟩
  | x :: xs, h => by
    have h' : okPy x = true ∧ okPyL xs = true := by simpa only [okPyL, Bool.and_eq_true] using h
    obtain ⟨a, b⟩ := okPy_show x h'.1
    obtain ⟨c, d⟩ := okPyL_show xs h'.2
    exact ⟨by simp only [PyData.showableAll, a, c, Bool.and_self], by simp only [PyData.leavesShortAll, b, d, Bool.and_self]⟩
end
theorem okPy_fits {p : PyData} (h : okPy p = true) (b : p.bulk ≤ 2 ^ 18) : p.shown.length ≤ sizeLine := by
  have h1 := PyData.shown_le_bulk 40 (by decide) p (okPy_show p h).2
  have h2 : (40 + 2) * p.bulk ≤ 42 * 2 ^ 18 := Nat.mul_le_mul (by omega) b
  rw [sizeLine_eq]
  omega
theorem pyL_depth {f : D → Option PyData} {n : Nat} (hf : ∀ d p, f d = some p → p.depth ≤ n) : ∀ (l : List D) (ps : List PyData), pyL f l = some ps → PyData.depthAll ps ≤ n
  | [], ps, h => by
    cases h
    exact Nat.zero_le _
  | x :: xs, ps, h => by
    obtain ⟨a, e1, e2⟩ := Option.bind_eq_some_iff.mp h
    obtain ⟨r, e3, e4⟩ := Option.map_eq_some_iff.mp e2
    cases e4
    simp only [PyData.depthAll]
    exact Nat.max_le.mpr ⟨hf _ _ e1, pyL_depth hf xs r e3⟩
theorem toPy_depth {st : Store} : ∀ (n : Nat) (d : D) (p : PyData), toPy st n d = some p → p.depth ≤ n
  | 0, _, _, h => nomatch h
  | n + 1, d, p, h => by
    have ih := toPy_depth (st := st) n
    have lst : ∀ {o : Option (List D)}, (o.bind fun l => (pyL (toPy st n) l).map .list) = some p → p.depth ≤ n + 1 := fun h => by
      obtain ⟨l, _, e2⟩ := Option.bind_eq_some_iff.mp h
      obtain ⟨r, e3, e4⟩ := Option.map_eq_some_iff.mp e2
      subst e4
      simp only [PyData.depth]
      exact Nat.succ_le_succ (pyL_depth ih l r e3)
    unfold toPy at h
    split at h
    · cases h; exact Nat.zero_le _
    · cases h; exact Nat.zero_le _
    · cases h; exact Nat.zero_le _
    · cases h; exact Nat.zero_le _
    · obtain ⟨r, e3, e4⟩ := Option.map_eq_some_iff.mp h
      subst e4
      simp only [PyData.depth]
      exact Nat.succ_le_succ (pyL_depth ih _ r e3)
    · cases h
      show (0 : Nat) + 1 ≤ n + 1
      omega
    · exact lst h
/-! ### it is read so -/
/-- the table of modules is a dict -/
def Sys (K : PySem.W.Frag) : Prop := ∃ o, K.lookup sysModules = some o ∧ o.cls = .type "dict"
section
variable {K : PySem.W.Frag} {mg : Str → Option Value} {μ : Mu} {H : Hp} {st : Store} {P : Program} {w : World} {h : Heap}
theorem readsL {f : D → Option PyData} (hf : ∀ d p v u, f d = some p → Rep K mg μ H d v → RelV v u → ∃ as, Reads h u p as ∧ sysModules ∉ as) : ∀ (l : List D) (ps : List PyData) (vs : List V) (us : List Value), pyL f l = some ps → RepL K mg μ H l vs → Vals vs us → ∃ as, ReadsAll h us ps as ∧ sysModules ∉ as
  | [], ps, vs, us, e, r, q => by
    cases e
    have z : vs = [] := r
    subst z
    cases q
    exact ⟨_, .nil, by simp⟩
  | x :: xs, ps, vs, us, e, ⟨v, vr, z, r1, r2⟩, q => by
    subst z
    obtain ⟨a, e1, e2⟩ := Option.bind_eq_some_iff.mp e
    obtain ⟨r, e3, e4⟩ := Option.map_eq_some_iff.mp e2
    cases e4
    cases q with
    | cons q1 q2 =>
      obtain ⟨as, h1, h2⟩ := hf _ _ _ _ e1 r1 q1
      obtain ⟨bs, h3, h4⟩ := readsL hf xs r vr _ e3 r2 q2
      exact ⟨_, .cons h1 h3, fun z => (List.mem_append.mp z).elim h2 h4⟩
theorem reads_of (ok : HOk P w H h) (kin : K.In h) (sy : Sys K) (r : Rel K mg μ H st) : ∀ (n : Nat) (d : D) (p : PyData) (v : V) (u : Value), toPy st n d = some p → Rep K mg μ H d v → RelV v u → ∃ as, Reads h u p as ∧ sysModules ∉ as
  | 0, _, _, _, _, e, _, _ => nomatch e
  | n + 1, d, p, v, u, e, rp, q => by
    have ih := reads_of ok kin sy r n
    have lst : (lstOf st d).bind (fun l => (pyL (toPy st n) l).map .list) = some p → ∃ as, Reads h u p as ∧ sysModules ∉ as := fun e => by
      obtain ⟨l, e1, e2⟩ := Option.bind_eq_some_iff.mp e
      obtain ⟨ps, e3, e4⟩ := Option.map_eq_some_iff.mp e2
      subst e4
      obtain ⟨b, ws, rfl, hb, hl⟩ := lst_at r rp e1
      have q2 : u = .ref b := q
      subst q2
      obtain ⟨_, its, m, rv, ho⟩ := (show ObjOk P w H h b (.lst ws) from ok b _ hb)
      obtain ⟨as, h1, h2⟩ := readsL ih l ps ws its e3 hl rv
      refine ⟨_, .list ho rfl rfl h1, fun z => ?_⟩
      rcases List.mem_cons.mp z with z | z
      · obtain ⟨o, k1, k2⟩ := sy
        rw [← z, kin _ _ k1] at ho
        cases ho
        exact absurd k2 (show ¬ Value.type "list" = Value.type "dict" by decide)
      · exact h2 z
    unfold toPy at e
    split at e
    · cases e
      have z : v = .non := rp
      subst z
      cases (show u = .none from q)
      exact ⟨_, .none, by simp⟩
    · cases e
      rename_i b
      have z : v = .bl b := rp
      subst z
      cases (show u = .bool b from q)
      exact ⟨_, .bool b, by simp⟩
    · cases e
      rename_i i
      have z : v = .int i := rp
      subst z
      obtain ⟨t, z⟩ := (show ∃ t, u = .int i t from q)
      subst z
      exact ⟨_, .int i t, by simp⟩
    · cases e
      rename_i x
      have z : v = .str (toStr x) := rp
      subst z
      obtain ⟨t, z⟩ := (show ∃ t, u = .str (toStr x) t from q)
      subst z
      exact ⟨_, .str _ t, by simp⟩
    · rename_i l
      obtain ⟨ps, e3, e4⟩ := Option.map_eq_some_iff.mp e
      subst e4
      obtain ⟨b, ws, rfl, _, hb, hl⟩ := rp
      have q2 : u = .ref b := q
      subst q2
      obtain ⟨_, its, rv, o, h1, h2, m, h3⟩ := (show ObjOk P w H h b (.tup ws) from ok b _ hb)
      obtain ⟨as, h4, h5⟩ := readsL ih l ps ws its e3 hl rv
      exact ⟨_, .tuple h1 h2 h3 (by simpa using h4), h5⟩
    · cases e
      obtain ⟨b, vs, o, rfl, _, hv, hd, hr⟩ := rp
      have q2 : u = .ref b := q
      subst q2
      have z : vs = [] := hv
      subst z
      rcases hd with ⟨_, kk, _, k1, k2⟩ | ⟨z, _⟩
      · have : kk = [] := List.length_eq_zero_iff.mp k1
        subst this
        subst k2
        obtain ⟨_, sm, us, kv, oo, es, ep, g1, g2, g3, _, g5, _⟩ := dk_rd ok hr.rd
        cases kv
        have e0 : es.toList = [] := by
          cases g6 : es.toList with
          | nil => rfl
          | cons a b => rw [g6] at g5; exact nomatch g5
        refine ⟨_, .dict g1 g2.1 g3 (by rw [e0]; exact .nil) (by rw [e0]; exact .nil), fun z => ?_⟩
        have : sysModules = b := by simpa using z
        rw [this] at sm
        simp at sm
      · exact nomatch z
    · exact lst e
end
/-! ### the rule -/
def rRepr (K : PySem.W.Frag) (mg : Str → Option Value) : List V → Hp → VK → Prop := fun xs H Q => ∃ μ st d p v, Rel K mg μ H st ∧ xs = [v] ∧ Rep K mg μ H d v ∧ toPy st 12 d = some p ∧ okPy p = true ∧ p.bulk ≤ 2 ^ 18 ∧ Q (.str p.shown) H
theorem call_repr {X : Cx} {k : Nat} (hr : Room k X.A) (hq : Gd X.A) (sy : Sys X.K) : CallR X (.builtin "repr") (rRepr X.K X.mg) := by
  intro pins s σ H xs us Q I r h
  obtain ⟨μ, st, d, p, v, r0, rfl, rp, tp, ok, bk, q⟩ := h
  obtain ⟨u, rfl, rv⟩ := r.one
  obtain ⟨as, rd, nm⟩ := reads_of I.hok I.kIn sy r0 12 d p v u tp rp rv
  have sh := (okPy_show p ok).1
  have fit := okPy_fits ok bk
  have dp := toPy_depth 12 d p tp
  have un := hr.units
  have big : ∀ {a : Addr}, u = .ref a → wpAny (model X.prog X.w) X.A (call (.builtin "repr") [u]) (EP X pins σ Q) X.xe s := fun e => by
    subst e
    exact repr_of_reads' rd sh (fun _ => nm) hq (by omega) (fun _ _ e => e) (fun h' t tk hk => ⟨.str p.shown, H, I.kept hk, ⟨t, rfl⟩, q⟩) fit
  cases rd with
  | none => exact PySem.P.repr_of_none ⟨.str _, H, I.tok _, ⟨_, rfl⟩, q⟩
  | bool b => exact PySem.P.repr_of_bool ⟨.str _, H, I.tok _, ⟨_, by cases b <;> rfl⟩, q⟩
  | int i t => exact PySem.P.repr_of_int (by simpa only [PyData.showable, decide_eq_true_eq] using sh) ⟨.str _, H, I.tok _, ⟨_, rfl⟩, q⟩
  | str x t => exact PySem.P.repr_of_str ⟨.str _, H, I.tok _, ⟨_, rfl⟩, q⟩ fit
  | list => exact big rfl
  | tuple => exact big rfl
  | dict => exact big rfl
section
variable {X : Cx} {e : Expr} {es : List Expr} {ma : MA} {p pos : Pos}
theorem calld_repr {K : PySem.W.Frag} {mg : Str → Option Value} : CallD K mg (rRepr K mg) fRepr := by
  intro μ H st ds d vs Q r hv e q
  unfold fRepr at e
  split at e
  · rename_i x
    obtain ⟨y, e1, e2⟩ := Option.bind_eq_some_iff.mp e
    split at e2
    · rename_i c
      cases e2
      obtain ⟨v, rfl, hx⟩ := repL1 hv
      refine ⟨μ, st, x, y, v, r, rfl, hx, e1, c.1, c.2, q H _ Ext.refl r ?_⟩
      show V.str y.shown = .str (toStr y.shown.cps.toList)
      rw [show toStr y.shown.cps.toList = y.shown from TL.mk_tl y.shown]
    · cases e2
  · cases e
theorem se_repr {k : Nat} (sy : Sys X.K) (hr : Room k X.A) (hq : Gd X.A) (hg : Gl X "repr") (hm : X.mg "repr" = none) (ha : SA X (e :: es) ma) (he : starEach (e :: es) X.env = (false, eval e X.env) :: starEach es X.env := by rfl) (hpl : (backTo pos (starEach es X.env)).any (·.1) = false := by rfl) : SE X (.Call (.Name "repr" p) (e :: es) [] pos) (eCB fRepr ma) :=
  se_callB (id := "repr") (fun pn xe => call_repr (X := X.tr pn xe) hr hq sy) calld_repr hg hm rfl ha (by decide) (by decide) he hpl
end
end T5
namespace T5
open PySem PySem.Spec PyProof.Rows L2
/-! ### the head of laws with exceptions and lambdas -/
inductive Fy where
  | isc (x : Str) | sys | base (x : Str) | exk (x : Str) | any (c a b : Str) | kitC (c n : Str) (r : Bool) | kitT (c : Str) (n : String) (r : Bool) | prop (x f : Str) | self1 (x : Str) | noSeq (x : Str) | noNe (x : Str) | exkK (x : Str) | baseT (n : String) | exq (x : Str)
abbrev keT : List Value := [.type "KeyError", .type "LookupError", .type "Exception", .type "BaseException", .type "object"]
def kexB (K : PySem.W.Frag) (C : Addr) : Bool := match K.lookup C with
  | some ⟨.type "type", _, .cls cd, sl⟩ => (match cd.mro, sl.toList with
    | .ref C' :: bm, [_, _, _, _, some (.builtin n), _] => C' == C && n == "LookupError.__new__" && !cd.hasDel && cd.hasDict && bm == keT
    | _, _ => false)
  | _ => false
def oexB (K : PySem.W.Frag) (C : Addr) : Bool := match K.lookup C with
  | some ⟨.type "type", _, .cls cd, sl⟩ => (match cd.mro, sl.toList with
    | .ref C' :: bm, [_, _, _, _, some (.builtin n), _] => C' == C && n == "ValueError.__new__" && !cd.hasDel && cd.hasDict && PySem.HandSPX.refsVE bm
    | _, _ => false)
  | _ => false
theorem oexB_ok {K : PySem.W.Frag} {C : Addr} (q : oexB K C = true) : ∃ nm q N bs bm sn sub ab col dd k0 k1 k2 k3 k5, K.lookup C = some (excClassObj nm q C N bs bm true sn sub ab col dd k0 k1 k2 k3 k5 "ValueError.__new__") ∧ PySem.HandSPX.refsVE bm = true := by
  unfold oexB at q
  split at q
  · rename_i dd cd sl ho
    split at q
    · rename_i C' bm k0 k1 k2 k3 n k5 hm hs
      simp only [Bool.and_eq_true, beq_iff_eq, Bool.not_eq_true'] at q
      obtain ⟨⟨⟨⟨rfl, rfl⟩, hdel⟩, hd⟩, hv⟩ := q
      obtain ⟨nm, bs, mro, ns, qn, hd2, sn, sub, ab, col, del⟩ := cd
      dsimp only at hm hdel hd
      subst hm hdel hd
      have hsl : sl = #[k0, k1, k2, k3, some (.builtin "ValueError.__new__"), k5] := by
        obtain ⟨l⟩ := sl
        simp only at hs
        rw [hs]
      subst hsl
      exact ⟨nm, qn, ns, bs, bm, sn, sub, ab, col, dd, k0, k1, k2, k3, k5, ho, hv⟩
    · cases q
  · cases q
abbrev veT : List Value := [.type "ValueError", .type "Exception", .type "BaseException", .type "object"]
def exkR (K : PySem.W.Frag) (x : Str) : Bool := (He.eqO (PySem.W.findIn K (.ref (He.ga K x)) "__setattr__") (some (some (.builtin "object.__setattr__"))) && (decide (PySem.W.subIn K (.ref (He.ga K x)) (.type "BaseException") = some true) &&
      (decide (PySem.W.typeIn K (.ref (He.ga K x)) = some (.type "type")) && (PySem.W.keepIn K (.ref (He.ga K x)) &&
      (He.eqO (PySem.W.findIn K (.ref (He.ga K x)) "__getattribute__") (some (some (.builtin "BaseException.__getattribute__"))) && (He.eqO (PySem.W.findIn K (.ref (He.ga K x)) "__getattr__") (some none) &&
      (PySem.W.hasDictIn K (He.ga K x) && (He.eqO (PySem.W.findIn K (.ref (He.ga K x)) "__class__") (some (some (.builtin "object.__class__"))) && (He.eqO (PySem.W.specialIn K (.builtin "object.__class__") "__get__") (some (some (.builtin "getset_descriptor.__get__"))) &&
      (decide (PySem.W.takesIn K (.builtin "object.__class__") = some true) && (decide (PySem.W.mroIn K (He.ga K x) (.type "object") = some true) &&
      (He.eqO (PySem.W.findIn K (.ref (He.ga K x)) "__init__") (some (some (.ref (He.ma K (He.ga K x) "__init__")))) && decide (PySem.W.typeIn K (.ref (He.ma K (He.ga K x) "__init__")) = some (.type "function"))))))))))))))
/-- what is asked of an exception class without own __init__ -/
def exqR (K : PySem.W.Frag) (x : Str) : Bool := (decide (PySem.W.subIn K (.ref (He.ga K x)) (.type "BaseException") = some true) &&
      (decide (PySem.W.typeIn K (.ref (He.ga K x)) = some (.type "type")) && (PySem.W.keepIn K (.ref (He.ga K x)) &&
      (He.eqO (PySem.W.findIn K (.ref (He.ga K x)) "__getattribute__") (some (some (.builtin "BaseException.__getattribute__"))) && (He.eqO (PySem.W.findIn K (.ref (He.ga K x)) "__getattr__") (some none) &&
      (PySem.W.hasDictIn K (He.ga K x) && (He.eqO (PySem.W.findIn K (.ref (He.ga K x)) "__class__") (some (some (.builtin "object.__class__"))) && (He.eqO (PySem.W.specialIn K (.builtin "object.__class__") "__get__") (some (some (.builtin "getset_descriptor.__get__"))) &&
      (decide (PySem.W.takesIn K (.builtin "object.__class__") = some true) && decide (PySem.W.mroIn K (He.ga K x) (.type "object") = some true))))))))))
def Fy.ok (K : PySem.W.Frag) : Fy → Bool
  | .isc x => (Fx.isc x).ok K
  | .sys => (match K.lookup sysModules with
    | some o => decide (o.cls = .type "dict")
    | none => false)
  | .base x => He.eqO (PySem.W.specialIn K (.ref (He.ga K x)) "__getattribute__") (some (some (.builtin "type.__getattribute__"))) && (decide (PySem.W.typeIn K (.ref (He.ga K x)) = some (.type "type")) &&
      (PySem.W.readsIn K (He.ga K x) (.type "type") && (match PySem.W.findCls K (.ref (He.ga K x)) (.type "type") "__init__" with
        | some (.val (.builtin n)) => n == "ValueError.__init__"
        | _ => false)))
  | .exk x => oexB K (He.ga K x) && exkR K x
  | .any c a b => decide (PySem.W.exmAny K (.ref (He.ga K c)) [.ref (He.ga K a), .ref (He.ga K b)] = some true)
  | .kitC c n r => decide (PySem.W.kitOne K (.ref (He.ga K c)) (.ref (He.ga K n)) = some r)
  | .kitT c n r => decide (PySem.W.kitOne K (.ref (He.ga K c)) (.type n) = some r)
  | .prop x f => He.eqO (PySem.W.findIn K (.ref (He.ga K x)) f) (some (some (.ref (He.ma K (He.ga K x) f)))) && (He.eqO (PySem.W.specialIn K (.ref (He.ma K (He.ga K x) f)) "__get__") (some (some (.builtin "property.__get__"))) &&
      (decide (PySem.W.takesIn K (.ref (He.ma K (He.ga K x) f)) = some true) && (match PySem.W.recIn K (He.ma K (He.ga K x) f) "property" with
        | some (.ref _ :: _) => true
        | _ => false)))
  | .self1 x => PySem.W.selfFirst K (He.ga K x)
  | .noSeq x => PySem.W.noSeq K (He.ga K x)
  | .noNe x => He.eqO (PySem.W.findIn K (.ref (He.ga K x)) "__ne__") (some (some (.builtin "object.__ne__")))
  | .exkK x => kexB K (He.ga K x) && exkR K x
  | .baseT n => (match PySem.W.findCls K (.type n) (.type "type") "__init__" with
    | some (.val (.builtin m)) => m == n ++ ".__init__"
    | _ => false)
  | .exq x => PySem.W.excIn K (He.ga K x) veT "ValueError.__new__" && exqR K x
/-- a property's getter -/
def pAd (K : PySem.W.Frag) (C : Addr) (f : Str) : Addr := match PySem.W.recIn K (He.ma K C f) "property" with
  | some (.ref g :: _) => g
  | _ => 0
def dAd (K : PySem.W.Frag) (p : Str × Option Str) : Addr := match p.2 with
  | none => He.ga K p.1
  | some m => pAd K (He.ga K p.1) m
def fnWA (K : PySem.W.Frag) (a : Addr) : He.FnW := match K.lookup a with
  | some ⟨_, _, .func fd, _⟩ => some (fd.name, fd.qualname, fd.params, fd.body, fd.scope, fd.globals, fd.closure, fd.builtins)
  | _ => none
def okA (K : PySem.W.Frag) (a : Addr) (d : He.DefD) : Bool := PySem.W.keepIn K (.ref a) && (match K.lookup a with
  | some ⟨_, _, .func fd, _⟩ => PySem.W.codeIn K fd.code d.qual && (He.dflB K fd.defaults (d.dvs K) && He.kwdB K fd.kwdefaults (d.kws K))
  | _ => false)
theorem funA {K : PySem.W.Frag} {a : Addr} {d : He.DefD} (e : fnWA K a = d.val) (c : okA K a d = true) : ∃ fd, FunD K d.name d.qual d.params d.body d.scope (d.dvs K) (d.kws K) a fd := by
  obtain ⟨kp, c2⟩ := He.ba c
  unfold fnWA at e
  cases q : K.lookup a with
  | none =>
    rw [q] at c2
    cases c2
  | some o =>
    obtain ⟨oc, od, dt, osl⟩ := o
    rw [q] at c2 e
    cases dt with
    | func fd =>
      obtain ⟨n1, n2, n3, n4, n5, n6, n7, n8, n9, n10, n11, n12, n13, n14, n15⟩ := fd
      have e2 : (some (n1, n2, n3, n4, n5, n6, n7, n15) : He.FnW) = some (d.name, d.qual, d.params, .stmts d.body, d.scope, mainGlobals, [], builtinsNs) := e
      simp only [Option.some.injEq, Prod.mk.injEq] at e2
      obtain ⟨h1, h2, h3, h4, h5, h6, h7, h8⟩ := e2
      subst h1 h2 h3 h4 h5 h6 h7 h8
      have c3 : (PySem.W.codeIn K n13 d.qual && (He.dflB K n8 (d.dvs K) && He.kwdB K n9 (d.kws K))) = true := c2
      obtain ⟨k1, k2⟩ := He.ba c3
      obtain ⟨k3, k4⟩ := He.ba k2
      exact ⟨_, ⟨oc, od, n8, n9, n10, n11, n12, n13, n14, osl, rfl, q, k1, He.dflB_ok k3, He.kwdB_ok k4⟩, kp⟩
    | _ => cases c2
section
variable {K : PySem.W.Frag} {mg : Str → Option Value}
theorem sys_ok (h : Fy.sys.ok K = true) : Sys K := by
  unfold Fy.ok at h
  cases e : K.lookup sysModules with
  | none => rw [e] at h; cases h
  | some o => rw [e] at h; exact ⟨o, e, of_decide_eq_true h⟩
theorem base_ok {x : Str} (g : mg x = some (.ref (He.ga K x))) (h : (Fy.base x).ok K = true) : BaseI K mg x (He.ga K x) := by
  obtain ⟨h1, h⟩ := He.ba h
  obtain ⟨h2, h⟩ := He.ba h
  obtain ⟨h3, h4⟩ := He.ba h
  refine ⟨g, He.eqO_ok h1, of_decide_eq_true h2, h3, ?_⟩
  split at h4
  · rename_i n e
    rw [e, beq_iff_eq.mp h4]
  · cases h4
theorem exk_ok {x : String} (g : mg (Str.ofString x) = some (.ref (He.ga K (Str.ofString x)))) (h : (Fy.exk (Str.ofString x)).ok K = true) :
    ExcF K mg x (He.ga K (Str.ofString x)) (He.ma K (He.ga K (Str.ofString x)) "__init__") ∧ ExcC K (He.ga K (Str.ofString x)) := by
  obtain ⟨h1, h⟩ := He.ba h
  obtain ⟨h2, h⟩ := He.ba h
  obtain ⟨h3, h⟩ := He.ba h
  obtain ⟨h4, h⟩ := He.ba h
  obtain ⟨h5, h⟩ := He.ba h
  obtain ⟨h6, h⟩ := He.ba h
  obtain ⟨h7, h⟩ := He.ba h
  obtain ⟨h8, h⟩ := He.ba h
  obtain ⟨h9, h⟩ := He.ba h
  obtain ⟨h10, h⟩ := He.ba h
  obtain ⟨h11, h⟩ := He.ba h
  obtain ⟨h12, h⟩ := He.ba h
  obtain ⟨h13, h14⟩ := He.ba h
  exact ⟨⟨g, ⟨oexB_ok h1, He.eqO_ok h2, of_decide_eq_true h3, of_decide_eq_true h4, h5⟩, He.eqO_ok h13, of_decide_eq_true h14⟩,
    ⟨He.eqO_ok h6, He.eqO_ok h7, of_decide_eq_true h3, h8, He.eqO_ok h9, He.eqO_ok h10, of_decide_eq_true h11, of_decide_eq_true h12⟩⟩
theorem any_ok {c a b : Str} (h : (Fy.any c a b).ok K = true) : PySem.W.exmAny K (.ref (He.ga K c)) [.ref (He.ga K a), .ref (He.ga K b)] = some true := of_decide_eq_true h
theorem kitC_ok {c n : Str} {r : Bool} (h : (Fy.kitC c n r).ok K = true) : PySem.W.kitOne K (.ref (He.ga K c)) (.ref (He.ga K n)) = some r := of_decide_eq_true h
theorem kitT_ok {c : Str} {n : String} {r : Bool} (h : (Fy.kitT c n r).ok K = true) : PySem.W.kitOne K (.ref (He.ga K c)) (.type n) = some r := of_decide_eq_true h
end
section
variable {K : PySem.W.Frag}
theorem prop_ok {x f : Str} (h : (Fy.prop x f).ok K = true) : PropOf K (He.ga K x) f (He.ma K (He.ga K x) f) (pAd K (He.ga K x) f) := by
  obtain ⟨h1, h⟩ := He.ba h
  obtain ⟨h2, h⟩ := He.ba h
  obtain ⟨h3, h4⟩ := He.ba h
  refine ⟨He.eqO_ok h1, He.eqO_ok h2, of_decide_eq_true h3, ?_⟩
  unfold pAd
  split at h4
  · rename_i g r e
    exact ⟨r, by rw [e]⟩
  · cases h4
end
/-! ### defs with lambdas: code objects, their tables -/
abbrev DefA : Type := Str × Option Str
def cA (K : PySem.W.Frag) (p : DefA) : Addr := match codeV K (He.fAd K p) with
  | .ref c => c
  | _ => 0
def tA (K : PySem.W.Frag) (p : DefA) : Addr := match K.lookup (cA K p) with
  | some ⟨_, _, .fields vs, _⟩ => (match (vs[11]? : Option Value) with
    | some (.ref P) => P
    | _ => 0)
  | _ => 0
def isTab (o : Obj) : Bool := match o with
  | ⟨.none, none, .fields ⟨[]⟩, ⟨[]⟩⟩ => true
  | _ => false
theorem isTab_ok {o : Obj} (h : isTab o = true) : o = { cls := .none, data := .fields #[] } := by
  unfold isTab at h
  split at h
  · rfl
  · cases h
def lamOk (K : PySem.W.Frag) (p : DefA) : Bool := decide (codeV K (He.fAd K p) = .ref (cA K p)) && (PySem.W.codeHdIn K (cA K p) (tA K p) && (K.lookup (tA K p)).isNone)
def tabsB (g : Addr → Option Obj) (K : PySem.W.Frag) (l : List DefA) : Bool := l.all fun p => match g (tA K p) with
  | some o => isTab o
  | none => false
def nodB : List Addr → Bool
  | [] => true
  | a :: r => !(r.contains a) && nodB r
theorem nodB_ok : ∀ {l : List Addr}, nodB l = true → l.Nodup
  | [], _ => List.nodup_nil
  | a :: r, h => by
    obtain ⟨h1, h2⟩ := He.ba h
    refine List.nodup_cons.mpr ⟨fun z => ?_, nodB_ok h2⟩
    simp [z] at h1
abbrev AlL : Type := (He.AlD × List He.FnW) × Bool
def obsL (fa : List He.Fa) (fn : List He.DefD) (fx : List Fy) (lam : List DefA) (pn : List He.DefD) (K : PySem.W.Frag) : AlL := ((He.obsD fa fn K, pn.map fun d => fnWA K (dAd K d.at_)), ((fx.all fun f => f.ok K) && (lam.all (fun p => lamOk K p) && nodB (lam.map (tA K)))) && pn.all fun d => okA K (dAd K d.at_) d)
def frL (n : Nat) (g : Addr → Option Obj) : PySem.W.Frag := He.frG g ((sysModules :: cStatics :: He.asD g n).filter fun a => match g a with
  | some o => !(isTab o)
  | none => true)
def obsLG (n : Nat) (fa : List He.Fa) (fn : List He.DefD) (fx : List Fy) (lam : List DefA) (pn : List He.DefD) (g : Addr → Option Obj) : AlL × Bool := (obsL fa fn fx lam pn (frL n g), tabsB g (frL n g) lam)
structure SaysL (fa : List He.Fa) (fn : List He.DefD) (fx : List Fy) (lam : List DefA) (pn : List He.DefD) (K : PySem.W.Frag) : Prop where
  eq : obsL fa fn fx lam pn K = ((He.valD fn, pn.map He.DefD.val), true)
def hookL (n : Nat) (fa : List He.Fa) (fn : List He.DefD) (fx : List Fy) (lam : List DefA) (pn : List He.DefD) : PySem.W.Hook where
  α := AlL × Bool
  obs := fun s => obsLG n fa fn fx lam pn s.heap.get?
  val := fun _ => (((He.valD fn, pn.map He.DefD.val), true), true)
  says := fun _ h => ∃ K : PySem.W.Frag, K.In h ∧ SaysL fa fn fx lam pn K ∧ ∀ p ∈ lam, h.get? (tA K p) = some { cls := .none, data := .fields #[] }
  of := fun _ s e => ⟨frL n s.heap.get?, He.frG_in, ⟨congrArg (fun z : AlL × Bool => z.1) e⟩, fun p hp => by
    have h2 := List.all_eq_true.mp (congrArg (fun z : AlL × Bool => z.2) e) p hp
    split at h2
    · rename_i o ho
      rw [ho, isTab_ok h2]
    · cases h2⟩
  keeps := fun _ _ _ ⟨K, a, c, t⟩ k => ⟨K, PySem.W.Frag.In.keeps a k, c, fun p hp => k _ _ (t p hp)⟩
theorem obsL_eq {n : Nat} {fa : List He.Fa} {fn : List He.DefD} {fx : List Fy} {lam : List DefA} {pn : List He.DefD} {g : Addr → Option Obj} {s : Shared} (h : ∀ a, g a = s.heap.get? a) : obsLG n fa fn fx lam pn g = (hookL n fa fn fx lam pn).obs s := by
  have e : g = s.heap.get? := funext h
  subst e
  rfl
section
variable {fa : List He.Fa} {fn : List He.DefD} {fx : List Fy} {lam : List DefA} {pn : List He.DefD} {K : PySem.W.Frag}
theorem SaysL.d (c : SaysL fa fn fx lam pn K) : He.SaysD fa fn K := congrArg (fun z : AlL => z.1.1) c.eq
theorem SaysL.b (c : SaysL fa fn fx lam pn K) : (((fx.all fun f => f.ok K) && (lam.all (fun p => lamOk K p) && nodB (lam.map (tA K)))) && pn.all fun d => okA K (dAd K d.at_) d) = true := congrArg (fun z : AlL => z.2) c.eq
theorem SaysL.x (c : SaysL fa fn fx lam pn K) (i : Nat) {f : Fy} (h : fx[i]? = some f := by rfl) : f.ok K = true :=
  List.all_eq_true.mp (He.ba (He.ba c.b).1).1 f (List.mem_of_getElem? h)
theorem SaysL.l (c : SaysL fa fn fx lam pn K) {p : DefA} (h : p ∈ lam) : lamOk K p = true :=
  List.all_eq_true.mp (He.ba (He.ba (He.ba c.b).1).2).1 p h
theorem SaysL.nd (c : SaysL fa fn fx lam pn K) : (lam.map (tA K)).Nodup := nodB_ok (He.ba (He.ba (He.ba c.b).1).2).2
theorem SaysL.p (c : SaysL fa fn fx lam pn K) (i : Nat) {d : He.DefD} (h : pn[i]? = some d := by rfl) : ∃ fd, FunD K d.name d.qual d.params d.body d.scope (d.dvs K) (d.kws K) (dAd K d.at_) fd := by
  have e : (pn.map fun d => fnWA K (dAd K d.at_)) = pn.map He.DefD.val := congrArg (fun z : AlL => z.1.2) c.eq
  have e2 : (pn.map fun d => fnWA K (dAd K d.at_))[i]? = (pn.map He.DefD.val)[i]? := by rw [e]
  rw [List.getElem?_map, List.getElem?_map, h] at e2
  exact funA (Option.some.inj e2) (List.all_eq_true.mp (He.ba c.b).2 d (List.mem_of_getElem? h))
end
/-- what a def's lambdas lean on -/
structure LamF [TabC] (K : PySem.W.Frag) (mg : Str → Option Value) (base : Heap) (f : Addr) (q : Str) (c P : Addr) : Prop where
  code : codeV K f = .ref c
  tb : LamX.TabB base mg c P
  mem : (P, q) ∈ TabC.T
  un : ∀ p ∈ TabC.T, p.1 = P → p.2 = q
section
variable {fa : List He.Fa} {fn : List He.DefD} {fx : List Fy} {lam : List DefA} {pn : List He.DefD} {K : PySem.W.Frag} {mg : Str → Option Value} {base h : Heap}
/-- the tables by def; qs: the names of their lambdas -/
abbrev tabsC (K : PySem.W.Frag) (lq : List (DefA × Str)) : TabC := ⟨lq.map fun p => (tA K p.1, p.2)⟩
theorem nodup_get {α β : Type} {f : α → β} : ∀ {l : List α}, (l.map f).Nodup → ∀ {x y : α}, x ∈ l → y ∈ l → f x = f y → x = y
  | [], _, _, _, hx, _, _ => nomatch hx
  | a :: r, n, x, y, hx, hy, e => by
    have n' : f a ∉ r.map f ∧ (r.map f).Nodup := List.nodup_cons.mp n
    obtain ⟨n1, n2⟩ := n'
    rcases List.mem_cons.mp hx with hx | hx
    · rcases List.mem_cons.mp hy with hy | hy
      · rw [hx, hy]
      · rw [hx] at e
        exact (n1 (List.mem_map.mpr ⟨y, hy, e.symm⟩)).elim
    · rcases List.mem_cons.mp hy with hy | hy
      · rw [hy] at e
        exact (n1 (List.mem_map.mpr ⟨x, hx, e⟩)).elim
      · exact nodup_get n2 hx hy e
theorem lamF_of {lq : List (DefA × Str)} (c : SaysL fa fn fx (lq.map (·.1)) pn K) (hb : ∀ p ∈ lq.map (fun p => (cA K p.1, tA K p.1)), LamX.TabB base mg p.1 p.2) {p : DefA} {q : Str} (hp : (p, q) ∈ lq) : @LamF (tabsC K lq) K mg base (He.fAd K p) q (cA K p) (tA K p) := by
  have hm : p ∈ lq.map (·.1) := List.mem_map.mpr ⟨(p, q), hp, rfl⟩
  obtain ⟨h1, _⟩ := He.ba (c.l hm)
  refine @LamF.mk (tabsC K lq) _ _ _ _ _ _ _ (of_decide_eq_true h1) (hb (cA K p, tA K p) (List.mem_map.mpr ⟨(p, q), hp, rfl⟩)) (show (tA K p, q) ∈ (tabsC K lq).T from List.mem_map.mpr ⟨(p, q), hp, rfl⟩) fun z hz e => ?_
  obtain ⟨⟨p', q'⟩, h3, rfl⟩ := List.mem_map.mp hz
  have nd : (lq.map fun z => tA K z.1).Nodup := by
    have := c.nd
    rwa [List.map_map] at this
  have := nodup_get (f := fun z : DefA × Str => tA K z.1) nd h3 hp e
  rw [Prod.mk.injEq] at this
  exact this.2
/-- the facts about tables that the law's end wants -/
theorem tabs_end {lq : List (DefA × Str)} (X : K.In h) (c : SaysL fa fn fx (lq.map (·.1)) pn K) (t : ∀ p ∈ lq.map (·.1), h.get? (tA K p) = some { cls := .none, data := .fields #[] }) :
    (∀ p ∈ lq.map (fun p => (cA K p.1, tA K p.1)), h.get? p.2 = some { cls := .none, data := .fields #[] }) ∧ (∀ p ∈ lq.map (fun p => (cA K p.1, tA K p.1)), K.lookup p.2 = none) ∧ (∀ p ∈ lq.map (fun p => (cA K p.1, tA K p.1)), PySem.W.CodeHd h p.1 p.2) ∧
      (∀ p ∈ (tabsC K lq).T, ∃ c, (c, p.1) ∈ lq.map (fun p => (cA K p.1, tA K p.1))) := by
  have go : ∀ {p : DefA × Str}, p ∈ lq → lamOk K p.1 = true := fun hp => c.l (List.mem_map.mpr ⟨_, hp, rfl⟩)
  refine ⟨fun p hp => ?_, fun p hp => ?_, fun p hp => ?_, fun p hp => ?_⟩
  · obtain ⟨z, hz, rfl⟩ := List.mem_map.mp hp
    exact t _ (List.mem_map.mpr ⟨_, hz, rfl⟩)
  · obtain ⟨z, hz, rfl⟩ := List.mem_map.mp hp
    exact Option.isNone_iff_eq_none.mp (He.ba (He.ba (go hz)).2).2
  · obtain ⟨z, hz, rfl⟩ := List.mem_map.mp hp
    exact PySem.W.codeHd_of_K X (He.ba (He.ba (go hz)).2).1
  · obtain ⟨z, hz, rfl⟩ := List.mem_map.mp hp
    exact ⟨_, List.mem_map.mpr ⟨z, hz, rfl⟩⟩
end
end T5
namespace T5
open PySem PySem.Spec PyProof.Rows L2
variable [TabC]
/-! ### len, in, [], + by the class's own methods -/
def asInt (r : R D) : R D := (noEx r).bind fun v st => match v with
  | .int n => if 0 ≤ n ∧ n < 2 ^ 63 then .ok (.int n) st else .bad
  | _ => .bad
def asBl (r : R D) : R D := (noEx r).bind fun v st => match v with
  | .bl b => .ok (.bl b) st
  | _ => .bad
def eLenC (c : String) (m : MF) (ma : MA) : ME := fun env st => (ma env st).bind fun ds st1 => match ds with
  | [d] => (match insOf st1 d with
    | some (c1, _, _) => if c1 = c then asInt (m [d] st1) else .bad
    | none => ofO (fLen st1 [d]) st1)
  | _ => .bad
def eInC (c : String) (m : MF) (ma mb : ME) : ME := fun env st => (ma env st).bind fun d1 st1 => (mb env st1).bind fun d2 st2 => match insOf st2 d2 with
  | some (c1, _, _) => if c1 = c then asBl (m [d2, d1] st2) else .bad
  | none => ofO (bIn st2 d1 d2) st2
def eIxC (c : String) (m : MF) (ma mb : ME) : ME := fun env st => (ma env st).bind fun d1 st1 => (mb env st1).bind fun d2 st2 => match insOf st2 d1 with
  | some (c1, _, _) => if c1 = c then m [d1, d2] st2 else .bad
  | none => ofO (bIx st2 d1 d2) st2
def eAddC (c : String) (m : MF) (ma mb : ME) : ME := fun env st => (ma env st).bind fun d1 st1 => (mb env st1).bind fun d2 st2 => match insOf st2 d1, insOf st2 d2 with
  | some (c1, _, _), some (c2, _, _) => if c1 = c ∧ c2 = c then m [d1, d2] st2 else .bad
  | none, none => ofO (bAdd st2 d1 d2) st2
  | _, _ => .bad
section
variable {X : Cx} {k : Nat} {f C : Addr} {ps : List Str} {m : MF} {c : String} {a b : Expr} {es : List Expr} {e : Expr} {pos p : Pos} {ma mb : ME} {mA : MA} {K : PySem.W.Frag} {mg : Str → Option Value}
/-! len -/
def rLenC (K : PySem.W.Frag) (mg : Str → Option Value) (C : Addr) (m : MF) : List V → Hp → VK → Prop := fun xs H Q => ∃ a dx fs, xs = [V.ref a] ∧ H a = some (.ins C dx fs) ∧ spM K mg 1 m xs H (fun v H' => ∃ n, v = .int n ∧ (0 ≤ n ∧ n < 2 ^ 63) ∧ Q v H') (fun _ _ _ => False)
/-! in -/
def rInC (K : PySem.W.Frag) (mg : Str → Option Value) (C : Addr) (m : MF) : R2 := fun x y H Q => ∃ b dy gs, y = .ref b ∧ H b = some (.ins C dy gs) ∧ spM K mg 2 m [y, x] H (fun v H' => (∃ t, v = .bl t) ∧ Q v H') (fun _ _ _ => False)
end
end T5
namespace T5
section
open PySem PySem.W PySem.Calls PyProof.Rows Builtin
variable {prog : Program} {w : World} {A : Around} {E : Value → Shared → Prop} {s : Shared} {K : Frag} {x y C L f : Addr} {h₀ : Heap} {m : Str → Option Value} {ox : Obj} {od : Option Obj}
end
open PySem PySem.Spec PyProof.Rows L2
variable [TabC]
/-! ### == and != of two of one class by its __eq__; else of data -/
def notBl (r : R D) : R D := (noEx r).bind fun v st => match v with
  | .bl b => .ok (.bl (!b)) st
  | _ => .bad
def eEqD (c : String) (m : MF) (ma mb : ME) : ME := fun env st => (ma env st).bind fun d1 st1 => (mb env st1).bind fun d2 st2 => match insOf st2 d1, insOf st2 d2 with
  | some (c1, _, _), some (c2, _, _) => if c1 = c ∧ c2 = c then asBl (m [d1, d2] st2) else .bad
  | none, none => ofO (bEq st2 d1 d2) st2
  | _, _ => .bad
def eNeD (c : String) (m : MF) (ma mb : ME) : ME := fun env st => (ma env st).bind fun d1 st1 => (mb env st1).bind fun d2 st2 => match insOf st2 d1, insOf st2 d2 with
  | some (c1, _, _), some (c2, _, _) => if c1 = c ∧ c2 = c then notBl (m [d1, d2] st2) else .bad
  | none, none => ofO (bNe st2 d1 d2) st2
  | _, _ => .bad
section
variable {X : Cx} {k : Nat} {f C : Addr} {ps : List Str} {m : MF} {c : String} {a b : Expr} {pos : Pos} {ma mb : ME} {K : PySem.W.Frag} {mg : Str → Option Value}
def rNeC (K : PySem.W.Frag) (mg : Str → Option Value) (C : Addr) (m : MF) : R2 := fun x y H Q => ∃ a b dx dy fs gs, x = .ref a ∧ y = .ref b ∧ H a = some (.ins C dx fs) ∧ H b = some (.ins C dy gs) ∧ spM K mg 2 m [x, y] H (fun v H' => ∃ t, v = .bl t ∧ Q (.bl (!t)) H') (fun _ _ _ => False)
end
end T5
namespace T5
open PySem PySem.Spec PyProof.Rows L2
variable [TabC]
/-! ### tuple(range(n)) -/
def eTupRg (ma : ME) : ME := fun env st => (ma env st).bind fun d st1 => match d with
  | .int n => if n ≤ cap ∧ -(2 ^ 62) ≤ n then .ok (.tup (upTo 0 n.toNat)) st1 else .bad
  | _ => .bad
section
variable {X : Cx} {p pos : Pos}
end
section
variable {X : Cx} {k : Nat} {f C : Addr} {ps : List Str} {m : MF} {c : String} {a b : Expr} {pos : Pos} {ma mb : ME}
end
end T5
namespace HT
open PySem PySem.Spec PyProof.Rows Builtin
section
variable {prog : Program} {w : World} {A : Around} {E : Value → Shared → Prop} {s : Shared}
end
end HT
namespace T5
open PySem PySem.Spec PyProof.Rows L2
variable [TabC]
/-! ### xs[::-1] -/
def eRev (m : ME) : ME := fun env st => (m env st).bind fun d st1 => match d with
  | .tup l => .ok (.tup l.reverse) st1
  | d => (match lstOf st1 d with
    | some l => .ok (.lst l.reverse) st1
    | none => .bad)
section
variable {X : Cx} {e : Expr} {m : ME} {k : Nat} {p1 p2 p3 pos : Pos}
end
end T5
namespace HT
open PySem PySem.Spec PyProof.Rows
section
variable {prog : Program} {w : World} {A : Around} {E : Value → Shared → Prop} {s : Shared}
end
end HT
namespace T5
open PySem PySem.Spec PyProof.Rows L2
variable [TabC]
/-! ### (a, b, ..) = a list -/
section
variable {X : Cx} {pos : Pos}
def gTupL (K : PySem.W.Frag) (n : Nat) (t : TGs) : TG := fun v σ H Q => ∃ a xs, v = .ref a ∧ SqL K H a xs ∧ xs.length = n ∧ t xs σ H Q
def sAsgL (m : ME) (gs : MGs0) : MS := fun env st => (m env st).toS env fun d st1 => match lstOf st1 d with
  | some l => (match gs l env with
    | some env2 => .nx env2 st1
    | none => .bad)
  | none => .bad
end
end T5
namespace T5
open PySem PySem.Spec PyProof.Rows L2
variable [TabC]
/-! ### str(x) -/
/-- a number's figures -/
def decD (i : Int) : List Nat := (PySem.Str.ofString (ToString.toString i)).cps.toList
def fStr : BF := fun _ ds => match ds with
  | [.int i] => if i.natAbs.log2 < 1920 then some (.str (decD i)) else none
  | [.str s] => some (.str s)
  | _ => none
def asStr (r : R D) : R D := (noEx r).bind fun v st => match v with
  | .str s => .ok (.str s) st
  | _ => .bad
def eStrC (c : String) (m : MF) (ma : MA) : ME := fun env st => (ma env st).bind fun ds st1 => match ds with
  | [d] => (match insOf st1 d with
    | some (c1, _, _) => if c1 = c then asStr (m [d] st1) else .bad
    | none => ofO (fStr st1 [d]) st1)
  | _ => .bad
section
variable {X : Cx} {k : Nat} {f C : Addr} {ps : List Str} {m : MF} {c : String} {a b : Expr} {es : List Expr} {e : Expr} {pos p : Pos} {ma mb : ME} {mA : MA} {K : PySem.W.Frag} {mg : Str → Option Value}
abbrev rStrA : List V → Hp → VK → Prop := fun xs H Q => (∃ i : Int, xs = [.int i] ∧ i.natAbs.log2 < 1920 ∧ Q (.str (PySem.Str.ofString (ToString.toString i))) H) ∨ ∃ a, xs = [.str a] ∧ Q (.str a) H
def rStrC (K : PySem.W.Frag) (mg : Str → Option Value) (C : Addr) (m : MF) : List V → Hp → VK → Prop := fun xs H Q => ∃ a dx fs, xs = [V.ref a] ∧ H a = some (.ins C dx fs) ∧ spM K mg 1 m xs H (fun v H' => (∃ t, v = .str t) ∧ Q v H') (fun _ _ _ => False)
end
/-! ### f".." -/
/-- what stands in the braces, as a text -/
def txtD : D → Option (List Nat)
  | .str s => if s.length ≤ cap then some s else none
  | .int i => if i.natAbs.log2 < 1920 then some (decD i) else none
  | _ => none
/-- a part: a text (false), something in braces (true) -/
def fsL : List (Bool × ME) → List Nat → ME
  | [], acc => fun _ st => .ok (.str acc) st
  | (b, m) :: ms, acc => fun env st => (m env st).bind fun d st1 => match (if b = true then txtD d else match d with | .str s => some s | _ => none) with
    | some s => if acc.length + s.length ≤ cap then fsL ms (acc ++ s) env st1 else .bad
    | none => .bad
def eFs (ms : List (Bool × ME)) : ME := fsL ms []
inductive SJ (X : Cx) : List Expr → List (Bool × ME) → Prop where
  | nil : SJ X [] []
  | txt {x : Str} {j : Nat} {pos : Pos} {s : List Nat} {es : List Expr} {ms : List (Bool × ME)} (h : x = toStr s) (r : SJ X es ms) : SJ X (.Constant (.str x) j pos :: es) ((false, eC (.str s)) :: ms)
  | fmt {e : Expr} {m : ME} {pos : Pos} {es : List Expr} {ms : List (Bool × ME)} (h : SE X e m) (r : SJ X es ms) : SJ X (.FormattedValue e (-1) none pos :: es) ((true, m) :: ms)
section
variable {X : Cx} {pn : List (Addr × Obj)} {xe : XK} {W : WX}
/-- the parts' readings -/
def fsT (K : PySem.W.Frag) (mg : Str → Option Value) (W : WX) : List (Bool × ME) → List TE
  | [] => []
  | (true, m) :: ms => tFmt (tM K mg W m) :: fsT K mg W ms
  | (false, m) :: ms => tM K mg W m :: fsT K mg W ms
end
/-! ### s.join(texts) -/
def joinD (a : List Nat) : List (List Nat) → List Nat
  | [] => []
  | [x] => x
  | x :: y :: r => x ++ a ++ joinD a (y :: r)
def strsD : List D → Option (List (List Nat))
  | [] => some []
  | .str s :: l => (strsD l).map fun r => s :: r
  | _ => none
def lenS : List (List Nat) → Nat
  | [] => 0
  | x :: r => x.length + lenS r
def joinO (a : List Nat) (l : List D) : Option D := (strsD l).bind fun ys => if lenS ys + ys.length * a.length ≤ cap then some (.str (joinD a ys)) else none
def eJoin (mo me : ME) : ME := fun env st => (mo env st).bind fun o st1 => match o with
  | .str a => (me env st1).bind fun d st2 => (match d with
    | .tup l => ofO (joinO a l) st2
    | d => (match lstOf st2 d with
      | some l => ofO (joinO a l) st2
      | none => .bad))
  | _ => .bad
section
variable {X : Cx} {o e : Expr} {mo me : ME} {apos pos : Pos}
end
end T5
namespace T5
open PySem PySem.Spec PyProof.Rows L2
variable [TabC]
/-! ### a comprehension over a list of the store -/
def ItG (K : PySem.W.Frag) (mg : Str → Option Value) (J : It) (μ0 : Mu) (H0 : Hp) (G : Store → Prop) (ds : List D) : Prop :=
  ∀ (i : Nat) μ H st, Ext μ0 H0 μ H → Rel K mg μ H st → G st → (∀ d, ds[i]? = some d → J.go i H ∧ ∀ x H', J.yld i H x H' → Same H H' ∧ Rep K mg μ H' d x) ∧ (ds.length ≤ i → J.stop i H)
open Classical in
noncomputable def lcLoopO (G : Store → Prop) (g : MG0) (ct : MT) (me : ME) (env : DEnv) : List D → List D → Store → R (List D)
  | [], acc, st => if G st then .ok acc st else .bad
  | d :: ds, acc, st => if G st then (match g d env with
    | some env1 => (ct env1 st).bind fun b st1 => if b = true then (me env1 st1).bind fun y st2 => (if acc.length ≤ cap then lcLoopO G g ct me env ds (acc ++ [y]) st2 else .bad) else lcLoopO G g ct me env ds acc st1
    | none => .bad) else .bad
noncomputable def eLcO (m : ME) (g : MG0) (ct : MT) (me : ME) (own : List Nat) : ME := fun env st => (m env st).bind fun d st1 => match d with
  | .obj n => (match st1[n]? with
    | some (.lst ds) => (noEx (lcLoopO (fun s => s[n]? = some (.lst ds)) g ct me (wipeD env own) ds [] st1)).bind fun ys st2 => .ok (.lst ys) st2
    | _ => .bad)
  | _ => .bad
section
variable {X : Cx} {elt tg iter : Expr} {ifs : List Expr} {scope : Scope} {own : List (Str × Nat)} {sl : List Nat} {pos : Pos} {m : ME} {g : MG0} {ct : MT} {me : ME}
section
variable {i : Nat} {y : Str} {py spos : Pos}
variable (hc : X.calm = true) (hN : X.N.Nodup) (hi : SE X iter m) (ok : BlkOk X.N X.env.scope scope own) (hsl : ∀ i ∈ sl, i ∈ own.map (·.2))
    (hg : ∀ (s : Shared) (H : Hp) (C : Addr) (cl : List (Str × Addr)) (fp : List Addr), SG (X.blk s H scope (compEnvC scope cl C X.env) fp) tg g sl) (ht : ∀ (s : Shared) (H : Hp) (C : Addr) (cl : List (Str × Addr)) (fp : List Addr), STs (X.blk s H scope (compEnvC scope cl C X.env) fp) ifs ct)
    (he : ∀ (s : Shared) (H : Hp) (C : Addr) (cl : List (Str × Addr)) (fp : List Addr), SE (X.blk s H scope (compEnvC scope cl C X.env) fp) elt me)
include hc hN hi ok hsl hg ht he
end
end
/-! ### zip of two tuples, of two lists -/
def zipD : List D → List D → List D
  | x :: a, y :: b => .tup [x, y] :: zipD a b
  | _, _ => []
def iZipD (ma : MA) : MI := fun env st => (ma env st).bind fun ds st1 => match ds with
  | [.tup a, .tup b] => .ok (zipD a b) st1
  | [.lst a, .lst b] => .ok (zipD a b) st1
  | _ => .bad
section
variable {K : PySem.W.Frag} {mg : Str → Option Value} {μ : Mu} {H : Hp} {l l2 : List D} {a b : Addr}
end
section
variable {X : Cx} {e e2 : Expr} {ma : MA} {p pos tpos : Pos} {elts : List Expr} {kk : Nat}
end
end T5
namespace T5
open PySem PySem.Spec PyProof.Rows L2
variable [TabC]
/-! ### o.m(..) of an instance -/
section
variable {X : Cx} {k : Nat} {f C : Addr} {ps : List Str} {m : MF} {c n : String} {o e : Expr} {es : List Expr} {mo : ME} {ma : MA} {pos apos : Pos} {nm : Str}
/-- what stands behind o, and what is then asked of the arguments -/
def qMeth (X : Cx) (C : Addr) (nm : Str) (l : Nat) (m : MF) (ta : (List V → Hp → Prop) → Hp → Prop) (Q : VK) (E : XK) : V → Hp → Prop := fun x H1 => ∃ a dx fs, x = .ref a ∧ H1 a = some (.ins C dx fs) ∧ fs.lookup nm = none ∧
  ta (fun vs H2 => spM X.K X.mg l m (.ref a :: vs) H2 Q E) H1
end
/-- o.f += v, of numbers -/
def sAugFI (c f : String) (mo mv : ME) : MS := fun env st => (mo env st).toS env fun d st1 => match d with
  | .obj n => (match st1[n]? with
    | some (.ins c' ks ds) => if c' = c ∧ ks.length ≤ 100 then (match lookF f ks ds with
      | some (.int i) => (mv env st1).toS env fun v st2 => match v with
        | .int j => (match st2[n]? with
          | some (.ins c2 ks2 ds2) => if c2 = c ∧ ks2.length ≤ 100 then .nx env (st2.set n (.ins c (putFd f (.int (i + j)) ks2 ds2).1 (putFd f (.int (i + j)) ks2 ds2).2)) else .bad
          | _ => .bad)
        | _ => .bad
      | _ => .bad) else .bad
    | _ => .bad)
  | _ => .bad
section
variable {X : Cx} {o value : Expr} {mo mv : ME} {pos tpos : Pos} {c f : String} {fs : Str} {C : Addr}
end
end T5
namespace T5
open PySem PySem.Spec PyProof.Rows L2
variable [TabC]
/-! ### {k: v for x in xs if t}, read and not changed -/
def dcLoop (g : MG0) (ct : MT) (mk mv : ME) (env : DEnv) : List D → List D → List D → Store → R (List D × List D)
  | [], ks, vs, st => .ok (ks, vs) st
  | d :: ds, ks, vs, st => match g d env with
    | some env1 => (ct env1 st).bind fun b st1 => if b = true then (mk env1 st1).bind fun k st2 => (mv env1 st2).bind fun v st3 => (if isKey false k = true ∧ ks.length ≤ cap then dcLoop g ct mk mv env ds (putD false k v ks vs).1 (putD false k v ks vs).2 st3 else .bad) else dcLoop g ct mk mv env ds ks vs st1
    | none => .bad
def eDc (mi : MI) (g : MG0) (ct : MT) (mk mv : ME) (own : List Nat) : ME := fun env st => (mi env st).bind fun ds st1 => (noEx (dcLoop g ct mk mv (wipeD env own) ds [] [] st1)).bind fun p st2 => .ok (.dic false p.1 p.2) st2
section
variable {K : PySem.W.Frag} {mg : Str → Option Value} {μ : Mu} {H H' : Hp} {st : Store} {p : Addr}
end
section
variable {X : Cx} {kx vx tg iter : Expr} {ifs : List Expr} {scope : Scope} {own : List (Str × Nat)} {sl : List Nat} {pos : Pos} {mi : MI} {g : MG0} {ct : MT} {mk mv : ME}
variable (hc : X.calm = true) (hN : X.N.Nodup) (hi : SI X tg iter mi) (ok : BlkOk X.N X.env.scope scope own) (hsl : ∀ i ∈ sl, i ∈ own.map (·.2))
    (hg : ∀ (s : Shared) (H : Hp) (C : Addr) (cl : List (Str × Addr)) (fp : List Addr), SG (X.blk s H scope (compEnvC scope cl C X.env) fp) tg g sl) (ht : ∀ (s : Shared) (H : Hp) (C : Addr) (cl : List (Str × Addr)) (fp : List Addr), STs (X.blk s H scope (compEnvC scope cl C X.env) fp) ifs ct)
    (hk : ∀ (s : Shared) (H : Hp) (C : Addr) (cl : List (Str × Addr)) (fp : List Addr), SE (X.blk s H scope (compEnvC scope cl C X.env) fp) kx mk)
    (he : ∀ (s : Shared) (H : Hp) (C : Addr) (cl : List (Str × Addr)) (fp : List Addr), SE (X.blk s H scope (compEnvC scope cl C X.env) fp) vx mv)
include hc hN hi ok hsl hg ht hk he
end
end T5
namespace T5
open PySem PySem.Spec PyProof.Rows L2
variable [TabC]
/-! ### sorted(xs), pairs of ints -/
def pairD : D → Option (Int × Int)
  | .tup [.int i, .int j] => some (i, j)
  | _ => none
def dPr (p : Int × Int) : D := .tup [.int p.1, .int p.2]
def pairsD : List D → Option (List (Int × Int))
  | [] => some []
  | d :: ds => (pairD d).bind fun p => (pairsD ds).map fun ps => p :: ps
def insP (p : Int × Int) : List (Int × Int) → List (Int × Int)
  | [] => [p]
  | q :: l => if SrtO.lexB q p = true then q :: insP p l else p :: q :: l
def sortP : List (Int × Int) → List (Int × Int)
  | [] => []
  | p :: l => insP p (sortP l)
def leP (p q : Int × Int) : Prop := SrtO.lexB q p = false
def fSortP : BF := fun st ds => match ds with
  | [d] => (lstOf st d).bind fun l => (pairsD l).map fun ps => .lst ((sortP ps).map dPr)
  | _ => none
section
variable {K : PySem.W.Frag} {mg : Str → Option Value} {μ : Mu} {H : Hp} {X : Cx} {e : Expr} {es : List Expr} {ma : MA} {p pos : Pos}
/-- what a thing of the heap is as a pair -/
def kOf (H : Hp) : V → Int × Int
  | .ref t => match H t with
    | some (.tup [.int i, .int j]) => (i, j)
    | _ => (0, 0)
  | _ => (0, 0)
end
end T5
namespace T5
open PySem PySem.Spec PyProof.Rows L2
variable [TabC]
/-! ### list(d), d with tuples as keys -/
section
variable {K : PySem.W.Frag} {mg : Str → Option Value} {μ : Mu} {H : Hp} {st : Store} {X : Cx} {e : Expr} {es : List Expr} {ma : MA} {p pos : Pos}
/-- the keys -/
def fListT : BF := fun st ds => match ds with
  | [d] => (dicOf st d).bind fun q => if q.1 = true then some (.lst q.2.1) else none
  | _ => none
end
end T5
namespace T5
open PySem PySem.Spec PyProof.Rows L2
variable [TabC]
/-! ### a < b <= c < d, as a test -/
def eChain3 (g g' g'' : BO) (ma mb mc md : ME) : ME := fun env st => (ma env st).bind fun d1 st1 => (mb env st1).bind fun d2 st2 => (ofO (g st2 d1 d2) st2).bind fun z st2' => match z with
  | .bl true => (mc env st2').bind fun d3 st3 => (ofO (g' st3 d2 d3) st3).bind fun z st3' => (match z with
    | .bl true => (md env st3').bind fun d4 st4 => ofO (g'' st4 d3 d4) st4
    | .bl false => .ok (.bl false) st3'
    | _ => .bad)
  | .bl false => .ok (.bl false) st2'
  | _ => .bad
def tCh3 (r r' r'' : R2) (ta tb tc td : TE) : TE := fun σ H Q => ta σ H fun x H1 => tb σ H1 fun y H2 => r x y H2 fun z H3 => ∃ k, z = .bl k ∧
  (if k = true then tc σ H3 fun w H4 => r' y w H4 fun z H5 => ∃ k, z = .bl k ∧ (if k = true then td σ H5 fun v H6 => r'' w v H6 Q else Q (.bl false) H5) else Q (.bl false) H3)
section
variable {X : Cx} {K : PySem.W.Frag} {mg : Str → Option Value} {a b c d : Expr} {ma mb mc md : ME} {pos : Pos} {op op' op'' : CmpOp} {r r' r'' : R2} {ta tb tc td : TE}
end
end T5
namespace T5
open PySem PySem.Spec PyProof.Rows L2
/-! ### {(a, b): v for x in xs if t}: tuples as keys, locked when it is made -/
section
variable {X : Cx}
/-- what the comprehension asks -/
def tDcT (wi : TI) (g : TG) (tt : TT) (tk tv : TE) (vs : List Nat) : TE := fun σ H Q => wi σ H fun J H1 => ∀ T, H1 T = none → ∃ W : Nat → Nat → Hp → Prop, (∃ m, W 0 m (upd H1 T (.dT []))) ∧ ∀ i m H, W i m H →
  (J.stop i H ∧ ∃ al, H T = some (.dT al) ∧ ∀ o, Q (.ref T) (upd H T (.frz o (.dT al)))) ∨ (J.go i H ∧ ∃ Nx : Hp → Prop, (∀ H', Nx H' → ∃ m', m' < m ∧ W (i + 1) m' H') ∧ ∀ x H', J.yld i H x H' → g x (wipe σ vs) H' fun σ2 H2 => wipe σ2 vs = wipe σ vs ∧ tt σ2 H2 fun b H3 =>
    if b = true then tk σ2 H3 fun y H4 => tv σ2 H4 fun z H5 => ∃ al k b, y = .ref b ∧ H5 b = some (.tup (k.map kV)) ∧ H5 T = some (.dT al) ∧ al.length < sizeLine ∧ Nx (upd H5 T (.dT (putK al k z))) else Nx H3)
end
end T5
namespace T5
open PySem PySem.Spec PyProof.Rows L2
variable [TabC]
/-! ### {(a, b): v for x in xs if t}, read and walked -/
def dcLoopT (g : MG0) (ct : MT) (mk mv : ME) (env : DEnv) : List D → List D → List D → Store → R (List D × List D)
  | [], ks, vs, st => .ok (ks, vs) st
  | d :: ds, ks, vs, st => match g d env with
    | some env1 => (ct env1 st).bind fun b st1 => if b = true then (mk env1 st1).bind fun k st2 => (mv env1 st2).bind fun v st3 => (if isKey true k = true ∧ ks.length ≤ cap then dcLoopT g ct mk mv env ds (putD true k v ks vs).1 (putD true k v ks vs).2 st3 else .bad) else dcLoopT g ct mk mv env ds ks vs st1
    | none => .bad
def eDcT (mi : MI) (g : MG0) (ct : MT) (mk mv : ME) (own : List Nat) : ME := fun env st => (mi env st).bind fun ds st1 => (noEx (dcLoopT g ct mk mv (wipeD env own) ds [] [] st1)).bind fun p st2 => .ok (.dic true p.1 p.2) st2
section
variable {K : PySem.W.Frag} {mg : Str → Option Value} {μ : Mu} {H H' : Hp} {st : Store} {p : Addr}
end
section
variable {X : Cx} {kx vx tg iter : Expr} {ifs : List Expr} {scope : Scope} {own : List (Str × Nat)} {sl : List Nat} {pos : Pos} {mi : MI} {g : MG0} {ct : MT} {mk mv : ME}
variable {k i : Nat} {y : Str} {py spos : Pos}
variable (hc : X.calm = true) (hN : X.N.Nodup) (hi : SI X tg iter mi) (ok : BlkOk X.N X.env.scope scope own) (hsl : ∀ i ∈ sl, i ∈ own.map (·.2))
    (hg : ∀ (s : Shared) (H : Hp) (C : Addr) (cl : List (Str × Addr)) (fp : List Addr), SG (X.blk s H scope (compEnvC scope cl C X.env) fp) tg g sl) (ht : ∀ (s : Shared) (H : Hp) (C : Addr) (cl : List (Str × Addr)) (fp : List Addr), STs (X.blk s H scope (compEnvC scope cl C X.env) fp) ifs ct)
    (hk : ∀ (s : Shared) (H : Hp) (C : Addr) (cl : List (Str × Addr)) (fp : List Addr), SE (X.blk s H scope (compEnvC scope cl C X.env) fp) kx mk)
    (he : ∀ (s : Shared) (H : Hp) (C : Addr) (cl : List (Str × Addr)) (fp : List Addr), SE (X.blk s H scope (compEnvC scope cl C X.env) fp) vx mv)
include hc hN hi ok hsl hg ht hk he
end
end T5
namespace T5
open PySem PySem.Spec PyProof.Rows L2
variable [TabC]
/-! ### for a, b in d: a locked dict with tuples as keys -/
def iKeyT (m : ME) : MI := fun env st => (m env st).bind fun d st1 => match d with
  | .dic true ks _ => .ok ks st1
  | _ => .bad
section
variable {X : Cx} {tg e : Expr} {m : ME} {K : PySem.W.Frag} {mg : Str → Option Value} {μ1 : Mu} {H1 : Hp}
end
end T5
namespace T5
open PySem PySem.Spec PyProof.Rows L2
variable [TabC]
/-! ### (a, b) in xs, a list or tuple of pairs of ints -/
def bInP0 (st : Store) (x y : D) : Option Bool := (pairD x).bind fun q => (seqOf st y).bind fun l => (pairsD l).map fun ps => decide (q ∈ ps)
def bInP : BO := fun st x y => (bInP0 st x y).map .bl
def bNotInP : BO := fun st x y => (bInP0 st x y).map fun b => .bl (!b)
def isPr (H : Hp) (q : Int × Int) (y : V) : Prop := ∃ t, y = .ref t ∧ H t = some (.tup [.int q.1, .int q.2])
def rInP (K : PySem.W.Frag) (neg : Bool) : R2 := fun x y H Q => ∃ p xs q, y = .ref p ∧ (SqL K H p xs ∨ SqT K H p xs) ∧ isPr H q x ∧ (∀ z ∈ xs, isPr H (kOf H z) z) ∧ Q (.bl (if neg then !decide (q ∈ xs.map (kOf H)) else decide (q ∈ xs.map (kOf H)))) H
/-- the answer, read off the value -/
def eqP (H : Hp) (q : Int × Int) : Value → Bool
  | .ref t => decide (kOf H (.ref t) = q)
  | _ => false
section
variable {X : Cx} {K : PySem.W.Frag} {mg : Str → Option Value} {μ : Mu} {H : Hp} {st : Store} {a b : Expr} {ma mb : ME} {pos : Pos}
end
end T5
namespace T5
open PySem PySem.Spec PyProof.Rows L2 GenW
/-! ### a generator: for x in e: yield x -/
/-- what stands while the generator is under way, seen from its call at sc -/
structure BP (P : Program) (w : World) (outer : List Env) (H H1 : Hp) (sc s : Shared) : Prop where
  os : s.os = sc.os
  bare : AllBare s.gens
  lim : s.heap.NoLimit
  un : Un (frs outer) [] H H1 sc.heap s.heap
  hok : HOk P w H1 s.heap
theorem BP.step {P : Program} {w : World} {outer : List Env} {H H1 : Hp} {sc s : Shared} (b : BP P w outer H H1 sc s) {h' : Heap} {g' : Array GenState} {t' : Nat} {d' : Drawn} (ch : List Addr) (hc : ∀ b ∈ ch, H1 b = none ∧ sc.heap.objs.size ≤ b ∧ b ≠ cStatics)
    (k : ∀ b o, b ∉ ch → s.heap.get? b = some o → h'.get? b = some o) (hg : AllBare g') : BP P w outer H H1 sc { s with heap := h', gens := g', toks := t', drawn := d' } := by
  have old : ∀ c o, sc.heap.get? c = some o → c ∉ ch := fun c o e z => absurd (Nat.lt_of_lt_of_le (Heap.lt_size e) (hc c z).2.1) (Nat.lt_irrefl _)
  refine ⟨b.os, hg, ?_, ⟨fun c o q n hb hx => k c _ (old c o q) (b.un.keep c o q n hb hx), fun c o q n hb hx => ?_, b.un.free, fun c o q hx => ?_, b.un.tups, b.un.frzs, b.un.tbls⟩, fun c u q => ?_⟩
  · obtain ⟨mc, hns, hnn⟩ := b.lim
    exact ⟨mc, hns.at' fun o e => k cStatics o (fun z => (hc _ z).2.2 rfl) e, hnn⟩
  · obtain ⟨sl, e⟩ := b.un.slot c o q n hb hx
    exact ⟨sl, k c _ (old c o q) e⟩
  · obtain ⟨o', e⟩ := b.un.there c o q hx
    exact ⟨o', k c _ (old c o q) e⟩
  · refine (b.hok c u q).stay (fun d v hd e => k d v (fun z => ?_) e) (fun _ q => q) fun _ _ q => q
    have n := (hc d z).1
    rcases hd with hd | hd
    · rw [hd, q] at n; cases n
    · rw [n] at hd; cases hd
/-- the places: the iterator, the list, the generator's names, its object, the consumer's list, its names -/
structure GenD where
  P : Program
  w : World
  outer : List Env
  H : Hp
  H1 : Hp
  sc : Shared
  it : Addr
  l : Addr
  L : Addr
  a : Addr
  S : Addr
  C : Addr
  g : Nat
  its : List Value
  /-- what the consumer's list takes of them -/
  fs : List V
  /-- whether there is a consumer's list -/
  b : Bool
structure GenD.Ok (D : GenD) : Prop where
  nd0 : [D.it, D.l, D.L, D.a, cStatics].Nodup
  young0 : ∀ b ∈ [D.it, D.L], D.H1 b = none ∧ D.sc.heap.objs.size ≤ b
  nd : D.b = true → [D.it, D.l, D.L, D.a, D.S, D.C, cStatics].Nodup
  young : D.b = true → ∀ b ∈ [D.S, D.C], D.H1 b = none ∧ D.sc.heap.objs.size ≤ b
  ln : D.fs.length = D.its.length
/-- j items are out, k stand in the consumer's list -/
structure GenD.At (D : GenD) (j k : Nat) (s : Shared) : Prop where
  bp : BP D.P D.w D.outer D.H D.H1 D.sc s
  it : s.heap.IsListIter D.it D.l j
  l : s.heap.IsList D.l D.its.toArray
  ns : ∃ m, s.heap.Ns D.L m
  gen : s.heap.IsGen D.a D.g
  lst : D.b = true → ∃ c vs, s.heap.get? D.S = some (lstObj (List.toArray vs) c) ∧ Vals (D.fs.take k) vs
  cn : D.b = true → ∃ m, s.heap.Ns D.C m
/-- all is out -/
structure GenD.End (D : GenD) (s : Shared) : Prop where
  bp : BP D.P D.w D.outer D.H D.H1 D.sc s
  gen : s.heap.IsGen D.a D.g
  lst : D.b = true → ∃ c vs, s.heap.get? D.S = some (lstObj (List.toArray vs) c) ∧ Vals D.fs vs
  cn : D.b = true → ∃ m, s.heap.Ns D.C m
section
variable {D : GenD} {j k : Nat} {s : Shared} {h' : Heap} {g' : Array GenState} {t' : Nat}
theorem GenD.Ok.ch0 (ok : D.Ok) {b : Addr} (hb : b ∈ [D.it, D.L]) : ∀ c ∈ [b], D.H1 c = none ∧ D.sc.heap.objs.size ≤ c ∧ c ≠ cStatics := fun c hc => by
  rw [List.mem_singleton.mp hc]
  obtain ⟨h1, h2⟩ := ok.young0 b hb
  refine ⟨h1, h2, fun z => ?_⟩
  have nd := ok.nd0
  simp only [List.nodup_cons, List.mem_cons, List.not_mem_nil, or_false, not_or] at nd hb
  obtain ⟨⟨_, _, _, n1⟩, _, ⟨_, n2⟩, _⟩ := nd
  rcases hb with hb | hb
  · exact n1 (hb ▸ z)
  · exact n2 (hb ▸ z)
theorem GenD.Ok.ch (ok : D.Ok) (hD : D.b = true) {b : Addr} (hb : b ∈ [D.S, D.C]) : ∀ c ∈ [b], D.H1 c = none ∧ D.sc.heap.objs.size ≤ c ∧ c ≠ cStatics := fun c hc => by
  rw [List.mem_singleton.mp hc]
  obtain ⟨h1, h2⟩ := ok.young hD b hb
  refine ⟨h1, h2, fun z => ?_⟩
  have nd := ok.nd hD
  simp only [List.nodup_cons, List.mem_cons, List.not_mem_nil, or_false, not_or] at nd hb
  obtain ⟨_, _, _, _, ⟨_, n3⟩, n4, _⟩ := nd
  rcases hb with hb | hb
  · exact n3 (hb ▸ z)
  · exact n4 (hb ▸ z)
/-- a step that changes one place alone -/
theorem BP.one (b : BP D.P D.w D.outer D.H D.H1 D.sc s) {x : Addr} (hx : ∀ c ∈ [x], D.H1 c = none ∧ D.sc.heap.objs.size ≤ c ∧ c ≠ cStatics) (k : ∀ b o, b ≠ x → s.heap.get? b = some o → h'.get? b = some o) (hg : AllBare g') : BP D.P D.w D.outer D.H D.H1 D.sc { s with heap := h', gens := g', toks := t' } :=
  b.step [x] hx (fun c o n e => k c o (fun z => n (List.mem_singleton.mpr z)) e) hg
theorem GenD.Ok.itS (ok : D.Ok) (hD : D.b = true) : D.S ≠ D.it ∧ D.C ≠ D.it ∧ D.S ≠ D.L ∧ D.C ≠ D.L ∧ D.S ≠ D.l ∧ D.C ≠ D.l ∧ D.S ≠ D.a ∧ D.C ≠ D.a ∧ D.S ≠ D.C := by
  have nd := ok.nd hD
  simp only [List.nodup_cons, List.mem_cons, List.not_mem_nil, or_false, not_or] at nd
  obtain ⟨⟨n1, n2, n3, n4, n5, _⟩, ⟨m1, m2, m3, m4, _⟩, ⟨l1, l2, l3, _⟩, ⟨a1, a2, _⟩, ⟨s1, _⟩, _⟩ := nd
  exact ⟨Ne.symm n4, Ne.symm n5, Ne.symm l2, Ne.symm l3, Ne.symm m3, Ne.symm m4, Ne.symm a1, Ne.symm a2, s1⟩
/-- the iterator has turned -/
theorem GenD.At.turn (ok : D.Ok) (h : D.At j k s) (hi : h'.IsListIter D.it D.l (j + 1)) (hs : Heap.SameBut D.it s.heap h') : D.At (j + 1) k { s with heap := h', toks := t' } := by
  have nd := ok.nd0
  simp only [List.nodup_cons, List.mem_cons, List.not_mem_nil, or_false, not_or] at nd
  obtain ⟨⟨n1, n2, n3, _⟩, _⟩ := nd
  have kp := hs.extBut
  obtain ⟨m, e1⟩ := h.ns
  refine ⟨h.bp.one (ok.ch0 (by simp)) kp h.bp.bare, hi, h.l.extBut kp (Ne.symm n1), ⟨m, e1.extBut kp (Ne.symm n2)⟩, h.gen.extBut kp (Ne.symm n3), fun hD => ?_, fun hD => ?_⟩
  · obtain ⟨c, vs, e2, rv⟩ := h.lst hD
    exact ⟨c, vs, kp _ _ (ok.itS hD).1 e2, rv⟩
  · obtain ⟨m2, e3⟩ := h.cn hD
    exact ⟨m2, e3.extBut kp (ok.itS hD).2.1⟩
/-- the iterator has ended -/
theorem GenD.At.done (ok : D.Ok) (h : D.At D.its.length D.its.length s) (hs : Heap.ExtBut D.it s.heap h') : D.End { s with heap := h', toks := t' } := by
  have nd := ok.nd0
  simp only [List.nodup_cons, List.mem_cons, List.not_mem_nil, or_false, not_or] at nd
  obtain ⟨⟨n1, n2, n3, _⟩, _⟩ := nd
  refine ⟨h.bp.one (ok.ch0 (by simp)) hs h.bp.bare, h.gen.extBut hs (Ne.symm n3), fun hD => ?_, fun hD => ?_⟩
  · obtain ⟨c, vs, e2, rv⟩ := h.lst hD
    rw [← ok.ln, List.take_length] at rv
    exact ⟨c, vs, hs _ _ (ok.itS hD).1 e2, rv⟩
  · obtain ⟨m2, e3⟩ := h.cn hD
    exact ⟨m2, e3.extBut hs (ok.itS hD).2.1⟩
/-- the generator's names have changed -/
theorem GenD.At.name (ok : D.Ok) (h : D.At j k s) {m : Str → Option Value} (hn : h'.Ns D.L m) (hs : Heap.SameBut D.L s.heap h') : D.At j k { s with heap := h', toks := t' } := by
  have nd := ok.nd0
  simp only [List.nodup_cons, List.mem_cons, List.not_mem_nil, or_false, not_or] at nd
  obtain ⟨⟨n1, n2, n3, _⟩, ⟨m1, m2, _⟩, ⟨l1, _⟩, _⟩ := nd
  have kp := hs.extBut
  refine ⟨h.bp.one (ok.ch0 (by simp)) kp h.bp.bare, h.it.extBut kp n2, h.l.extBut kp m1, ⟨m, hn⟩, h.gen.extBut kp (Ne.symm l1), fun hD => ?_, fun hD => ?_⟩
  · obtain ⟨c, vs, e2, rv⟩ := h.lst hD
    exact ⟨c, vs, kp _ _ (ok.itS hD).2.2.1 e2, rv⟩
  · obtain ⟨m2, e3⟩ := h.cn hD
    exact ⟨m2, e3.extBut kp (ok.itS hD).2.2.2.1⟩
/-- the consumer has put the item behind its list -/
theorem GenD.At.push (ok : D.Ok) (hD : D.b = true) (h : D.At (k + 1) k s) {x : V} {v : Value} (hv : D.fs[k]? = some x) (rx : RelV x v) {c0 c : Nat} {vs : List Value} (rv : Vals (D.fs.take k) vs) (hn : h'.get? D.S = some (lstObj (vs.toArray.push v) c)) (hs : Heap.SameBut D.S s.heap h') : D.At (k + 1) (k + 1) { s with heap := h', toks := t' } := by
  obtain ⟨q1, q2, q3, q4, q5, q6, q7, q8, q9⟩ := ok.itS hD
  have kp := hs.extBut
  obtain ⟨m2', e3⟩ := h.ns
  obtain ⟨m3', e4⟩ := h.cn hD
  refine ⟨h.bp.one (ok.ch hD (by simp)) kp h.bp.bare, h.it.extBut kp (Ne.symm q1), h.l.extBut kp (Ne.symm q5), ⟨m2', e3.extBut kp (Ne.symm q3)⟩, h.gen.extBut kp (Ne.symm q7), fun _ => ⟨c, vs ++ [v], ?_, ?_⟩, fun _ => ⟨m3', e4.extBut kp (Ne.symm q9)⟩⟩
  · rw [hn]
    simp
  · rw [List.take_succ, hv]
    exact rv.append (.cons rx .nil)
/-- other generators' states -/
theorem GenD.At.gens (h : D.At j k s) (hg : AllBare g') : D.At j k { s with gens := g' } :=
  ⟨⟨h.bp.os, hg, h.bp.lim, h.bp.un, h.bp.hok⟩, h.it, h.l, h.ns, h.gen, h.lst, h.cn⟩
end
/-- the protocol -/
def GenD.Y (D : GenD) : Protocol := fun n _ v s kap => ∃ j, n + 1 + j = sizeLine ∧ D.its[j]? = some v ∧ D.At (j + 1) j s ∧ ∀ s', D.At (j + 1) (j + 1) s' → kap (.send .none) s'
def GenD.R (D : GenD) : GenEnd := fun n _ r s => ((r = .ok (.ret .none) ∨ r = .ok .next) ∧ D.End s ∧ n + D.its.length = sizeLine) ∨ ∃ e, r = .error e ∧ False
section
variable {D : GenD} {A : Around} {ge : Env} {x : Str} {px p2 yp ep : Pos} {fs : List Frame}
end
/-! ### the generator's start -/
/-- what is wanted of the items and the heap behind them -/
abbrev GenT := GenD → Prop
def YS (T : GenT) : Protocol := fun n _ v s kap => ∃ D : GenD, T D ∧ D.Ok ∧ ∃ j, n + 1 + j = sizeLine ∧ D.its[j]? = some v ∧ D.At (j + 1) j s ∧ ∀ s', D.At (j + 1) (j + 1) s' → kap (.send .none) s'
def RS (T : GenT) : GenEnd := fun n _ r s => ((r = .ok (.ret .none) ∨ r = .ok .next) ∧ ∃ D : GenD, T D ∧ D.Ok ∧ D.End s ∧ n + D.its.length = sizeLine) ∨ ∃ e, r = .error e ∧ False
section
variable {P : Program} {w : World} {K : PySem.W.Frag} {mg : Str → Option Value} {base : Heap} {N : List Str} {qual : Str} {scope : Scope} {f : Addr} {cd : Value} {A : Around} {outer : List Env} {sc s : Shared} {H : Hp} {a S C : Addr} {g : Nat} {go co : Obj} {cS : Nat} {σ : L2.St} {b : Bool} {pins : List (Addr × Obj)}
end
end T5
namespace T5
open PySem PySem.Spec PyProof.Rows L2 GenW
/-! ### a call of such a generator -/
abbrev GT (P : Program) (w : World) (outer : List Env) (H : Hp) (sc : Shared) (a S C : Addr) (g : Nat) (b : Bool) (G : Hp → V → V) (Qx : List V → Hp → Prop) : GenT := fun D => D.P = P ∧ D.w = w ∧ D.outer = outer ∧ D.H = H ∧ D.sc = sc ∧ D.a = a ∧ D.S = S ∧ D.C = C ∧ D.g = g ∧ D.b = b ∧ ∃ xs, Vals xs D.its ∧ D.its.length ≤ sizeLine ∧ Qx xs D.H1 ∧ D.fs = xs.map (G D.H1)
/-- a generator that has not begun: woken, it hands out what Qx tells -/
def GnMade (P : Program) (w : World) (k : Nat) (outer : List Env) (H : Hp) (sc : Shared) (Qx : List V → Hp → Prop) (u : Value) (s' : Shared) : Prop :=
  ∃ (a : Addr) (g : Nat) (c : Code), u = .ref a ∧ sc.heap.objs.size ≤ a ∧ a < s'.heap.objs.size ∧ s'.heap.IsGen a g ∧ s'.gens[g]? = some (.fresh c) ∧ s'.os = sc.os ∧ AllBare s'.gens ∧ s'.heap.NoLimit ∧ (∀ b o, sc.heap.get? b = some o → s'.heap.get? b = some o) ∧
    ∀ (A : Around) (b : Bool) (G : Hp → V → V) (S C : Addr) (co : Obj) (s2 : Shared), Room k A → Gd A → A.frames = some outer → (∀ b o, s'.heap.get? b = some o → s2.heap.get? b = some o) → s2.os = sc.os → AllBare s2.gens →
      (b = true → s'.heap.objs.size ≤ S ∧ s'.heap.objs.size ≤ C ∧ S ≠ C ∧ (∃ c, s2.heap.get? S = some (lstObj #[] c)) ∧ s2.heap.get? C = some co ∧ (∀ v, co.data ≠ .cell v) ∧ ∃ m, ∀ h : Heap, h.get? C = some co → h.Ns C m) →
      Seg (model P w) A (RS (GT P w outer H sc a S C g b G Qx)) (YS (GT P w outer H sc a S C g b G Qx)) sizeLine s2 c ((model P w).den c) [] s2
section
variable {P : Program} {w : World} {K : PySem.W.Frag} {mg : Str → Option Value} {base : Heap} {N ps : List Str} {k : Nat} {f : Addr} {name qual : Str} {params : Arguments} {scope : Scope} {dV kV doc pm cdv ct oc : Value} {an od : Option Addr} {osl : Array (Option Value)}
  {x : Str} {px p2 yp ep fp : Pos} {iter : Expr}
end
end T5
namespace T5
open PySem PySem.Spec PyProof.Rows L2 GenW
/-! ### [y for y in f(e, ..)], f such a generator -/
section
variable {X : Cx} {pins : List (Addr × Obj)} {σ : L2.St} {H H1 : Hp} {s s1 s2 : Shared} {scope : Scope} {own : List (Str × Nat)} {k : Nat} {y : Str} {q1 q2 pos : Pos} {iter : Expr} {u : Value} {Qx : List V → Hp → Prop} {Qf : Value → Shared → Prop} {use : Option (Value → Sem Unit)}
/-- [y for y in f(e, ..)]: te: what the generator walks -/
def tLcY (N : List Str) (n : Nat) (ta : TA) (te : TE) : TE := fun σ H Q => ta σ H fun vs H1 => vs.length = n ∧ te (start N vs) H1 fun u H2 => ∃ l xs, u = .ref l ∧ H2 l = some (.lst xs) ∧ ∀ D, H2 D = none → Q (.ref D) (upd H2 D (.lst xs))
/-! ### for y in f(e, ..): a body that leaves the loop in its first turn -/
def tForY1 (N : List Str) (n : Nat) (ta : TA) (te : TE) (g : TG) (tb : TS) : TS := fun D σ H => ta σ H fun vs H1 => vs.length = n ∧ te (start N vs) H1 fun u H2 => ∃ l xs, u = .ref l ∧ H2 l = some (.lst xs) ∧ (xs = [] → D.nx σ H2) ∧ ∀ x r, xs = x :: r → g x σ H2 fun σ3 H3 => tb { D with nx := fun _ _ => False, ct := fun _ _ => False, bk := D.nx } σ3 H3
end
end T5
namespace T5
open PySem PySem.Spec PyProof.Rows L2
variable [TabC]
/-! ### generators by meanings -/
/-- what a generator walks, by its arguments -/
def runG (N n : Nat) (me : ME) : MF := fun ds st => if ds.length = n then me (ds.map some ++ List.replicate (N - n) none) st else .bad
/-- [y for y in f(..)] -/
def eLcY (m : MF) (ma : MA) : ME := fun env st => (ma env st).bind fun ds st1 => (noEx (m ds st1)).bind fun d st2 => match lstOf st2 d with
  | some l => .ok (.lst l) st2
  | none => .bad
/-- for y in f(..), left in the first turn -/
def leaves (r : SR) : SR := match r with
  | .bk e st => .nx e st
  | .rt d st => .rt d st
  | .ex c ks ds e st => .ex c ks ds e st
  | _ => .bad
def sForY1 (m : MF) (ma : MA) (g : MG0) (b : MS) : MS := fun env st => (ma env st).toS env fun ds st1 => (noEx (m ds st1)).toS env fun d st2 => match lstOf st2 d with
  | some [] => .nx env st2
  | some (x :: _) => (match g x env with
    | some env3 => leaves (b env3 st2)
    | none => .bad)
  | none => .bad
/-- a def: for x in e: yield x -/
structure GnF (P : Program) (w : World) (K : PySem.W.Frag) (mg : Str → Option Value) (base : Heap) (k : Nat) (f : Addr) (m : MF) : Prop where
  ex : ∃ (nm qual : Str) (pa : Arguments) (gx : Str) (gp gp2 yp ep fp : Pos) (giter : Expr) (sg : Scope) (fd : FuncData) (N ps : List Str) (me : ME),
    FunD K nm qual pa [.For (.Name gx gp) giter [.Expr (.Yield (some (.Name gx gp2)) yp) ep] [] fp] sg [] [] f fd ∧ GScope N ps sg ∧ Binds K fd ps [] ∧ sg.names.lookup gx = some .local ∧ (gx == ("__debug__" : Str)) = false ∧
    (∀ n cdv, interactive (envOfC qual sg n f cdv) = false) ∧ (∀ v env, foldedSetIterable giter env v = pure v) ∧
    (∀ (cdv : Value) (A : Around) (outer : List Env) (s : Shared) (H : Hp) (E : XK), codeV K f = cdv → Room k (A.deeper (envOfC qual sg s.heap.objs.size f cdv)) → Gd (A.deeper (envOfC qual sg s.heap.objs.size f cdv)) → SE (cxOf (L2.CX P w) P w K mg base N qual sg f cdv A outer s H E) giter me) ∧
    m = runG N.length ps.length me
section
variable {X : Cx} {k : Nat} {f : Addr} {m : MF} {me : ME} {ma : MA} {N ps : List Str}
end
end T5
/-! own exceptions over KeyError -/
namespace T5.KX
open PySem PySem.Spec PyProof.Rows Builtin Builtin.ObjectAttr PySem.HandSPX
section
variable {prog : Program} {w : World} {A : Around} {E : Value → Shared → Prop} {R : Result → Shared → Prop} {h : Heap} {g : Array GenState} {d : Drawn} {t : Nat} {os : OsState}
variable {nm q : Str} {C N e t0 fI : Addr} {bs : List Value} {sn : List Str} {sub rest : List Value} {ab : Bool} {col : Option Bool} {dd : Option Addr} {k0 k1 k2 k3 k5 : Option Value}
theorem has (Y : String) (h : T5.keT.contains (.type Y) = true) : (Value.ref C :: T5.keT).contains (.type Y) = true := by rw [List.contains_cons, h, Bool.or_true]
theorem hasNo (Y : String) (h : T5.keT.contains (.type Y) = false) : (Value.ref C :: T5.keT).contains (.type Y) = false := by rw [List.contains_cons, h]; rfl
theorem made (hC : h.get? C = some (excClassObj nm q C N bs T5.keT true sn sub ab col dd k0 k1 k2 k3 k5 "LookupError.__new__"))
    (hq : R (.ok (.ret (.ref (h.objs.size + 1)))) ⟨(h.push { cls := .type "tuple", data := .seq rest.toArray }).push { cls := .ref C, data := .fields #[.ref h.objs.size, .none, .none, .none, .bool false, .none] }, g, d, t, os⟩) (hrest : rest.length ≤ sizeLine) :
    codeAny (model prog w) A (.builtin "LookupError.__new__" ⟨.ref C :: rest, []⟩) R ⟨h, g, d, t, os⟩ := by
  have F := PySem.F.excBase_LookupError
  have hends := F.ends
  have h1 := has (C := C) "LookupError" (by decide +kernel)
  have h2 := hasNo (C := C) "AttributeError" (by decide +kernel)
  have h3 := hasNo (C := C) "NameError" (by decide +kernel)
  refine codeAny_builtinAt F.entry ?_
  unfold Builtin.«BaseException.__new__»
  refine PySem.wpAt_bind ?_
  show PySem.wpAt _ _ _ (stack >>= _) _ _ _
  refine PySem.wpAt_bind (PySem.wpAt_stack fun p below => PySem.wpAt_of_wpAny ?_)
  wp_walk
  refine PySem.wpAt_of_wpAny ?_
  rw [F.owner]
  repeat (first | with_reducible refine wpAny_madeHere_exc F.canon hC ?_ | with_reducible refine wpAny_loadPart_at hC ?_ | (with_reducible refine wpAny_isSubtype_exc hC ?_; first | rw [h1] | rw [h2] | rw [h3]) | wp_step)
  show R _ _
  rw [Heap.size_push]
  exact hq
end
section
variable {prog : Program} {w : World} {A : Around} {R : Result → Shared → Prop} {hp : Heap} {g : Array GenState} {d : Drawn} {t : Nat} {os : OsState}
end
end T5.KX
namespace T5
open PySem PySem.Spec PyProof.Rows L2
variable [TabC]
/-- what the written part says of such a class -/
structure KexC (K : PySem.W.Frag) (C : Addr) : Prop where
  cls : ∃ nm q N bs sn sub ab col dd k0 k1 k2 k3 k5, K.lookup C = some (excClassObj nm q C N bs keT true sn sub ab col dd k0 k1 k2 k3 k5 "LookupError.__new__")
  sa : PySem.W.findIn K (.ref C) "__setattr__" = some (some (.builtin "object.__setattr__"))
  exC : PySem.W.subIn K (.ref C) (.type "BaseException") = some true
  tyC : PySem.W.typeIn K (.ref C) = some (.type "type")
  kC : PySem.W.keepIn K (.ref C) = true
structure ExcFK (K : PySem.W.Frag) (mg : Str → Option Value) (c : String) (C fI : Addr) : Prop where
  at_ : mg (Str.ofString c) = some (.ref C)
  oex : KexC K C
  ini : PySem.W.findIn K (.ref C) "__init__" = some (some (.ref fI))
  ty : PySem.W.typeIn K (.ref fI) = some (.type "function")
section
variable {X : Cx} {pins : List (Addr × Obj)} {σ : L2.St} {H : Hp} {s : Shared} {a C dx : Addr} {f : Str} {y : V} {u : Value} {Q : Unit → Shared → Prop} {E : Value → Shared → Prop} {A : Around}
end
def tKeI (K : PySem.W.Frag) (ta : TA) : TE := fun σ H Q => ta σ H fun vs H1 => ∃ (a C : Addr) (ws : List V), vs = .ref a :: ws ∧ ws.length ≤ 1000 ∧ KexC K C ∧ H1 a = some (exo a C none) ∧ Q .non H1
def tKst (K : PySem.W.Frag) (f : Str) (to te : TE) : TS := fun D σ H => te σ H fun y H1 => to σ H1 fun x H2 => ∃ a C : Addr, x = .ref a ∧ KexC K C ∧ PySem.W.findIn K (.ref C) f = some none ∧
  H2 a = some (exo a C none) ∧ ∀ dx, H2 dx = none → dx ≠ a → D.nx σ (upd (upd H2 dx (exd dx [(f, y)])) a (exo a C (some dx)))
section
variable {X : Cx} {o e : Expr} {es : List Expr} {to te : TE} {ta : TA} {f : Str} {p p' p1 p2 pos : Pos}
end
def spXK (K : PySem.W.Frag) (f : Str) : Sp := fun vs H Q _ => ∃ (a C : Addr) (y : V), vs = [.ref a, y] ∧ KexC K C ∧ PySem.W.findIn K (.ref C) f = some none ∧ H a = some (exo a C none) ∧
  ∀ dx, H dx = none → dx ≠ a → Q .non (upd (upd H dx (exd dx [(f, y)])) a (exo a C (some dx)))
def tXK (K : PySem.W.Frag) (tx f : Str) : TS := tSeq (tDrop (tKeI K (tCons (tVar 0) (tCons (tC (.str tx)) tNil)))) (tKst K f (tVar 0) (tVar 1))
section
variable {P : Program} {w : World} {K : PySem.W.Frag} {mg : Str → Option Value} {base : Heap} {qual f tx : Str} {pa : Arguments} {bd : List Stmt} {sc : Scope} {fI : Addr} {fd : FuncData}
variable {X : Cx} {c : String} {g : String} {C : Addr} {x : Str} {e : Expr} {es : List Expr} {ma : MA} {p pos pos' : Pos}
end
end T5
namespace T5
open PySem PySem.Spec PyProof.Rows L2
variable [TabC]
/-! ### exceptions made by hand, as values -/
section
variable {X : Cx} {e : Expr} {t : L2.St → Hp → XK → Prop}
end
/-- C(..): an exception made -/
def eMkX (c : String) (ks : List String) (m : MA) : ME := fun env st => (m env st).bind fun ds st1 => if ds.length = ks.length then .ok (.exc c ks.reverse ds.reverse) st1 else .bad
section
variable {X : Cx} {c f g : String} {C fI : Addr} {x : Str} {e : Expr} {es : List Expr} {ma : MA} {p pos pos' : Pos} {fd : FuncData}
/-- what the top says of an exception class without own __init__ -/
structure ExcQ (K : PySem.W.Frag) (mg : Str → Option Value) (c : String) (C : Addr) : Prop where
  at_ : mg (Str.ofString c) = some (.ref C)
  q : PySem.W.excIn K C veT "ValueError.__new__" = true
  k : PySem.W.keepIn K (.ref C) = true
  s : PySem.W.subIn K (.ref C) (.type "BaseException") = some true
  t : PySem.W.typeIn K (.ref C) = some (.type "type")
/-- C('m') of a class without own __init__ -/
def eMkX0 (c : String) : ME := fun _ st => .ok (.exc c [] []) st
end
end T5
namespace T5
open PySem PySem.Spec PyProof.Rows L2
variable [TabC]
/-! ### isinstance(e, (C, D, ..)) -/
def rIsXT (K : PySem.W.Frag) : List V → Hp → VK → Prop := fun xs H Q => ∃ (a C tp : Addr) (vs : List V) (its : List Value) (b : Bool), xs = [.ref a, .ref tp] ∧ ExAt H a C ∧ ExcC K C ∧ H tp = some (.tup vs) ∧ (∀ us, Vals vs us → us = its) ∧ PySem.W.kitAny K (.ref C) its = some b ∧ Q (.bl b) H
section
variable {X : Cx} {K : PySem.W.Frag} {mg : Str → Option Value} {tb : Tbl}
def lk1 (tb : Tbl) (c : String) : D → Option Bool
  | .cls n => (match lkT tb c true n with
    | some (.bl b) => some b
    | _ => none)
  | .ty n => (match lkT tb c false n with
    | some (.bl b) => some b
    | _ => none)
  | _ => none
def lkAny (tb : Tbl) (c : String) : List D → Option Bool
  | [] => some false
  | d :: r => (match lk1 tb c d, lkAny tb c r with
    | some true, some _ => some true
    | some false, some b => some b
    | _, _ => none)
def fIsXT (tb : Tbl) : BF := fun _ ds => match ds with
  | [.exc c _ _, .tup (d :: l)] => (lkAny tb c (d :: l)).map .bl
  | _ => none
variable {e : Expr} {es : List Expr} {ma : MA} {m : ME} {p pos : Pos}
end
end T5
namespace PySem.W
open PySem PySem.Calls PySem.Spec PyProof.Rows
section
variable {prog : Program} {w : World} {A : Around} {E : Value → Shared → Prop} {s : Shared} {K : Frag} {x C L f : Addr} {h₀ : Heap} {m : Str → Option Value} {ox : Obj} {od : Option Obj}
end
end PySem.W
namespace T5
open PySem PySem.Spec PyProof.Rows L2
variable [TabC]
/-! ### x += e, by the class's own __iadd__ -/
def sAddC (c : String) (i : Nat) (m : MF) (mv : ME) : MS := fun env st => match env[i]? with
  | some (some d) => (mv env st).toS env fun d2 st1 => (match insOf st1 d with
    | some (c1, _, _) => if c1 = c then (m [d, d2] st1).toS env fun r st2 => .nx (env.set i (some r)) st2 else .bad
    | none => .bad)
  | _ => .bad
section
variable {X : Cx} {k : Nat} {f C : Addr} {ps : List Str} {m : MF} {c : String} {e : Expr} {pos pos' : Pos} {mv : ME}
end
end T5
namespace T5
open PySem PySem.Spec PyProof.Rows L2
variable [TabC]
/-! ### xs == (), of tuples of any things -/
def bEqN : BO := fun _ x y => match x, y with
  | .tup l, .tup [] => some (.bl l.isEmpty)
  | _, _ => none
def rEqN : V → V → Hp → VK → Prop := fun x y H Q => ∃ a b xs, x = .ref a ∧ y = .ref b ∧ H a = some (.tup xs) ∧ H b = some (.tup []) ∧ Q (.bl xs.isEmpty) H
section
variable {X : Cx} {K : PySem.W.Frag} {mg : Str → Option Value} {a b : Expr} {ma mb : ME} {pos : Pos}
end
/-! ### for k, v in d.items(), d held -/
def itmD (ks vs : List D) : List D := (ks.zip vs).map fun p => .tup [p.1, p.2]
def iItm (m : ME) : MI := fun env st => (m env st).bind fun d st1 => match d with
  | .dic false ks vs => .ok (itmD ks vs) st1
  | _ => .bad
section
variable {X : Cx} {e : Expr} {m : ME} {K : PySem.W.Frag} {mg : Str → Option Value} {μ1 : Mu} {H1 : Hp} {elts : List Expr} {kk : Nat} {tpos apos cpos : Pos}
end
/-! ### x, o[i] = e -/
def sAsgSub (m : ME) (g : MG0) (mo mi : ME) : MS := fun env st => (m env st).toS env fun d st1 => match d with
  | .tup [a, b] => (match g a env with
    | some env1 => (mo env1 st1).toS env1 fun o st2 => (mi env1 st2).toS env1 fun i st3 => (match bSet st3 o i b with
      | some st4 => .nx env1 st4
      | none => .bad)
    | none => .bad)
  | _ => .bad
section
variable {X : Cx} {tg o i e : Expr} {m mo mi : ME} {g : MG0} {sl : List Nat} {pos p' tpos : Pos} {kk : Nat}
end
end T5
namespace T5
open PySem PySem.Spec PyProof.Rows L2
variable [TabC]
/-! ### xs == ys, lists of texts that are equal -/
def bEqSs : BO := fun st x y => (lstOf st x).bind fun a => (lstOf st y).bind fun b => (strsD a).bind fun s => (strsD b).bind fun t => if s = t then some (.bl true) else none
section
variable {X : Cx} {K : PySem.W.Frag} {mg : Str → Option Value} {a b : Expr} {ma mb : ME} {pos : Pos}
end
end T5
namespace T5
open PySem PySem.Spec PyProof.Rows L2
variable [TabC]
/-! ### a dict of one's own that is given is changed no more: f(..), read at any depth of tuples -/
mutual
def subO (j : Nat) (x : D) : D → D
  | .obj i => if i = j then x else .obj i
  | .tup l => .tup (subOL j x l)
  | d => d
def subOL (j : Nat) (x : D) : List D → List D
  | [] => []
  | d :: ds => subO j x d :: subOL j x ds
end
def eFrz (j : Nat) (m : ME) : ME := fun env st => match m env st with
  | .ok d st1 => (match st1[st.length + j]? with
    | none => .ok d st1
    | some (.dic false ks vs) => if st.length ≤ st1.length ∧ (st1.take st.length).all (clO st.length) = true ∧ clL st.length vs = true ∧ clD st.length (subO (st.length + j) (.dic false ks vs) d) = true then .ok (subO (st.length + j) (.dic false ks vs) d) (st1.take st.length) else .bad
    | _ => .bad)
  | .ex c ks vs st1 => .ex c ks vs st1
  | .bad => .bad
section
variable {X : Cx} {K : PySem.W.Frag} {mg : Str → Option Value} {μ : Mu} {H : Hp} {st : Store} {e : Expr}
/-- what does not lie at a is as it was -/
structure But (a : Addr) (H H' : Hp) : Prop where
  ne : ∀ b, b ≠ a → H' b = H b
mutual
theorem Rep.sub {n j : Nat} {x : D} {a : Addr} {H' : Hp} (hj : n ≤ j) (b : But a H H') (ha : μ.get j = some a) (hm : a ∈ μ) (hx : Rep K mg (μ.take n) H' x (.ref a)) : ∀ {d : D} {v : V}, clD n (subO j x d) = true → Rep K mg μ H d v → Rep K mg (μ.take n) H' (subO j x d) v
  | .non, _, _, h => h
  | .bl _, _, _, h => h
  | .int _, _, _, h => h
  | .str _, _, _, h => h
  | .ty _, _, _, h => h
  | .cls _, _, _, h => h
  | .tup l, v, c, ⟨p, vs, e, m, r, q⟩ => by
    have np : p ≠ a := fun z => m (z ▸ hm)
    exact ⟨p, vs, e, Mu.take_nin m, (b.ne p np).trans r, RepL.sub hj b ha hm hx (by simpa [subO, clD] using c) q⟩
  | .lst l, v, c, ⟨p, vs, e, m, r, q⟩ => by
    have np : p ≠ a := fun z => m (z ▸ hm)
    exact ⟨p, vs, e, Mu.take_nin m, (b.ne p np).trans r, RepL.keep b hm (by simpa [subO, clD] using c) q⟩
  | .scr l, v, c, ⟨p, vs, e, m, q⟩ => by
    refine ⟨p, vs, e, ?_, RepL.keep b hm (by simpa [subO, clD] using c) q⟩
    rcases m with ⟨m, o, r⟩ | m
    · have np : p ≠ a := fun z => m (z ▸ hm)
      exact .inl ⟨Mu.take_nin m, o, (b.ne p np).trans r⟩
    · exact .inr m
  | .obj i, v, c, ⟨p, e, q⟩ => by
    by_cases z : i = j
    · subst z
      have : p = a := Option.some.inj (q.symm.trans ha)
      subst this
      subst e
      show Rep K mg (μ.take n) H' (if i = i then x else .obj i) _
      rw [if_pos rfl]
      exact hx
    · have e1 : subO j x (.obj i) = .obj i := if_neg z
      rw [e1] at c ⊢
      exact ⟨p, e, Mu.take_get q (by simpa [clD] using c)⟩
  | .dic t ks ds, v, c, ⟨p, vs, u, e, m, q, dh, o, r⟩ => by
    have np : p ≠ a := fun z => m (z ▸ hm)
    exact ⟨p, vs, u, e, Mu.take_nin m, RepL.keep b hm (by simpa [subO, clD] using c) q, dh, o, (b.ne p np).trans r⟩
  | .ins _ ks ds, v, c, ⟨p, C, dx, vs, e, m, g, l, r, q⟩ => by
    have np : p ≠ a := fun z => m (z ▸ hm)
    exact ⟨p, C, dx, vs, e, Mu.take_nin m, g, l, (b.ne p np).trans r, RepL.keep b hm (by simpa [subO, clD] using c) q⟩
  | .exc c ks ds, v, cl, ⟨p, C, dx, us, e, m, g, l, r, q⟩ => by
    have np : p ≠ a := fun z => m (z ▸ hm)
    refine ⟨p, C, dx, us, e, Mu.take_nin m, g, l, ?_, RepL.keep b hm (by simpa [subO, clD] using cl) q⟩
    rcases r with ⟨r1, r2, r3⟩ | ⟨r0, r1⟩
    · have nx : dx ≠ a := fun z => r2 (z ▸ hm)
      exact .inl ⟨(b.ne p np).trans r1, Mu.take_nin r2, (b.ne dx nx).trans r3⟩
    · exact .inr ⟨r0, (b.ne p np).trans r1⟩
  | .fn p c q ds us, v, cl, ⟨e, m, r, y⟩ => by
    have np : c ≠ a := fun z => m (z ▸ hm)
    exact ⟨e, Mu.take_nin m, (b.ne c np).trans r, RepL.keep b hm (by simpa [subO, clD] using cl) y⟩
theorem RepL.sub {n j : Nat} {x : D} {a : Addr} {H' : Hp} (hj : n ≤ j) (b : But a H H') (ha : μ.get j = some a) (hm : a ∈ μ) (hx : Rep K mg (μ.take n) H' x (.ref a)) : ∀ {ds : List D} {vs : List V}, clL n (subOL j x ds) = true → RepL K mg μ H ds vs → RepL K mg (μ.take n) H' (subOL j x ds) vs
  | [], _, _, h => h
  | d :: ds, vs, c, ⟨v, r, e, h1, h2⟩ => by
    have c' : clD n (subO j x d) = true ∧ clL n (subOL j x ds) = true := by simpa [subOL, clL] using c
    exact ⟨v, r, e, Rep.sub hj b ha hm hx c'.1 h1, RepL.sub hj b ha hm hx c'.2 h2⟩
theorem Rep.keep {n : Nat} {a : Addr} {H' : Hp} (b : But a H H') (hm : a ∈ μ) : ∀ {d : D} {v : V}, clD n d = true → Rep K mg μ H d v → Rep K mg (μ.take n) H' d v
  | .non, _, _, h => h
  | .bl _, _, _, h => h
  | .int _, _, _, h => h
  | .str _, _, _, h => h
  | .ty _, _, _, h => h
  | .cls _, _, _, h => h
  | .tup l, v, c, ⟨p, vs, e, m, r, q⟩ => by
    have np : p ≠ a := fun z => m (z ▸ hm)
    exact ⟨p, vs, e, Mu.take_nin m, (b.ne p np).trans r, RepL.keep b hm (by simpa [clD] using c) q⟩
  | .lst l, v, c, ⟨p, vs, e, m, r, q⟩ => by
    have np : p ≠ a := fun z => m (z ▸ hm)
    exact ⟨p, vs, e, Mu.take_nin m, (b.ne p np).trans r, RepL.keep b hm (by simpa [clD] using c) q⟩
  | .scr l, v, c, ⟨p, vs, e, m, q⟩ => by
    refine ⟨p, vs, e, ?_, RepL.keep b hm (by simpa [clD] using c) q⟩
    rcases m with ⟨m, o, r⟩ | m
    · have np : p ≠ a := fun z => m (z ▸ hm)
      exact .inl ⟨Mu.take_nin m, o, (b.ne p np).trans r⟩
    · exact .inr m
  | .obj i, v, c, ⟨p, e, q⟩ => ⟨p, e, Mu.take_get q (by simpa [clD] using c)⟩
  | .dic t ks ds, v, c, ⟨p, vs, u, e, m, q, dh, o, r⟩ => by
    have np : p ≠ a := fun z => m (z ▸ hm)
    exact ⟨p, vs, u, e, Mu.take_nin m, RepL.keep b hm (by simpa [clD] using c) q, dh, o, (b.ne p np).trans r⟩
  | .ins _ ks ds, v, c, ⟨p, C, dx, vs, e, m, g, l, r, q⟩ => by
    have np : p ≠ a := fun z => m (z ▸ hm)
    exact ⟨p, C, dx, vs, e, Mu.take_nin m, g, l, (b.ne p np).trans r, RepL.keep b hm (by simpa [clD] using c) q⟩
  | .exc c ks ds, v, cl, ⟨p, C, dx, us, e, m, g, l, r, q⟩ => by
    have np : p ≠ a := fun z => m (z ▸ hm)
    refine ⟨p, C, dx, us, e, Mu.take_nin m, g, l, ?_, RepL.keep b hm (by simpa [clD] using cl) q⟩
    rcases r with ⟨r1, r2, r3⟩ | ⟨r0, r1⟩
    · have nx : dx ≠ a := fun z => r2 (z ▸ hm)
      exact .inl ⟨(b.ne p np).trans r1, Mu.take_nin r2, (b.ne dx nx).trans r3⟩
    · exact .inr ⟨r0, (b.ne p np).trans r1⟩
  | .fn p c q ds us, v, cl, ⟨e, m, r, y⟩ => by
    have np : c ≠ a := fun z => m (z ▸ hm)
    exact ⟨e, Mu.take_nin m, (b.ne c np).trans r, RepL.keep b hm (by simpa [clD] using cl) y⟩
theorem RepL.keep {n : Nat} {a : Addr} {H' : Hp} (b : But a H H') (hm : a ∈ μ) : ∀ {ds : List D} {vs : List V}, clL n ds = true → RepL K mg μ H ds vs → RepL K mg (μ.take n) H' ds vs
  | [], _, _, h => h
  | d :: ds, vs, c, ⟨v, r, e, h1, h2⟩ => by
    have c' : clD n d = true ∧ clL n ds = true := by simpa [clL] using c
    exact ⟨v, r, e, Rep.keep b hm c'.1 h1, RepL.keep b hm c'.2 h2⟩
end
end
end T5
namespace PySem
open PySem.Spec PyProof.Rows
section
variable {prog : Program} {w : World} {K : Type} [DecidableEq K] {knd : KeyKind prog w K} {A : Around} {E : Value → Shared → Prop} {s : Shared}
end
end PySem
namespace T5
open PySem PySem.Spec PyProof.Rows L2
variable [TabC]
/-! ### {**a, k: v}, held -/
def tStar (ta tk tv : TE) : TE := fun σ H Q => ∀ d, H d = none → ta σ (upd H d (.dK [])) fun x H1 => ∃ a more, x = .ref a ∧ Rd H1 a (.dK more) ∧ a ≠ d ∧ H1 d = some (.dK []) ∧ more.length + 2 ≤ sizeLine ∧
  ∀ p, (upd H1 d (.dK (mergeK [] more))) p = none → tPairs [(tk, tv)] σ (upd (upd H1 d (.dK (mergeK [] more))) p (.dK [])) fun ps H3 => ∃ k z, ps = [(kV k, z)] ∧ H3 d = some (.dK (mergeK [] more)) ∧ H3 p = some (.dK []) ∧
    Q (.ref d) (upd (upd H3 p (.dK (mergeK [] [(k, z)]))) d (.dK (mergeK (mergeK [] more) (mergeK [] [(k, z)]))))
section
variable {X : Cx} {ae ke ve : Expr} {ta tk tv : TE} {pos : Pos}
end
def eStar (ma mk mv : ME) : ME := fun env st => (noEx (ma env st)).bind fun d st1 => match d with
  | .dic false ks vs => if ks.length + 2 ≤ cap then (noEx (mk env st1)).bind fun k st2 => (noEx (mv env st2)).bind fun v st3 => if isKey false k = true then .ok (.dic false (putD false k v (mergeD ks vs [] []).1 (mergeD ks vs [] []).2).1 (putD false k v (mergeD ks vs [] []).1 (mergeD ks vs [] []).2).2) st3 else .bad else .bad
  | _ => .bad
section
variable {X : Cx} {K : PySem.W.Frag} {mg : Str → Option Value} {μ μ1 : Mu} {H H1 : Hp} {st st1 : Store} {ae ke ve : Expr} {ma mk mv : ME} {pos : Pos}
end
end T5
namespace PySem.W
open PySem PySem.Calls PySem.Spec PyProof.Rows
section
variable {M : Model} {A : Around} {E : Value → Shared → Prop} {s : Shared} {K : Frag} {x C L f : Addr} {h₀ : Heap} {m : Str → Option Value} {ox : Obj} {od : Option Obj} {i v : Value}
end
end PySem.W
namespace T5
open PySem PySem.Spec PyProof.Rows L2
variable [TabC]
/-! ### o[i] = e by the class's own __setitem__ -/
def sSetC (c : String) (m : MF) (mv mo mi : ME) : MS := fun env st => (mv env st).toS env fun v st1 => (mo env st1).toS env fun o st2 => (mi env st2).toS env fun i st3 => match insOf st3 o with
  | some (c1, _, _) => if c1 = c then (m [o, i, v] st3).toS env fun _ st4 => .nx env st4 else .bad
  | none => .bad
section
variable {X : Cx} {o i e : Expr} {mv mo mi : ME} {pos pos' : Pos} {f C : Addr} {ps : List Str} {m : MF} {c : String} {k : Nat}
def gSubC (X : Cx) (C : Addr) (m : MF) (W : WX) (to ti : TE) : TG := fun v σ H Q => to σ H fun x H1 => ti σ H1 fun y H2 => ∃ p dx fs, x = .ref p ∧ H2 p = some (.ins C dx fs) ∧ spM X.K X.mg 3 m [x, y, v] H2 (fun _ H3 => Q σ H3) (fun c d H' => W c d σ H')
end
/-! ### x not in o by the class's own __contains__ -/
def eNotInC (c : String) (m : MF) (ma mb : ME) : ME := fun env st => (ma env st).bind fun d1 st1 => (mb env st1).bind fun d2 st2 => match insOf st2 d2 with
  | some (c2, _, _) => if c2 = c then (noEx (m [d2, d1] st2)).bind fun d st3 => (match d with
    | .bl b => .ok (.bl (!b)) st3
    | _ => .bad) else .bad
  | none => .bad
section
variable {X : Cx} {a b : Expr} {ma mb : ME} {pos : Pos} {f C : Addr} {ps : List Str} {m : MF} {c : String} {k : Nat} {K : PySem.W.Frag} {mg : Str → Option Value}
def rNotInC (K : PySem.W.Frag) (mg : Str → Option Value) (C : Addr) (m : MF) : R2 := fun x y H Q => ∃ b dy gs, y = .ref b ∧ H b = some (.ins C dy gs) ∧ spM K mg 2 m [y, x] H (fun v H' => ∃ t, v = .bl t ∧ Q (.bl (!t)) H') (fun _ _ _ => False)
end
end T5
namespace T5
open PySem PySem.Spec PyProof.Rows L2
variable [TabC]
/-! ### for c in text -/
def chD (s : List Nat) : List D := s.map fun c => .str [c]
def iStrD (m : ME) : MI := fun env st => (m env st).bind fun d st1 => match d with
  | .str s => .ok (chD s) st1
  | _ => .bad
section
variable {X : Cx} {tg e : Expr} {m : ME} {K : PySem.W.Frag} {mg : Str → Option Value} {μ1 : Mu} {H1 : Hp}
end
/-! ### list(d), d with flat keys -/
def fListD : BF := fun st ds => match ds with
  | [d] => (dicOf st d).bind fun q => if q.1 = false then some (.lst q.2.1) else none
  | _ => none
section
variable {K : PySem.W.Frag} {mg : Str → Option Value} {μ : Mu} {H : Hp} {st : Store} {X : Cx} {e : Expr} {es : List Expr} {ma : MA} {p pos : Pos}
end
end T5
namespace T5
open PySem PySem.Spec PyProof.Rows L2
open PySem.W (EqTree eq_tuplesT)
variable [TabC]
/-! ### (text, dict of marks) == (text, dict of marks) -/
abbrev MkT := Key × Int × Str
def MarksV (H : Hp) : List (Key × V) → List MkT → Prop := Paired fun kv m => kv.1 = m.1 ∧ ∃ b, kv.2 = .ref b ∧ H b = some (.tup [.int m.2.1, .str m.2.2])
def valM (l : List MkT) (k : Key) : Option (Int × Str) := (l.find? fun kv => decide (kv.1 = k)).map (·.2)
def eqM (a b : List MkT) : Bool := a.length == b.length && a.all fun p => (valM b p.1).isSome && decide (valM a p.1 = valM b p.1)
section
variable {H : Hp} {ka kb : List (Key × V)} {ma mb : List MkT} {k : Key}
theorem MarksV.val (h : MarksV H ka ma) (k : Key) : (valM ma k = none ∧ valV ka k = none) ∨ ∃ m b, valM ma k = some m ∧ valV ka k = some (.ref b) ∧ H b = some (.tup [.int m.1, .str m.2]) := by
  unfold MarksV at h
  induction h with
  | nil => exact .inl ⟨rfl, rfl⟩
  | @cons p q ps qs h t ih =>
    obtain ⟨h1, b, h2, h3⟩ := h
    by_cases e : p.1 = k
    · have e' : q.1 = k := h1.symm.trans e
      refine .inr ⟨q.2, b, by simp [valM, List.find?_cons, e'], ?_, h3⟩
      rw [valV_pos e, h2]
    · have e' : ¬ q.1 = k := fun z => e (h1.trans z)
      have x : valM (q :: qs) k = valM qs k := by simp [valM, List.find?_cons, e']
      rw [x, valV_neg e]
      exact ih
theorem MarksV.keys (h : MarksV H ka ma) : ka.map (·.1) = ma.map (·.1) := by
  unfold MarksV at h
  induction h with
  | nil => rfl
  | @cons p q ps qs h t ih => rw [List.map_cons, List.map_cons, h.1, ih]
theorem MarksV.uniq (h : MarksV H ka ma) : ∀ {mb : List MkT}, MarksV H ka mb → ma = mb := by
  unfold MarksV at h ⊢
  induction h with
  | nil => intro mb h2; cases h2; rfl
  | @cons p q ps qs h t ih =>
    intro mb h2
    cases h2 with
    | @cons _ q' _ qs' g u =>
      obtain ⟨h1, b, h2, h3⟩ := h
      obtain ⟨g1, b', g2, g3⟩ := g
      rw [h2] at g2
      cases g2
      rw [h3] at g3
      rw [ih u]
      obtain ⟨q1, q2, q3⟩ := q
      obtain ⟨r1, r2, r3⟩ := q'
      simp only at h1 g1 g3
      cases g3
      rw [← h1, ← g1]
end
section
variable {X : Cx} {pins : List Addr} {σ : L2.St} {H : Hp} {s : Shared}
def rEqPg : R2 := fun x y H Q => ∃ p q t t' a b ka kb ma mb, x = .ref p ∧ y = .ref q ∧ H p = some (.tup [.str t, .ref a]) ∧ H q = some (.tup [.str t', .ref b]) ∧ Rd H a (.dK ka) ∧ Rd H b (.dK kb) ∧ MarksV H ka ma ∧ MarksV H kb mb ∧ (ma.map (·.1)).Nodup ∧ (mb.map (·.1)).Nodup ∧ Q (.bl (decide (t = t') && eqM ma mb)) H
end
end T5
namespace T5
open PySem PySem.Spec PyProof.Rows L2
variable [TabC]
def keyOf : D → Option Key
  | .int i => some (.inl i)
  | .str s => some (.inr (toStr s))
  | _ => none
def mkOf : D → Option (Int × Str)
  | .tup [.int i, .str s] => some (i, toStr s)
  | _ => none
def marksD : List D → List D → Option (List MkT)
  | [], [] => some []
  | k :: ks, v :: vs => (keyOf k).bind fun k => (mkOf v).bind fun m => (marksD ks vs).map fun r => (k, m) :: r
  | _, _ => none
def bEqPg : BO := fun st x y => match x, y with
  | .tup [.str t, .dic false ks vs], .tup [.str t', .dic false ks' vs'] => (marksD ks vs).bind fun ma => (marksD ks' vs').bind fun mb =>
    if (ma.map (·.1)).Nodup ∧ (mb.map (·.1)).Nodup then some (.bl (decide (t = t') && eqM ma mb)) else none
  | _, _ => none
section
variable {K : PySem.W.Frag} {mg : Str → Option Value} {μ : Mu} {H : Hp} {X : Cx} {a b : Expr} {ma mb : ME} {pos : Pos}
end
end T5
namespace T5
open PySem PySem.Spec PyProof.Rows L2
variable [TabC]
/-! ### a.split(b), a.partition(b) -/
def eSplit (mo me : ME) : ME := fun env st => (mo env st).bind fun o st1 => match o with
  | .str a => (me env st1).bind fun d st2 => (match d with
    | .str b => if b ≠ [] ∧ b.all (· < 256) = true ∧ a.length + 2 ≤ cap then .ok (.lst ((TL.spl b 0 [] a).map D.str)) st2 else .bad
    | _ => .bad)
  | _ => .bad
def ePart (mo me : ME) : ME := fun env st => (mo env st).bind fun o st1 => match o with
  | .str a => (me env st1).bind fun d st2 => (match d with
    | .str b => if b ≠ [] ∧ a.length ≤ cap then (match TL.par b [] a with
      | some (p, q) => .ok (.tup [.str p, .str b, .str q]) st2
      | none => .ok (.tup [.str a, .str [], .str []]) st2) else .bad
    | _ => .bad)
  | _ => .bad
section
variable {X : Cx} {o e : Expr} {mo me : ME} {apos pos : Pos}
end
end T5
namespace T5
open PySem PySem.Spec PyProof.Rows L2
variable [TabC]
/-! ### try: .. except A as n: x = n -/
/-- what the clause wishes of an exception of the body: i is the name's slot, j that of what keeps it -/
def wHold1 (K : PySem.W.Frag) (c1 : Value) (i j : Nat) (D : Ends) : WX := fun cls d σ H =>
  ∃ C dx, cls = .ref C ∧ d = some dx ∧ PySem.W.exmOne K cls c1 = some true ∧ ∀ a, H a = none → D.nx (((σ.set i (some (.ref a))).set j (some (.ref a))).set i none) (upd H a (exV a C dx))
section
variable {X : Cx} {xA n x : Str} {c1 : Addr} {i j : Nat} {body : List Stmt} {pos p1 p4 p5 p6 p7 : Pos} {tb : WX → TS}
end
section
variable {X : Cx} {xA n x : Str} {c1 : Addr} {i j : Nat} {body : List Stmt} {pos p1 p4 p5 p6 p7 : Pos} {m : MS} {cs : List String}
end
section
variable {X : Cx} {k : Nat} {f : Addr} {ps : List Str} {m : MF} {x : Str} {p pos : Pos}
end
end T5
namespace T5
open PySem PySem.Spec PyProof.Rows L2
variable [TabC]
/-! ### try: .. except C: return a text -/
def sTryC (cs : List String) (l : List Nat) (m : MS) : MS := fun env st => match m env st with
  | .ex c ks vs e st1 => if cs.contains c = true then .rt (.str l) st1 else .bad
  | r => r
section
variable {X : Cx} {xA : Str} {c1 : Addr} {body : List Stmt} {pos p1 p2 p3 p7 : Pos} {m : MS} {cs : List String} {l : List Nat} {z : Str} {kd : Option Str}
end
end T5
namespace T5
open PySem PySem.Spec PyProof.Rows L2
variable [TabC]
/-! ### o1.f, o2.g = e -/
def sAsgF2 (c f g : String) (m mo1 mo2 : ME) : MS := fun env st => (m env st).toS env fun d st1 => match d with
  | .tup [a, b] => (mo1 env st1).toS env fun o1 st2 => (match o1 with
    | .obj n => (match st2[n]? with
      | some (.ins c' ks ds) => if c' = c ∧ ks.length ≤ 100 then (mo2 env (st2.set n (.ins c (putFd f a ks ds).1 (putFd f a ks ds).2))).toS env fun o2 st3 => (match o2 with
        | .obj n2 => (match st3[n2]? with
          | some (.ins c2 ks2 ds2) => if c2 = c ∧ ks2.length ≤ 100 then .nx env (st3.set n2 (.ins c (putFd g b ks2 ds2).1 (putFd g b ks2 ds2).2)) else .bad
          | _ => .bad)
        | _ => .bad) else .bad
      | _ => .bad)
    | _ => .bad)
  | _ => .bad
def gFldT (K : PySem.W.Frag) (to : TE) (f : Str) : TG := fun v σ H Q => to σ H fun x H1 => ∃ a C dx fs, x = .ref a ∧ H1 a = some (.ins C dx fs) ∧ Cls K C ∧ NoAttr K C f ∧ fs.length < 1000 ∧ Q σ (upd H1 a (.ins C dx (putF f v fs)))
section
variable {X : Cx} {o o2 e : Expr} {m mo1 mo2 : ME} {pos p1 p2 tpos : Pos} {c f g : String} {fs gs : Str} {C : Addr} {kk : Nat} {to : TE}
end
end T5
namespace T5
open PySem PySem.Spec PyProof.Rows L2
variable [TabC]
/-! ### o1[i1], o2[i2] = e -/
def sAsgSub2 (m mo mi mo2 mi2 : ME) : MS := fun env st => (m env st).toS env fun d st1 => match d with
  | .tup [a, b] => (mo env st1).toS env fun o st2 => (mi env st2).toS env fun i st3 => (match bSet st3 o i a with
    | some st4 => (mo2 env st4).toS env fun o2 st5 => (mi2 env st5).toS env fun i2 st6 => (match bSet st6 o2 i2 b with
      | some st7 => .nx env st7
      | none => .bad)
    | none => .bad)
  | _ => .bad
section
variable {X : Cx} {o i o2 i2 e : Expr} {m mo mi mo2 mi2 : ME} {pos p1 p2 tpos : Pos} {kk : Nat}
end
end T5
namespace T5
open PySem PySem.Spec PyProof.Rows L2
variable [TabC]
/-! ### for i in range(a, b, -1) -/
def dnTo (i : Int) (n : Nat) : List D := (List.range n).map fun (k : Nat) => .int (i + (k : Nat) * (-1))
def iRngD (m : MA) : MI := fun env st => (m env st).bind fun ds st1 => match ds with
  | [.int i, .int j, .int c] => if c = -1 ∧ (-(2 ^ 62) ≤ i ∧ i < 2 ^ 62) ∧ -(2 ^ 62) ≤ j ∧ j < 2 ^ 62 then .ok (dnTo i (i - j).toNat) st1 else .bad
  | _ => .bad
section
variable {X : Cx} {tg : Expr} {ma : MA} {p pos : Pos}
end
end T5
namespace T5
open PySem PySem.Spec PyProof.Rows L2
variable [TabC]
/-! ### for k in d, d held with flat keys -/
def iKeyF (m : ME) : MI := fun env st => (m env st).bind fun d st1 => match d with
  | .dic false ks vs => .ok ks st1
  | _ => .bad
section
variable {X : Cx} {tg e : Expr} {m : ME} {K : PySem.W.Frag} {mg : Str → Option Value} {μ1 : Mu} {H1 : Hp}
end
end T5
namespace T5
open PySem PySem.Spec PyProof.Rows L2
variable [TabC]
/-! ### d != {} -/
def bNeE : BO := fun st x y => match dicOf st x, dicOf st y with
  | some (false, ks, _), some (false, [], _) => some (.bl (!ks.isEmpty))
  | _, _ => none
def rNeE : R2 := fun x y H Q => ∃ (a b : Addr) (ka kb : List (Key × V)), x = .ref a ∧ y = .ref b ∧ Rd H a (.dK ka) ∧ Rd H b (.dK kb) ∧ kb = [] ∧ Q (.bl (!ka.isEmpty)) H
section
variable {X : Cx} {K : PySem.W.Frag} {mg : Str → Option Value} {a b : Expr} {ma mb : ME} {pos : Pos}
end
end T5
namespace T5
open PySem PySem.Spec PyProof.Rows L2
variable [TabC]
/-! ### dict(list(e.items())): a dict of one's own -/
def mrgD : List D → List D → List D → List D → List D × List D
  | k :: ks, v :: vs, aks, avs => mrgD ks vs (putD false k v aks avs).1 (putD false k v aks avs).2
  | [], _, aks, avs => (aks, avs)
  | _, [], aks, avs => (aks, avs)
def eDicI (m : ME) : ME := fun env st => (m env st).bind fun d st1 => match dicOf st1 d with
  | some (false, ks, vs) => .ok (.obj st1.length) (st1 ++ [.dic false (mrgD ks vs [] []).1 (mrgD ks vs [] []).2])
  | _ => .bad
/-- what list(d.items()) tells of a dict that may be locked -/
def rItmR : V → Hp → VK → Prop := fun x H Q => ∃ (d : Addr) (kvs : List (Key × V)), x = .ref d ∧ Rd H d (.dK kvs) ∧
  ∀ (H' : Hp) (p : Addr) (ts : List Addr), Same H H' → H p = none → (∀ t ∈ ts, H t = none) → H' p = some (.lst (ts.map V.ref)) → Paired (fun (t : Addr) (q : Key × V) => H' t = some (.tup [kV q.1, q.2])) ts kvs → Q (.ref p) H'
section
variable {X : Cx} {K : PySem.W.Frag} {mg : Str → Option Value} {μ : Mu} {H : Hp} {e o i : Expr} {te : TE} {m mo mi : ME} {p p2 apos cpos pos pos2 : Pos}
/-! ### o.pop(k), o a dict of one's own -/
def delD (k : D) : List D → List D → List D × List D
  | k' :: ks, v :: vs => if sameKey false k' k = true then delD k ks vs else (k' :: (delD k ks vs).1, v :: (delD k ks vs).2)
  | _, _ => ([], [])
def ePopD (mo mi : ME) : ME := fun env st => (mo env st).bind fun o st1 => match dicOf st1 o with
  | some (false, _, _) => (mi env st1).bind fun i st2 => (match o with
    | .obj n => (match st2[n]? with
      | some (.dic false ks vs) => if flatKey i = true then (match lookD false i ks vs with
        | some v => .ok v (st2.set n (.dic false (delD i ks vs).1 (delD i ks vs).2))
        | none => .bad) else .bad
      | _ => .bad)
    | _ => .bad)
  | _ => .bad
end
end T5
namespace T5
open PySem PySem.Spec PyProof.Rows L2
/-! ### xs != ys, lists of any texts; s * k -/
def rNeSs (K : PySem.W.Frag) : R2 := fun x y H Q => ∃ s t : List Str, Dp K H x (.list (s.map .str)) ∧ Dp K H y (.list (t.map .str)) ∧ Q (.bl (decide (s ≠ t))) H
def repN (s : List Nat) : Nat → List Nat
  | 0 => []
  | k + 1 => s ++ repN s k
def rMulN : R2 := fun x y H Q => ∃ (l : List Nat) (k : Nat), x = .str (toStr l) ∧ y = .int k ∧ 2 ≤ k ∧ l.length ≠ 0 ∧ k * l.length ≤ 100000 ∧ Q (.str (toStr (repN l k))) H
section
variable {X : Cx}
end
variable [TabC]
section
variable {K : PySem.W.Frag} {mg : Str → Option Value}
def bNeSs : BO := fun st x y => (lstOf st x).bind fun a => (lstOf st y).bind fun b => (strsD a).bind fun s => (strsD b).bind fun t => some (.bl (decide (s ≠ t)))
def bMulN : BO := fun _ x y => match x, y with
  | .str s, .int k => if 2 ≤ k ∧ s.length ≠ 0 ∧ k.toNat * s.length ≤ 100000 then some (.str (repN s k.toNat)) else none
  | _, _ => none
end
section
variable {X : Cx} {a b : Expr} {ma mb : ME} {pos : Pos}
end
end T5
/-! A dict of the module from texts to texts that is only read. -/
namespace T5
open PySem PySem.Spec PyProof.Rows L2
abbrev Tx : Type := List (List Nat × List Nat)
def lookT (tab : Tx) (s : List Nat) : Option (List Nat) := match tab.find? fun p => decide (p.1 = s) with
  | some p => some p.2
  | none => none
structure TabF (K : PySem.W.Frag) (w : World) (mg : Str → Option Value) (c : String) (tab : Tx) : Prop where
  glo : mg (Str.ofString c) = some (.ref (He.ga K (Str.ofString c)))
  kd : ∃ es n, KDict K w (He.ga K (Str.ofString c)) es n
  has : ∀ s v, lookT tab s = some v → ∃ u, PySem.W.nsIn K (He.ga K (Str.ofString c)) (toStr s) = some (some u) ∧ RelV (.str (toStr v)) u
  not : ∀ s, lookT tab s = none → PySem.W.nsIn K (He.ga K (Str.ofString c)) (toStr s) = some none
def bIxT (c : String) (tab : Tx) : BO := fun _ x y => match x, y with
  | .cls c', .str s => if c' = c then (lookT tab s).map .str else none
  | _, _ => none
def bNotInT (c : String) (tab : Tx) : BO := fun _ x y => match x, y with
  | .str s, .cls c' => if c' = c then some (.bl (lookT tab s).isNone) else none
  | _, _ => none
section
variable [TabC] {X : Cx} {K : PySem.W.Frag} {mg : Str → Option Value} {c : String} {tab : Tx} {a b : Expr} {ma mb : ME} {pos : Pos}
abbrev rNotInT (K : PySem.W.Frag) (d : Addr) : R2 := fun x y H Q => ∃ (z : Str) (r : Option Value), x = .str z ∧ y = .ref d ∧ PySem.W.nsIn K d z = some r ∧ Q (.bl (!r.isSome)) H
abbrev rIxT (K : PySem.W.Frag) (d : Addr) : R2 := fun x y H Q => ∃ (z : Str) (u0 : Value) (v0 : V), x = .ref d ∧ y = .str z ∧ PySem.W.nsIn K d z = some (some u0) ∧ RelV v0 u0 ∧ Q v0 H
end
/-! ### the head's hook with one table -/
/-- a table: its name, its entries -/
abbrev Tb : Type := Str × Tx
def valsS (K : PySem.W.Frag) (a : Addr) (kvs : Tx) : Bool := kvs.all fun q => match PySem.W.nsIn K a (toStr q.1) with
  | some (some (.str x _)) => decide (x = toStr q.2)
  | _ => false
abbrev AlLT : Type := (AlL × (Option (List (Option (Str × Int))) × Bool)) × Bool
def obsT (tb : Tb) (K : PySem.W.Frag) : Option (List (Option (Str × Int))) × Bool := (He.dicW K (He.ga K tb.1), valsS K (He.ga K tb.1) tb.2)
def valT (tb : Tb) (w : World) : Option (List (Option (Str × Int))) × Bool := (some (He.keysIn w.params (tb.2.map fun p => toStr p.1)), true)
def obsLTG (n : Nat) (fa : List He.Fa) (fn : List He.DefD) (fx : List Fy) (lam : List DefA) (pn : List He.DefD) (tb : Tb) (g : Addr → Option Obj) : AlLT := ((obsL fa fn fx lam pn (frL n g), obsT tb (frL n g)), tabsB g (frL n g) lam)
def hookLT (n : Nat) (fa : List He.Fa) (fn : List He.DefD) (fx : List Fy) (lam : List DefA) (pn : List He.DefD) (tb : Tb) : PySem.W.Hook where
  α := AlLT
  obs := fun s => obsLTG n fa fn fx lam pn tb s.heap.get?
  val := fun w => ((((He.valD fn, pn.map He.DefD.val), true), valT tb w), true)
  says := fun w h => ∃ K : PySem.W.Frag, K.In h ∧ SaysL fa fn fx lam pn K ∧ (∀ p ∈ lam, h.get? (tA K p) = some { cls := .none, data := .fields #[] }) ∧ obsT tb K = valT tb w
  of := fun _ s e => ⟨frL n s.heap.get?, He.frG_in, ⟨congrArg (fun z : AlLT => z.1.1) e⟩, (fun p hp => by
    have h2 := List.all_eq_true.mp (congrArg (fun z : AlLT => z.2) e) p hp
    split at h2
    · rename_i o ho
      rw [ho, isTab_ok h2]
    · cases h2), congrArg (fun z : AlLT => z.1.2) e⟩
  keeps := fun _ _ _ ⟨K, a, c, t, z⟩ k => ⟨K, PySem.W.Frag.In.keeps a k, c, fun p hp => k _ _ (t p hp), z⟩
end T5
namespace T5
open PySem PySem.Spec PyProof.Rows L2
/-! ### the look at the module over given addresses (no search for them in the kernel) -/
def frA (as : List Addr) (g : Addr → Option Obj) : PySem.W.Frag := He.frG g as
def obsA (as : List Addr) (fa : List He.Fa) (fn : List He.DefD) (fx : List Fy) (lam : List DefA) (pn : List He.DefD) (tb : Tb) (g : Addr → Option Obj) : AlLT := ((obsL fa fn fx lam pn (frA as g), obsT tb (frA as g)), tabsB g (frA as g) lam)
def hookA (as : List Addr) (fa : List He.Fa) (fn : List He.DefD) (fx : List Fy) (lam : List DefA) (pn : List He.DefD) (tb : Tb) : PySem.W.Hook where
  α := AlLT
  obs := fun s => obsA as fa fn fx lam pn tb s.heap.get?
  val := fun w => ((((He.valD fn, pn.map He.DefD.val), true), valT tb w), true)
  says := fun w h => ∃ K : PySem.W.Frag, K.In h ∧ SaysL fa fn fx lam pn K ∧ (∀ p ∈ lam, h.get? (tA K p) = some { cls := .none, data := .fields #[] }) ∧ obsT tb K = valT tb w
  of := fun _ s e => ⟨frA as s.heap.get?, He.frG_in, ⟨congrArg (fun z : AlLT => z.1.1) e⟩, (fun p hp => by
    have h2 := List.all_eq_true.mp (congrArg (fun z : AlLT => z.2) e) p hp
    split at h2
    · rename_i o ho
      rw [ho, isTab_ok h2]
    · cases h2), congrArg (fun z : AlLT => z.1.2) e⟩
  keeps := fun _ _ _ ⟨K, a, c, t, z⟩ k => ⟨K, PySem.W.Frag.In.keeps a k, c, fun p hp => k _ _ (t p hp), z⟩
end T5
namespace T5
open PySem PySem.Spec PyProof.Rows L2 GenW
/-! ### [a for a, b, c in f(..)], f a generator of triples -/
/-- the first of a tuple -/
def fstV (H : Hp) (x : V) : V := match x with
  | .ref t => (match H t with
    | some (.tup (y :: _)) => y
    | _ => .non)
  | _ => .non
section
variable {D : GenD} {j k : Nat} {s : Shared} {h' : Heap} {t' : Nat}
end
theorem letGo_gen {P : Program} {w : World} {A : Around} {E : Value → Shared → Prop} {target : Expr} {I : Addr} {g : Nat} {v : Value} {Q : Unit → Shared → Prop} {s : Shared} (ho : s.heap.IsGen I g) (h : Q () s) :
    wpAny (model P w) A (letOwnedTupleGo target (.ref I) v) Q E s := by
  obtain ⟨o, nm, qn, ho, hc, hd, _⟩ := ho
  unfold letOwnedTupleGo
  cases target <;> first
    | exact wpAny_pure h
    | (cases v <;> first
        | exact wpAny_pure h
        | (refine wpAny_bind (wpAny_load ho ?_)
           rw [hc, hd]
           dsimp only
           rw [show (["enumerate", "zip", "dict_itemiterator", "dict_reverseitemiterator", "odict_iterator", "itertools.zip_longest", "itertools.pairwise"].contains "generator") = false by decide]
           simp only [Bool.false_and, Bool.false_eq_true, if_false]
           exact wpAny_pure h))
section
variable {X : Cx} {pins : List (Addr × Obj)} {σ : L2.St} {H H1 : Hp} {s s1 s2 : Shared} {scope : Scope} {own : List (Str × Nat)} {k : Nat} {y y1 y2 : Str} {q1 q2 q3 q4 tp pos : Pos} {tx : Nat} {iter : Expr} {u : Value} {Qx : List V → Hp → Prop} {Qf : Value → Shared → Prop} {use : Option (Value → Sem Unit)}
/-- [a for a, b, c in f(e, ..)] -/
def tLcP (N : List Str) (n : Nat) (ta : TA) (te : TE) : TE := fun σ H Q => ta σ H fun vs H1 => vs.length = n ∧ te (start N vs) H1 fun u H2 => ∃ l xs, u = .ref l ∧ H2 l = some (.lst xs) ∧ (∀ x ∈ xs, ∃ t z0 z1 z2, x = .ref t ∧ H2 t = some (.tup [z0, z1, z2])) ∧ ∀ D, H2 D = none → Q (.ref D) (upd H2 D (.lst (xs.map (fstV H2))))
end
variable [TabC]
/-- the firsts of triples -/
def fstD (d : D) : Option D := match d with
  | .tup [a, _, _] => some a
  | _ => none
/-- [a for a, b, c in f(..)] -/
def eLcP (m : MF) (ma : MA) : ME := fun env st => (ma env st).bind fun ds st1 => (noEx (m ds st1)).bind fun d st2 => match (lstOf st2 d).bind (fun l => l.mapM fstD) with
  | some l => .ok (.lst l) st2
  | none => .bad
section
variable {X : Cx} {k : Nat} {f : Addr} {m : MF} {me : ME} {ma : MA} {N ps : List Str}
end
end T5
namespace T5
open PySem PySem.Spec PyProof.Rows L2 GenW
/-! ### generators of any body; the consumer changes places of its own while they sleep -/
/-- the consumer's things are young and apart from the generator's -/
def Sep (X : Cx) (cp ip : List (Addr × Obj)) : Prop := ∀ p ∈ cp, X.s_0.heap.objs.size ≤ p.1 ∧ ∀ q ∈ X.pn ++ ip, q.1 ≠ p.1
/-- the generator stands so; cp: the consumer's things, ip: the generator's iterators -/
def GJ (X : Cx) (cp ip : List (Addr × Obj)) (σ : L2.St) (H : Hp) (s : Shared) : Prop := Inv X (cp ++ ip) σ H s ∧ Sep X cp ip
/-- what the consumer did while the generator slept -/
structure Woke (cp cp' : List (Addr × Obj)) (s s' : Shared) : Prop where
  os : s'.os = s.os
  bare : AllBare s'.gens
  keep : ∀ b o, b ∉ cp.map (·.1) → s.heap.get? b = some o → s'.heap.get? b = some o
  own : ∀ p ∈ cp', s'.heap.get? p.1 = some p.2 ∧ (∀ v, p.2.data ≠ .cell v) ∧ (p.1 ∈ cp.map (·.1) ∨ s.heap.objs.size ≤ p.1)
section
variable {X : Cx} {cp cp' ip : List (Addr × Obj)} {σ : L2.St} {H : Hp} {s s' : Shared}
theorem GJ.woke (h : GJ X cp ip σ H s) (z : Woke cp cp' s s') : GJ X cp' ip σ H s' := by
  obtain ⟨I, sep⟩ := h
  obtain ⟨z1, z2, z3, z4⟩ := z
  have pc : ∀ p ∈ cp, s.heap.get? p.1 = some p.2 ∧ H p.1 = none ∧ p.1 ≠ X.env.locals ∧ p.1 ∉ X.fs ∧ ∀ v, p.2.data ≠ .cell v := fun p hp => I.pin p (List.mem_append_right _ (List.mem_append_left _ hp))
  have un : ∀ b, b ∈ cp.map (·.1) → H b = none ∧ b ≠ X.env.locals ∧ b ∉ X.fs := fun b hb => by
    obtain ⟨p, hp, rfl⟩ := List.mem_map.mp hb
    exact ⟨(pc p hp).2.1, (pc p hp).2.2.1, (pc p hp).2.2.2.1⟩
  have I0 : Inv X ip σ H s := I.pins_of fun p hp => I.pin p (List.mem_append_right _ (List.mem_append_right _ hp))
  obtain ⟨hh, gg, dd, tt, oo⟩ := s'
  have ho : oo = s.os := z1
  subst ho
  have J : Inv X ip σ H { s with heap := hh, gens := gg, drawn := dd, toks := tt } := by
    refine I0.step (ch := cp.map (·.1)) (fun b hb => ?hch) (fun b o _ _ nb e _ => z3 b o nb e) (fun b o _ _ nb e _ => ⟨o.slots, z3 b o nb e⟩) (fun _ _ _ _ n => n) (fun b o nb e => ⟨o, z3 b o nb e⟩) (fun _ _ e => e) (fun _ _ _ e => e) (fun _ ps e => ⟨#[], by rw [e, Array.append_empty]⟩) (fun m hm => ?hns) (fun b u e => ?hok) z2
    case hch =>
      obtain ⟨p, hp, rfl⟩ := List.mem_map.mp hb
      obtain ⟨e1, _, e3, _, e5⟩ := pc p hp
      refine ⟨.inr (sep p hp).1, e3, fun y c hc ec => ?_, (sep p hp).2⟩
      obtain ⟨v, o, eo, ed⟩ := I.cell y c hc
      rw [ec, e1] at eo
      cases eo
      exact e5 _ ed
    case hns =>
      obtain ⟨o, es, ep, eo, rr⟩ := hm
      exact ⟨o, es, ep, z3 _ o (fun k => (un _ k).2.1 rfl) eo, rr⟩
    case hok =>
      refine (I0.hok b u e).stay (fun c v hc y => z3 c v (fun k => ?_) y) (fun _ y => y) fun _ _ y => y
      have nk := (un c k).1
      rcases hc with hc | hc
      · rw [hc, e] at nk; cases nk
      · rw [hc] at nk; cases nk
  have fresh : ∀ b, s.heap.objs.size ≤ b → H b = none ∧ b ≠ X.env.locals ∧ b ∉ X.fs := fun b hb => ⟨I.hok.fresh hb, fun k => absurd (Nat.lt_of_lt_of_le I.lt (k ▸ hb)) (Nat.lt_irrefl _), I.nofs hb⟩
  refine ⟨J.pins_of fun p hp => ?_, fun p hp => ?_⟩
  · rcases List.mem_append.mp hp with hp | hp
    · obtain ⟨e1, e2, e3⟩ := z4 p hp
      have : H p.1 = none ∧ p.1 ≠ X.env.locals ∧ p.1 ∉ X.fs := e3.elim (un _) (fresh _)
      exact ⟨e1, this.1, this.2.1, this.2.2, e2⟩
    · exact J.pin p (List.mem_append_right _ hp)
  · obtain ⟨e1, e2, e3⟩ := z4 p hp
    rcases e3 with e3 | e3
    · obtain ⟨q, hq, eq⟩ := List.mem_map.mp e3
      have := sep q hq
      rw [eq] at this
      exact this
    · refine ⟨Nat.le_trans I.sz e3, fun q hq eq => ?_⟩
      have lt := Heap.lt_size (I0.pin q hq).1
      rw [eq] at lt
      exact absurd (Nat.lt_of_lt_of_le lt e3) (Nat.lt_irrefl _)
end
/-- the consumer's things, by the state in which it wakes the generator; its record of what came -/
abbrev OwnF := Shared → List (Addr × Obj)
abbrev RecF := Shared → List (List V) → Prop
/-- what is told of an item -/
abbrev ItF := Hp → V → List V → Prop
def NY (X : Cx) (own : OwnF) (Rec : RecF) (F : ItF) : Protocol := fun n s₀ v s kap => ∃ ys x fs ip σ H, n + 1 + ys.length = sizeLine ∧ Rec s₀ ys ∧ RelV x v ∧ F H x fs ∧ GJ X (own s₀) ip σ H s ∧ ∀ s', Woke (own s₀) (own s') s s' → Rec s' (ys ++ [fs]) → kap (.send .none) s'
/-- what is wanted behind a statement -/
structure NEnds where
  nx : List (List V) → L2.St → Hp → Prop
  rt : List (List V) → VK
  bk : List (List V) → L2.St → Hp → Prop := fun _ _ _ => False
  ct : List (List V) → L2.St → Hp → Prop := fun _ _ _ => False
abbrev NT := NEnds → List (List V) → L2.St → Hp → Prop
def NEnds.on (D : NEnds) (ys : List (List V)) : Ends := { nx := D.nx ys, rt := D.rt ys, bk := D.bk ys, ct := D.ct ys }
def NP (X : Cx) (cp ip : List (Addr × Obj)) (D : NEnds) (ys : List (List V)) (f : Flow) (s : Shared) : Prop := match f with
  | .next => ∃ σ H, GJ X cp ip σ H s ∧ D.nx ys σ H
  | .brk => ∃ σ H, GJ X cp ip σ H s ∧ D.bk ys σ H
  | .cont => ∃ σ H, GJ X cp ip σ H s ∧ D.ct ys σ H
  | .ret u => ∃ v σ H, GJ X cp ip σ H s ∧ RelV v u ∧ D.rt ys v H
theorem np_of {X : Cx} {cp ip : List (Addr × Obj)} {D : NEnds} {ys : List (List V)} {f : Flow} {s : Shared} (sep : Sep X cp ip) (h : L2.SP X (cp ++ ip) (D.on ys) f s) : NP X cp ip D ys f s := by
  cases f with
  | next => obtain ⟨a, b, I, q⟩ := h; exact ⟨a, b, ⟨I, sep⟩, q⟩
  | brk => obtain ⟨a, b, I, q⟩ := h; exact ⟨a, b, ⟨I, sep⟩, q⟩
  | cont => obtain ⟨a, b, I, q⟩ := h; exact ⟨a, b, ⟨I, sep⟩, q⟩
  | ret u => obtain ⟨v, a, b, I, r, q⟩ := h; exact ⟨v, a, b, ⟨I, sep⟩, r, q⟩
/-- where its code stands -/
structure NC (X : Cx) (A : Around) (c : Code) (fs : List Frame) (gd : Bool → Bool) : Prop where
  over : A.over c fs = X.A
  split : splitAtGen fs = none
  guard : fs.any Frame.guarded = false
  gd : gd false = false
/-- what follows -/
structure NK (X : Cx) (own : OwnF) (Rec : RecF) (F : ItF) (ip : List (Addr × Obj)) (A : Around) (R : GenEnd) (c : Code) (fs : List Frame) (K : Flow → Sem PySem.Fin) (J : Value → Sem PySem.Fin) (D : NEnds) : Prop where
  ok : ∀ (n : Nat) (ys : List (List V)) (s₀ s : Shared) (f : Flow), n + ys.length = sizeLine → Rec s₀ ys → NP X (own s₀) ip D ys f s → Seg (model X.prog X.w) A R (NY X own Rec F) n s₀ c (K f) fs s
  exc : ∀ (n : Nat) (s₀ : Shared) (e : Value) (s : Shared), X.xe e s → Seg (model X.prog X.w) A R (NY X own Rec F) n s₀ c (J e) fs s
structure NS (X : Cx) (F : ItF) (st : Stmt) (t : NT) : Prop where
  run : ∀ (A : Around) (own : OwnF) (Rec : RecF) (ip : List (Addr × Obj)) (R : GenEnd) (n : Nat) (ys : List (List V)) (s₀ : Shared) (c : Code) (fs : List Frame) (K : Flow → Sem PySem.Fin) (J : Value → Sem PySem.Fin) (gd : Bool → Bool) (lv : List Value → List Value) (s : Shared) (σ : L2.St) (H : Hp) (D : NEnds),
    NC X A c fs gd → n + ys.length = sizeLine → Rec s₀ ys → NK X own Rec F ip A R c fs K J D → GJ X (own s₀) ip σ H s → t D ys σ H → Seg (model X.prog X.w) A R (NY X own Rec F) n s₀ c ((exec st X.env).wrap K J gd lv) fs s
structure NSs (X : Cx) (F : ItF) (st : List Stmt) (t : NT) : Prop where
  run : ∀ (A : Around) (own : OwnF) (Rec : RecF) (ip : List (Addr × Obj)) (R : GenEnd) (n : Nat) (ys : List (List V)) (s₀ : Shared) (c : Code) (fs : List Frame) (K : Flow → Sem PySem.Fin) (J : Value → Sem PySem.Fin) (gd : Bool → Bool) (lv : List Value → List Value) (s : Shared) (σ : L2.St) (H : Hp) (D : NEnds),
    NC X A c fs gd → n + ys.length = sizeLine → Rec s₀ ys → NK X own Rec F ip A R c fs K J D → GJ X (own s₀) ip σ H s → t D ys σ H → Seg (model X.prog X.w) A R (NY X own Rec F) n s₀ c ((execs st X.env).wrap K J gd lv) fs s
section
variable {X : Cx} {F : ItF} {st : Stmt} {rest : List Stmt}
/-- a statement without a yield -/
def tNPlain (t : TS) : NT := fun D ys σ H => t (D.on ys) σ H
theorem ns_plain {t : TS} (h : PS X st t) : NS X F st (tNPlain t) := by
  refine ⟨fun A own Rec ip R n ys s₀ c fs K J gd lv s σ H D g hn hr k hI ht => seg_wrap ?_⟩
  rw [g.over]
  exact wpAny_mono (h.run _ s σ H (D.on ys) hI.1 ht) (fun f s' q => k.ok n ys s₀ s' f hn hr (np_of hI.2 q)) fun e s' q => k.exc n s₀ e s' q
def tN0 : NT := fun D ys σ H => D.nx ys σ H
theorem nss_nil : NSs X F [] tN0 := ⟨fun A own Rec ip R n ys s₀ c fs K J gd lv s σ H D g hn hr k hI ht => seg_execs_nil (k.ok n ys s₀ s .next hn hr ⟨σ, H, hI, ht⟩)⟩
def tNThen (t u : NT) : NT := fun D ys σ H => t { D with nx := fun ys' σ' H' => u D ys' σ' H' } ys σ H
theorem nss_cons {t u : NT} (a : NS X F st t) (b : NSs X F rest u) : NSs X F (st :: rest) (tNThen t u) := by
  refine ⟨fun A own Rec ip R n ys s₀ c fs K J gd lv s σ H D g hn hr k hI ht => seg_execs_cons (a.run A own Rec ip R n ys s₀ c fs _ J gd lv s σ H _ g hn hr ⟨fun n' ys' s0 s1 f hn' hr' q => ?_, k.exc⟩ hI ht)⟩
  cases f with
  | next =>
    obtain ⟨σ', H', I', q⟩ := q
    exact b.run A own Rec ip R n' ys' s0 c fs K J gd lv s1 σ' H' D g hn' hr' k I' q
  | brk => exact k.ok n' ys' s0 s1 .brk hn' hr' q
  | cont => exact k.ok n' ys' s0 s1 .cont hn' hr' q
  | ret u => exact k.ok n' ys' s0 s1 (.ret u) hn' hr' q
/-! ### yield e -/
def tNYield (F : ItF) (te : TE) : NT := fun D ys σ H => ys.length < sizeLine ∧ te σ H fun x H1 => ∃ fs, F H1 x fs ∧ D.nx (ys ++ [fs]) σ H1
theorem ns_yield {e : Expr} {yp pos : Pos} {te : TE} (he : PE X e te) (hco : X.env.scope.isCoroutine = false := by rfl) (hi : interactive X.env = false := by rfl) : NS X F (.Expr (.Yield (some e) yp) pos) (tNYield F te) := by
  refine ⟨fun A own Rec ip R n ys s₀ c fs K J gd lv s σ H D g hn hr k hI ht => ?_⟩
  obtain ⟨hlt, ht⟩ := ht
  obtain ⟨n, rfl⟩ : ∃ m, n = m + 1 := ⟨n - 1, by omega⟩
  refine seg_Expr_Yield g.split g.gd g.guard ?_ hco hi
  rw [g.over]
  refine wpAny_mono (he.run _ s σ H _ hI.1 ht) (fun v s' hv => ?_) fun x s' hx => k.exc _ s₀ x s' hx
  obtain ⟨x, H1, I1, rv, fs', hF, q⟩ := hv
  intro kap hk
  refine ⟨ys, x, fs', ip, σ, H1, hn, hr, rv, hF, ⟨I1, hI.2⟩, fun s2 z hr2 => hk .none s2 ?_⟩
  exact k.ok n (ys ++ [fs']) s2 s2 .next (by rw [List.length_append, List.length_singleton]; omega) hr2 ⟨σ, H1, GJ.woke ⟨I1, hI.2⟩ z, q⟩
/-! ### if c: .. -/
def tNIf (tc : TT) (tb : NT) : NT := fun D ys σ H => tc σ H fun b H1 => if b = true then tb D ys σ H1 else D.nx ys σ H1
theorem ns_if {test : Expr} {body : List Stmt} {pos : Pos} {tc : TT} {tb : NT} (hc : PT X test tc) (hb : NSs X F body tb) : NS X F (.If test body [] pos) (tNIf tc tb) := by
  refine ⟨fun A own Rec ip R n ys s₀ c fs K J gd lv s σ H D g hn hr k hI ht => ?_⟩
  rw [exec_If]
  refine seg_bind_wrap (wpAny_standAt ?_)
  refine seg_bind_wrap ?_
  rw [g.over]
  refine wpAny_mono (hc.run _ s σ H _ hI.1 ht) (fun b s' q => ?_) fun e s' q => k.exc n s₀ e s' q
  obtain ⟨H1, I1, q⟩ := q
  cases b with
  | true =>
    rw [if_pos rfl] at q
    exact hb.run A own Rec ip R n ys s₀ c fs K J gd lv s' σ H1 D g hn hr k ⟨I1, hI.2⟩ q
  | false =>
    rw [if_neg Bool.false_ne_true] at q
    exact seg_execs_nil (env := X.env) (k.ok n ys s₀ s' .next hn hr ⟨σ, H1, ⟨I1, hI.2⟩, q⟩)
end
end T5
namespace T5
open PySem PySem.Spec PyProof.Rows L2 GenW
/-! ### for x in e: .., e a list that stays -/
section
variable {X : Cx} {F : ItF} {iter : Expr} {tgt : Expr} {body : List Stmt} {pos : Pos} {te : TE} {tg : TG} {tb : NT}
theorem letGo_li {P : Program} {w : World} {A : Around} {E : Value → Shared → Prop} {target : Expr} {it l : Addr} {j : Nat} {v : Value} {Q : Unit → Shared → Prop} {s : Shared} (ho : s.heap.IsListIter it l j) (h : Q () s) :
    wpAny (model P w) A (letOwnedTupleGo target (.ref it) v) Q E s := by
  obtain ⟨o, ho, hc, hd⟩ := ho
  unfold letOwnedTupleGo
  cases target <;> first
    | exact wpAny_pure h
    | (cases v <;> first
        | exact wpAny_pure h
        | (refine wpAny_bind (wpAny_load ho ?_)
           rw [hc, hd]
           dsimp only
           rw [show (["enumerate", "zip", "dict_itemiterator", "dict_reverseitemiterator", "odict_iterator", "itertools.zip_longest", "itertools.pairwise"].contains "list_iterator") = false by decide]
           simp only [Bool.false_and, Bool.false_eq_true, if_false]
           exact wpAny_pure h))
def tNTurns (l : Addr) (xs : List V) (tg : TG) (tb : NT) (D : NEnds) : List V → List (List V) → L2.St → Hp → Prop
  | [], ys, σ, H => D.nx ys σ H
  | x :: r, ys, σ, H => tg x σ H fun σ1 H1 => tb { D with nx := fun ys' σ' H' => H' l = some (.lst xs) ∧ tNTurns l xs tg tb D r ys' σ' H', ct := fun ys' σ' H' => H' l = some (.lst xs) ∧ tNTurns l xs tg tb D r ys' σ' H', bk := D.nx } ys σ1 H1
def tNFor (te : TE) (tg : TG) (tb : NT) : NT := fun D ys σ H => te σ H fun u H1 => ∃ l xs, u = .ref l ∧ H1 l = some (.lst xs) ∧ tNTurns l xs tg tb D xs ys σ H1
/-- the turns of the loop -/
theorem ns_turns {A : Around} {own : OwnF} {Rec : RecF} {ip : List (Addr × Obj)} {R : GenEnd} {fs' : List Frame} {D : NEnds} {it l : Addr} {xs : List V}
    (hp : PassesOwn (model X.prog X.w) X.A X.env X.xe) (hh : X.A.handled = none) (hg : PG X tgt tg) (hb : NSs X F body tb)
    (hy : X.s_0.heap.objs.size ≤ it) (hap : ∀ p ∈ X.pn ++ ip, p.1 ≠ it) (hc : NC X A (.forLoop tgt (.ref it) body [] X.env) fs' id)
    (hfin : ∀ (c : Code) (n : Nat) (ys : List (List V)) (s₀ s : Shared) (f : Flow), n + ys.length = sizeLine → Rec s₀ ys → NP X (own s₀) ip D ys f s → Seg (model X.prog X.w) A R (NY X own Rec F) n s₀ c (leafOf (.ok f)) fs' s)
    (hexc : ∀ (c : Code) (n : Nat) (s₀ : Shared) (e : Value) (s : Shared), cameBackBy (model X.prog X.w) X.A X.env X.xe e s → Seg (model X.prog X.w) A R (NY X own Rec F) n s₀ c (leafOf (.error e)) fs' s) :
    ∀ (r done : List V) (n : Nat) (ys : List (List V)) (s₀ s : Shared) (σ : L2.St) (H : Hp) (o : Obj), done ++ r = xs → n + ys.length = sizeLine → Rec s₀ ys → GJ X (own s₀) ((it, o) :: ip) σ H s → s.heap.IsListIter it l done.length → H l = some (.lst xs) → tNTurns l xs tg tb D r ys σ H →
      Seg (model X.prog X.w) A R (NY X own Rec F) n s₀ (.forLoop tgt (.ref it) body [] X.env) ((model X.prog X.w).den (.forLoop tgt (.ref it) body [] X.env)) fs' s := by
  have ee : ∀ (n : Nat) (s₀ : Shared) (x : Value) (s' : Shared), X.xe x s' → Seg (model X.prog X.w) A R (NY X own Rec F) n s₀ (.forLoop tgt (.ref it) body [] X.env) ((do noteFrame x X.env; theTreesLotGoes x : Sem Unit).wrap (fun _ => .raise x) .raise id id) fs' s' := fun n s₀ x s' hx => by
    refine seg_wrap ?_
    rw [hc.over]
    refine wpAny_bind (wpAny_mono (hp x s' hx) (fun _ s'' q => wpAny_theTreesLotGoes ?_) fun y s'' q => ?_)
    · exact hexc _ _ _ x s'' q
    · exact hexc _ _ _ y s'' q
  have eb : ∀ (n : Nat) (s₀ : Shared) (x : Value) (s' : Shared), X.xe x s' → Seg (model X.prog X.w) A R (NY X own Rec F) n s₀ (.forLoop tgt (.ref it) body [] X.env) ((do noteFrame x X.env; theTreesLotGoes x : Sem Unit).bind fun _ => .raise x) fs' s' := fun n s₀ x s' hx => by
    rw [Sem.bind_eq_wrap]
    exact ee n s₀ x s' hx
  have cel : ∀ {pins : List (Addr × Obj)} {σ : L2.St} {H : Hp} {s : Shared} {o : Obj}, Inv X pins σ H s → s.heap.get? it = some o → (∀ v, o.data ≠ .cell v) → ∀ x c, X.env.cells.lookup x = some c → c ≠ it := fun {pins σ H s o} I e1 e5 x c hc ec => by
    obtain ⟨v, ob, eo, ed⟩ := I.cell x c hc
    rw [ec, e1] at eo
    cases eo
    exact e5 _ ed
  have oth : ∀ {cp : List (Addr × Obj)} {o : Obj}, Sep X cp ((it, o) :: ip) → ∀ p ∈ X.pn ++ (cp ++ ip), p.1 ≠ it := fun {cp o} sep p hp => by
    rcases List.mem_append.mp hp with hp | hp
    · exact hap p (List.mem_append_left _ hp)
    · rcases List.mem_append.mp hp with hp | hp
      · exact fun z => (sep p hp).2 (it, o) (List.mem_append_right _ List.mem_cons_self) z.symm
      · exact hap p (List.mem_append_right _ hp)
  have off : ∀ {cp : List (Addr × Obj)} {o : Obj}, Sep X cp ((it, o) :: ip) → Sep X cp ip := fun {cp o} sep p hp => ⟨(sep p hp).1, fun z hz => (sep p hp).2 z (by simp only [List.mem_append, List.mem_cons] at hz ⊢; exact hz.elim .inl fun k => .inr (.inr k))⟩
  have less : ∀ {cp : List (Addr × Obj)} {o : Obj} {σ : L2.St} {H : Hp} {s : Shared}, Inv X (cp ++ (it, o) :: ip) σ H s → Inv X (cp ++ ip) σ H s := fun {cp o σ H s} I => I.pins_of fun p hp => I.pin p (List.mem_append_right _ (by simp only [List.mem_append, List.mem_cons] at hp ⊢; exact hp.elim .inl fun k => .inr (.inr k)))
  intro r
  induction r with
  | nil =>
    intro done n ys s₀ s σ H o hd hn hr hI hit hl q
    obtain ⟨I, sep⟩ := hI
    obtain ⟨_, its, cl, rv, el⟩ := I.hok l _ hl
    obtain ⟨p1, p2, p3, p4, p5⟩ := I.pin (it, o) (List.mem_append_right _ (List.mem_append_right _ List.mem_cons_self))
    show Seg _ A _ _ _ s₀ _ ((forTurn tgt (.ref it) body [] X.env).onRaise (fun x => do noteFrame x X.env; theTreesLotGoes x)) fs' s
    rw [Sem.onRaise_eq_wrap]
    unfold forTurn
    refine seg_bind_wrap (wpAny_standAt ?_)
    refine seg_bind_wrap (wpAny_onRaise (wpAny_pyNext_list_end (by rw [hc.over]; exact hh) hit ⟨_, el, rfl, cl, rfl⟩ (by
      rw [List.append_nil] at hd
      have := rv.length
      rw [← hd] at this
      simp [this]) fun h' hs => ?_))
    refine seg_again rfl ?_
    show Seg _ A _ _ _ s₀ _ ((execs [] X.env).onRaise (fun x => do noteFrame x X.env; theTreesLotGoes x) >>= fun f => pure (Fin.done f)) fs' _
    exact hfin _ n ys s₀ _ .next hn hr ⟨σ, H, ⟨(less I).turned (t' := s.toks) (fun b ob nb e => hs b ob nb e) p2 p3 (.inr hy) (cel I p1 p5) (oth sep), off sep⟩, q⟩
  | cons x r ih =>
    intro done n ys s₀ s σ H o hd hn hr hI hit hl q
    obtain ⟨I, sep⟩ := hI
    obtain ⟨_, its, cl, rv, el⟩ := I.hok l _ hl
    obtain ⟨p1, p2, p3, p4, p5⟩ := I.pin (it, o) (List.mem_append_right _ (List.mem_append_right _ List.mem_cons_self))
    have hx : xs[done.length]? = some x := by
      rw [← hd, List.getElem?_append_right (Nat.le_refl _), Nat.sub_self]
      rfl
    obtain ⟨v, hv, rx⟩ := rv.get hx
    show Seg _ A _ _ _ s₀ _ ((forTurn tgt (.ref it) body [] X.env).onRaise (fun x => do noteFrame x X.env; theTreesLotGoes x)) fs' s
    rw [Sem.onRaise_eq_wrap]
    unfold forTurn
    refine seg_bind_wrap (wpAny_standAt ?_)
    refine seg_bind_wrap (wpAny_onRaise (wpAny_pyNext_list_item hit ⟨_, el, rfl, cl, rfl⟩ (x := v) (by simpa using hv) fun h1 hi1 hs1 => ?_))
    have I1 := (less I).turned (t' := s.toks) (fun b ob nb e => hs1.extBut b ob nb e) p2 p3 (.inr hy) (cel I p1 p5) (oth sep)
    obtain ⟨o1, eo1, ec1, ed1⟩ := id hi1
    have nc1 : ∀ w, o1.data ≠ .cell w := fun w z => by rw [ed1] at z; cases z
    have J1 : Inv X (own s₀ ++ (it, o1) :: ip) σ H { s with heap := h1 } := I1.pins_of fun p hp => by
      rcases List.mem_append.mp hp with hp | hp
      · exact I1.pin p (List.mem_append_right _ (List.mem_append_left _ hp))
      · rcases List.mem_cons.mp hp with hp | hp
        · rw [hp]
          exact ⟨eo1, p2, p3, p4, nc1⟩
        · exact I1.pin p (List.mem_append_right _ (List.mem_append_right _ hp))
    have sep1 : Sep X (own s₀) ((it, o1) :: ip) := fun p hp => ⟨(sep p hp).1, fun z hz => by
      simp only [List.mem_append, List.mem_cons] at hz
      rcases hz with hz | hz | hz
      · exact (sep p hp).2 z (List.mem_append_left _ hz)
      · rw [hz]
        exact (sep p hp).2 (it, o) (List.mem_append_right _ List.mem_cons_self)
      · exact (sep p hp).2 z (List.mem_append_right _ (List.mem_cons_of_mem _ hz))⟩
    refine seg_bind_wrap (letGo_li hi1 ?_)
    refine seg_bind_wrap ?_
    rw [hc.over]
    refine wpAny_mono (hg.run _ _ σ H x v _ J1 rx q) (fun _ s6 ⟨σ6, H6, I6, q6⟩ => ?_) fun e s6 hx => eb n s₀ e s6 hx
    rw [Sem.bind_eq_wrap', Sem.wrap_wrap]
    have nxt : ∀ (n' : Nat) (ys' : List (List V)) (s0 s7 : Shared) (σ7 : L2.St) (H7 : Hp), n' + ys'.length = sizeLine → Rec s0 ys' → GJ X (own s0) ((it, o1) :: ip) σ7 H7 s7 → (H7 l = some (.lst xs) ∧ tNTurns l xs tg tb D r ys' σ7 H7) → Seg (model X.prog X.w) A R (NY X own Rec F) n' s0 (.forLoop tgt (.ref it) body [] X.env) ((model X.prog X.w).den (.forLoop tgt (.ref it) body [] X.env)) fs' s7 := fun n' ys' s0 s7 σ7 H7 hn' hr' I7 q7 => by
      refine ih (done ++ [x]) n' ys' s0 s7 σ7 H7 o1 (by rw [List.append_assoc]; exact hd) hn' hr' I7 ⟨o1, (I7.1.pin (it, o1) (List.mem_append_right _ (List.mem_append_right _ List.mem_cons_self))).1, ec1, ?_⟩ q7.1 q7.2
      rw [ed1, List.length_append]
      rfl
    refine hb.run A own Rec ((it, o1) :: ip) R n ys s₀ _ fs' _ _ _ _ s6 σ6 H6 _ ⟨hc.over, hc.split, hc.guard, rfl⟩ hn hr ⟨fun n' ys' s0 s7 f hn' hr' q7 => ?_, fun n' s0 e s7 hx => ?_⟩ ⟨I6, sep1⟩ q6
    · cases f with
      | next =>
        obtain ⟨σ7, H7, I7, q7⟩ := q7
        exact seg_again rfl (nxt n' ys' s0 s7 σ7 H7 hn' hr' I7 q7)
      | cont =>
        obtain ⟨σ7, H7, I7, q7⟩ := q7
        exact seg_again rfl (nxt n' ys' s0 s7 σ7 H7 hn' hr' I7 q7)
      | brk =>
        obtain ⟨σ7, H7, I7, q7⟩ := q7
        exact hfin _ n' ys' s0 s7 .next hn' hr' ⟨σ7, H7, ⟨less I7.1, off I7.2⟩, q7⟩
      | ret u =>
        obtain ⟨v7, σ7, H7, I7, r7, q7⟩ := q7
        exact hfin _ n' ys' s0 s7 (.ret u) hn' hr' ⟨v7, σ7, H7, ⟨less I7.1, off I7.2⟩, r7, q7⟩
    · exact eb n' s0 e s7 hx
/-- an exception leaves the loop's call -/
theorem seg_raised {A : Around} {R : GenEnd} {Y : Protocol} {n : Nat} {s₀ s : Shared} {c : Code} {fs : List Frame} {K : Flow → Sem PySem.Fin} {J : Value → Sem PySem.Fin} {gd : Bool → Bool} {lv : List Value → List Value} {e : Value} {E : Value → Shared → Prop} (g : NC X A c fs gd)
    (h : cameBackBy (model X.prog X.w) X.A X.env E e s) (k : ∀ s y, E y s → Seg (model X.prog X.w) A R Y n s₀ c (J y) fs s) :
    Seg (model X.prog X.w) A R Y n s₀ c (((Sem.raise e : Sem Flow).onRaise (L2.cameBack X.env)).wrap K J gd lv) fs s := by
  have e1 : ((Sem.raise e : Sem Flow).onRaise (L2.cameBack X.env)).wrap K J gd lv = ((L2.cameBack X.env e).wrap (fun _ => (Sem.raise e : Sem Flow)) Sem.raise id id).wrap K J gd lv := by
    rw [← Sem.bind_eq_wrap]
    rfl
  rw [e1, Sem.wrap_wrap]
  refine seg_wrap ?_
  rw [g.over]
  exact wpAny_mono h (fun _ s' hx => k s' e hx) fun x s' hx => k s' x hx
theorem ns_for (hp : PassesOwn (model X.prog X.w) X.A X.env X.xe) (hh : X.A.handled = none) (he : PE X iter te) (hg : PG X tgt tg) (hb : NSs X F body tb) (hs : ∀ v, foldedSetIterable iter X.env v = pure v := by intro _; rfl) : NS X F (.For tgt iter body [] pos) (tNFor te tg tb) := by
  refine ⟨fun A own Rec ip R n ys s₀ c fs K J gd lv s σ H D g hn hr k hI ht => ?_⟩
  rw [exec_For]
  refine seg_bind_wrap (wpAny_standAt ?_)
  refine seg_bind_wrap ?_
  rw [g.over]
  refine wpAny_mono (he.run _ s σ H _ hI.1 ht) (fun v s1 hv => ?_) fun e s' q => k.exc n s₀ e s' q
  obtain ⟨u, H1, I1, r1, l, xs, rfl, hl, q⟩ := hv
  have ev : v = .ref l := r1
  subst ev
  obtain ⟨hlen, its, cl, rv, el⟩ := I1.hok l _ hl
  refine seg_bind_wrap (wpAny_of_eq (hs _) ?_)
  refine seg_bind_wrap (wpAny_standAt ?_)
  refine seg_bind_wrap (wpAny_holding (wpAny_pyIter_list ⟨_, el, rfl, cl, rfl⟩ ?_))
  refine seg_call fun p => ?_
  have sz := I1.sz
  have hpn : ∀ p ∈ X.pn ++ (own s₀ ++ ip), p.1 < s1.heap.objs.size := fun p hp => Heap.lt_size (I1.pin p hp).1
  refine ns_turns (own := own) (ip := ip) hp hh hg hb sz (fun p hp => Nat.ne_of_lt (hpn p (by
    rcases List.mem_append.mp hp with hp | hp
    · exact List.mem_append_left _ hp
    · exact List.mem_append_right _ (List.mem_append_right _ hp)))) ⟨(over_loop rfl rfl).trans g.over, by simp [splitAtGen, g.split], by simp [Frame.guarded, g.gd, g.guard], rfl⟩ (fun c' n' ys' s0 s' f hn' hr' q' => seg_leaf (.ok f) (k.ok n' ys' s0 s' f hn' hr' q')) (fun c' n' s0 e s' q' => seg_leaf (.error e) ?_) xs [] n ys s₀ _ σ H1 { cls := .type "list_iterator", data := .fields #[.ref l, .int 0 0] } rfl hn hr ?_ ⟨_, Heap.get?_push_size _ rfl, rfl, rfl⟩ hl q
  · show Seg _ _ _ _ _ _ _ (((Sem.raise e : Sem Flow).onRaise _).wrap K J gd lv) _ _
    refine seg_raised (E := X.xe) g ?_ fun s2 y hy => k.exc n' s0 y s2 hy
    exact q'
  · have I2 := I1.kept (t' := s1.toks) (h' := s1.heap.push { cls := .type "list_iterator", data := .fields #[.ref l, .int 0 0] }) fun b ob e => Heap.get?_push_of_some _ e
    refine ⟨I2.pins_of fun p hp => ?_, fun p hp => ⟨(hI.2 p hp).1, fun z hz => ?_⟩⟩
    · rcases List.mem_append.mp hp with hp | hp
      · exact I2.pin p (List.mem_append_right _ (List.mem_append_left _ hp))
      · rcases List.mem_cons.mp hp with hp | hp
        · rw [hp]
          exact ⟨Heap.get?_push_size _ rfl, I1.hok.fresh (Nat.le_refl _), fun z => absurd (z ▸ I1.lt) (Nat.lt_irrefl _), I1.nofs (Nat.le_refl _), fun v z => by cases z⟩
        · exact I2.pin p (List.mem_append_right _ (List.mem_append_right _ hp))
    · simp only [List.mem_append, List.mem_cons] at hz
      rcases hz with hz | hz | hz
      · exact (hI.2 p hp).2 z (List.mem_append_left _ hz)
      · rw [hz]
        exact (Nat.ne_of_lt (hpn p (List.mem_append_right _ (List.mem_append_left _ hp)))).symm
      · exact (hI.2 p hp).2 z (List.mem_append_right _ hz)
end
end T5
namespace T5
open PySem PySem.Spec PyProof.Rows L2 GenW
/-! ### a call of such a generator -/
/-- the end: all that came is recorded; or an exception left it -/
def NR (P : Program) (w : World) (outer : List Env) (H : Hp) (sc : Shared) (own : OwnF) (Rec : RecF) (Q : List (List V) → Hp → Prop) (E : XK) (a : Addr) (g : Nat) : GenEnd := fun n s₀ r s =>
  ((r = .ok (.ret .none) ∨ r = .ok .next) ∧ ∃ ys H', n + ys.length = sizeLine ∧ Rec s₀ ys ∧ (∀ p ∈ own s₀, s.heap.get? p.1 = some p.2 ∧ H' p.1 = none) ∧ s.os = sc.os ∧ AllBare s.gens ∧ s.heap.NoLimit ∧ s.heap.IsGen a g ∧ Un (frs outer) [] H H' sc.heap s.heap ∧ HOk P w H' s.heap ∧ Q ys H') ∨
  ∃ e, r = .error e ∧ CX P w outer H sc E e s ∧ s.heap.IsGen a g
/-- an item is handed out -/
def YN (P : Program) (w : World) (outer : List Env) (H : Hp) (sc : Shared) (own : OwnF) (Rec : RecF) (F : ItF) (a : Addr) (g : Nat) : Protocol := fun n s₀ v s kap =>
  ∃ ys x fs H', n + 1 + ys.length = sizeLine ∧ Rec s₀ ys ∧ RelV x v ∧ F H' x fs ∧ (∀ p ∈ own s₀, s.heap.get? p.1 = some p.2 ∧ H' p.1 = none) ∧ s.os = sc.os ∧ AllBare s.gens ∧ s.heap.NoLimit ∧ s.heap.IsGen a g ∧ Un (frs outer) [] H H' sc.heap s.heap ∧ HOk P w H' s.heap ∧
    ∀ s', Woke (own s₀) (own s') s s' → Rec s' (ys ++ [fs]) → kap (.send .none) s'
/-- a generator that has not begun -/
def NMade (P : Program) (w : World) (k : Nat) (outer : List Env) (H : Hp) (sc : Shared) (F : ItF) (Q : List (List V) → Hp → Prop) (E : XK) (u : Value) (s' : Shared) : Prop :=
  ∃ (a : Addr) (g : Nat) (c : Code), u = .ref a ∧ sc.heap.objs.size ≤ a ∧ a < s'.heap.objs.size ∧ s'.heap.IsGen a g ∧ s'.gens[g]? = some (.fresh c) ∧ s'.os = sc.os ∧ AllBare s'.gens ∧ s'.heap.NoLimit ∧ (∀ b o, sc.heap.get? b = some o → s'.heap.get? b = some o) ∧
    ∀ (A : Around) (own : OwnF) (Rec : RecF) (s2 : Shared), Room k A → Gd A → A.frames = some outer → (∀ b o, s'.heap.get? b = some o → s2.heap.get? b = some o) → s2.os = sc.os → AllBare s2.gens →
      (∀ p ∈ own s2, s2.heap.get? p.1 = some p.2 ∧ (∀ v, p.2.data ≠ .cell v) ∧ s'.heap.objs.size ≤ p.1) → Rec s2 [] →
      Seg (model P w) A (NR P w outer H sc own Rec Q E a g) (YN P w outer H sc own Rec F a g) sizeLine s2 c ((model P w).den c) [] s2
section
variable {P : Program} {w : World} {K : PySem.W.Frag} {mg : Str → Option Value} {base : Heap} {N ps : List Str} {k : Nat} {f : Addr} {name qual : Str} {params : Arguments} {scope : Scope} {dV kV doc pm cdv ct oc : Value} {an od : Option Addr} {osl : Array (Option Value)} {body : List Stmt} {F : ItF} {E : XK}
theorem n_call {t : NT} {A : Around} {outer : List Env} {s : Shared} {H : Hp} {args : Args} {us : List Value} {vs : List V} {Q : List (List V) → Hp → Prop}
    (lk : K.lookup f = some ⟨oc, od, .func (PySem.W.fnOf name qual params body scope dV kV doc pm an cdv ct), osl⟩) (hcd : PySem.W.codeIn K cdv qual = true) (Sc : GScope N ps scope)
    (hbody : ∀ (A : Around) (s : Shared) (pn : List (Addr × Obj)), Room k (A.deeper (envOfC qual scope s.heap.objs.size f cdv)) → Gd (A.deeper (envOfC qual scope s.heap.objs.size f cdv)) → NSs (gcxOf P w K mg base N qual scope f cdv A outer s H E pn) F body t)
    (ht : t { nx := fun ys _ H' => Q ys H', rt := fun ys v H' => v = .non ∧ Q ys H' } [] (start N vs) H)
    (hr : Room (k + 1) A) (hq : Gd A) (e0 : Env0 P w K mg base A outer s H) (hb : BindsTo s (PySem.W.fnOf name qual params body scope dV kV doc pm an cdv ct) args (ps.zip us)) (r : Vals vs us) (hl : vs.length = ps.length) :
    codeAny (model P w) A (.call (.ref f) args) (fun r s' => match r with | .ok (.ret u) => NMade P w (k + 1) outer H s F Q E u s' | _ => False) s := by
  have KX : K.In s.heap := e0.mod.kin.keeps fun b o e => (e0.bs b o e).1
  have lim : s.heap.NoLimit := e0.mod.nolimit.keeps fun b o e => (e0.bs b o e).1
  have hkind : ∀ y ∈ ps.zip us, scope.names.lookup y.1 = some .local ∨ (scope.names.lookup y.1 = some .cell ∧ ((cellsFrom (s.heap.objs.size + 1) scope.names []).lookup y.1).isSome = true) := fun ⟨n, v⟩ hy => by
    rcases Sc.par n (List.of_mem_zip hy).1 with q | q
    · exact .inl q
    · exact .inr ⟨q, PySem.W.cellsFrom_some _ _ _ (.inl q)⟩
  refine codeAny_call_generator hr.depth (KX _ _ lk) rfl Sc.co Sc.gen rfl (PySem.W.codeRec_of KX hcd) (hb _ _ _ _ ?_)
  refine wpAny_newFunctionEnv_cells Sc.kind hkind fun env he s1 z => ?_
  subst he
  have lim1 : s1.heap.NoLimit := lim.keeps z.toInCall.keep
  refine ⟨lim1, ?_⟩
  obtain ⟨h1, tk, es1, hk1⟩ := z.done
  have os1 : s1.os = s.os := by rw [es1]
  have gen1 : s1.gens = s.gens := by rw [es1]
  have lt1 : s.heap.objs.size < s1.heap.objs.size := z.toInCall.ns.lt
  have sz1 : s.heap.objs.size ≤ s1.heap.objs.size := Nat.le_of_lt lt1
  have kp1 : ∀ b o, s.heap.get? b = some o → s1.heap.get? b = some o := z.toInCall.keep
  have main : ∀ (go : Obj) (nm qn : Value) (tk2 : Nat), go.cls = .type "generator" → go.data = .fields #[.int s1.gens.size 0, nm, qn] → go.slots = #[] → (∀ h : Heap, (h.push go).get? h.objs.size = some go) →
      NMade P w (k + 1) outer H s F Q E (.ref s1.heap.objs.size) { s1 with gens := s1.gens.push (.fresh (.func body (envOfC qual scope s.heap.objs.size f cdv))), toks := tk2, heap := s1.heap.push go } := by
    intro go nm qn tk2 hgc hgd0 hgs hgp
    have hgen : ∀ h : Heap, h.get? s1.heap.objs.size = some go → h.IsGen s1.heap.objs.size s1.gens.size := fun h e => ⟨go, nm, qn, e, hgc, hgd0, hgs⟩
    have hpushed : (s1.heap.push go).get? s1.heap.objs.size = some go := hgp _
    refine ⟨s1.heap.objs.size, s1.gens.size, _, rfl, sz1, ?_, hgen _ hpushed, Array.getElem?_push_size .., os1, ?_, lim1.keeps fun b o e => Heap.get?_push_of_some _ e, fun b o e => Heap.get?_push_of_some _ (kp1 b o e), ?_⟩
    · show _ < (s1.heap.push _).objs.size
      rw [Heap.size_push]; exact Nat.lt_succ_self _
    · exact AllBare.push (by rw [gen1]; exact e0.bare) rfl
    intro Aw own Rec s2 hrw hqw hfr hk2 hos hba hown hrec
    have e0w : Env0 P w K mg base Aw outer s H := ⟨hfr, e0.mod, e0.bs, e0.bsz, e0.funs, e0.frf, e0.hok, e0.bare⟩
    have I1 : Inv (gcxOf P w K mg base N qual scope f cdv Aw outer s H E []) [] (start N vs) H s1 := inv_startG Sc hrw.hd e0w hl r z
    have kp2 : ∀ b o, s1.heap.get? b = some o → s2.heap.get? b = some o := fun b o e => hk2 b o (Heap.get?_push_of_some _ e)
    have I2 : Inv (gcxOf P w K mg base N qual scope f cdv Aw outer s H E []) [] (start N vs) H s2 :=
      I1.call' (ch := []) (hos.trans os1.symm) (Un.kept kp2) (I1.hok.kept kp2) hba fun b z => by simp at z
    have hea : s2.heap.get? s1.heap.objs.size = some go := hk2 s1.heap.objs.size go hpushed
    have hgd : ∀ v, go.data ≠ .cell v := fun v q => by rw [hgd0] at q; cases q
    have young : ∀ b, s1.heap.objs.size ≤ b → H b = none ∧ b ≠ s.heap.objs.size ∧ b ∉ frs outer := fun b hb => ⟨I1.hok.fresh hb, Nat.ne_of_gt (Nat.lt_of_lt_of_le lt1 hb), I1.nofs hb⟩
    have big : ∀ p ∈ own s2, s1.heap.objs.size + 1 ≤ p.1 := fun p hp => by
      have := (hown p hp).2.2
      have e : ({ s1 with gens := s1.gens.push (.fresh (.func body (envOfC qual scope s.heap.objs.size f cdv))), toks := tk2, heap := s1.heap.push go } : Shared).heap.objs.size = s1.heap.objs.size + 1 := Heap.size_push _ _
      rwa [e] at this
    have Ia : Inv (gcxOf P w K mg base N qual scope f cdv Aw outer s H E [(s1.heap.objs.size, go)]) (own s2 ++ []) (start N vs) H s2 := by
      refine Inv.pinnedG I2 fun p hp => ?_
      rw [List.append_nil] at hp
      rcases List.mem_append.mp hp with hp | hp
      · rw [List.mem_singleton.mp hp]
        obtain ⟨y1, y2, y3⟩ := young s1.heap.objs.size (Nat.le_refl _)
        exact ⟨hea, y1, y2, y3, hgd⟩
      · obtain ⟨q1, q2, q3⟩ := hown p hp
        obtain ⟨y1, y2, y3⟩ := young p.1 (Nat.le_of_succ_le (big p hp))
        exact ⟨q1, y1, y2, y3, q2⟩
    have sepa : Sep (gcxOf P w K mg base N qual scope f cdv Aw outer s H E [(s1.heap.objs.size, go)]) (own s2) [] := fun p hp => ⟨Nat.le_trans sz1 (Nat.le_of_succ_le (big p hp)), fun q hq => by
      rw [List.append_nil] at hq
      rw [List.mem_singleton.mp hq]
      exact Nat.ne_of_lt (big p hp)⟩
    have pinned : ∀ {cp ip : List (Addr × Obj)} {σ' : L2.St} {H' : Hp} {s' : Shared}, GJ (gcxOf P w K mg base N qual scope f cdv Aw outer s H E [(s1.heap.objs.size, go)]) cp ip σ' H' s' → (∀ p ∈ cp, s'.heap.get? p.1 = some p.2 ∧ H' p.1 = none) ∧ s'.os = s.os ∧ AllBare s'.gens ∧ s'.heap.NoLimit ∧ s'.heap.IsGen s1.heap.objs.size s1.gens.size ∧ Un (frs outer) [] H H' s.heap s'.heap ∧ HOk P w H' s'.heap := fun {cp ip σ' H' s'} hI =>
      ⟨fun p hp => ⟨(hI.1.pin p (List.mem_append_right _ (List.mem_append_left _ hp))).1, (hI.1.pin p (List.mem_append_right _ (List.mem_append_left _ hp))).2.1⟩, hI.1.os, hI.1.bare, hI.1.nolimit, hgen _ (hI.1.pin _ (List.mem_append_left _ List.mem_cons_self)).1, hI.1.base, hI.1.hok⟩
    refine seg_imp (R := NR P w outer H s own Rec Q E s1.heap.objs.size s1.gens.size) (Y := NY (gcxOf P w K mg base N qual scope f cdv Aw outer s H E [(s1.heap.objs.size, go)]) own Rec F) (fun n s₀ r s' q => q) (fun n s₀ v s' kap kap' hkk hY => ?_) sizeLine ?_
    · obtain ⟨ys, x, fs, ip, σ', H', q1, q2, q3, q4, q5, q6⟩ := hY
      obtain ⟨a1, a2, a3, a4, a5, a6, a7⟩ := pinned q5
      exact ⟨ys, x, fs, H', q1, q2, q3, q4, a1, a2, a3, a4, a5, a6, a7, fun s'' z1 z2 => hkk _ _ (q6 s'' z1 z2)⟩
    · refine seg_func ?_
      refine (hbody Aw s [(s1.heap.objs.size, go)] ((hrw.mono (Nat.le_refl _)).deeper _) (gd_deeper hqw)).run Aw own Rec [] _ sizeLine [] s2 _ [] _ _ id id s2 (start N vs) H _ ⟨over_func, rfl, rfl, rfl⟩ rfl hrec ⟨fun n ys s₀ s' fl hn hr' q => ?_, fun n s₀ e s' q => ?_⟩ ⟨Ia, sepa⟩ ht
      · have fin : ∀ σ' H', GJ (gcxOf P w K mg base N qual scope f cdv Aw outer s H E [(s1.heap.objs.size, go)]) (own s₀) [] σ' H' s' → Q ys H' → NR P w outer H s own Rec Q E s1.heap.objs.size s1.gens.size n s₀ (.ok (.ret .none)) s' := fun σ' H' hI q => by
          obtain ⟨a1, a2, a3, a4, a5, a6, a7⟩ := pinned hI
          exact .inl ⟨.inl rfl, ys, H', hn, hr', a1, a2, a3, a4, a5, a6, a7, q⟩
        cases fl with
        | next =>
          obtain ⟨σ', H', hI, q⟩ := q
          exact seg_end (.ok (.ret .none)) (fin σ' H' hI q)
        | brk => obtain ⟨_, _, _, q⟩ := q; exact q.elim
        | cont => obtain ⟨_, _, _, q⟩ := q; exact q.elim
        | ret u =>
          obtain ⟨v, σ', H', hI, rv, ev, q⟩ := q
          subst ev
          cases (show u = Value.none from rv)
          exact seg_end (.ok (.ret .none)) (fin σ' H' hI q)
      · refine seg_wrap ?_
        rw [over_func]
        refine wpAny_mono (show wpAny (model P w) (Aw.deeper (envOfC qual scope s.heap.objs.size f cdv)) (leaving (envOfC qual scope s.heap.objs.size f cdv) e) (fun _ s'' => CX P w outer H s E e s'' ∧ ∀ p ∈ [(s1.heap.objs.size, go)], s''.heap.get? p.1 = some p.2) (fun _ _ => False) s' from q) (fun _ s'' q => ?_) fun _ s'' q => q.elim
        exact seg_end (.error e) (.inr ⟨e, rfl, q.1, hgen _ (q.2 _ List.mem_cons_self)⟩)
  exact main _ _ _ _ rfl rfl rfl fun h => Heap.get?_push_size _ rfl
end
end T5
namespace T5
open PySem PySem.Spec PyProof.Rows L2 GenW
/-! ### a property read, the table of generators kept -/
/-- C's property nm gives the attribute fld -/
structure Getter (K : PySem.W.Frag) (C : Addr) (nm fld : Str) : Prop where
  cls : Cls K C
  no : NoAttr K C fld
  ex : ∃ (p g : Addr) (name qual : Str) (pa : Arguments) (p1 p2 p3 : Pos) (sc : Scope) (fd : FuncData) (N : List Str), PropOf K C nm p g ∧ FunD K name qual pa [.Return (some (.Attribute (.Name "self" p1) fld p2)) p3] sc [] [] g fd ∧ FnScope N ["self"] sc ∧ Binds K fd ["self"] [] ∧ sc.names.lookup ("self" : Str) = some .local ∧
    (∀ env : Env, attributeBase (.Name "self" p1) fld env (eval (.Name "self" p1) env) = eval (.Name "self" p1) env)
section
variable {P : Program} {w : World} {K : PySem.W.Frag} {H : Hp} {A : Around} {s : Shared} {C a dx : Addr} {fs : List (Str × V)} {nm fld : Str} {v : V} {b : Bool} {E : Value → Shared → Prop}
theorem raw_fld {Q : Value → Shared → Prop} (hK : K.In s.heap) (hok : HOk P w H s.heap) (ea : H a = some (.ins C dx fs)) (c : Cls K C) (n : NoAttr K C fld) (l : fs.lookup fld = some v) (h : ∀ u, RelV v u → Q u { s with toks := s.toks + 1 }) :
    wpAny (model P w) A (getAttr (.ref a) fld b) Q E s := by
  obtain ⟨mA, O, r, _, _, _⟩ := ins_get hok ea
  obtain ⟨u, hu, ru⟩ := RelO.some_of (v := v) (o := mA fld) (by rw [← l]; exact r fld)
  exact get_map hK O (c.get fld) c.hd n hu (handed_of ru) (h u ru)
theorem raw_prop {Q : Value → Shared → Prop} (G : Getter K C nm fld) (hK : K.In s.heap) (lim : s.heap.NoLimit) (hr : Room 2 A) (hok : HOk P w H s.heap) (ea : H a = some (.ins C dx fs)) (l : fs.lookup fld = some v)
    (h : ∀ u h' tk, RelV v u → (∀ b o, s.heap.get? b = some o → h'.get? b = some o) → s.heap.objs.size ≤ h'.objs.size → Q u { s with heap := h', toks := tk }) : wpAny (model P w) A (getAttr (.ref a) nm b) Q E s := by
  obtain ⟨p, g, name, qual, pa, p1, p2, p3, sc, fd, N, hp, F, S, hb, hself, hab⟩ := G.ex
  obtain ⟨mA, O, _, _, _, _⟩ := ins_get hok ea
  obtain ⟨od, J, _⟩ := O.look
  obtain ⟨rest, hrec⟩ := hp.rec_
  have hc : (PySem.W.clsIn K C).isSome = true := by
    obtain ⟨cd, hc, _⟩ := PySem.W.any_some G.cls.hd
    rw [hc]
    rfl
  have bb := hb { s with toks := s.toks + 1 } [.ref a] hK rfl
  rw [List.append_nil] at bb
  obtain ⟨oc, od2, dV, kV, doc, pm, an, cdv, ct, osl, rfl, lk, hcd, _, _⟩ := F.ex
  refine PySem.W.get_bind hK J (PySem.W.plainGet_of (G.cls.get nm)).1 (PySem.W.findObj_data hc hp.at_ hp.get hp.tak) (PySem.W.plainGet_of (G.cls.get nm)).2 (wpAny_call (PySem.W.prop_get (s := { s with toks := s.toks + 1 }) hK hrec ?_))
  have hkind : ∀ y ∈ (["self"] : List Str).zip [Value.ref a], sc.names.lookup y.1 = some .local ∨ (sc.names.lookup y.1 = some .cell ∧ ((cellsFrom (s.heap.objs.size + 1) sc.names []).lookup y.1).isSome = true) := fun ⟨n, u⟩ hy => by
    have e : n = ("self" : Str) := List.mem_singleton.mp (List.of_mem_zip hy).1
    exact .inl (by rw [e]; exact hself)
  refine codeAny_call_function hr.in1.depth (hK _ _ lk) rfl S.co S.gen rfl (PySem.W.codeRec_of hK hcd) (bb _ _ _ _ ?_)
  refine wpAny_newFunctionEnv_cells S.kind hkind fun env he s1 x => ?_
  subst he
  obtain ⟨h1, tk, es1, hk1⟩ := x.done
  refine ⟨lim.keeps x.toInCall.keep, codeAny_func (wpAny_execs_cons (wpAny_Return_some (attr_of (hab _) ?_)))⟩
  have hself2 : (envOfC qual sc s.heap.objs.size g cdv).scope.names.lookup ("self" : Str) = some .local := hself
  have hm : bindL (envOfC qual sc s.heap.objs.size g cdv).kindOf ((["self"] : List Str).zip [Value.ref a]) (fun _ => none) ("self" : Str) = some (.ref a) := bindL_get (i := 0) (by simp) rfl rfl hself
  refine wpAny_Name (wpAny_loadName_local (v := .ref a) S.kind hself2 x.toInCall.ns hm ?_) (by decide)
  have kp : ∀ b o, s.heap.get? b = some o → s1.heap.get? b = some o := x.toInCall.keep
  refine raw_fld (K := K) (H := H) (v := v) (hK.keeps kp) (hok.kept kp) ea G.cls G.no l fun u ru => ?_
  show wpAny _ _ (handedOut u) _ _ _
  rw [PySem.W.handedOut_of (handed_of ru)]
  have lt : s.heap.objs.size < s1.heap.objs.size := x.toInCall.ns.lt
  subst es1
  exact wpAny_pure (h u h1 (tk + 1) ru hk1 (Nat.le_of_lt lt))
end
end T5
namespace T5
open PySem PySem.Spec PyProof.Rows L2 GenW
/-! ### [(y.n1, y.n2, y.n3) for y in f(..)], f a generator of any body -/
/-- the tuples to which a list leads -/
def refsOf (l : List Value) : List Addr := l.filterMap fun v => match v with
  | .ref t => some t
  | _ => none
def refsAt (s : Shared) (S : Addr) : List Addr := match s.heap.get? S with
  | some o => (match o.data with
    | .seq its _ => refsOf its.toList
    | _ => [])
  | none => []
/-- the consumer's things: its list, its names, the tuples so far -/
def ownSC (S C : Addr) : OwnF := fun s => (S :: C :: refsAt s S).filterMap fun b => (s.heap.get? b).map fun o => (b, o)
theorem mem_own {S C : Addr} {s : Shared} {p : Addr × Obj} : p ∈ ownSC S C s ↔ (p.1 = S ∨ p.1 = C ∨ p.1 ∈ refsAt s S) ∧ s.heap.get? p.1 = some p.2 := by
  unfold ownSC
  rw [List.mem_filterMap]
  constructor
  · rintro ⟨b, hb, e⟩
    cases h : s.heap.get? b with
    | none => rw [h] at e; cases e
    | some o =>
      rw [h] at e
      cases e
      refine ⟨?_, h⟩
      simpa using hb
  · rintro ⟨h1, h2⟩
    exact ⟨p.1, by simpa using h1, by rw [h2]; rfl⟩
abbrev tupObj (us : List Value) (n : Nat) : Obj := { cls := .type "tuple", data := .seq us.toArray n }
def TupAt (s : Shared) (t : Addr) (fs : List V) : Prop := fs.length ≤ sizeLine ∧ ∃ us n, Vals fs us ∧ s.heap.get? t = some (tupObj us n)
/-- what the consumer has of what came -/
def RecSC (lo : Nat) (S C : Addr) : RecF := fun s ys => ∃ ts c, s.heap.get? S = some (lstObj (ts.map Value.ref).toArray c) ∧ (∃ m, s.heap.Ns C m) ∧ ts.Nodup ∧ S ∉ ts ∧ C ∉ ts ∧ S ≠ C ∧ (∀ t ∈ ts, lo ≤ t) ∧ Paired (TupAt s) ts ys
theorem refs_map : ∀ (ts : List Addr), refsOf (ts.map Value.ref) = ts
  | [] => rfl
  | t :: ts => by
    have := refs_map ts
    unfold refsOf at this ⊢
    rw [List.map_cons, List.filterMap_cons]
    simp only [this]
theorem refs_at {s : Shared} {S : Addr} {ts : List Addr} {c : Nat} (h : s.heap.get? S = some (lstObj (ts.map Value.ref).toArray c)) : refsAt s S = ts := by
  unfold refsAt
  rw [h]
  exact refs_map ts
/-- what a generator tells of an item: an instance with three attributes -/
def fldF (CL : Addr) (f1 f2 f3 : Str) : ItF := fun H x fs => ∃ a dx kv v1 v2 v3, x = .ref a ∧ H a = some (.ins CL dx kv) ∧ kv.lookup f1 = some v1 ∧ kv.lookup f2 = some v2 ∧ kv.lookup f3 = some v3 ∧ fs = [v1, v2, v3]
theorem paired_at {s : Shared} : ∀ {ts : List Addr} {ys : List (List V)} {t : Addr}, Paired (TupAt s) ts ys → t ∈ ts → ∃ o, s.heap.get? t = some o
  | _, _, _, .nil, h => by simp at h
  | _, _, t, .cons r p, h => by
    rcases List.mem_cons.mp h with rfl | h
    · obtain ⟨_, _, _, _, e⟩ := r
      exact ⟨_, e⟩
    · exact paired_at p h
theorem paired_tup {s : Shared} : ∀ {ts : List Addr} {ys : List (List V)} {t : Addr}, Paired (TupAt s) ts ys → t ∈ ts → ∃ us n, s.heap.get? t = some (tupObj us n)
  | _, _, _, .nil, h => by simp at h
  | _, _, t, .cons r p, h => by
    rcases List.mem_cons.mp h with rfl | h
    · obtain ⟨_, us, n, _, e⟩ := r
      exact ⟨us, n, e⟩
    · exact paired_tup p h
theorem paired_move {s s' : Shared} : ∀ {ts : List Addr} {ys : List (List V)}, Paired (TupAt s) ts ys → (∀ b o, b ∈ ts → s.heap.get? b = some o → s'.heap.get? b = some o) → Paired (TupAt s') ts ys
  | _, _, .nil, _ => .nil
  | _, _, .cons r p, h => by
    obtain ⟨l, us, n, rv, e⟩ := r
    exact .cons ⟨l, us, n, rv, h _ _ (List.mem_cons_self ..) e⟩ (paired_move p fun b o hb => h b o (List.mem_cons_of_mem _ hb))
section
variable {X : Cx} {pins : List (Addr × Obj)} {σ : L2.St} {H H1 : Hp} {s s1 s2 : Shared} {scope : Scope} {own : List (Str × Nat)} {k : Nat} {y : Str} {q2 tp pos : Pos} {tk : Nat} {elt : Expr} {iter : Expr} {u : Value} {F : ItF} {Qf : Value → Shared → Prop} {use : Option (Value → Sem Unit)}
/-- what the comprehension's item comes to: a new tuple; the table of generators is kept -/
def EltT (X : Cx) (scope : Scope) (y : Str) (F : ItF) (elt : Expr) : Prop := ∀ (pins : List (Addr × Obj)) (σ : L2.St) (H : Hp) (s : Shared) (x : V) (v : Value) (fs : List V) (m : Str → Option Value) (cl : List (Str × Addr)) (C : Addr) (Q : Value → Shared → Prop) (E : Value → Shared → Prop), Inv X pins σ H s → s.heap.Ns C m → m y = some v → RelV x v → F H x fs →
  (∀ t h' tk, s.heap.objs.size ≤ t → TupAt { s with heap := h', toks := tk } t fs → (∀ b o, s.heap.get? b = some o → h'.get? b = some o) → Q (.ref t) { s with heap := h', toks := tk }) → wpAny (model X.prog X.w) X.A (eval elt (compEnvC scope cl C X.env)) Q E s
theorem lcF_loop {cl : List (Str × Addr)} {S C a : Addr} {g : Nat} {Q : List (List V) → Hp → Prop} (hr : Room (k + 2) X.A) (hq : Gd X.A) (I : Inv X pins σ H1 s1)
    (hS : s1.heap.objs.size ≤ S) (hC : s1.heap.objs.size ≤ C) (hy : scope.names.lookup y = some .local) (hk : scope.kind = .function) (he : EltT X scope y F elt)
    (fin : ∀ s' H2 ts ys c m, s'.heap.get? S = some (lstObj (ts.map Value.ref).toArray c) → ts.Nodup → S ∉ ts → C ∉ ts → (∀ t ∈ ts, s1.heap.objs.size ≤ t ∧ H2 t = none) → Paired (TupAt s') ts ys → ts.length ≤ sizeLine → s'.os = s1.os → AllBare s'.gens → Un (frs X.stack) [] H1 H2 s1.heap s'.heap → HOk X.prog X.w H2 s'.heap → H2 S = none → H2 C = none → s'.heap.Ns C m → Q ys H2 → compPost (model X.prog X.w) X.A X.xe use Qf (.ref S) C (.ok .next) s') :
    ∀ (n : Nat) (s' : Shared), s'.heap.IsGen a g → s'.heap.NoLimit →
      (∃ gs, s'.gens[g]? = some gs ∧ gs.Goes (model X.prog X.w) X.A.in1 (NR X.prog X.w X.stack H1 s1 (ownSC S C) (RecSC s1.heap.objs.size S C) Q (fun _ _ _ => False) a g) (YN X.prog X.w X.stack H1 s1 (ownSC S C) (RecSC s1.heap.objs.size S C) F a g) n (.send .none) (s'.setGen g .running)) →
      codeAny (model X.prog X.w) X.A (.compLoop (.ListComp elt [⟨.Name y q2, iter, [], 0⟩] scope pos) 0 (.ref a) (.ref S) (compEnvC scope cl C X.env)) (compPost (model X.prog X.w) X.A X.xe use Qf (.ref S) C) s' := by
  have hsc : (compEnvC scope cl C X.env).scope = relS scope X.env.scope := rfl
  have hl : (compEnvC scope cl C X.env).scope.names.lookup y = some .local := by
    rw [hsc]
    exact lookup_relS_keep (by decide) hy
  have hkk : (compEnvC scope cl C X.env).scope.kind = .function := by rw [hsc]; exact hk
  have hp : ((compEnvC scope cl C X.env).scope.kind == .class || ((compEnvC scope cl C X.env).scope.kind == .module && (compEnvC scope cl C X.env).locals != (compEnvC scope cl C X.env).globals)) = false := by rw [hkk]; rfl
  have hL : (compEnvC scope cl C X.env).locals = C := rfl
  intro n s' hg hlim hgo
  refine compLoop_any (fun n s' => s'.heap.IsGen a g ∧ s'.heap.NoLimit ∧ ∃ gs, s'.gens[g]? = some gs ∧ gs.Goes (model X.prog X.w) X.A.in1 (NR X.prog X.w X.stack H1 s1 (ownSC S C) (RecSC s1.heap.objs.size S C) Q (fun _ _ _ => False) a g) (YN X.prog X.w X.stack H1 s1 (ownSC S C) (RecSC s1.heap.objs.size S C) F a g) n (.send .none) (s'.setGen g .running)) ?_ n ⟨hg, hlim, hgo⟩
  clear hg hlim hgo
  rintro n s' ⟨hg, hlim, gs, hgs, hgo⟩
  have hgl : g < s'.gens.size := (Array.getElem?_eq_some_iff.mp hgs).1
  have no : ∀ e s, ¬ CX X.prog X.w X.stack H1 s1 (fun _ _ _ => False) e s := fun e s z => by
    obtain ⟨_, _, _, _, _, _, _, _, _, _, _, _, z⟩ := z
    exact z
  refine wpAny_gsz (n := g + 1) hgl (next_genG (A := X.A) (F := fun n s₀ s => ∃ (ys : List (List V)) (H' : Hp), n + ys.length = sizeLine ∧ RecSC s1.heap.objs.size S C s₀ ys ∧ (∀ p ∈ ownSC S C s₀, s.heap.get? p.1 = some p.2 ∧ H' p.1 = none) ∧ s.os = s1.os ∧ AllBare s.gens ∧ s.heap.NoLimit ∧ s.heap.IsGen a g ∧ Un (frs X.stack) [] H1 H' s1.heap s.heap ∧ HOk X.prog X.w H' s.heap ∧ Q ys H') (Er := fun e s => CX X.prog X.w X.stack H1 s1 (fun _ _ _ => False) e s ∧ s.heap.IsGen a g) hr.hd hlim hr.depth hg hgs hgo (fun v s₁ gs' hbare hv => ?_) (fun s₁ hp' h' hk' => ?_) fun e s₁ he => (no _ _ he.1).elim)
  · intro hsz
    obtain ⟨ys, x, fs, H', hn, hrec, rx, hF, hown, hos, hba, hli, hge, hun, hok, kap⟩ := hv
    obtain ⟨ts, c, hSo, ⟨m, hCn⟩, hnd, hSt, hCt, hSC, hlo, hpa⟩ := hrec
    have hSo0 : (s'.setGen g .running).heap.get? S = some (lstObj (ts.map Value.ref).toArray c) := hSo
    have hSo1 := (hown (S, _) (mem_own.mpr ⟨.inl rfl, hSo⟩))
    obtain ⟨oC, esC, epC, hoC, hdC, rC⟩ := hCn
    have hC1 := hown (C, oC) (mem_own.mpr ⟨.inr (.inl rfl), hoC⟩)
    have hCn1 : s₁.heap.Ns C m := ⟨oC, esC, epC, hC1.1, hdC, rC⟩
    have hT1 : ∀ t ∈ ts, H' t = none ∧ ∀ o, s'.heap.get? t = some o → s₁.heap.get? t = some o := fun t ht => by
      obtain ⟨o, eo⟩ : ∃ o, s'.heap.get? t = some o := paired_at hpa ht
      have q := hown (t, o) (mem_own.mpr ⟨.inr (.inr (by rw [refs_at hSo]; exact ht)), eo⟩)
      refine ⟨q.2, fun o2 e2 => ?_⟩
      rw [eo] at e2
      cases e2
      exact q.1
    have bare2 := allBare_setGen (s := s₁) (g := g) hba hbare
    have I2 : Inv X pins σ H' (s₁.setGen g gs') := I.call' (ch := []) hos hun hok bare2 fun b z => by simp at z
    refine letGo_gen (s := s₁.setGen g gs') hge ?_
    refine wpAny_assign_Name (wpAny_storeName_local hl (by rw [hL]; exact hCn1) (fun h2 hn2 hs2 => ?_) hp)
    rw [hL] at hn2 hs2
    have fpC := I.fpOk (b := C) (H' := H') hC hC1.2
    have fpS := I.fpOk (b := S) (H' := H') hS hSo1.2
    obtain ⟨fc0, fc1, fc2, fc3, fc4, fc5⟩ := fpC
    obtain ⟨fs0, fs1, fs2, fs3, fs4, fs5⟩ := fpS
    have I3 := I2.turned (t' := s₁.toks + 1) (h' := h2) (fun b o hb e => hs2.extBut b o hb e) fc0 fc1 fc3 fc4 fc5
    refine wpAny_tests_nil ?_
    rw [if_pos rfl]
    refine he pins σ H' _ x v fs _ cl C _ _ I3 hn2 (by simp) rx hF fun t h3 tk ht hT k3 => ?_
    have I4 := I3.kept (t' := tk) (h' := h3) k3
    have hSo3 : h3.get? S = some (lstObj (ts.map Value.ref).toArray c) := k3 _ _ (hs2.extBut S _ hSC hSo1.1)
    have lnp : ts.length = ys.length := hpa.length
    refine append_at (hsz := by
      rw [List.size_toArray, List.length_map, lnp]
      omega) hSo3 fun h4 hs4 he4 => ?_
    have I5 := I4.turned (t' := tk) (h' := h4) (fun b o hb e => hs4.extBut b o hb e) fs0 fs1 fs3 fs4 fs5
    have hsz1 : g < s₁.gens.size := by
      have q : (s₁.setGen g gs').gens.size = s₁.gens.size := setGen_size _ _ _
      have hsz' : g + 1 ≤ (s₁.setGen g gs').gens.size := hsz
      omega
    have lt0 : ∀ {b o}, s₁.heap.get? b = some o → b < s₁.heap.objs.size := fun e => Heap.lt_size e
    have hts : ∀ b ∈ ts, b < s₁.heap.objs.size := fun b hb => by
      obtain ⟨o, eo⟩ := paired_at hpa hb
      exact lt0 ((hT1 b hb).2 o eo)
    have htt : s₁.heap.objs.size ≤ t := by
      have e : h2.objs.size = s₁.heap.objs.size := hs2.1
      exact e ▸ ht
    have tS : t ≠ S := Nat.ne_of_gt (Nat.lt_of_lt_of_le (lt0 hSo1.1) htt)
    have tC : t ≠ C := Nat.ne_of_gt (Nat.lt_of_lt_of_le (lt0 hC1.1) htt)
    have keep : ∀ b o, b ≠ S → b ≠ C → s₁.heap.get? b = some o → h4.get? b = some o := fun b o h1 h2 e => hs4.extBut b o h1 (k3 b o (hs2.extBut b o h2 e))
    have aS : a ≠ S := fun z => by
      obtain ⟨o, nm, qn, e, ec, ed, _⟩ := hge
      rw [z, hSo1.1] at e
      cases e
      cases ed
    have aC : a ≠ C := fun z => by
      obtain ⟨o, nm, qn, e, ec, ed, _⟩ := hge
      rw [z, hC1.1] at e
      cases e
      rw [hdC] at ed
      cases ed
    have hge4 : h4.IsGen a g := by
      obtain ⟨o, nm, qn, e, r⟩ := hge
      exact ⟨o, nm, qn, keep a o aS aC e, r⟩
    have hC4 : h4.Ns C (fun z => if z = y then some v else m z) := (hn2.keeps k3).extBut hs4.extBut (Ne.symm hSC)
    have hS4 : h4.get? S = some (lstObj ((ts ++ [t]).map Value.ref).toArray (c + 1)) := by
      rw [he4]
      simp
    have old : ∀ b o, b ∈ ts → s'.heap.get? b = some o → h4.get? b = some o := fun b o hb e => keep b o (fun z => hSt (z ▸ hb)) (fun z => hCt (z ▸ hb)) ((hT1 b hb).2 o e)
    have woke : Woke (ownSC S C (s'.setGen g .running)) (ownSC S C (({ s₁.setGen g gs' with heap := h4, toks := tk } : Shared).setGen g .running)) s₁ (({ s₁.setGen g gs' with heap := h4, toks := tk } : Shared).setGen g .running) := by
      refine ⟨rfl, allBare_setGen bare2 rfl, fun b o hb e => keep b o (fun z => hb ?_) (fun z => hb ?_) e, fun p hp => ?_⟩
      · exact List.mem_map.mpr ⟨(S, _), mem_own.mpr ⟨.inl rfl, hSo⟩, z.symm⟩
      · exact List.mem_map.mpr ⟨(C, oC), mem_own.mpr ⟨.inr (.inl rfl), hoC⟩, z.symm⟩
      · obtain ⟨h1, h2⟩ := mem_own.mp hp
        refine ⟨h2, ?_⟩
        have h2 : h4.get? p.1 = some p.2 := h2
        rw [refs_at (s := ({ s₁.setGen g gs' with heap := h4, toks := tk } : Shared).setGen g .running) hS4] at h1
        rcases h1 with h1 | h1 | h1
        · rw [h1, hS4] at h2
          refine ⟨fun w z => ?_, .inl (List.mem_map.mpr ⟨(S, _), mem_own.mpr ⟨.inl rfl, hSo⟩, h1.symm⟩)⟩
          rw [← Option.some.inj h2] at z
          cases z
        · obtain ⟨o2, es2, ep2, ho2, hd2, _⟩ := hC4
          rw [h1, ho2] at h2
          refine ⟨fun w z => ?_, .inl (List.mem_map.mpr ⟨(C, oC), mem_own.mpr ⟨.inr (.inl rfl), hoC⟩, h1.symm⟩)⟩
          rw [← Option.some.inj h2, hd2] at z
          cases z
        · rcases List.mem_append.mp h1 with h1 | h1
          · obtain ⟨o2, e2⟩ := paired_at hpa h1
            obtain ⟨us, n2, e3⟩ := paired_tup hpa h1
            rw [e3] at e2
            have e4 := old _ _ h1 e3
            rw [h2] at e4
            refine ⟨fun w z => ?_, .inl (List.mem_map.mpr ⟨(p.1, tupObj us n2), mem_own.mpr ⟨.inr (.inr (by rw [refs_at hSo]; exact h1)), e3⟩, rfl⟩)⟩
            rw [Option.some.inj e4] at z
            cases z
          · have h1 := List.mem_singleton.mp h1
            obtain ⟨_, us, n2, _, e3⟩ := hT
            have e4 := hs4.extBut t _ tS e3
            rw [h1, e4] at h2
            refine ⟨fun w z => ?_, .inr (h1 ▸ htt)⟩
            rw [← Option.some.inj h2] at z
            cases z
    have rec2 : RecSC s1.heap.objs.size S C (({ s₁.setGen g gs' with heap := h4, toks := tk } : Shared).setGen g .running) (ys ++ [fs]) := by
      refine ⟨ts ++ [t], c + 1, hS4, ⟨_, hC4⟩, ?_, ?_, ?_, hSC, fun b hb => ?_, ?_⟩
      · refine List.nodup_append.mpr ⟨hnd, by simp, fun b hb b2 hb2 z => ?_⟩
        rw [List.mem_singleton.mp hb2] at z
        exact absurd (z ▸ hts b hb) (Nat.not_lt.mpr htt)
      · simp [hSt, Ne.symm tS]
      · simp [hCt, Ne.symm tC]
      · rcases List.mem_append.mp hb with hb | hb
        · exact hlo b hb
        · rw [List.mem_singleton.mp hb]
          exact Nat.le_trans (Nat.le_trans hS (Nat.le_of_lt (lt0 hSo1.1))) htt
      · refine Paired.snoc (paired_move hpa fun b o hb e => old b o hb e) ?_
        obtain ⟨l1, us, n2, rv, e3⟩ := hT
        exact ⟨l1, us, n2, rv, hs4.extBut t _ tS e3⟩
    have go := kap _ woke rec2
    cases n with
    | zero => exact go.elim
    | succ n => exact ⟨n, Nat.lt_succ_self _, hge4, I5.nolimit, gs', setGen_at hsz1, go⟩
  · intro hsz
    obtain ⟨ys, H', hn, hrec, hown, hos, hba, hli, hge, hun, hok, hQ⟩ := hp'
    obtain ⟨ts, c, hSo, ⟨m, hCn⟩, hnd, hSt, hCt, hSC, hlo, hpa⟩ := hrec
    have hSo1 := hown (S, _) (mem_own.mpr ⟨.inl rfl, hSo⟩)
    obtain ⟨oC, esC, epC, hoC, hdC, rC⟩ := hCn
    have hC1 := hown (C, oC) (mem_own.mpr ⟨.inr (.inl rfl), hoC⟩)
    have hT1 : ∀ t ∈ ts, H' t = none ∧ ∀ o, s'.heap.get? t = some o → s₁.heap.get? t = some o := fun t ht => by
      obtain ⟨o, eo⟩ : ∃ o, s'.heap.get? t = some o := paired_at hpa ht
      have q := hown (t, o) (mem_own.mpr ⟨.inr (.inr (by rw [refs_at hSo]; exact ht)), eo⟩)
      refine ⟨q.2, fun o2 e2 => ?_⟩
      rw [eo] at e2
      cases e2
      exact q.1
    have lnp : ts.length = ys.length := hpa.length
    exact fin _ H' ts ys c m (hk' _ _ hSo1.1) hnd hSt hCt (fun t ht => ⟨hlo t ht, (hT1 t ht).1⟩) (paired_move hpa fun b o hb e => hk' _ _ ((hT1 b hb).2 o e)) (by omega) hos (allBare_setGen hba rfl) (hun.trans (Un.kept hk')) (hok.kept hk') hSo1.2 hC1.2 ⟨oC, esC, epC, hk' _ _ hC1.1, hdC, rC⟩ hQ
end
end T5
namespace T5
open PySem PySem.Spec PyProof.Rows L2 GenW
variable [TabC]
/-! ### meanings of generators' bodies -/
/-- what came so far: of each item three attributes -/
abbrev Came := List (List D)
inductive NRes
  | nx (e : DEnv) (st : Store) (ys : Came)
  | ex (c : String) (ks : List String) (ds : List D) (e : DEnv) (st : Store)
  | bad
abbrev MN := DEnv → Store → Came → NRes
def NRes.seq (r : NRes) (f : DEnv → Store → Came → NRes) : NRes := match r with
  | .nx e st ys => f e st ys
  | r => r
def RepYs (K : PySem.W.Frag) (mg : Str → Option Value) (μ : Mu) (H : Hp) : Came → List (List V) → Prop := Paired fun ds vs => RepL K mg μ H ds vs
theorem RepYs.ext {K : PySem.W.Frag} {mg : Str → Option Value} {μ μ' : Mu} {H H' : Hp} (x : Ext μ H μ' H') {zs : Came} {ys : List (List V)} (h : RepYs K mg μ H zs ys) : RepYs K mg μ' H' zs ys := Paired.mapP h fun _ _ q => RepL.ext x q
def AftN (K : PySem.W.Frag) (mg : Str → Option Value) (W : WX) (E : NEnds) (μ : Mu) (H : Hp) (r : NRes) : Prop := match r with
  | .nx e st zs => ∀ μ' H' σ' ys', Ext μ H μ' H' → Rel K mg μ' H' st → REnv K mg μ' H' e σ' → RepYs K mg μ' H' zs ys' → E.nx ys' σ' H'
  | .ex c ks ds e st => ∀ μ' H' σ' C dx us, Ext μ H μ' H' → Rel K mg μ' H' st → REnv K mg μ' H' e σ' → mg (Str.ofString c) = some (.ref C) → ks.length = us.length → H' dx = some (.xd ((ks.map Str.ofString).zip us)) → dx ∉ μ' → RepL K mg μ' H' ds us → W (.ref C) (some dx) σ' H'
  | .bad => False
def tNM (K : PySem.W.Frag) (mg : Str → Option Value) (W : WX) (m : MN) : NT := fun E ys σ H => ∃ μ env st zs, Rel K mg μ H st ∧ REnv K mg μ H env σ ∧ RepYs K mg μ H zs ys ∧ AftN K mg W E μ H (m env st zs)
def SN (X : Cx) (F : ItF) (s : Stmt) (m : MN) : Prop := ∀ pn xe W, Takes (X.tr pn xe) W → PassesOwn (model X.prog X.w) X.A X.env xe → NS (X.tr pn xe) F s (tNM X.K X.mg W m)
def SNs (X : Cx) (F : ItF) (s : List Stmt) (m : MN) : Prop := ∀ pn xe W, Takes (X.tr pn xe) W → PassesOwn (model X.prog X.w) X.A X.env xe → NSs (X.tr pn xe) F s (tNM X.K X.mg W m)
section
variable {K : PySem.W.Frag} {mg : Str → Option Value} {W : WX} {E E' : NEnds} {μ μ1 : Mu} {H H1 : Hp} {r : NRes}
theorem AftN.ext (x : Ext μ H μ1 H1) (h : AftN K mg W E μ H r) : AftN K mg W E μ1 H1 r := by
  cases r with
  | nx e st zs => exact fun μ' H' σ' ys' e q1 q2 q3 => h μ' H' σ' ys' (x.trans e) q1 q2 q3
  | ex c ks ds e st => exact fun μ' H' σ' C dx us e => h μ' H' σ' C dx us (x.trans e)
  | bad => exact h
theorem AftN.seq {f : DEnv → Store → Came → NRes} (h : AftN K mg W E μ H (r.seq f)) : AftN K mg W { E with nx := fun ys' σ' H' => ∃ μ env st zs, Rel K mg μ H' st ∧ REnv K mg μ H' env σ' ∧ RepYs K mg μ H' zs ys' ∧ AftN K mg W E μ H' (f env st zs) } μ H r := by
  cases r with
  | nx e st zs => exact fun μ' H' σ' ys' e q1 q2 q3 => ⟨μ', _, _, _, q1, q2, q3, AftN.ext e h⟩
  | ex c ks ds e st => exact h
  | bad => exact h
end
def nPass : MN := fun env st zs => .nx env st zs
def nSeq (a b : MN) : MN := fun env st zs => (a env st zs).seq b
/-- a statement without a yield -/
def nPlain (m : MS) : MN := fun env st zs => match m env st with
  | .nx e st1 => .nx e st1 zs
  | .ex c ks ds e st1 => .ex c ks ds e st1
  | _ => .bad
def nIf (c : MT) (b : MN) : MN := fun env st zs => match c env st with
  | .ok d st1 => if d = true then b env st1 zs else .nx env st1 zs
  | .ex c ks ds st1 => .ex c ks ds env st1
  | .bad => .bad
/-- three attributes of an instance -/
def flds (f1 f2 f3 : String) (d : D) : Option (List D) := match d with
  | .ins "Chart" ks ds => (match (ks.zip ds).lookup f1, (ks.zip ds).lookup f2, (ks.zip ds).lookup f3 with
    | some a, some b, some c => some [a, b, c]
    | _, _, _ => none)
  | _ => none
def nYield (f1 f2 f3 : String) (m : ME) : MN := fun env st zs => if zs.length ≤ cap then (match m env st with
  | .ok d st1 => (match flds f1 f2 f3 d with
    | some l => .nx env st1 (zs ++ [l])
    | none => .bad)
  | .ex c ks ds st1 => .ex c ks ds env st1
  | .bad => .bad) else .bad
def nLoop (g : MG0) (b : MN) : List D → MN
  | [], env, st, zs => .nx env st zs
  | d :: ds, env, st, zs => match g d env with
    | some e1 => (b e1 st zs).seq fun e2 st2 zs2 => nLoop g b ds e2 st2 zs2
    | none => .bad
def nFor (m : ME) (g : MG0) (b : MN) : MN := fun env st zs => match m env st with
  | .ok (.lst l) st1 => nLoop g b l env st1 zs
  | .ex c ks ds st1 => .ex c ks ds env st1
  | _ => .bad
section
variable {X : Cx} {F : ItF} {s : Stmt} {ss : List Stmt} {t t' : NT} {a b : MN} {m : MS} {pos : Pos}
theorem NS.imp (h : NS X F s t) (f : ∀ E ys σ H, t' E ys σ H → t E ys σ H) : NS X F s t' := ⟨fun A own Rec ip R n ys s₀ c fs K J gd lv s σ H D g hn hr k hI ht => h.run A own Rec ip R n ys s₀ c fs K J gd lv s σ H D g hn hr k hI (f D ys σ H ht)⟩
theorem NSs.imp (h : NSs X F ss t) (f : ∀ E ys σ H, t' E ys σ H → t E ys σ H) : NSs X F ss t' := ⟨fun A own Rec ip R n ys s₀ c fs K J gd lv s σ H D g hn hr k hI ht => h.run A own Rec ip R n ys s₀ c fs K J gd lv s σ H D g hn hr k hI (f D ys σ H ht)⟩
theorem sns_nil : SNs X F [] nPass := fun pn xe W _ _ => NSs.imp nss_nil fun E ys σ H h => by
  obtain ⟨μ, env, st, zs, r, re, ry, q⟩ := h
  exact q μ H σ ys Ext.refl r re ry
theorem sns_cons (h1 : SN X F s a) (h2 : SNs X F ss b) : SNs X F (s :: ss) (nSeq a b) := fun pn xe W tk hp => by
  refine NSs.imp (nss_cons (h1 pn xe W tk hp) (h2 pn xe W tk hp)) fun E ys σ H h => ?_
  obtain ⟨μ, env, st, zs, r, re, ry, q⟩ := h
  exact ⟨μ, env, st, zs, r, re, ry, AftN.seq q⟩
theorem sn_plain (h : SS X s m) : SN X F s (nPlain m) := fun pn xe W tk hp => by
  refine NS.imp (ns_plain (h pn xe W tk hp)) fun E ys σ H h => ?_
  obtain ⟨μ, env, st, zs, r, re, ry, q⟩ := h
  refine ⟨μ, env, st, r, re, ?_⟩
  unfold nPlain at q
  generalize m env st = z at q
  cases z with
  | nx e st1 => exact fun μ' H' σ' x r' re' => q μ' H' σ' ys x r' re' (ry.ext x)
  | ex c ks ds e st1 => exact q
  | rt d st1 => exact q.elim
  | bk e st1 => exact q.elim
  | ct e st1 => exact q.elim
  | bad => exact q.elim
theorem sn_if {c : Expr} {cc : MT} {body : List Stmt} (hc : ST X c cc) (hb : SNs X F body b) : SN X F (.If c body [] pos) (nIf cc b) := fun pn xe W tk hp => by
  refine NS.imp (ns_if (hc pn xe W tk) (hb pn xe W tk hp)) fun E ys σ H h => ?_
  obtain ⟨μ, env, st, zs, r, re, ry, q⟩ := h
  refine ⟨μ, env, st, r, re, ?_⟩
  unfold nIf at q
  generalize cc env st = z at q
  cases z with
  | ok d st1 =>
    refine fun μ' H' x r' => ?_
    have q : AftN X.K X.mg W E μ H (if d = true then b env st1 zs else .nx env st1 zs) := q
    cases d with
    | true =>
      rw [if_pos rfl] at q
      show tNM X.K X.mg W b E ys σ H'
      exact ⟨μ', env, st1, zs, r', re.ext x, ry.ext x, q.ext x⟩
    | false =>
      rw [if_neg Bool.false_ne_true] at q
      show E.nx ys σ H'
      exact q μ' H' σ ys x r' (re.ext x) (ry.ext x)
  | ex c ks ds st1 => exact fun μ' H' C dx us x q1 => q μ' H' σ C dx us x q1 (re.ext x)
  | bad => exact q.elim
/-- attributes by name -/
theorem lookup_rep {K : PySem.W.Frag} {mg : Str → Option Value} {μ : Mu} {H : Hp} {f : String} : ∀ {ks : List String} {ds : List D} {vs : List V} {d : D}, ks.length = vs.length → RepL K mg μ H ds vs → (ks.zip ds).lookup f = some d → ∃ v, ((ks.map Str.ofString).zip vs).lookup (Str.ofString f) = some v ∧ Rep K mg μ H d v
  | [], ds, vs, d, _, _, e => by simp at e
  | k :: ks, [], vs, d, _, _, e => by simp at e
  | k :: ks, d0 :: ds, vs, d, hl, hr, e => by
    obtain ⟨v, r, rfl, h1, h2⟩ := hr
    rw [List.zip_cons_cons, List.lookup_cons] at e
    rw [List.map_cons, List.zip_cons_cons, List.lookup_cons]
    by_cases c : f = k
    · subst c
      simp only [beq_self_eq_true] at e ⊢
      cases e
      exact ⟨v, rfl, h1⟩
    · have c1 : (f == k) = false := by simpa using c
      have c2 : (Str.ofString f == Str.ofString k) = false := by
        simpa using fun z => c (ofString_inj z)
      rw [c1] at e
      rw [c2]
      exact lookup_rep (by simpa using hl) h2 e
theorem sn_yield {e : Expr} {yp : Pos} {me : ME} {CL : Addr} {f1 f2 f3 : String} (hm : X.mg (Str.ofString "Chart") = some (.ref CL)) (he : SE X e me) (hco : X.env.scope.isCoroutine = false := by rfl) (hi : interactive X.env = false := by rfl) :
    SN X (fldF CL (Str.ofString f1) (Str.ofString f2) (Str.ofString f3)) (.Expr (.Yield (some e) yp) pos) (nYield f1 f2 f3 me) := fun pn xe W tk hp => by
  refine NS.imp (ns_yield (X := X.tr pn xe) (he pn xe W tk) hco hi) fun E ys σ H h => ?_
  obtain ⟨μ, env, st, zs, r, re, ry, q⟩ := h
  have ln := ry.length
  unfold nYield at q
  by_cases hz : zs.length ≤ cap
  · rw [if_pos hz] at q
    refine ⟨by rw [← ln]; exact Nat.lt_of_le_of_lt hz (by decide), μ, env, st, r, re, ?_⟩
    generalize me env st = z at q
    cases z with
    | ok d st1 =>
      refine fun μ' H' x r' v hv => ?_
      have q : AftN X.K X.mg W E μ H (match flds f1 f2 f3 d with
        | some l => .nx env st1 (zs ++ [l])
        | none => .bad) := q
      cases e1 : flds f1 f2 f3 d with
      | none => rw [e1] at q; exact q.elim
      | some l =>
        rw [e1] at q
        unfold flds at e1
        split at e1
        · rename_i ks ds
          split at e1
          · rename_i a1 a2 a3 q1 q2 q3
            cases e1
            obtain ⟨a, C, dx, vs, rfl, _, hC, hl, hH, hr⟩ := hv
            rw [hm] at hC
            cases hC
            obtain ⟨v1, l1, r1⟩ := lookup_rep hl hr q1
            obtain ⟨v2, l2, r2⟩ := lookup_rep hl hr q2
            obtain ⟨v3, l3, r3⟩ := lookup_rep hl hr q3
            refine ⟨[v1, v2, v3], ⟨a, dx, _, v1, v2, v3, rfl, hH, l1, l2, l3, rfl⟩, ?_⟩
            exact q μ' H' σ (ys ++ [[v1, v2, v3]]) x r' (re.ext x) (Paired.snoc (ry.ext x) ⟨v1, _, rfl, r1, v2, _, rfl, r2, v3, _, rfl, r3, rfl⟩)
          · cases e1
        · cases e1
    | ex c ks ds st1 => exact fun μ' H' C dx us x q1 => q μ' H' σ C dx us x q1 (re.ext x)
    | bad => exact q.elim
  · rw [if_neg hz] at q
    exact q.elim
theorem sn_for {tgt iter : Expr} {body : List Stmt} {me : ME} {g : MG0} {sl : List Nat} (hh : X.A.handled = none) (he : SE X iter me) (hg : SG X tgt g sl) (hb : SNs X F body b) (hs : ∀ v, foldedSetIterable iter X.env v = pure v := by intro _; rfl) :
    SN X F (.For tgt iter body [] pos) (nFor me g b) := fun pn xe W tk hp => by
  refine NS.imp (ns_for (X := X.tr pn xe) hp hh (he pn xe W tk) (hg pn xe) (hb pn xe W tk hp) hs) fun E ys σ H h => ?_
  obtain ⟨μ, env, st, zs, r, re, ry, q⟩ := h
  refine ⟨μ, env, st, r, re, ?_⟩
  unfold nFor at q
  generalize me env st = z at q
  have loop : ∀ (a : Addr) (xs : List V) (r : List V) (ds : List D) (μ : Mu) (H : Hp) (env : DEnv) (st : Store) (σ : L2.St) (zs : Came) (ys : List (List V)), a ∉ μ → H a = some (.lst xs) → Rel X.K X.mg μ H st → REnv X.K X.mg μ H env σ → RepYs X.K X.mg μ H zs ys → RepL X.K X.mg μ H ds r → AftN X.K X.mg W E μ H (nLoop g b ds env st zs) → tNTurns a xs (gM X.K X.mg g sl) (tNM X.K X.mg W b) E r ys σ H := by
    intro a xs r
    induction r with
    | nil =>
      intro ds μ H env st σ zs ys ha hH r re ry hr q
      cases ds with
      | nil => exact q μ H σ ys Ext.refl r re ry
      | cons d ds =>
        obtain ⟨_, _, z, _⟩ := hr
        cases z
    | cons x r ih =>
      intro ds μ H env st σ zs ys ha hH r re ry hr q
      cases ds with
      | nil => cases (show _ = [] from hr)
      | cons d ds =>
        obtain ⟨x0, r0, ez, hd, hr⟩ := hr
        cases ez
        unfold nLoop at q
        cases e2 : g d env with
        | none => rw [e2] at q; exact q.elim
        | some e1 =>
          rw [e2] at q
          refine ⟨μ, env, d, e1, re, hd, e2, fun σ1 re1 _ => ⟨μ, e1, st, zs, r, re1, ry, ?_⟩⟩
          have q : AftN X.K X.mg W E μ H ((b e1 st zs).seq fun e2 st2 zs2 => nLoop g b ds e2 st2 zs2) := q
          generalize b e1 st zs = w at q
          cases w with
          | nx e2 st2 zs2 =>
            refine fun μ' H' σ' ys' x1 r1 re1 ry1 => ?_
            obtain ⟨k1, k2⟩ := x1.keep a _ ha hH
            exact ⟨k2, ih ds μ' H' e2 st2 σ' zs2 ys' k1 k2 r1 re1 ry1 (RepL.ext x1 hr) (AftN.ext x1 q)⟩
          | ex c ks ds' e st => exact q
          | bad => exact q.elim
  cases z with
  | ok d st1 =>
    cases d with
    | lst l =>
      refine fun μ' H' x r' v hv => ?_
      obtain ⟨a, vs, rfl, ha, hH, hl⟩ := hv
      exact ⟨a, vs, rfl, hH, loop a vs vs l μ' H' env st1 σ zs ys ha hH r' (re.ext x) (ry.ext x) hl (AftN.ext x q)⟩
    | _ => exact q.elim
  | ex c ks ds st1 => exact fun μ' H' C dx us x q1 => q μ' H' σ C dx us x q1 (re.ext x)
  | bad => exact q.elim
end
end T5
namespace T5
open PySem PySem.Spec PyProof.Rows L2 GenW
/-! ### the tuples that the consumer laid are tracked -/
def updTs (H : Hp) : List Addr → List (List V) → Hp
  | t :: ts, y :: ys => updTs (upd H t (.tup y)) ts ys
  | _, _ => H
section
variable {X : Cx} {pins : List (Addr × Obj)} {σ : L2.St} {H H1 : Hp} {s s1 s2 : Shared} {scope : Scope} {own : List (Str × Nat)} {k : Nat} {y : Str} {q1 q2 pos : Pos} {elt iter : Expr} {u : Value} {F : ItF} {Qf : Value → Shared → Prop} {use : Option (Value → Sem Unit)}
theorem inv_adopt {t : Addr} {fs : List V} (I : Inv X pins σ H s) (fp : FpOk X pins H t) (h : TupAt s t fs) : Inv X pins σ (upd H t (.tup fs)) s := by
  obtain ⟨f0, f1, f2, f3, f4, f5⟩ := fp
  obtain ⟨hl, us, n, rv, e⟩ := h
  have ne : ∀ {b u}, H b = some u → b ≠ t := fun q z => by rw [z, f0] at q; cases q
  have := I.step (h' := s.heap) (H' := upd H t (.tup fs)) (g' := s.gens) (t' := s.toks) (d' := s.drawn) (ch := [t]) (fun b hb => by rw [List.mem_singleton.mp hb]; exact ⟨f3, f1, f4, f5⟩) (fun b o _ _ _ e _ => e) (fun b o _ _ _ e _ => ⟨o.slots, e⟩)
    (fun b o nb _ n => by rw [upd_ne (fun z => nb (by rw [z]; exact List.mem_singleton.mpr rfl))]; exact n) (fun b o _ e => ⟨o, e⟩) (fun b xs q => by rw [upd_ne (ne q)]; exact q) (fun b o u q => by rw [upd_ne (ne q)]; exact q) (fun b qs q => ⟨#[], by rw [upd_ne (ne q), q, Array.append_empty]⟩) (fun m hm => hm) (fun b u q => ?_) I.bare
  · exact this
  · by_cases hb : b = t
    · subst hb
      rw [upd_same] at q
      cases q
      exact ⟨hl, us, rv, _, e, rfl, n, rfl⟩
    · rw [upd_ne hb] at q
      exact (I.hok b u q).stay (fun _ _ _ z => z) (fun d z => by rw [upd_ne (ne z)]; exact z) fun d xs z => by rw [upd_ne (ne z)]; exact z
theorem inv_adopts (J : Inv X pins σ H1 s1) : ∀ {ts : List Addr} {ys : List (List V)} {H : Hp}, Inv X pins σ H s → ts.Nodup → (∀ t ∈ ts, s1.heap.objs.size ≤ t ∧ H t = none) → Paired (TupAt s) ts ys → Inv X pins σ (updTs H ts ys) s
  | [], [], H, I, _, _, _ => I
  | [], _ :: _, H, I, _, _, h => by cases h
  | _ :: _, [], H, I, _, _, h => by cases h
  | t :: ts, y :: ys, H, I, nd, fr, h => by
    cases h with
    | cons h1 h2 =>
      obtain ⟨a1, a2⟩ := fr t (List.mem_cons_self ..)
      have I1 := inv_adopt I (J.fpOk a1 a2) h1
      have nd2 := List.nodup_cons.mp nd
      exact inv_adopts J (ts := ts) (ys := ys) (H := upd H t (.tup y)) I1 nd2.2 (fun b hb => ⟨(fr b (List.mem_cons_of_mem _ hb)).1, by
        have ne : b ≠ t := fun z => nd2.1 (by rw [← z]; exact hb)
        rw [upd_ne ne]
        exact (fr b (List.mem_cons_of_mem _ hb)).2⟩) h2
theorem updTs_out {b : Addr} : ∀ {ts : List Addr} {ys : List (List V)} {H : Hp}, b ∉ ts → updTs H ts ys b = H b
  | [], _, H, _ => rfl
  | _ :: _, [], H, _ => rfl
  | t :: ts, y :: ys, H, h => by
    show updTs (upd H t (.tup y)) ts ys b = _
    rw [updTs_out fun z => h (List.mem_cons_of_mem _ z), upd_ne fun z => h (by rw [z]; exact List.mem_cons_self ..)]
theorem lst_adopt {S : Addr} {ts : List Addr} {c : Nat} (I : Inv X pins σ H s) (fp : FpOk X pins H S) (h : s.heap.get? S = some (lstObj (ts.map Value.ref).toArray c)) (hl : ts.length ≤ sizeLine) : Inv X pins σ (upd H S (.lst (ts.map .ref))) s := by
  obtain ⟨f0, f1, f2, f3, f4, f5⟩ := fp
  have ne : ∀ {b u}, H b = some u → b ≠ S := fun q z => by rw [z, f0] at q; cases q
  have rv : Vals (ts.map V.ref) (ts.map Value.ref) := by
    clear h hl
    induction ts with
    | nil => exact .nil
    | cons t ts ih => exact .cons rfl ih
  have := I.step (h' := s.heap) (H' := upd H S (.lst (ts.map .ref))) (g' := s.gens) (t' := s.toks) (d' := s.drawn) (ch := [S]) (fun b hb => by rw [List.mem_singleton.mp hb]; exact ⟨f3, f1, f4, f5⟩) (fun b o _ _ _ e _ => e) (fun b o _ _ _ e _ => ⟨o.slots, e⟩)
    (fun b o nb _ n => by rw [upd_ne (fun z => nb (by rw [z]; exact List.mem_singleton.mpr rfl))]; exact n) (fun b o _ e => ⟨o, e⟩) (fun b xs q => by rw [upd_ne (ne q)]; exact q) (fun b o u q => by rw [upd_ne (ne q)]; exact q) (fun b qs q => ⟨#[], by rw [upd_ne (ne q), q, Array.append_empty]⟩) (fun m hm => hm) (fun b u q => ?_) I.bare
  · exact this
  · by_cases hb : b = S
    · subst hb
      rw [upd_same] at q
      cases q
      exact ⟨by rw [List.length_map]; exact hl, ts.map Value.ref, c, rv, h⟩
    · rw [upd_ne hb] at q
      exact (I.hok b u q).stay (fun _ _ _ z => z) (fun d z => by rw [upd_ne (ne z)]; exact z) fun d xs z => by rw [upd_ne (ne z)]; exact z
/-- what is asked of such a comprehension -/
def tLcF (N : List Str) (n : Nat) (ta : TA) (t : NT) : TE := fun σ H Q => ta σ H fun vs H1 => vs.length = n ∧ t { nx := fun ys _ H2 => ∀ ts D, ts.Nodup → D ∉ ts → ts.length = ys.length → (∀ b ∈ ts, H2 b = none) → H2 D = none → Q (.ref D) (upd (updTs H2 ts ys) D (.lst (ts.map .ref))), rt := fun ys v H2 => v = .non ∧ ∀ ts D, ts.Nodup → D ∉ ts → ts.length = ys.length → (∀ b ∈ ts, H2 b = none) → H2 D = none → Q (.ref D) (upd (updTs H2 ts ys) D (.lst (ts.map .ref))) } [] (start N vs) H1
theorem lcF_core {fn qual nm : Str} {pa : Arguments} {sg : Scope} {f : Addr} {fd : FuncData} {N ps : List Str} {p cpos : Pos} {e : Expr} {es : List Expr} {body : List Stmt} {pos' : Pos} {ta : TA} {t : NT} {Fi : ItF} {Q : VK} (hc : X.calm = true) (ok : BlkOk X.N X.env.scope scope own) (hy : scope.names.lookup y = some .local) (hel : EltT X scope y Fi elt)
    (F : FunD X.K nm qual pa body sg [] [] f fd) (Sc : GScope N ps sg) (hb : Binds X.K fd ps [])
    (hbody : ∀ (cdv : Value) (A : Around) (s : Shared) (H : Hp) (pn : List (Addr × Obj)), codeV X.K f = cdv → Room k (A.deeper (envOfC qual sg s.heap.objs.size f cdv)) → Gd (A.deeper (envOfC qual sg s.heap.objs.size f cdv)) → NSs (gcxOf X.prog X.w X.K X.mg X.base N qual sg f cdv A X.stack s H (fun _ _ _ => False) pn) Fi body t)
    (hr : Room (k + 2) X.A) (hq : Gd X.A) (hg : Gl X fn) (hm : X.mg fn = some (.ref f)) (ha : PA X (e :: es) ta) (hdf : (fn == ("__debug__" : Str)) = false := by decide)
    (he : starEach (e :: es) X.env = (false, eval e X.env) :: starEach es X.env := by rfl) (hpl : (backTo cpos (starEach es X.env)).any (·.1) = false := by rfl) (hs : ∀ x, foldedSetIterable (.Call (.Name fn p) (e :: es) [] cpos) X.env x = pure x := by intro _; rfl)
    (I : Inv X pins σ H s) (h : tLcF N ps.length ta t σ H Q) (hRR : ∀ D C s' m H', Inv X pins σ H' s' → Q (.ref D) H' → s'.heap.Ns C m → FpOk X pins H' C → compPost (model X.prog X.w) X.A X.xe use Qf (.ref D) C (.ok .next) s') :
    wpAny (model X.prog X.w) X.A (comprehension (.ListComp elt [⟨.Name y q2, .Call (.Name fn p) (e :: es) [] cpos, [], 0⟩] scope pos) scope X.env pos' (newList []) false (eval (.Call (.Name fn p) (e :: es) [] cpos) X.env) use) Qf X.xe s := by
  have hfree : ∀ y ∈ scope.names, y.2 = .free → ∃ c, X.env.cells.lookup y.1 = some c := fun y hy e => by
    rcases ok.free y hy e with k | k
    · exact I.ok.has _ (.inl k)
    · exact I.ok.has _ (.inr k)
  refine wpAny_comprehension_free (use := use) rfl hs (closure_ok hfree) ok.kind (fun y hy e => by rw [ok.uniq y hy, e]) ?_
  refine wpAny_Call_Name_kw (ld_glob I hg hm ?_ hdf)
  refine PySem.W.callWith_K (h₀ := X.base) I.ok.mod.kin F.kp (thn (ha.run cpos pins s σ H _ I h) fun us s1 ⟨vs, H1, I1, r, hl, q⟩ => ⟨I1.kIn, ?_⟩) he hpl
  obtain ⟨oc, od, dV, kV, doc, pm, an, cdv, ct, osl, rfl, lk, hcd, _, _⟩ := F.ex
  have bb := hb s1 us I1.kIn (by rw [List.append_nil, ← r.length, hl])
  rw [List.append_nil] at bb
  refine wpAny_call (codeAny_mono (n_call (k := k) (args := ⟨us, []⟩) (E := fun _ _ _ => False) (F := Fi) (Q := fun ys H2 => ∀ ts D, ts.Nodup → D ∉ ts → ts.length = ys.length → (∀ b ∈ ts, H2 b = none) → H2 D = none → Q (.ref D) (upd (updTs H2 ts ys) D (.lst (ts.map .ref)))) lk hcd Sc (fun A s pn => hbody cdv A s H1 pn (by unfold codeV; rw [lk])) q (hr.mono (Nat.le_succ _)) hq I1.env0 bb r hl) fun res t' hres => ?_)
  cases res with
  | error er => exact hres.elim
  | ok fl =>
    cases fl with
    | next => exact hres.elim
    | brk => exact hres.elim
    | cont => exact hres.elim
    | ret u =>
      obtain ⟨a, g, c, rfl, ha1, ha2, hgen, hgs, hos, hbr, hlim, hkp, wake⟩ := hres
      refine wpAny_pyIter_gen hgen ?_
      refine wpAny_newObj_type (newEnv_comp ?_) (by show 0 ≤ sizeLine; decide)
      generalize hs3 : ({ t' with heap := t'.heap.push { cls := .type "list", data := .seq ([] : List Value).toArray } } : Shared) = s3
      have h3 : s3.heap = t'.heap.push { cls := .type "list", data := .seq ([] : List Value).toArray } := by rw [← hs3]
      have e3 : s3.heap.objs.size = t'.heap.objs.size + 1 := by rw [h3, Heap.size_push]
      have kp3 : ∀ b o, t'.heap.get? b = some o → s3.heap.get? b = some o := fun b o e => by rw [h3]; exact Heap.get?_push_of_some _ e
      show codeAny _ _ (.compStart (.ListComp elt [⟨.Name y q2, .Call (.Name fn p) (e :: es) [] cpos, [], 0⟩] scope pos) 0 (.ref a) (.ref t'.heap.objs.size) (compEnvC scope (cellsFrom (s3.heap.objs.size + 1) scope.names (cloFrom X.env.cells scope.names [])) s3.heap.objs.size X.env)) (compPost (model X.prog X.w) X.A X.xe use Qf (.ref t'.heap.objs.size) s3.heap.objs.size) { s3 with heap := pushCells (s3.heap.push { cls := .type "dict", data := .dict #[] }) scope.names }
      have kp4 : ∀ b o, s3.heap.get? b = some o → (pushCells (s3.heap.push { cls := .type "dict", data := .dict #[] }) scope.names).get? b = some o := fun b o e => pushCells_keeps _ _ _ _ (Heap.get?_push_of_some _ e)
      have kp : ∀ b o, t'.heap.get? b = some o → (pushCells (s3.heap.push { cls := .type "dict", data := .dict #[] }) scope.names).get? b = some o := fun b o e => kp4 b o (kp3 b o e)
      have g3 : s3.gens = t'.gens := by rw [← hs3]
      have o3 : s3.os = t'.os := by rw [← hs3]
      have sz : s1.heap.objs.size ≤ t'.heap.objs.size := Nat.le_trans ha1 (Nat.le_of_lt ha2)
      have hC : (pushCells (s3.heap.push { cls := .type "dict", data := .dict #[] }) scope.names).get? s3.heap.objs.size = some { cls := .type "dict", data := .dict #[] } := pushCells_keeps _ _ _ _ (Heap.get?_push_size _ rfl)
      have hSl : (pushCells (s3.heap.push { cls := .type "dict", data := .dict #[] }) scope.names).get? t'.heap.objs.size = some (lstObj #[] 0) := kp4 _ _ (by rw [h3]; exact Heap.get?_push_size _ rfl)
      have hNs : (pushCells (s3.heap.push { cls := .type "dict", data := .dict #[] }) scope.names).Ns s3.heap.objs.size (fun _ => none) := (Heap.Ns.new s3.heap (.type "dict")).at' fun o eo => by
        rw [Heap.get?_push_size _ rfl] at eo
        cases eo
        exact hC
      have ne3 : t'.heap.objs.size ≠ s3.heap.objs.size := by rw [e3]; exact Nat.ne_of_lt (Nat.lt_succ_self _)
      have loop : codeAny (model X.prog X.w) X.A (.compLoop (.ListComp elt [⟨.Name y q2, .Call (.Name fn p) (e :: es) [] cpos, [], 0⟩] scope pos) 0 (.ref a) (.ref t'.heap.objs.size) (compEnvC scope (cellsFrom (s3.heap.objs.size + 1) scope.names (cloFrom X.env.cells scope.names [])) s3.heap.objs.size X.env)) (compPost (model X.prog X.w) X.A X.xe use Qf (.ref t'.heap.objs.size) s3.heap.objs.size) { s3 with heap := pushCells (s3.heap.push { cls := .type "dict", data := .dict #[] }) scope.names } := by
        refine lcF_loop (F := Fi) (elt := elt) hr hq I1 (Q := fun ys H2 => ∀ ts D, ts.Nodup → D ∉ ts → ts.length = ys.length → (∀ b ∈ ts, H2 b = none) → H2 D = none → Q (.ref D) (upd (updTs H2 ts ys) D (.lst (ts.map .ref)))) (g := g) sz (by omega) hy ok.kind hel (fun s' H2 ts ys cc m e1 e2 e4 e5 e6 e7 e8 e9 e10 e11 e12 e13 e14 e15 e16 => ?_) sizeLine _ (hgen.keeps kp) (hlim.keeps kp) ⟨.fresh c, by show s3.gens[g]? = _; rw [g3]; exact hgs, rfl, ?_⟩
        · have J0 : Inv X pins σ H2 s' := I1.call' (ch := []) e9 e11 e12 e10 fun b z => by simp at z
          have J1 := inv_adopts I1 J0 e2 e6 e7
          have hD : updTs H2 ts ys t'.heap.objs.size = none := by rw [updTs_out e4]; exact e13
          have hCn : updTs H2 ts ys s3.heap.objs.size = none := by rw [updTs_out e5]; exact e14
          have I2 : Inv X pins σ (upd (updTs H2 ts ys) t'.heap.objs.size (.lst (ts.map .ref))) s' := lst_adopt J1 (I1.fpOk sz hD) e1 e8
          have fC := I1.fpOk (b := s3.heap.objs.size) (H' := updTs H2 ts ys) (by omega) hCn
          obtain ⟨_, f1, f2, f3, f4, f5⟩ := fC
          exact hRR _ _ s' m _ I2 (e16 ts _ e2 e4 e7.length (fun b hb => (e6 b hb).2) e13) e15 ⟨by rw [upd_ne (Ne.symm ne3)]; exact hCn, f1, f2, f3, f4, f5⟩
        · refine wake X.A.in1 (ownSC t'.heap.objs.size s3.heap.objs.size) (RecSC s1.heap.objs.size t'.heap.objs.size s3.heap.objs.size) _ hr.in1 hq I1.ok.frames kp (o3.trans hos) (allBare_setGen (by rw [g3]; exact hbr) rfl) (fun pp hpp => ?_) ⟨[], 0, hSl, ⟨_, hNs⟩, List.nodup_nil, by simp, by simp, ne3, by simp, .nil⟩
          obtain ⟨m1, m2⟩ := mem_own.mp hpp
          refine ⟨m2, ?_⟩
          have m2 : (pushCells (s3.heap.push { cls := .type "dict", data := .dict #[] }) scope.names).get? pp.1 = some pp.2 := m2
          rw [refs_at (ts := []) hSl] at m1
          rcases m1 with m1 | m1 | m1
          · rw [m1, hSl] at m2
            exact ⟨fun v z => (by rw [← Option.some.inj m2] at z; cases z), by rw [m1]; exact Nat.le_refl _⟩
          · rw [m1, hC] at m2
            exact ⟨fun v z => (by rw [← Option.some.inj m2] at z; cases z), by rw [m1, e3]; exact Nat.le_succ _⟩
          · simp at m1
      exact codeAny_compStart_list loop (wpAny_pyIter_gen (hgen.keeps kp) loop)
end
end T5
namespace T5
open PySem PySem.Spec PyProof.Rows L2 GenW
section
variable {X : Cx} {pins : List (Addr × Obj)} {σ : L2.St} {H H1 : Hp} {s s1 s2 : Shared} {scope : Scope} {own : List (Str × Nat)} {k : Nat} {y : Str} {q1 q2 pos : Pos} {elt iter : Expr} {u : Value} {F : ItF} {Qf : Value → Shared → Prop} {use : Option (Value → Sem Unit)}
theorem ps_setLcF {fn qual nm : Str} {pa : Arguments} {sg : Scope} {f : Addr} {fd : FuncData} {N ps : List Str} {p cpos : Pos} {e : Expr} {es : List Expr} {body : List Stmt} {i : Nat} {z : Str} {pz spos : Pos} {ta : TA} {t : NT} {Fi : ItF} (hN : X.N.Nodup) (hz : X.N[i]? = some z) (hzl : X.env.scope.names.lookup z = some .local) (hsw : swapsWith (.ListComp elt [⟨.Name y q2, .Call (.Name fn p) (e :: es) [] cpos, [], 0⟩] scope pos) (some (.Name z pz)) spos.line X.env = pure true) (hc : X.calm = true) (ok : BlkOk X.N X.env.scope scope own) (hy : scope.names.lookup y = some .local) (hel : EltT X scope y Fi elt)
    (F : FunD X.K nm qual pa body sg [] [] f fd) (Sc : GScope N ps sg) (hb : Binds X.K fd ps [])
    (hbody : ∀ (cdv : Value) (A : Around) (s : Shared) (H : Hp) (pn : List (Addr × Obj)), codeV X.K f = cdv → Room k (A.deeper (envOfC qual sg s.heap.objs.size f cdv)) → Gd (A.deeper (envOfC qual sg s.heap.objs.size f cdv)) → NSs (gcxOf X.prog X.w X.K X.mg X.base N qual sg f cdv A X.stack s H (fun _ _ _ => False) pn) Fi body t)
    (hr : Room (k + 2) X.A) (hq : Gd X.A) (hg : Gl X fn) (hm : X.mg fn = some (.ref f)) (ha : PA X (e :: es) ta) (hdf : (fn == ("__debug__" : Str)) = false := by decide)
    (he : starEach (e :: es) X.env = (false, eval e X.env) :: starEach es X.env := by rfl) (hpl : (backTo cpos (starEach es X.env)).any (·.1) = false := by rfl) (hs : ∀ x, foldedSetIterable (.Call (.Name fn p) (e :: es) [] cpos) X.env x = pure x := by intro _; rfl) :
    PS X (.Assign [.Name z pz] (.ListComp elt [⟨.Name y q2, .Call (.Name fn p) (e :: es) [] cpos, [], 0⟩] scope pos) spos) (tAsg (tLcF N ps.length ta t) (gName i)) := by
  refine ⟨fun pins s σ H D I h => ?_⟩
  rw [exec_Assign_Name_used _ _ _ _ hsw]
  refine wpAny_bind (wpAny_standAt (wpAny_bind ?_))
  show wpAny _ X.A (do let _ ← comprehension (.ListComp elt [⟨.Name y q2, .Call (.Name fn p) (e :: es) [] cpos, [], 0⟩] scope pos) scope X.env (firstIterPos [⟨.Name y q2, .Call (.Name fn p) (e :: es) [] cpos, [], 0⟩] pos) (newList []) false (eval (.Call (.Name fn p) (e :: es) [] cpos) X.env) (some (assign (.Name z pz) X.env))) _ _ s
  have h : tLcF N ps.length ta t σ H (fun x H1 => gName i x σ H1 D.nx) := h
  refine wpAny_bind (thn (lcF_core (Qf := fun _ s' => L2.SP X pins D .next s') hc ok hy hel F Sc hb hbody hr hq hg hm ha hdf he hpl hs I h fun L C s' m H' I' q hn f => ?_) fun _ s' hq => wpAny_pure (wpAny_pure hq))
  show wpAny _ _ (assign (.Name z pz) X.env (.ref L)) _ _ _
  refine wpAny_assign_Name (store_ok2 (v := V.ref L) I' hN hz (.inl hzl) rfl (fun s2 I2 ⟨a, sb, ha⟩ => ?_) (.inr hzl))
  obtain ⟨f0, f1, f2, f3, f4, f5⟩ := f
  have haC : C ≠ a := by
    rcases ha with z | z
    · rw [z]; exact f1
    · exact fun e => f4 _ a z e.symm
  refine ⟨m, hn.sameBut sb haC, fun h3 sb3 => ?_⟩
  exact ⟨_, H', I2.turned (t' := s2.toks) (fun b o hb e => (sb3.2 b hb).trans e) f0 f1 f3 f4 f5, q⟩
end
/-! ### (y.n1, y.n2, y.n3) -/
theorem elt_props {X : Cx} {scope : Scope} {y n1 n2 n3 f1 f2 f3 : Str} {CL : Addr} {r1 r2 r3 a1 a2 a3 tp : Pos} {tk : Nat} (hr : Room 2 X.A) (hk : scope.kind = .function) (hy : scope.names.lookup y = some .local) (hdb : (y == ("__debug__" : Str)) = false)
    (G1 : Getter X.K CL n1 f1) (G2 : Getter X.K CL n2 f2) (G3 : Getter X.K CL n3 f3)
    (b1 : ∀ env, attributeBase (.Name y r1) n1 env (eval (.Name y r1) env) = eval (.Name y r1) env) (b2 : ∀ env, attributeBase (.Name y r2) n2 env (eval (.Name y r2) env) = eval (.Name y r2) env) (b3 : ∀ env, attributeBase (.Name y r3) n3 env (eval (.Name y r3) env) = eval (.Name y r3) env) :
    EltT X scope y (fldF CL f1 f2 f3) (.Tuple [.Attribute (.Name y r1) n1 a1, .Attribute (.Name y r2) n2 a2, .Attribute (.Name y r3) n3 a3] tk tp) := by
  intro pins σ H s x v fs m cl C Q E I hn hm rx hF q
  obtain ⟨a, dx, kv, v1, v2, v3, rfl, ha, l1, l2, l3, rfl⟩ := hF
  obtain rfl : v = .ref a := rx
  have hl : (compEnvC scope cl C X.env).scope.names.lookup y = some .local := lookup_relS_keep (by decide) hy
  have hkk : (compEnvC scope cl C X.env).scope.kind = .function := hk
  have hL : (compEnvC scope cl C X.env).locals = C := rfl
  refine wpAny_Tuple_spliced ?_
  show wpAny _ _ (spliced ((false, eval (.Attribute (.Name y r1) n1 a1) (compEnvC scope cl C X.env)) :: (false, eval (.Attribute (.Name y r2) n2 a2) (compEnvC scope cl C X.env)) :: (false, eval (.Attribute (.Name y r3) n3 a3) (compEnvC scope cl C X.env)) :: [])) _ _ _
  have at_ : ∀ {h : Heap} {tk : Nat} {r : Pos} {Q' : Value → Shared → Prop}, (∀ b o, s.heap.get? b = some o → h.get? b = some o) → Q' (.ref a) { s with heap := h, toks := tk } → wpAny (model X.prog X.w) X.A (eval (.Name y r) (compEnvC scope cl C X.env)) Q' E { s with heap := h, toks := tk } := fun kp hq =>
    wpAny_Name (wpAny_loadName_local hkk hl (by rw [hL]; exact hn.keeps kp) (v := .ref a) hm hq) hdb
  refine Calls.spliced_cons (attr_of (b1 _) (at_ (h := s.heap) (tk := s.toks) (fun b o e => e) ?_))
  refine raw_prop G1 I.kIn I.nolimit hr I.hok ha l1 fun u1 h1 tk1 ru1 k1 z1 => ?_
  refine Calls.spliced_cons (attr_of (b2 _) (at_ k1 ?_))
  refine raw_prop G2 (I.kIn.keeps k1) (I.nolimit.keeps k1) hr (I.hok.kept k1) ha l2 fun u2 h2 tk2 ru2 k2 z2 => ?_
  have k12 : ∀ b o, s.heap.get? b = some o → h2.get? b = some o := fun b o e => k2 b o (k1 b o e)
  refine Calls.spliced_cons (attr_of (b3 _) (at_ k12 ?_))
  refine raw_prop G3 (I.kIn.keeps k12) (I.nolimit.keeps k12) hr (I.hok.kept k12) ha l3 fun u3 h3 tk3 ru3 k3 z3 => ?_
  have k13 : ∀ b o, s.heap.get? b = some o → h3.get? b = some o := fun b o e => k3 b o (k12 b o e)
  refine Calls.spliced_nil ⟨by show 3 ≤ sizeLine; decide, ?_⟩
  have sz : s.heap.objs.size ≤ h3.objs.size := Nat.le_trans z1 (Nat.le_trans z2 z3)
  exact q h3.objs.size _ tk3 sz ⟨by show 3 ≤ sizeLine; decide, [u1, u2, u3], 0, .cons ru1 (.cons ru2 (.cons ru3 .nil)), Heap.get?_push_size _ rfl⟩ fun b o e => Heap.get?_push_of_some _ (k13 b o e)
end T5
namespace T5
open PySem PySem.Spec PyProof.Rows L2 GenW
variable [TabC]
/-! ### meanings: a generator's run, the comprehension over it -/
def runN (N n : Nat) (m : MN) : List D → Store → R Came := fun ds st => if ds.length = n then (match m (ds.map some ++ List.replicate (N - n) none) st [] with
  | .nx _ st1 zs => .ok zs st1
  | .ex c ks vs _ st1 => .ex c ks vs st1
  | .bad => .bad) else .bad
abbrev MGn := List D → Store → R Came
/-- [(y.n1, y.n2, y.n3) for y in f(..)] -/
def eLcF (m : MGn) (ma : MA) : ME := fun env st => (ma env st).bind fun ds st1 => (noEx (m ds st1)).bind fun zs st2 => if zs.length ≤ cap then .ok (.lst (zs.map D.tup)) st2 else .bad
structure GnN (P : Program) (w : World) (K : PySem.W.Frag) (mg : Str → Option Value) (base : Heap) (k : Nat) (f : Addr) (F : ItF) (m : MGn) : Prop where
  ex : ∃ (nm qual : Str) (pa : Arguments) (body : List Stmt) (sg : Scope) (fd : FuncData) (N ps : List Str) (mn : MN),
    FunD K nm qual pa body sg [] [] f fd ∧ GScope N ps sg ∧ Binds K fd ps [] ∧
    (∀ (cdv : Value) (A : Around) (outer : List Env) (s : Shared) (H : Hp) (E : XK), codeV K f = cdv → Room k (A.deeper (envOfC qual sg s.heap.objs.size f cdv)) → Gd (A.deeper (envOfC qual sg s.heap.objs.size f cdv)) → SNs (cxOf (L2.CX P w) P w K mg base N qual sg f cdv A outer s H E) F body mn) ∧
    m = runN N.length ps.length mn
theorem same_updTs {b : Addr} : ∀ {ts : List Addr} {ys : List (List V)} {H : Hp}, ts.Nodup → (∀ t ∈ ts, H t = none) → Same H (updTs H ts ys)
  | [], ys, H, _, _ => fun b x e => e
  | _ :: _, [], H, _, _ => fun b x e => e
  | t :: ts, y :: ys, H, nd, h => by
    have nd2 := List.nodup_cons.mp nd
    have s1 : Same H (upd H t (.tup y)) := same_upd (h t (List.mem_cons_self ..))
    have s2 : Same (upd H t (.tup y)) (updTs (upd H t (.tup y)) ts ys) := same_updTs (b := b) nd2.2 fun c hc => by
      have ne : c ≠ t := fun z => nd2.1 (by rw [← z]; exact hc)
      rw [upd_ne ne]
      exact h c (List.mem_cons_of_mem _ hc)
    exact fun b x e => s2 b x (s1 b x e)
theorem rep_tups {K : PySem.W.Frag} {mg : Str → Option Value} {μ : Mu} {st : Store} : ∀ {zs : Came} {ts : List Addr} {ys : List (List V)} {H : Hp}, Rel K mg μ H st → ts.Nodup → (∀ t ∈ ts, H t = none) → ts.length = ys.length → RepYs K mg μ H zs ys → RepL K mg μ (updTs H ts ys) (zs.map D.tup) (ts.map V.ref) ∧ Rel K mg μ (updTs H ts ys) st
  | [], [], [], H, r, _, _, _, _ => ⟨rfl, r⟩
  | [], _ :: _, _, H, r, _, _, hl, h => by cases h; simp at hl
  | [], [], _ :: _, H, r, _, _, hl, h => by cases h
  | _ :: _, [], ys, H, r, _, _, hl, h => by cases h; simp at hl
  | _ :: _, _, [], H, r, _, _, hl, h => by cases h
  | z :: zs, t :: ts, y :: ys, H, r, nd, hn, hl, h => by
    cases h with
    | cons h1 h2 =>
      have nd2 := List.nodup_cons.mp nd
      have ht := hn t (List.mem_cons_self ..)
      have s1 : Same H (upd H t (.tup y)) := same_upd ht
      have x1 := Ext.same r s1
      have r1 := r.same s1
      have hn1 : ∀ c ∈ ts, upd H t (.tup y) c = none := fun c hc => by
        have ne : c ≠ t := fun z => nd2.1 (by rw [← z]; exact hc)
        rw [upd_ne ne]
        exact hn c (List.mem_cons_of_mem _ hc)
      obtain ⟨q1, q2⟩ := rep_tups (zs := zs) (ts := ts) (ys := ys) r1 nd2.2 hn1 (by simpa using hl) (RepYs.ext x1 h2)
      have s2 : Same (upd H t (.tup y)) (updTs (upd H t (.tup y)) ts ys) := same_updTs (b := 0) nd2.2 hn1
      refine ⟨⟨.ref t, ts.map V.ref, rfl, Rep.ext (Ext.same r1 s2) (rep_newT r ht h1), q1⟩, q2⟩
section
variable {X : Cx} {k : Nat} {f : Addr} {F : ItF} {m : MGn} {mn : MN} {ma : MA} {N ps : List Str}
theorem lcF_of {K : PySem.W.Frag} {mg : Str → Option Value} {W : WX} {σ : L2.St} {H : Hp} {Q : VK} (h : tM K mg W (eLcF (runN N.length ps.length mn) ma) σ H Q) : tLcF N ps.length (tMA K mg W ma) (tNM K mg (fun _ _ _ _ => False) mn) σ H Q := by
  refine tMA_run h fun ds vs μ env st H1 r re hd a => ?_
  unfold runN at a
  by_cases hl : ds.length = ps.length
  · rw [if_pos hl, ← hl] at a
    refine ⟨hd.length.symm.trans hl, μ, _, st, [], r, renv_start hd, .nil, ?_⟩
    cases e : mn (ds.map some ++ List.replicate (N.length - ds.length) none) st [] with
    | bad => rw [e] at a; exact a.elim
    | ex => rw [e] at a; exact a.elim
    | nx e1 st2 zs =>
      rw [e] at a
      have a : Aft K mg W σ μ H1 (if zs.length ≤ cap then (.ok (.lst (zs.map D.tup)) st2 : R D) else .bad) fun d _ μ' H' => ∀ v, Rep K mg μ' H' d v → Q v H' := a
      by_cases hz : zs.length ≤ cap
      · rw [if_pos hz] at a
        refine fun μ' H' σ' ys' x r' re' ry ts D nd hD hlen hts hDn => ?_
        obtain ⟨q1, q2⟩ := rep_tups r' nd hts hlen ry
        have hDn2 : updTs H' ts ys' D = none := by rw [updTs_out hD]; exact hDn
        have s1 : Same H' (updTs H' ts ys') := same_updTs (b := 0) nd hts
        have x2 := (Ext.same r' s1).trans (Ext.same q2 (same_upd (o := HO.lst (ts.map V.ref)) hDn2))
        exact a μ' _ (x.trans x2) (q2.same (same_upd hDn2)) _ (rep_newL q2 hDn2 q1)
      · rw [if_neg hz] at a
        exact a.elim
  · rw [if_neg hl] at a
    exact a.elim
theorem ss_setLcF {scope : Scope} {own : List (Str × Nat)} {y fn z : Str} {i : Nat} {q2 p cpos pos pz spos : Pos} {e elt : Expr} {es : List Expr} (hc : X.calm = true) (hN : X.N.Nodup) (ok : BlkOk X.N X.env.scope scope own) (hy : scope.names.lookup y = some .local) (hel : ∀ pn xe, EltT (X.tr pn xe) scope y F elt)
    (G : GnN X.prog X.w X.K X.mg X.base k f F m) (hr : Room (k + 2) X.A) (hq : Gd X.A) (hg : Gl X fn) (hm : X.mg fn = some (.ref f)) (ha : SA X (e :: es) ma) (hz : X.N[i]? = some z) (hzl : X.env.scope.names.lookup z = some .local) (hsw : swapsWith (.ListComp elt [⟨.Name y q2, .Call (.Name fn p) (e :: es) [] cpos, [], 0⟩] scope pos) (some (.Name z pz)) spos.line X.env = pure true) (hdf : (fn == ("__debug__" : Str)) = false := by decide)
    (he : starEach (e :: es) X.env = (false, eval e X.env) :: starEach es X.env := by rfl) (hpl : (backTo cpos (starEach es X.env)).any (·.1) = false := by rfl) (hs : ∀ x, foldedSetIterable (.Call (.Name fn p) (e :: es) [] cpos) X.env x = pure x := by intro _; rfl) :
    SS X (.Assign [.Name z pz] (.ListComp elt [⟨.Name y q2, .Call (.Name fn p) (e :: es) [] cpos, [], 0⟩] scope pos) spos) (sAsg (eLcF m ma) (gN i)) := fun pn xe W tk hp => by
  obtain ⟨nm, qual, pa, body, sg, fd, N, ps, mn, FD, Sc, hb, hbody, rfl⟩ := G.ex
  refine PS.imp (ps_setLcF (X := X.tr pn xe) (k := k) (Fi := F) (t := tNM X.K X.mg (fun _ _ _ _ => False) mn) hN hz hzl hsw hc ok hy (hel pn xe) FD Sc hb (fun cdv A s H pn' h1 h2 h3 => hbody cdv A X.stack s H (fun _ _ _ => False) h1 h2 h3 pn' _ _ takes_gcx (owns_gcx (K := X.K) (mg := X.mg) (base := X.base) (N := N))) hr hq hg hm (ha pn xe W tk) hdf he hpl hs) fun E σ H h => ?_
  exact lcF_of (tM_of h fun d v μ env st H1 r re hv q => q μ H1 _ Ext.refl r (re.set hv i))
end
end T5
namespace T5
open PySem PySem.Spec PyProof.Rows L2
variable [TabC]
/-! ### *t within a tuple -/
def aStar (m : ME) (as : MA) : MA := fun env st => (m env st).bind fun d st1 => match d with
  | .tup l => (as env st1).bind fun ds st2 => .ok (l ++ ds) st2
  | _ => .bad
theorem repL_append {K : PySem.W.Frag} {mg : Str → Option Value} {μ : Mu} {H : Hp} : ∀ {l : List D} {vs : List V} {ds : List D} {ws : List V}, RepL K mg μ H l vs → RepL K mg μ H ds ws → RepL K mg μ H (l ++ ds) (vs ++ ws)
  | [], vs, ds, ws, h, q => by
    have h : vs = [] := h
    subst h
    exact q
  | d :: l, vs, ds, ws, h, q => by
    obtain ⟨v, r, rfl, h1, h2⟩ := h
    exact ⟨v, r ++ ws, rfl, h1, repL_append h2 q⟩
section
variable {X : Cx} {e : Expr} {es : List Expr} {p : Pos} {m : ME} {as : MA}
theorem sa_star (he : SE X e m) (ha : SA X es as) : SA X (.Starred e p :: es) (aStar m as) := fun pn xe W tk => by
  refine PA.imp (StX.pa_star (he pn xe W tk) (ha pn xe W tk) rfl) fun σ H Q h => ?_
  obtain ⟨μ, env, st, r, re, a⟩ := h
  refine ⟨μ, env, st, r, re, (Aft.bind a).imp fun d st1 μ1 H1 x r1 a1 v hv => ?_⟩
  cases d with
  | tup l =>
    obtain ⟨b, vs, rfl, hq, hl⟩ := seq_tup hv
    refine ⟨b, vs, rfl, .inl hq, μ1, env, st1, r1, re.ext x, (Aft.bind a1).imp fun ds st2 μ2 H2 x2 r2 a2 ws hws => ?_⟩
    exact a2 μ2 H2 Ext.refl r2 (vs ++ ws) (repL_append (hl.ext x2) hws)
  | _ => exact a1.elim
end
end T5
namespace T5
open PySem PySem.Spec PyProof.Rows L2
variable [TabC]
/-! ### [e for x in a for y in b] -/
def lcLoop2 (g : MG0) (mi1 : MI) (g1 : MG0) (me : ME) (vs1 : List Nat) (env : DEnv) : List D → List D → Store → R (List D)
  | [], acc, st => .ok acc st
  | d :: ds, acc, st => match g d env with
    | some e1 => (mi1 e1 st).bind fun xs st1 => (lcLoop g1 cYes me (wipeD e1 vs1) xs acc st1).bind fun acc2 st2 => lcLoop2 g mi1 g1 me vs1 env ds acc2 st2
    | none => .bad
def eLc2 (mi : MI) (g : MG0) (mi1 : MI) (g1 : MG0) (me : ME) (own vs1 : List Nat) : ME := fun env st => (mi env st).bind fun ds st1 => (noEx (lcLoop2 g mi1 g1 me vs1 (wipeD env own) ds [] st1)).bind fun ys st2 => .ok (.lst ys) st2
section
variable {K : PySem.W.Frag} {mg : Str → Option Value} {W : WX} {σ : L2.St} {sl sl1 vs vs1 : List Nat} {mi : MI} {ma1 : MA} {g g1 : MG0} {me : ME}
theorem yes_tmt {σ : L2.St} {H : Hp} {Q : Bool → Hp → Prop} {μ : Mu} {env : DEnv} {st : Store} (r : Rel K mg μ H st) (re : REnv K mg μ H env σ) (h : ∀ μ' H', Ext μ H μ' H' → Rel K mg μ' H' st → Q true H') : tMT K mg (fun _ _ _ _ => False) cYes σ H Q := ⟨μ, env, st, r, re, fun μ' H' x r' => h μ' H' x r'⟩
theorem rng_inv {ma1 : MA} {e1 : DEnv} {st2 st3 : Store} {xs : List D} (em : T5.iRng2 ma1 e1 st2 = .ok xs st3) : ∃ lo hi, ma1 e1 st2 = .ok [.int lo, .int hi] st3 ∧ (-(2 ^ 62) ≤ lo ∧ lo < 2 ^ 62) ∧ (-(2 ^ 62) ≤ hi ∧ hi < 2 ^ 62) ∧ xs = upTo lo (hi - lo).toNat := by
  unfold T5.iRng2 at em
  cases e : ma1 e1 st2 with
  | bad => rw [e] at em; cases em
  | ex => rw [e] at em; cases em
  | ok ds s =>
    rw [e] at em
    replace em : (match ds with
      | [.int i, .int j] => if (-(2 ^ 62) ≤ i ∧ i < 2 ^ 62) ∧ -(2 ^ 62) ≤ j ∧ j < 2 ^ 62 then (.ok (upTo i (j - i).toNat) s : R (List D)) else .bad
      | _ => .bad) = .ok xs st3 := em
    split at em
    · rename_i i j
      split at em
      · rename_i c
        cases em
        exact ⟨i, j, rfl, c.1, c.2, rfl⟩
      · cases em
    · cases em
theorem lc2_of {Q : VK} {H : Hp} (hsl : ∀ i ∈ sl, i ∈ vs) (hsl1 : ∀ i ∈ sl1, i ∈ vs1) (h : tM K mg W (eLc2 mi g (T5.iRng2 ma1) g1 me vs vs1) σ H Q) :
    L2.tLc2 (iM K mg W mi) (gM K mg g sl) (tMT K mg (fun _ _ _ _ => False) cYes) (L2.iRng2 (tMA K mg (fun _ _ _ _ => False) ma1)) (gM K mg g1 sl1) (tMT K mg (fun _ _ _ _ => False) cYes) (tM K mg (fun _ _ _ _ => False) me) vs vs1 σ H Q := by
  obtain ⟨μ, env, st, r, re, a⟩ := h
  refine ⟨μ, env, st, r, re, (Aft.bind a).imp fun ds st1 μ1 H1 x1 r1 a1 J hJ Dd hD => ?_⟩
  have re1 := re.ext x1
  have fin : ∀ μ2 H2 st2 acc ws, Ext μ1 H1 μ2 H2 → Dd ∈ μ2.r → Rel K mg μ2 H2 st2 → H2 Dd = some (.lst ws) → RepL K mg μ2 H2 acc ws → Aft K mg W σ μ1 H1 (.ok (.lst acc) st2) (fun d _ μ' H' => ∀ v, Rep K mg μ' H' d v → Q v H') → Q (.ref Dd) H2 := fun μ2 H2 st2 acc ws x2 d2 r2 e2 hl2 a2 =>
    a2 (μ2.let Dd) H2 (x2.letgo r1 hD) r2.letgo _ ⟨Dd, ws, rfl, let_nin r2 d2 (fun q hq => by obtain ⟨ps, z, _⟩ := r2.tab _ hq; rw [show H2 (Dd, q).1 = H2 Dd from rfl, e2] at z; cases z), e2, hl2.keeps Keeps.letgo⟩
  let KK : R (List D) → Prop := fun r => Aft K mg W σ μ1 H1 ((noEx r).bind fun ys st2 => .ok (.lst ys) st2) (fun d _ μ' H' => ∀ v, Rep K mg μ' H' d v → Q v H')
  let St : R (List D) → Prop := KK
  -- the outer loop
  let W0 : Nat → Nat → Hp → Prop := fun i n H => n = ds.length - i ∧ i ≤ ds.length ∧ ∃ μ2 st2 acc ws, Ext μ1 H1 μ2 H ∧ Dd ∈ μ2.r ∧ Rel K mg μ2 H st2 ∧ REnv K mg μ2 H (wipeD env vs) (L2.wipe σ vs) ∧ H Dd = some (.lst ws) ∧ RepL K mg μ2 H acc ws ∧ KK (lcLoop2 g (T5.iRng2 ma1) g1 me vs1 (wipeD env vs) (ds.drop i) acc st2)
  have noex : ∀ {α : Type} {r : R α} {f : α → Store → R (List D)}, KK (r.bind f) → ∃ a s, r = .ok a s ∧ KK (f a s) := fun {α r f} h => by
    cases r with
    | ok a s => exact ⟨a, s, rfl, h⟩
    | ex => exact (show False from h).elim
    | bad => exact (show False from h).elim
  refine ⟨W0, ⟨ds.length, by simp, Nat.zero_le _, μ1.hold Dd, st1, [], [], ?_, List.mem_cons_self, r1.hold (same_upd (o := HO.lst []) hD) hD upd_same, (re1.wipe vs).keeps (Keeps.hold hD (same_upd (o := HO.lst []) hD)), upd_same, rfl, a1⟩, ?_⟩
  · exact Ext.hold r1 (same_upd (o := HO.lst []) hD) hD
  rintro i n H ⟨rfl, hi, μ2, st2, acc, ws, x2, hd2, r2, re2, e2, hl2, a2⟩
  obtain ⟨go, stop⟩ := hJ i μ2 H st2 x2 r2
  by_cases hlt : i < ds.length
  · obtain ⟨q1, q2⟩ := go ds[i] (List.getElem?_eq_getElem hlt)
    rw [List.drop_eq_getElem_cons hlt] at a2
    refine .inr ⟨q1, fun H' => W0 (i + 1) (ds.length - (i + 1)) H', fun H' hN => ⟨ds.length - (i + 1), by omega, hN⟩, fun v H' hy => ?_⟩
    obtain ⟨sm, hv⟩ := q2 v H' hy
    have x3 : Ext μ2 H μ2 H' := Ext.same r2 sm
    have r3 := r2.same sm
    unfold lcLoop2 at a2
    cases eg : g ds[i] (wipeD env vs) with
    | none => rw [eg] at a2; exact (show False from a2).elim
    | some e1 =>
      rw [eg] at a2
      refine ⟨μ2, wipeD env vs, ds[i], e1, re2.ext x3, hv, eg, fun σ3 re3 off => ⟨wipe_off off hsl, ?_⟩⟩
      obtain ⟨xs, st3, em, a3⟩ := noex a2
      refine yes_tmt r3 re3 fun μ4 H4 x4 r4 => ?_
      rw [if_pos rfl]
      have re4 := re3.ext x4
      refine ⟨μ4, e1, st2, r4, re4, ?_⟩
      have em2 : ∃ lo hi, ma1 e1 st2 = .ok [.int lo, .int hi] st3 ∧ (-(2 ^ 62) ≤ lo ∧ lo < 2 ^ 62) ∧ (-(2 ^ 62) ≤ hi ∧ hi < 2 ^ 62) ∧ xs = upTo lo (hi - lo).toNat := rng_inv em
      obtain ⟨lo, hi', em1, b1, b2, rfl⟩ := em2
      rw [em1]
      intro μ5 H5 x5 r5 vz hv2
      have ev : vz = [.int lo, .int hi'] := by
        obtain ⟨v, w, e, h1, v2, w2, e2', h2, h3⟩ := hv2
        have e3 : w2 = [] := h3
        have e4 : v = .int lo := h1
        have e5 : v2 = .int hi' := h2
        subst e3 e4 e5 e2'
        exact e
      refine ⟨lo, hi', ev, ⟨b1.1, b1.2, b2.1, b2.2⟩, ?_⟩
      generalize hxs : upTo lo (hi' - lo).toNat = xs at a3
      have hlen : xs.length = (hi' - lo).toNat := by rw [← hxs]; simp [upTo]
      have x25 : Ext μ2 H μ5 H5 := (x3.trans x4).trans x5
      let W1 : Nat → Nat → Hp → Prop := fun j k H => k = xs.length - j ∧ j ≤ xs.length ∧ ∃ μ6 st6 acc6 ws6, Ext μ1 H1 μ6 H ∧ Dd ∈ μ6.r ∧ Rel K mg μ6 H st6 ∧ REnv K mg μ6 H (wipeD env vs) (L2.wipe σ vs) ∧ REnv K mg μ6 H (wipeD e1 vs1) (L2.wipe σ3 vs1) ∧ H Dd = some (.lst ws6) ∧ RepL K mg μ6 H acc6 ws6 ∧ KK ((lcLoop g1 cYes me (wipeD e1 vs1) (xs.drop j) acc6 st6).bind fun acc2 st2 => lcLoop2 g (T5.iRng2 ma1) g1 me vs1 (wipeD env vs) (ds.drop (i + 1)) acc2 st2)
      refine ⟨W1, ⟨xs.length, by simp, Nat.zero_le _, μ5, st3, acc, ws, x2.trans x25, x25.res _ hd2, r5, (re2.ext x3).ext (x4.trans x5), (re4.ext x5).wipe vs1, ?_, hl2.ext x25, a3⟩, ?_⟩
      · exact (x25.held _ hd2).trans e2
      rintro j k H6 ⟨rfl, hj, μ6, st6, acc6, ws6, x6, d6, r6, re6, rf6, e6, hl6, a6⟩
      by_cases hlt1 : j < xs.length
      · rw [List.drop_eq_getElem_cons hlt1] at a6
        refine .inr ⟨by rw [← hlen]; exact hlt1, fun H' => W1 (j + 1) (xs.length - (j + 1)) H', fun H' hN => ⟨xs.length - (j + 1), by omega, hN⟩, fun v1 H7 hy1 => ?_⟩
        obtain ⟨eH, ev1⟩ := hy1
        subst eH ev1
        have hv1 : Rep K mg μ6 H7 xs[j] (.int (lo + (j : Int))) := by
          have : xs[j] = .int (lo + (j : Int)) := by subst hxs; simp [upTo]
          rw [this]
          rfl
        have x7 : Ext μ6 H7 μ6 H7 := Ext.refl
        have r7 := r6
        unfold lcLoop at a6
        cases eg1 : g1 xs[j] (wipeD e1 vs1) with
        | none => rw [eg1] at a6; exact (show False from a6).elim
        | some e2' =>
          rw [eg1] at a6
          refine ⟨μ6, wipeD e1 vs1, xs[j], e2', rf6.ext x7, hv1, eg1, fun σ8 re8 off1 => ⟨wipe_off off1 hsl1, ?_⟩⟩
          have a7 : KK (((me e2' st6).bind fun y st2 => (if acc6.length ≤ cap then lcLoop g1 cYes me (wipeD e1 vs1) (xs.drop (j + 1)) (acc6 ++ [y]) st2 else .bad)).bind fun acc2 st2 => lcLoop2 g (T5.iRng2 ma1) g1 me vs1 (wipeD env vs) (ds.drop (i + 1)) acc2 st2) := a6
          refine yes_tmt r7 re8 fun μ9 H9 x9 r9 => ?_
          rw [if_pos rfl]
          refine ⟨μ9, e2', st6, r9, re8.ext x9, ?_⟩
          cases ey : me e2' st6 with
          | bad => rw [ey] at a7; exact (show False from a7).elim
          | ex => rw [ey] at a7; exact (show False from a7).elim
          | ok y st7 =>
            rw [ey] at a7
            intro μ10 H10 x10 r10 u hu
            have a8 : KK ((if acc6.length ≤ cap then lcLoop g1 cYes me (wipeD e1 vs1) (xs.drop (j + 1)) (acc6 ++ [y]) st7 else .bad).bind fun acc2 st2 => lcLoop2 g (T5.iRng2 ma1) g1 me vs1 (wipeD env vs) (ds.drop (i + 1)) acc2 st2) := a7
            by_cases c : acc6.length ≤ cap
            · rw [if_pos c] at a8
              have xx : Ext μ6 H7 μ10 H10 := (x7.trans x9).trans x10
              have d10 : Dd ∈ μ10.r := xx.res _ d6
              have e10 : H10 Dd = some (.lst ws6) := (xx.held _ d6).trans e6
              have kc : Keeps μ10 H10 μ10 (upd H10 Dd (.lst (ws6 ++ [u]))) := Keeps.change d10
              have x110 : Ext μ1 H1 μ10 H10 := x6.trans xx
              refine ⟨ws6, e10, by rw [← hl6.length]; exact cap_lt c, rfl, hlt1, μ10, st7, acc6 ++ [y], ws6 ++ [u], Ext.changeR x110 r1 hD, d10, r10.changeR d10 e10, (re6.ext xx).keeps kc, (rf6.ext xx).keeps kc, upd_same, ?_, a8⟩
              exact ((hl6.ext xx).keeps kc).append ⟨u, [], rfl, hu.keeps kc, rfl⟩
            · rw [if_neg c] at a8
              exact (show False from a8).elim
      · have e : j = xs.length := by omega
        subst e
        rw [List.drop_length] at a6
        exact .inl ⟨by rw [← hlen]; exact Nat.le_refl _, rfl, hlt, μ6, st6, acc6, ws6, x6, d6, r6, re6, e6, hl6, a6⟩
  · have e : i = ds.length := by omega
    subst e
    rw [List.drop_length] at a2
    exact .inl ⟨stop (Nat.le_refl _), fin μ2 H st2 acc ws x2 hd2 r2 e2 hl2 a2⟩
end
end T5
namespace T5
open PySem PySem.Spec PyProof.Rows L2
variable [TabC]
/-! ### [e for x in a for y in range(b, c)] -/
section
variable {X : Cx} {elt tg iter tg1 ea eb : Expr} {scope : Scope} {own : List (Str × Nat)} {sl sl1 vs1 : List Nat} {p p2 pos : Pos} {mi : MI} {ma1 : MA} {g g1 : MG0} {me : ME}
variable (hc : X.calm = true) (hN : X.N.Nodup) (hi : SI X tg iter mi) (ok : BlkOk X.N X.env.scope scope own) (hsl : ∀ i ∈ sl, i ∈ own.map (·.2)) (hsl1 : ∀ i ∈ sl1, i ∈ vs1) (hv : ∀ i ∈ vs1, i ∈ own.map (·.2))
    (hg : ∀ (s : Shared) (H : Hp) (C : Addr) (cl : List (Str × Addr)) (fp : List Addr), SG (X.blk s H scope (compEnvC scope cl C X.env) fp) tg g sl)
    (hr1 : ∀ (s : Shared) (H : Hp) (C : Addr) (cl : List (Str × Addr)) (fp : List Addr), Gl (X.blk s H scope (compEnvC scope cl C X.env) fp) "range") (hm1 : X.mg "range" = none)
    (ha1 : ∀ (s : Shared) (H : Hp) (C : Addr) (cl : List (Str × Addr)) (fp : List Addr), SA (X.blk s H scope (compEnvC scope cl C X.env) fp) [ea, eb] ma1)
    (hg1 : ∀ (s : Shared) (H : Hp) (C : Addr) (cl : List (Str × Addr)) (fp : List Addr), SG (X.blk s H scope (compEnvC scope cl C X.env) fp) tg1 g1 sl1)
    (he : ∀ (s : Shared) (H : Hp) (C : Addr) (cl : List (Str × Addr)) (fp : List Addr), SE (X.blk s H scope (compEnvC scope cl C X.env) fp) elt me)
    (hst : ∀ env, starEach [ea, eb] env = [(false, eval ea env), (false, eval eb env)]) (hst2 : ∀ env, starEach [eb] env = [(false, eval eb env)])
include hc hN hi ok hsl hsl1 hv hg hr1 hm1 ha1 hg1 he hst hst2
theorem ss_setLc2 {i : Nat} {y : Str} {py spos : Pos} (hy : X.N[i]? = some y) (hyl : X.env.scope.names.lookup y = some .local) (hsw : swapsWith (.ListComp elt [⟨tg, iter, [], 0⟩, ⟨tg1, .Call (.Name "range" p) [ea, eb] [] p2, [], 0⟩] scope pos) (some (.Name y py)) spos.line X.env = pure true) (hs : ∀ x, foldedSetIterable iter X.env x = pure x := by intro _; rfl) :
    SS X (.Assign [.Name y py] (.ListComp elt [⟨tg, iter, [], 0⟩, ⟨tg1, .Call (.Name "range" p) [ea, eb] [] p2, [], 0⟩] scope pos) spos) (sAsg (eLc2 mi g (T5.iRng2 ma1) g1 me (own.map (·.2)) vs1) (gN i)) := fun pn xe W tk _ =>
  PS.imp (ps_setLc2 (X := X.tr pn xe) (g := gM X.K X.mg g sl) (tt := tMT X.K X.mg (fun _ _ _ _ => False) cYes) (g1 := gM X.K X.mg g1 sl1) (tt1 := tMT X.K X.mg (fun _ _ _ _ => False) cYes) (te := tM X.K X.mg (fun _ _ _ _ => False) me) (vs1 := vs1) hc hN hy hyl hsw (hi pn xe W tk) ok hv
    (fun s H C cl fp => hg s H C cl fp [] fun _ _ => False) (fun s H C cl fp => sts_nil (X := X.blk s H scope (compEnvC scope cl C X.env) fp) [] (fun _ _ => False) _ takes0)
    (fun s H C cl fp => pi_range2 (X := X.blk s H scope (compEnvC scope cl C X.env) fp) (hr1 s H C cl fp) hm1 (ha1 s H C cl fp [] (fun _ _ => False) _ takes0) (hst _) (hst2 _))
    (fun s H C cl fp => hg1 s H C cl fp [] fun _ _ => False) (fun s H C cl fp => sts_nil (X := X.blk s H scope (compEnvC scope cl C X.env) fp) [] (fun _ _ => False) _ takes0) (fun s H C cl fp => he s H C cl fp [] (fun _ _ => False) _ takes0) hs (fun _ _ => rfl)) fun E σ H h => lc2_of hsl hsl1 (tM_of h fun d v μ env st H1 r re hv q => q μ H1 _ Ext.refl r (re.set hv i))
end
end T5
namespace T5
open PySem PySem.Spec PyProof.Rows L2 GenW
/-! ### a generator whose first turn raises: what is pinned stays, and is not tracked -/
def CXp (P : Program) (w : World) (outer : List Env) (H : Hp) (s : Shared) (E : XK) (pn : List (Addr × Obj)) (u : Value) (s' : Shared) : Prop :=
  ∃ (a : Addr) (B : Heap) (H' : Hp) (cls : Value) (d : Option Addr), u = .ref a ∧ HandSPX.FlyingZ B outer a (Zc cls d) s'.heap ∧ HOk P w H' B ∧ UB (frs outer) H H' s.heap B s'.heap ∧ H' a = none ∧ s'.os = s.os ∧ AllBare s'.gens ∧ E cls d H' ∧ ∀ p ∈ pn, B.get? p.1 = some p.2 ∧ H' p.1 = none
def gcxP (P : Program) (w : World) (K : PySem.W.Frag) (mg : Str → Option Value) (base : Heap) (N : List Str) (qual : Str) (scope : Scope) (f : Addr) (cd : Value) (A : Around) (outer : List Env) (s : Shared) (H : Hp) (E : XK) (pn : List (Addr × Obj)) : Cx :=
  { cxOf (L2.CX P w) P w K mg base N qual scope f cd A outer s H E with
    pn := pn
    xe := fun e s' => wpAny (model P w) (A.deeper (envOfC qual scope s.heap.objs.size f cd)) (leaving (envOfC qual scope s.heap.objs.size f cd) e) (fun _ s2 => CXp P w outer H s E pn e s2) (fun _ _ => False) s' }
section
variable {P : Program} {w : World} {K : PySem.W.Frag} {mg : Str → Option Value} {base : Heap} {N : List Str} {qual : Str} {scope : Scope} {f : Addr} {cd : Value} {A : Around} {outer : List Env} {s : Shared} {H : Hp} {E : XK} {pn : List (Addr × Obj)}
theorem owns_gcxP : PassesOwn (model P w) (gcxP P w K mg base N qual scope f cd A outer s H E pn).A (gcxP P w K mg base N qual scope f cd A outer s H E pn).env (gcxP P w K mg base N qual scope f cd A outer s H E pn).xe :=
  passes_of (X := gcxP P w K mg base N qual scope f cd A outer s H E pn) (K := fun e s2 => CXp P w outer H s E pn e s2) (E₁ := fun _ _ => False) rfl
theorem takes_gcxP : Takes (gcxP P w K mg base N qual scope f cd A outer s H E pn) (fun cls d _ H' => E cls d H') := by
  rintro u s' ⟨a, B, sI, pins, σ, H1, cls, d, rfl, I, nb, up, sky, na, os, ag, hw⟩
  have hfr : (gcxP P w K mg base N qual scope f cd A outer s H E pn).A.frames = some (envOfC qual scope s.heap.objs.size f cd :: outer) := I.ok.frames
  have hf : (envOfC qual scope s.heap.objs.size f cd).frame = some s.heap.objs.size := rfl
  have off : ∀ b, b ≠ s.heap.objs.size → b ∉ frs outer → b ∉ frs (gcxP P w K mg base N qual scope f cd A outer s H E pn).stack := fun b n1 n2 hm => (List.mem_cons.mp (I.stkSub b hm)).elim n1 n2
  have old : ∀ b o, s.heap.get? b = some o → b ≠ s.heap.objs.size := fun b o e => Nat.ne_of_lt (Heap.lt_size e)
  have nx : ∀ b, b ∉ (gcxP P w K mg base N qual scope f cd A outer s H E pn).ex := fun b hb => by
    have hb : b ∈ ([] : List Addr) := hb
    simp at hb
  have fin : ∀ h', HandSPX.FlyingZ B outer a (Zc cls d) h' → s'.heap.UpToSlots h' → CXp P w outer H s E pn (.ref a) { s' with heap := h' } := fun h' fl up2 => by
    refine ⟨a, B, H1, cls, d, rfl, fl, I.inGround nb, ⟨fun b o e n hb => ?_, fun b o e hb => ?_, fun b o e n => ?_, fun b o e hb => ?_, I.base.tups, I.base.frzs, I.base.tbls⟩, na, os.trans I.os, ag, hw, fun p hp => ?_⟩
    · exact nb b o (I.base.keep b o e n hb (nx b)) (off b (old b o e) hb)
    · obtain ⟨_, o1, e1, nf⟩ := I.ok.funs.mem hb
      have eo : o1 = o := Option.some.inj (e1.symm.trans e)
      subst eo
      obtain ⟨sl1, q1⟩ := I.base.slot b _ e (I.ok.frf b hb) hb (nx b)
      obtain ⟨sl2, q2⟩ := up b _ q1 nf
      obtain ⟨sl3, q3⟩ := up2 b _ q2 nf
      exact ⟨sl3, q3⟩
    · exact I.base.free b o e n (nx b)
    · obtain ⟨o1, e1⟩ := I.base.there b o e (nx b)
      exact ⟨o1, nb b o1 e1 (off b (old b o e) hb)⟩
    · obtain ⟨p1, p2, p3, p4, _⟩ := I.pin p (List.mem_append_left _ hp)
      exact ⟨nb _ _ p1 (off _ p3 p4), p2⟩
  have sky : Sky B (envOfC qual scope s.heap.objs.size f cd :: outer) a (Zc cls d) s.heap.objs.size s'.heap := sky
  rcases sky with ⟨hB, hn, hl, oe, vs, he, hz, hd, h1⟩ | fl | hd
  · exact HandSPX.leaving_firstZ Zc.steady hfr hl hf he hB hn hd h1 hz fin
  · exact HandSPX.leaves_onZ Zc.steady hfr hf fl fin
  · exact HandSPX.leaves_heldZ hf hd fin
end
end T5
namespace T5
open PySem PySem.Spec PyProof.Rows L2 GenW
/-! ### an exception leaves a comprehension -/
section
variable {X : Cx} {pins : List (Addr × Obj)} {σ : L2.St} {H1 : Hp} {s1 t0 : Shared} {W : WX} {C : Addr} {pq : List (Addr × Obj)} {e : Value}
theorem held_c {B h h' : Heap} {l : List Env} {a L : Addr} {Z : Obj → Prop} (hh : HandSPX.HeldZ B l a Z L h) (hB : B.get? C = none) (hs : Heap.SameBut C h h') {m : Str → Option Value} (hn : h.Ns C m) (hl : ∀ b ∈ frs l, b ≠ C) : HandSPX.HeldZ B l a Z L h' := by
  obtain ⟨f1, f2, f3, oe, vs, T, oT, ts, he, hz, hd, h1, hnT, hTe, hT, hdT, h3⟩ := hh
  obtain ⟨oC, es, ep, hoC, hdC, _⟩ := hn
  have ne : ∀ b o us, h.get? b = some o → o.data = .fields us → b ≠ C := fun b o us e1 e2 z => by
    rw [z, hoC] at e1
    cases e1
    rw [hdC] at e2
    cases e2
  refine ⟨fun b o q => hs.extBut b o (fun z => by rw [z, hB] at q; cases q) (f1 b o q), f2, ?_, oe, vs, T, oT, ts, hs.extBut _ _ (ne _ _ _ he hd) he, hz, hd, h1, hnT, hTe, hs.extBut _ _ (ne _ _ _ hT hdT) hT, hdT, h3⟩
  clear f1 f2 he hz hd h1 hnT hTe hT hdT h3
  induction l with
  | nil => trivial
  | cons env l ih =>
    obtain ⟨k1, ⟨L0, o, q1, q2, q3, q4⟩, k3⟩ := f3
    have hL : L0 ≠ C := hl L0 (List.mem_filterMap.mpr ⟨env, List.mem_cons_self, q1⟩)
    exact ⟨k1, ⟨L0, o, q1, q2, hs.extBut _ _ hL q3, q4⟩, ih (fun b hb => hl b (by
      obtain ⟨e1, he1, q⟩ := List.mem_filterMap.mp hb
      exact List.mem_filterMap.mpr ⟨e1, List.mem_cons_of_mem _ he1, q⟩)) k3⟩
theorem note_env {cenv env : Env} (h : cenv.frame = env.frame) : noteFrame e cenv = noteFrame e env := by
  unfold noteFrame PySem.frameOf
  rw [h]
theorem err_passes {cenv : Env} {oC : Obj} {m0 : Str → Option Value} {what : String} {E0 : Value → Shared → Prop} (tk : Takes X W) (I : Inv X pins σ H1 s1) (hC : s1.heap.objs.size ≤ C) (hstk : X.stack = X.env :: X.outer) (hfr : X.env.frame = some X.env.locals) (hcf : cenv.frame = X.env.frame)
    (hpq : (C, oC) ∈ pq) (hn : ∀ h : Heap, h.get? C = some oC → h.Ns C m0) (c : CXp X.prog X.w X.stack H1 s1 (fun cls d H' => W cls d σ H') pq e t0) :
    wpAny (model X.prog X.w) X.A (noteFrame e cenv) (fun _ s2 => ∃ m, s2.heap.Ns C m ∧ ∀ h', Heap.SameBut C s2.heap h' → wpAny (model X.prog X.w) X.A (passOn what e cenv : Sem Value) (fun _ _ => False) X.xe { s2 with heap := h' }) E0 t0 := by
  obtain ⟨a, B, H', cls, d, rfl, fl, hok, ub, na, os, ag, hW, hp⟩ := c
  obtain ⟨pC, nC⟩ := hp _ hpq
  obtain ⟨B2, b1, b2⟩ := restrict B fun b => decide (b ≠ C)
  have sub : ∀ b o, B2.get? b = some o → B.get? b = some o ∧ b ≠ C := fun b o q => by
    by_cases hb : b = C
    · rw [b2 b (by simp [hb])] at q; cases q
    · rw [b1 b (by simp [hb])] at q; exact ⟨q, hb⟩
  have non : ∀ b, B.get? b = none → B2.get? b = none := fun b q => by
    cases z : B2.get? b with
    | none => rfl
    | some o => rw [(sub b o z).1] at q; cases q
  have keep : ∀ b o, b ≠ C → B.get? b = some o → B2.get? b = some o := fun b o hb q => by rw [b1 b (by simp [hb])]; exact q
  have hB2 : B2.get? C = none := b2 C (by simp)
  obtain ⟨f1, f2, f3, oe, vs, T, oT, ts, he, hz, hd, h1, hnT, hTe, hT, hdT, h3⟩ := fl
  have flC : ∀ b ∈ frs X.stack, b ≠ C := fun b hb z => by
    obtain ⟨_, o, ho, _⟩ := I.stack.mem hb
    have := Heap.lt_size ho
    rw [z] at this
    exact absurd (Nat.lt_of_lt_of_le this hC) (Nat.lt_irrefl _)
  have fl2 : HandSPX.FlyingZ B2 X.stack a (Zc cls d) t0.heap := ⟨fun b o q => f1 b o (sub b o q).1, non _ f2, funFrames_none f3 fun b hb => non b (f3.mem hb).1, oe, vs, T, oT, ts, he, hz, hd, h1, non _ hnT, hTe, hT, hdT, h3⟩
  have hn0 : t0.heap.Ns C m0 := hn _ (f1 _ _ pC)
  rw [note_env hcf]
  have hA : X.A.frames = some (X.env :: X.outer) := by rw [I.ok.frames, hstk]
  rw [hstk] at fl2
  refine HandSPX.looks_onZ Zc.steady hA hfr fl2 fun h2 hh up2 => ⟨m0, up2.ns hn0, fun h3' hs3 => ?_⟩
  rw [← hstk] at hh
  have hh3 := held_c hh hB2 hs3 (up2.ns hn0) flC
  obtain ⟨_, _, _, oe', vs', T', oT', ts', he', _, hd', h1', _, _, _, _, _⟩ := id hh3
  unfold PySem.passOn
  refine wpAny_bind (wpAny_field he' hd' h1' ?_)
  rw [if_neg (by simp)]
  rw [hcf, hfr]
  have fin : wpAny (model X.prog X.w) X.A (setFlight (.ref a) (some X.env.locals)) (fun _ s3 => wpAny (model X.prog X.w) X.A (throw (.ref a) : Sem Value) (fun _ _ => False) X.xe s3) X.xe { t0 with heap := h3' } := by
    refine HandSPX.setFlight_onZ hh3 fun h4 hh4 up4 => wpAny_throw (tk _ _ ?_)
    obtain ⟨G, g1, g2⟩ := restrict h4 fun b => (B2.get? b).isSome || decide (b ∈ frs X.stack)
    have gB : ∀ b o, B2.get? b = some o → G.get? b = some o := fun b o q => by
      rw [g1 b (by simp [q])]
      exact hh4.1 b o q
    have gS : ∀ b o, b ≠ C → B.get? b = some o → G.get? b = some o := fun b o hb q => gB b o (keep b o hb q)
    have gF : ∀ b, b ∈ frs X.stack → G.get? b = h4.get? b := fun b hb => g1 b (by simp [hb])
    have lt : ∀ b o, s1.heap.get? b = some o → b ≠ C := fun b o q z => absurd (Nat.lt_of_lt_of_le (z ▸ Heap.lt_size q) hC) (Nat.lt_irrefl _)
    have out : ∀ b o, G.get? b = some o → h4.get? b = some o ∧ ((B2.get? b).isSome = true ∨ b ∈ frs X.stack) := fun b o q => by
      cases z : ((B2.get? b).isSome || decide (b ∈ frs X.stack)) with
      | false => rw [g2 b z] at q; cases q
      | true =>
        rw [g1 b z] at q
        exact ⟨q, by simpa [Bool.or_eq_true] using z⟩
    have sl : ∀ b o, s1.heap.get? b = some o → b ∈ frs X.stack → ∃ sl, G.get? b = some { o with slots := sl } := fun b o q hb => by
      obtain ⟨_, o1, e1, nf⟩ := I.stack.mem hb
      have eo : o1 = o := Option.some.inj (e1.symm.trans q)
      subst eo
      obtain ⟨l1, r1⟩ := ub.slot b _ q hb
      obtain ⟨l2, r2⟩ := up2 b _ r1 nf
      obtain ⟨l3, r3⟩ := up4 b _ (hs3.extBut b _ (flC b hb) r2) nf
      exact ⟨l3, by rw [gF b hb]; exact r3⟩
    refine ⟨a, B2, { s1 with heap := G, gens := t0.gens, drawn := t0.drawn, toks := t0.toks }, pins, σ, H', cls, d, rfl, ?_, fun b o q hb => ?_, Heap.UpToSlots.of_keeps fun b o q => (out b o q).1, .inr (.inr hh4), na, os, ag, hW⟩
    · refine I.call (ch := []) ⟨fun b o q n hb _ => gS b o (lt b o q) (ub.keep b o q n hb), fun b o q n hb _ => sl b o q hb, fun b o q n _ => ub.free b o q n, fun b o q _ => ?_, ub.tups, ub.frzs, ub.tbls⟩ (fun b u q => ?_) ag (fun _ z => nomatch z)
      · by_cases hb : b ∈ frs X.stack
        · obtain ⟨l1, r1⟩ := sl b o q hb
          exact ⟨_, r1⟩
        · obtain ⟨o1, r1⟩ := ub.there b o q hb
          exact ⟨o1, gS b o1 (lt b o q) r1⟩
      · refine (hok b u q).stay (fun c v hc r => gS c v (fun z => ?_) r) (fun _ y => y) fun _ _ y => y
        rcases hc with hc | hc
        · rw [← hc, z, nC] at q; cases q
        · rw [z, nC] at hc; cases hc
    · obtain ⟨r1, r2⟩ := out b o q
      rcases r2 with r2 | r2
      · obtain ⟨o1, z1⟩ := Option.isSome_iff_exists.mp r2
        have z2 := hh4.1 b o1 z1
        rw [r1] at z2
        cases z2
        exact z1
      · exact absurd r2 hb
  first
    | exact wpAny_bind fin
    | exact wpAny_bind (wpAny_pure (wpAny_bind fin))
end
end T5
namespace T5
open PySem PySem.Spec PyProof.Rows L2 GenW
/-! ### a generator whose first turn raises -/
def XMade (P : Program) (w : World) (k : Nat) (outer : List Env) (H : Hp) (sc : Shared) (E : XK) (u : Value) (s' : Shared) : Prop :=
  ∃ (a : Addr) (g : Nat) (c : Code), u = .ref a ∧ sc.heap.objs.size ≤ a ∧ a < s'.heap.objs.size ∧ s'.heap.IsGen a g ∧ s'.gens[g]? = some (.fresh c) ∧ s'.os = sc.os ∧ AllBare s'.gens ∧ s'.heap.NoLimit ∧ (∀ b o, sc.heap.get? b = some o → s'.heap.get? b = some o) ∧
    ∀ (A : Around) (pq : List (Addr × Obj)) (s2 : Shared), Room k A → Gd A → A.frames = some outer → (∀ b o, s'.heap.get? b = some o → s2.heap.get? b = some o) → s2.os = sc.os → AllBare s2.gens →
      (∀ p ∈ pq, s2.heap.get? p.1 = some p.2 ∧ (∀ v, p.2.data ≠ .cell v) ∧ s'.heap.objs.size ≤ p.1) →
      Seg (model P w) A (fun n s₀ r s => ((r = .ok (.ret .none) ∨ r = .ok .next) ∧ False) ∨ ∃ e, r = .error e ∧ s.heap.IsGen a g ∧ CXp P w outer H sc E pq e s) (fun _ _ _ _ _ => False) sizeLine s2 c ((model P w).den c) [] s2
abbrev FNo : ItF := fun _ _ _ => False
section
variable {P : Program} {w : World} {K : PySem.W.Frag} {mg : Str → Option Value} {base : Heap} {N ps : List Str} {k : Nat} {f : Addr} {name qual : Str} {params : Arguments} {scope : Scope} {dV kV doc pm cdv ct oc : Value} {an od : Option Addr} {osl : Array (Option Value)} {body : List Stmt} {E : XK}
theorem nx_call {t : NT} {A : Around} {outer : List Env} {s : Shared} {H : Hp} {args : Args} {us : List Value} {vs : List V}
    (lk : K.lookup f = some ⟨oc, od, .func (PySem.W.fnOf name qual params body scope dV kV doc pm an cdv ct), osl⟩) (hcd : PySem.W.codeIn K cdv qual = true) (Sc : GScope N ps scope)
    (hbody : ∀ (A : Around) (s : Shared) (pn : List (Addr × Obj)), Room k (A.deeper (envOfC qual scope s.heap.objs.size f cdv)) → Gd (A.deeper (envOfC qual scope s.heap.objs.size f cdv)) → NSs (gcxP P w K mg base N qual scope f cdv A outer s H E pn) FNo body t)
    (ht : t { nx := fun _ _ _ => False, rt := fun _ _ _ => False } [] (start N vs) H)
    (hr : Room (k + 1) A) (hq : Gd A) (e0 : Env0 P w K mg base A outer s H) (hb : BindsTo s (PySem.W.fnOf name qual params body scope dV kV doc pm an cdv ct) args (ps.zip us)) (r : Vals vs us) (hl : vs.length = ps.length) :
    codeAny (model P w) A (.call (.ref f) args) (fun r s' => match r with | .ok (.ret u) => XMade P w (k + 1) outer H s E u s' | _ => False) s := by
  have KX : K.In s.heap := e0.mod.kin.keeps fun b o e => (e0.bs b o e).1
  have lim : s.heap.NoLimit := e0.mod.nolimit.keeps fun b o e => (e0.bs b o e).1
  have hkind : ∀ y ∈ ps.zip us, scope.names.lookup y.1 = some .local ∨ (scope.names.lookup y.1 = some .cell ∧ ((cellsFrom (s.heap.objs.size + 1) scope.names []).lookup y.1).isSome = true) := fun ⟨n, v⟩ hy => by
    rcases Sc.par n (List.of_mem_zip hy).1 with q | q
    · exact .inl q
    · exact .inr ⟨q, PySem.W.cellsFrom_some _ _ _ (.inl q)⟩
  refine codeAny_call_generator hr.depth (KX _ _ lk) rfl Sc.co Sc.gen rfl (PySem.W.codeRec_of KX hcd) (hb _ _ _ _ ?_)
  refine wpAny_newFunctionEnv_cells Sc.kind hkind fun env he s1 z => ?_
  subst he
  have lim1 : s1.heap.NoLimit := lim.keeps z.toInCall.keep
  refine ⟨lim1, ?_⟩
  obtain ⟨h1, tk, es1, hk1⟩ := z.done
  have os1 : s1.os = s.os := by rw [es1]
  have gen1 : s1.gens = s.gens := by rw [es1]
  have lt1 : s.heap.objs.size < s1.heap.objs.size := z.toInCall.ns.lt
  have sz1 : s.heap.objs.size ≤ s1.heap.objs.size := Nat.le_of_lt lt1
  have kp1 : ∀ b o, s.heap.get? b = some o → s1.heap.get? b = some o := z.toInCall.keep
  have main : ∀ (go : Obj) (nm qn : Value) (tk2 : Nat), go.cls = .type "generator" → go.data = .fields #[.int s1.gens.size 0, nm, qn] → go.slots = #[] → (∀ h : Heap, (h.push go).get? h.objs.size = some go) →
      XMade P w (k + 1) outer H s E (.ref s1.heap.objs.size) { s1 with gens := s1.gens.push (.fresh (.func body (envOfC qual scope s.heap.objs.size f cdv))), toks := tk2, heap := s1.heap.push go } := by
    intro go nm qn tk2 hgc hgd0 hgs hgp
    have hgen : ∀ h : Heap, h.get? s1.heap.objs.size = some go → h.IsGen s1.heap.objs.size s1.gens.size := fun h e => ⟨go, nm, qn, e, hgc, hgd0, hgs⟩
    have hpushed : (s1.heap.push go).get? s1.heap.objs.size = some go := hgp _
    refine ⟨s1.heap.objs.size, s1.gens.size, _, rfl, sz1, ?_, hgen _ hpushed, Array.getElem?_push_size .., os1, ?_, lim1.keeps fun b o e => Heap.get?_push_of_some _ e, fun b o e => Heap.get?_push_of_some _ (kp1 b o e), ?_⟩
    · show _ < (s1.heap.push _).objs.size
      rw [Heap.size_push]; exact Nat.lt_succ_self _
    · exact AllBare.push (by rw [gen1]; exact e0.bare) rfl
    intro Aw pq s2 hrw hqw hfr hk2 hos hba hown
    have e0w : Env0 P w K mg base Aw outer s H := ⟨hfr, e0.mod, e0.bs, e0.bsz, e0.funs, e0.frf, e0.hok, e0.bare⟩
    have I1 : Inv (gcxOf P w K mg base N qual scope f cdv Aw outer s H E []) [] (start N vs) H s1 := inv_startG Sc hrw.hd e0w hl r z
    have kp2 : ∀ b o, s1.heap.get? b = some o → s2.heap.get? b = some o := fun b o e => hk2 b o (Heap.get?_push_of_some _ e)
    have I2 : Inv (gcxOf P w K mg base N qual scope f cdv Aw outer s H E []) [] (start N vs) H s2 :=
      I1.call' (ch := []) (hos.trans os1.symm) (Un.kept kp2) (I1.hok.kept kp2) hba fun b z => by simp at z
    have hea : s2.heap.get? s1.heap.objs.size = some go := hk2 s1.heap.objs.size go hpushed
    have hgd : ∀ v, go.data ≠ .cell v := fun v q => by rw [hgd0] at q; cases q
    have young : ∀ b, s1.heap.objs.size ≤ b → H b = none ∧ b ≠ s.heap.objs.size ∧ b ∉ frs outer := fun b hb => ⟨I1.hok.fresh hb, Nat.ne_of_gt (Nat.lt_of_lt_of_le lt1 hb), I1.nofs hb⟩
    have big : ∀ p ∈ pq, s1.heap.objs.size + 1 ≤ p.1 := fun p hp => by
      have := (hown p hp).2.2
      have e : ({ s1 with gens := s1.gens.push (.fresh (.func body (envOfC qual scope s.heap.objs.size f cdv))), toks := tk2, heap := s1.heap.push go } : Shared).heap.objs.size = s1.heap.objs.size + 1 := Heap.size_push _ _
      rwa [e] at this
    have Ia : Inv (gcxOf P w K mg base N qual scope f cdv Aw outer s H E ((s1.heap.objs.size, go) :: pq)) [] (start N vs) H s2 := by
      refine Inv.pinnedG I2 fun p hp => ?_
      rw [List.append_nil] at hp
      rcases List.mem_cons.mp hp with hp | hp
      · rw [hp]
        obtain ⟨y1, y2, y3⟩ := young s1.heap.objs.size (Nat.le_refl _)
        exact ⟨hea, y1, y2, y3, hgd⟩
      · obtain ⟨q1, q2, q3⟩ := hown p hp
        obtain ⟨y1, y2, y3⟩ := young p.1 (Nat.le_of_succ_le (big p hp))
        exact ⟨q1, y1, y2, y3, q2⟩
    have Ib : Inv (gcxP P w K mg base N qual scope f cdv Aw outer s H E ((s1.heap.objs.size, go) :: pq)) [] (start N vs) H s2 :=
      ⟨⟨Ia.ok.mod, Ia.ok.kind, Ia.ok.glob, Ia.ok.blt, Ia.ok.above, Ia.ok.inj, Ia.ok.has, Ia.ok.cab, Ia.ok.hd, Ia.ok.frames, Ia.ok.stk, Ia.ok.exf, Ia.ok.bs, Ia.ok.bsz, Ia.ok.noex, Ia.ok.exfs, Ia.ok.funs, Ia.ok.frf⟩, Ia.os, Ia.bare, Ia.base, Ia.loc, Ia.cell, Ia.free, Ia.freeC, Ia.pin, Ia.hok, Ia.len⟩
    refine seg_imp (R := fun n s₀ r s' => ((r = .ok (.ret .none) ∨ r = .ok .next) ∧ False) ∨ ∃ e, r = .error e ∧ s'.heap.IsGen s1.heap.objs.size s1.gens.size ∧ CXp P w outer H s E pq e s') (Y := NY (gcxP P w K mg base N qual scope f cdv Aw outer s H E ((s1.heap.objs.size, go) :: pq)) (fun _ => []) (fun _ _ => True) FNo) (fun n s₀ r s' q => q) (fun n s₀ v s' kap kap' hkk hY => ?_) sizeLine ?_
    · obtain ⟨_, _, _, _, _, _, _, _, _, q4, _⟩ := hY
      exact q4
    · refine seg_func ?_
      refine (hbody Aw s ((s1.heap.objs.size, go) :: pq) ((hrw.mono (Nat.le_refl _)).deeper _) (gd_deeper hqw)).run Aw (fun _ => []) (fun _ _ => True) [] _ sizeLine [] s2 _ [] _ _ id id s2 (start N vs) H _ ⟨over_func, rfl, rfl, rfl⟩ rfl trivial ⟨fun n ys s₀ s' fl hn hr' q => ?_, fun n s₀ e s' q => ?_⟩ ⟨Ib, fun p hp => by simp at hp⟩ ht
      · cases fl with
        | next => obtain ⟨_, _, _, q⟩ := q; exact q.elim
        | brk => obtain ⟨_, _, _, q⟩ := q; exact q.elim
        | cont => obtain ⟨_, _, _, q⟩ := q; exact q.elim
        | ret u => obtain ⟨_, _, _, _, _, q⟩ := q; exact q.elim
      · refine seg_wrap ?_
        rw [over_func]
        refine wpAny_mono (show wpAny (model P w) (Aw.deeper (envOfC qual scope s.heap.objs.size f cdv)) (leaving (envOfC qual scope s.heap.objs.size f cdv) e) (fun _ s2 => CXp P w outer H s E ((s1.heap.objs.size, go) :: pq) e s2) (fun _ _ => False) s' from q) (fun _ s3 q => ?_) fun _ s3 q => q.elim
        obtain ⟨a, B, H', cls, d, q0, q1, q2, q3, q4, q5, q6, q7, q8⟩ := q
        exact seg_end (.error e) (.inr ⟨e, rfl, hgen _ (q1.1 _ _ (q8 _ List.mem_cons_self).1), a, B, H', cls, d, q0, q1, q2, q3, q4, q5, q6, q7, fun p hp => q8 p (List.mem_cons_of_mem _ hp)⟩)
  exact main _ _ _ _ rfl rfl rfl fun h => Heap.get?_push_size _ rfl
end
end T5
namespace T5
open PySem PySem.Spec PyProof.Rows L2 GenW
/-! ### a comprehension over a generator whose first turn raises -/
theorem comp_raise {M : Model} {A : Around} {E : Value → Shared → Prop} {s : Shared} {env : Env} {e : Expr} {scope : Scope} {pos : Pos} {newAcc first : Sem Value} {g : Comprehension} {gs : List Comprehension} {cl : List (Str × Addr)} {use : Option (Value → Sem Unit)} {Q : Value → Shared → Prop}
    (hcl : clausesOf e = g :: gs) (hs : ∀ x, foldedSetIterable g.iter env x = pure x) (hclos : closureFor scope env = pure cl) (hkind : scope.kind = .function) (hnames : ∀ x ∈ scope.names, x.2 = .local → scope.names.lookup x.1 = some .local)
    (h : wpAny M A first (fun x s1 => wpAny M A (pyIter x) (fun it s2 => wpAny M A newAcc (fun acc s3 => wpAny M A (newFunctionEnv scope env.globals cl [] env.qual none .none (some env)) (fun cenv s4 =>
      codeAny M A (.compStart e 0 it acc { cenv with scope := relabel scope env }) (fun r s' => ∃ x, r = .error x ∧ ∃ m, s'.heap.Ns cenv.locals m ∧ ∀ h', Heap.SameBut cenv.locals s'.heap h' → wpAny M A (passOn "comprehension.variables-let-go" x { cenv with scope := relabel scope env } : Sem Value) (fun _ _ => False) E { s' with heap := h' }) s4) E s3) E s2) E s1) E s) :
    wpAny M A (comprehension e scope env pos newAcc false first use) Q E s := by
  unfold comprehension
  rw [hclos, hcl]
  refine wpAny_bind (thn h fun x s1 q1 => wpAny_bind (wpAny_standAt (wpAny_bind (wpAny_of_eq (hs x) (wpAny_bind (wpAny_holding (thn q1 fun it s2 q2 => ?_)))))))
  refine wpAny_standIf (wpAny_bind (thn q2 fun acc s3 q3 => wpAny_bind (wpAny_pure (wpAny_bind (thn q3 fun cenv s4 q4 => ?_)))))
  dsimp only
  have hv : ∀ x ∈ (scope.names.filter fun x => (x.2 == .local || x.2 == .cell) && x.1 != (".0" : Str)).reverse, x.2 = .local → Env.kindOf { cenv with scope := relabel scope env } x.1 = some .local := fun x hx hl => lookup_relabel_local (hnames x (List.mem_filter.mp (List.mem_reverse.mp hx)).1 hl)
  refine wpAny_holding (wpAny_bind (wpAny_attempt (wpAny_holding (wpAny_run (codeAny_mono q4 fun r s' hr => ?_)))))
  obtain ⟨x, rfl, m, hn, hr⟩ := hr
  refine wpAny_bind (wpAny_holding (wpAny_comp_letGo (cenv := { cenv with scope := relabel scope env }) hkind _ s' m hv hn fun h' m' _ hs' => ?_))
  exact wpAny_mono (hr h' hs') (fun _ _ f => f.elim) fun _ _ y => y
section
variable {X : Cx} {pins : List (Addr × Obj)} {σ : L2.St} {H H1 : Hp} {s s1 s2 : Shared} {scope : Scope} {own : List (Str × Nat)} {k : Nat} {tgt : Expr} {q1 q2 pos : Pos} {elt iter : Expr} {u : Value} {W : WX} {use : Option (Value → Sem Unit)}
/-- what is asked of such a comprehension: the generator's promise raises -/
def tLcX (W : WX) (N : List Str) (n : Nat) (ta : TA) (t : NT) : TE := fun σ H Q => ta σ H fun vs H1 => vs.length = n ∧ t { nx := fun _ _ _ => False, rt := fun _ _ _ => False } [] (start N vs) H1
theorem lcX_core {fn qual nm : Str} {pa : Arguments} {sg : Scope} {f : Addr} {fd : FuncData} {N ps : List Str} {p cpos : Pos} {e : Expr} {es : List Expr} {body : List Stmt} {pos' : Pos} {ta : TA} {t : NT} {Qf : Value → Shared → Prop} {Q : VK} (hc : X.calm = true) (ok : BlkOk X.N X.env.scope scope own)
    (F : FunD X.K nm qual pa body sg [] [] f fd) (Sc : GScope N ps sg) (hb : Binds X.K fd ps [])
    (hbody : ∀ (cdv : Value) (A : Around) (s : Shared) (H : Hp) (pn : List (Addr × Obj)), codeV X.K f = cdv → Room k (A.deeper (envOfC qual sg s.heap.objs.size f cdv)) → Gd (A.deeper (envOfC qual sg s.heap.objs.size f cdv)) → NSs (gcxP X.prog X.w X.K X.mg X.base N qual sg f cdv A X.stack s H (fun cls d H' => W cls d σ H') pn) FNo body t)
    (hr : Room (k + 2) X.A) (hq : Gd X.A) (hg : Gl X fn) (hm : X.mg fn = some (.ref f)) (ha : PA X (e :: es) ta) (hdf : (fn == ("__debug__" : Str)) = false := by decide)
    (he : starEach (e :: es) X.env = (false, eval e X.env) :: starEach es X.env := by rfl) (hpl : (backTo cpos (starEach es X.env)).any (·.1) = false := by rfl) (hs : ∀ x, foldedSetIterable (.Call (.Name fn p) (e :: es) [] cpos) X.env x = pure x := by intro _; rfl)
    (I : Inv X pins σ H s) (h : tLcX W N ps.length ta t σ H Q) (tk : Takes X W) (hstk : X.stack = X.env :: X.outer) (hfr : X.env.frame = some X.env.locals) (hns : ∀ cls d H', W cls d σ H' → PySem.W.subIn X.K cls (.type "StopIteration") = some false) :
    wpAny (model X.prog X.w) X.A (comprehension (.ListComp elt [⟨tgt, .Call (.Name fn p) (e :: es) [] cpos, [], 0⟩] scope pos) scope X.env pos' (newList []) false (eval (.Call (.Name fn p) (e :: es) [] cpos) X.env) use) Qf X.xe s := by
  have hfree : ∀ y ∈ scope.names, y.2 = .free → ∃ c, X.env.cells.lookup y.1 = some c := fun y hy e => by
    rcases ok.free y hy e with k | k
    · exact I.ok.has _ (.inl k)
    · exact I.ok.has _ (.inr k)
  refine comp_raise (use := use) rfl hs (closure_ok hfree) ok.kind (fun y hy e => by rw [ok.uniq y hy, e]) ?_
  refine wpAny_Call_Name_kw (ld_glob I hg hm ?_ hdf)
  refine PySem.W.callWith_K (h₀ := X.base) I.ok.mod.kin F.kp (thn (ha.run cpos pins s σ H _ I h) fun us s1 ⟨vs, H1, I1, r, hl, q⟩ => ⟨I1.kIn, ?_⟩) he hpl
  obtain ⟨oc, od, dV, kV, doc, pm, an, cdv, ct, osl, rfl, lk, hcd, _, _⟩ := F.ex
  have bb := hb s1 us I1.kIn (by rw [List.append_nil, ← r.length, hl])
  rw [List.append_nil] at bb
  refine wpAny_call (codeAny_mono (nx_call (k := k) (args := ⟨us, []⟩) (E := fun cls d H' => W cls d σ H') lk hcd Sc (fun A s pn => hbody cdv A s H1 pn (by unfold codeV; rw [lk])) q (hr.mono (Nat.le_succ _)) hq I1.env0 bb r hl) fun res t' hres => ?_)
  cases res with
  | error er => exact hres.elim
  | ok fl =>
    cases fl with
    | next => exact hres.elim
    | brk => exact hres.elim
    | cont => exact hres.elim
    | ret u =>
      obtain ⟨a, g, c, rfl, ha1, ha2, hgen, hgs, hos, hbr, hlim, hkp, wake⟩ := hres
      refine wpAny_pyIter_gen hgen ?_
      refine wpAny_newObj_type (newEnv_comp ?_) (by show 0 ≤ sizeLine; decide)
      generalize hs3 : ({ t' with heap := t'.heap.push { cls := .type "list", data := .seq ([] : List Value).toArray } } : Shared) = s3
      have h3 : s3.heap = t'.heap.push { cls := .type "list", data := .seq ([] : List Value).toArray } := by rw [← hs3]
      have e3 : s3.heap.objs.size = t'.heap.objs.size + 1 := by rw [h3, Heap.size_push]
      have kp3 : ∀ b o, t'.heap.get? b = some o → s3.heap.get? b = some o := fun b o e => by rw [h3]; exact Heap.get?_push_of_some _ e
      generalize hcl : cellsFrom (s3.heap.objs.size + 1) scope.names (cloFrom X.env.cells scope.names []) = cl
      show codeAny _ _ (.compStart (.ListComp elt [⟨tgt, .Call (.Name fn p) (e :: es) [] cpos, [], 0⟩] scope pos) 0 (.ref a) (.ref t'.heap.objs.size) (compEnvC scope cl s3.heap.objs.size X.env)) (fun r s' => ∃ x, r = .error x ∧ ∃ m, s'.heap.Ns s3.heap.objs.size m ∧ ∀ h', Heap.SameBut s3.heap.objs.size s'.heap h' → wpAny (model X.prog X.w) X.A (passOn "comprehension.variables-let-go" x (compEnvC scope cl s3.heap.objs.size X.env) : Sem Value) (fun _ _ => False) X.xe { s' with heap := h' }) { s3 with heap := pushCells (s3.heap.push { cls := .type "dict", data := .dict #[] }) scope.names }
      have kp4 : ∀ b o, s3.heap.get? b = some o → (pushCells (s3.heap.push { cls := .type "dict", data := .dict #[] }) scope.names).get? b = some o := fun b o e => pushCells_keeps _ _ _ _ (Heap.get?_push_of_some _ e)
      have kp : ∀ b o, t'.heap.get? b = some o → (pushCells (s3.heap.push { cls := .type "dict", data := .dict #[] }) scope.names).get? b = some o := fun b o e => kp4 b o (kp3 b o e)
      have g3 : s3.gens = t'.gens := by rw [← hs3]
      have o3 : s3.os = t'.os := by rw [← hs3]
      have sz : s1.heap.objs.size ≤ t'.heap.objs.size := Nat.le_trans ha1 (Nat.le_of_lt ha2)
      have hC : (pushCells (s3.heap.push { cls := .type "dict", data := .dict #[] }) scope.names).get? s3.heap.objs.size = some { cls := .type "dict", data := .dict #[] } := pushCells_keeps _ _ _ _ (Heap.get?_push_size _ rfl)
      have hNs : ∀ h : Heap, h.get? s3.heap.objs.size = some { cls := .type "dict", data := .dict #[] } → h.Ns s3.heap.objs.size (fun _ => none) := fun h eh => (Heap.Ns.new s3.heap (.type "dict")).at' fun o eo => by
        rw [Heap.get?_push_size _ rfl] at eo
        cases eo
        exact eh
      have hCsz : s1.heap.objs.size ≤ s3.heap.objs.size := by rw [e3]; exact Nat.le_succ_of_le sz
      have seg := wake X.A.in1 [(s3.heap.objs.size, { cls := .type "dict", data := .dict #[] })] (({ s3 with heap := pushCells (s3.heap.push { cls := .type "dict", data := .dict #[] }) scope.names } : Shared).setGen g .running) hr.in1 hq I1.ok.frames kp (o3.trans hos) (allBare_setGen (by rw [g3]; exact hbr) rfl) (fun pp hpp => by
        rw [List.mem_singleton.mp hpp]
        exact ⟨hC, fun v z => (by cases z), by rw [e3]; exact Nat.le_succ _⟩)
      have loop : codeAny (model X.prog X.w) X.A (.compLoop (.ListComp elt [⟨tgt, .Call (.Name fn p) (e :: es) [] cpos, [], 0⟩] scope pos) 0 (.ref a) (.ref t'.heap.objs.size) (compEnvC scope cl s3.heap.objs.size X.env)) (fun r s' => ∃ x, r = .error x ∧ ∃ m, s'.heap.Ns s3.heap.objs.size m ∧ ∀ h', Heap.SameBut s3.heap.objs.size s'.heap h' → wpAny (model X.prog X.w) X.A (passOn "comprehension.variables-let-go" x (compEnvC scope cl s3.heap.objs.size X.env) : Sem Value) (fun _ _ => False) X.xe { s' with heap := h' }) { s3 with heap := pushCells (s3.heap.push { cls := .type "dict", data := .dict #[] }) scope.names } := by
        refine compLoop_any (fun _ s' => s' = ({ s3 with heap := pushCells (s3.heap.push { cls := .type "dict", data := .dict #[] }) scope.names } : Shared)) ?_ 0 rfl
        rintro n s' rfl
        refine next_genG (A := X.A) (n := sizeLine) (gs := .fresh c) (F := fun _ _ _ => False) (Er := fun e s => s.heap.IsGen a g ∧ CXp X.prog X.w X.stack H1 s1 (fun cls d H' => W cls d σ H') [(s3.heap.objs.size, { cls := .type "dict", data := .dict #[] })] e s) (Y := fun _ _ _ _ _ => False) hr.hd (hlim.keeps kp) hr.depth (hgen.keeps kp) (by show s3.gens[g]? = _; rw [g3]; exact hgs) ⟨rfl, seg⟩ (fun v s₁ gs' _ hv => hv.elim) (fun s₁ hp' h' hk' => hp'.elim) fun er s₁ he => ⟨he.1, ?_, ?_⟩
        · obtain ⟨_, a0, B, H', cls, d, q0, q1, q2, q3, q4, q5, q6, q7, q8⟩ := he
          refine notStop_of (K := X.K) (E := fun cls d H' => W cls d σ H') (fun cls d H' z => hns cls d H' z) (I1.ok.mod.kin.keeps fun b o eb => ?_) ⟨a0, B, H', cls, d, q0, q1, q2, q3, q4, q5, q6, q7⟩
          obtain ⟨k1, k2⟩ := I1.bs b o eb
          refine q1.1 b o (q3.keep b o k1 k2 fun hm => ?_)
          rcases List.mem_cons.mp (I1.stkSub b hm) with z | z
          · exact absurd (Nat.lt_of_lt_of_le (z ▸ Heap.lt_size eb) (Nat.le_trans I1.ok.bsz I1.ok.above)) (Nat.lt_irrefl _)
          · exact I1.ok.nofr eb z
        · obtain ⟨_, a0, B, H', cls, d, q0, q1, q2, q3, q4, q5, q6, q7, q8⟩ := he
          have c0 : CXp X.prog X.w X.stack H1 s1 (fun cls d H' => W cls d σ H') [(s3.heap.objs.size, { cls := .type "dict", data := .dict #[] })] er (s₁.setGen g .finished) := ⟨a0, B, H', cls, d, q0, q1, q2, q3, q4, q5, allBare_setGen q6 rfl, q7, q8⟩
          exact wpAny_mono (err_passes (cenv := compEnvC scope cl s3.heap.objs.size X.env) tk I1 hCsz hstk hfr rfl (List.mem_singleton.mpr rfl) hNs c0) (fun _ s9 q => ⟨er, rfl, q⟩) fun _ _ q => q
      exact codeAny_compStart_list loop (wpAny_pyIter_gen (hgen.keeps kp) loop)
end
end T5
namespace T5
open PySem PySem.Spec PyProof.Rows L2 GenW
variable [TabC]
/-! ### meanings: a comprehension over a generator whose first turn raises -/
def nBad : MN := fun _ _ _ => .bad
def eLcX (cs : List String) (m : MGn) (ma : MA) : ME := fun env st => (ma env st).bind fun ds st1 => match m ds st1 with
  | .ex c ks vs st2 => if cs.contains c = true then .ex c ks vs st2 else .bad
  | _ => .bad
theorem sns_bad {X : Cx} {F : ItF} {ss : List Stmt} : SNs X F ss nBad := fun pn xe W _ _ => ⟨fun A own Rec ip R n ys s₀ c fs K J gd lv s σ H D g hn hr k hI ht => by
  obtain ⟨_, _, _, _, _, _, _, q⟩ := ht
  exact q.elim⟩
section
variable {X : Cx} {k : Nat} {f : Addr} {m : MGn} {mn : MN} {ma : MA} {N ps : List Str} {cs : List String}
theorem lcX_of {K : PySem.W.Frag} {mg : Str → Option Value} {W : WX} {σ : L2.St} {H : Hp} {Q : VK} {S : Value → Prop} (hst : ∀ c ∈ cs, ∀ C, mg (Str.ofString c) = some (.ref C) → S (.ref C)) (h : tM K mg W (eLcX cs (runN N.length ps.length mn) ma) σ H Q) :
    tLcX (fun cls d σ H => W cls d σ H ∧ S cls) N ps.length (tMA K mg W ma) (tNM K mg (fun cls d _ H' => W cls d σ H' ∧ S cls) mn) σ H Q := by
  refine tMA_run h fun ds vs μ env st H1 r re hd a => ?_
  unfold runN at a
  by_cases hl : ds.length = ps.length
  · rw [if_pos hl, ← hl] at a
    refine ⟨hd.length.symm.trans hl, μ, _, st, [], r, renv_start hd, .nil, ?_⟩
    cases e : mn (ds.map some ++ List.replicate (N.length - ds.length) none) st [] with
    | bad => rw [e] at a; exact a.elim
    | nx => rw [e] at a; exact a.elim
    | ex c ks us e1 st2 =>
      rw [e] at a
      have a : Aft K mg W σ μ H1 (if cs.contains c = true then (.ex c ks us st2 : R D) else .bad) fun d _ μ' H' => ∀ v, Rep K mg μ' H' d v → Q v H' := a
      by_cases hc : cs.contains c = true
      · rw [if_pos hc] at a
        exact fun μ' H' σ' C dx vs' x r' _ hm hl' hH hdx hr => ⟨a μ' H' C dx vs' x r' hm hl' hH hdx hr, hst c (by simpa using hc) C hm⟩
      · rw [if_neg hc] at a
        exact a.elim
  · rw [if_neg hl] at a
    exact a.elim
theorem se_lcX {scope : Scope} {own : List (Str × Nat)} {fn : Str} {p cpos pos : Pos} {tgt e elt : Expr} {es : List Expr} (hc : X.calm = true) (ok : BlkOk X.N X.env.scope scope own) (hst : ∀ c ∈ cs, ∀ C, X.mg (Str.ofString c) = some (.ref C) → PySem.W.subIn X.K (.ref C) (.type "StopIteration") = some false)
    (G : GnN X.prog X.w X.K X.mg X.base k f FNo m) (hr : Room (k + 2) X.A) (hq : Gd X.A) (hstk : X.stack = X.env :: X.outer) (hfr : X.env.frame = some X.env.locals) (hg : Gl X fn) (hm : X.mg fn = some (.ref f)) (ha : SA X (e :: es) ma) (hdf : (fn == ("__debug__" : Str)) = false := by decide)
    (he : starEach (e :: es) X.env = (false, eval e X.env) :: starEach es X.env := by rfl) (hpl : (backTo cpos (starEach es X.env)).any (·.1) = false := by rfl) (hs : ∀ x, foldedSetIterable (.Call (.Name fn p) (e :: es) [] cpos) X.env x = pure x := by intro _; rfl) :
    SE X (.ListComp elt [⟨tgt, .Call (.Name fn p) (e :: es) [] cpos, [], 0⟩] scope pos) (eLcX cs m ma) := fun pn xe W tk => by
  obtain ⟨nm, qual, pa, body, sg, fd, N, ps, mn, FD, Sc, hb, hbody, rfl⟩ := G.ex
  refine ⟨fun pins s σ H Q I h => ?_⟩
  rw [eval_ListComp]
  refine lcX_core (X := X.tr pn xe) (k := k) (W := fun cls d σ H => W cls d σ H ∧ PySem.W.subIn X.K cls (.type "StopIteration") = some false) (t := tNM X.K X.mg (fun cls d _ H' => W cls d σ H' ∧ PySem.W.subIn X.K cls (.type "StopIteration") = some false) mn) hc ok FD Sc hb
    (fun cdv A s H pn' h1 h2 h3 => hbody cdv A X.stack s H (fun cls d H' => W cls d σ H' ∧ PySem.W.subIn X.K cls (.type "StopIteration") = some false) h1 h2 h3 pn' _ _ takes_gcxP (owns_gcxP (K := X.K) (mg := X.mg) (base := X.base) (N := N))) hr hq hg hm (ha pn xe W tk) hdf he hpl hs I (lcX_of (S := fun cls => PySem.W.subIn X.K cls (.type "StopIteration") = some false) hst h) (tk.imp fun _ _ _ _ z => z.1) hstk hfr fun _ _ _ z => z.2
end
end T5
namespace T5
open PySem PySem.Spec PyProof.Rows L2 GenW
/-! ### list(zip([], a generator that has not begun)) -/
theorem zip_no_len : typeLookup (.type "zip") "__len__" = pure none := by rw [typeLookup_type, builtinLookup_eq_fast]; kernel_rfl
theorem zip_no_hint : typeLookup (.type "zip") "__length_hint__" = pure none := by rw [typeLookup_type, builtinLookup_eq_fast]; kernel_rfl
section
variable {prog : Program} {w : World} {A : Around} {E : Value → Shared → Prop} {s : Shared}
theorem zipG_next_end {z TI TO i1 i2 l1 : Addr} {k1 : Nat} {xs : Array Value} {a b : Value} {Q : Fin → Shared → Prop} (hh : A.handled = none) (Dz : i1 ≠ z) (Dl : l1 ≠ z)
    (hz : IsZip s.heap z TI TO .none) (hTI : IsPair s.heap TI (.ref i1) (.ref i2)) (hTO : IsPair s.heap TO a b)
    (h1 : s.heap.IsListIter i1 l1 k1) (hl1 : s.heap.IsList l1 xs) (hx : xs[k1]? = none)
    (hE : ∀ h' e, (∀ c o, c ≠ z → c ≠ i1 → s.heap.get? c = some o → h'.get? c = some o) → (∃ o, h'.get? e = some o ∧ o.cls = .type "StopIteration") → E (.ref e) { s with heap := h' }) :
    wpAny (model prog w) A (Builtin.«zip.__next__» ⟨[.ref z], []⟩) Q E s := by
  show wpAny _ _ (field (.ref z) 2 >>= _) _ _ _
  refine wpAny_bind (wpAny_field hz rfl (x := .bool false) rfl ?_)
  show wpAny _ _ (field (.ref z) 3 >>= _) _ _ _
  refine wpAny_bind (wpAny_field hz rfl (x := .ref TI) rfl ?_)
  refine wpAny_bind (wpAny_seqItems hTI rfl ?_)
  show wpAny _ _ (Builtin.SmallTypes.ownedTupleIsFree (.ref z) >>= _) _ _ _
  refine wpAny_bind ?_
  unfold Builtin.SmallTypes.ownedTupleIsFree
  refine wpAny_bind (wpAny_field hz rfl (x := .none) rfl (wpAny_pure ?_))
  simp only [if_true]
  refine wpAny_bind (wpAny_rule ?_)
  refine wpAny_bind (wpAny_field hz rfl (x := .ref TO) rfl ?_)
  refine wpAny_bind (wpAny_setField_rec hz (by simp) fun h₁ hz₁ hs₁ => ?_)
  replace hz₁ : IsZip h₁ z TI TO .ellipsis := hz₁
  refine wpAny_bind ?_
  simp only [List.zipIdx_cons, List.zipIdx_nil, List.forIn_cons, List.forIn_nil]
  refine wpAny_bind (wpAny_bind (wpAny_onRaise ?_))
  show wpAny _ _ (Builtin.SmallTypes.nextOf (.ref i1) >>= _) _ _ _
  refine wpAny_bind (wpAny_nextOf_list_end hh (h1.extBut hs₁.extBut Dz) (hl1.extBut hs₁.extBut Dl) hx fun h₂ e hs₂ he => ?_)
  obtain ⟨oe, hoe, hce⟩ := he
  have hz₂ : IsZip h₂ z TI TO .ellipsis := hs₂ _ _ Dz.symm hz₁
  have hez : e ≠ z := fun x => by subst x; rw [hz₂] at hoe; cases hoe; simp at hce
  refine wpAny_setField_rec hz₂ (by simp) fun h₃ _ hs₃ => hE h₃ e (fun c o c1 c3 x => hs₃.extBut _ _ c1 (hs₂ _ _ c3 (hs₁.extBut _ _ c1 x))) ⟨oe, hs₃.extBut _ _ hez hoe, hce⟩
theorem pyNext_zipG_end {z TI TO i1 i2 l1 : Addr} {k1 : Nat} {xs : Array Value} {a b : Value} {Q : Option Value → Shared → Prop} (hh : A.handled = none) (Dz : i1 ≠ z) (Dl : l1 ≠ z)
    (hz : IsZip s.heap z TI TO .none) (hTI : IsPair s.heap TI (.ref i1) (.ref i2)) (hTO : IsPair s.heap TO a b)
    (h1 : s.heap.IsListIter i1 l1 k1) (hl1 : s.heap.IsList l1 xs) (hx : xs[k1]? = none)
    (hQ : ∀ h', (∀ c o, c ≠ z → c ≠ i1 → s.heap.get? c = some o → h'.get? c = some o) → Q none { s with heap := h' }) : wpAny (model prog w) A (pyNext (.ref z)) Q E s := by
  have hT : s.TypeIs (.ref z) "zip" := ⟨_, hz, rfl⟩
  unfold pyNext
  refine wpAny_bind (wpAny_attempt (wpAny_callSpecial?_slot (name := Str.ofString "__next__") hT F.slot_zip_next
    (wpAny_call_entry F.slot_zip_next hT F.entry_zip_next (zipG_next_end hh Dz Dl hz hTI hTO h1 hl1 hx fun h' e hk he => ?_) (F.args_zip_next_1 _))))
  obtain ⟨o, ho, hc⟩ := he
  refine wpAny_bind (wpAny_isInstance (T := "StopIteration") (b := true) ⟨o, ho, hc⟩ isSubtype_stop ?_)
  exact wpAny_pure (hQ _ hk)
end
abbrev zgH1 (h : Heap) (l1 : Addr) : Heap := h.push { cls := .type "list_iterator", data := .fields #[.ref l1, .int 0 0] }
abbrev zgH2 (h : Heap) (l1 a : Addr) : Heap := (zgH1 h l1).push { cls := .type "tuple", data := .seq #[.ref h.objs.size, .ref a] }
abbrev zgH3 (h : Heap) (l1 a : Addr) : Heap := (zgH2 h l1 a).push { cls := .type "tuple", data := .seq #[.none, .none] }
abbrev zgH4 (h : Heap) (l1 a : Addr) : Heap := (zgH3 h l1 a).push { cls := .type "zip", data := .fields #[.none, .bool false, .bool false, .ref (zgH1 h l1).objs.size, .ref (zgH2 h l1 a).objs.size] }
theorem IsGen.push1 {h : Heap} {a g : Nat} {o : Obj} (hg : h.IsGen a g) : (h.push o).IsGen a g := hg.keeps fun b o e => Heap.get?_push_of_some _ e
theorem meets_zipG_new (l1 a : Addr) (g : Nat) (xs : Array Value) :
    Meets (Builtin.«zip.__new__» ⟨[.type "zip", .ref l1, .ref a], []⟩) (fun _ R s => s.heap.IsList l1 xs ∧ s.heap.IsGen a g ∧
      R (.ok (.ret (.ref (zgH3 s.heap l1 a).objs.size))) { s with heap := zgH4 s.heap l1 a }) :=
  .of_wp fun prog w A R s h => by
    obtain ⟨hp, gs, d, tk, os⟩ := s; obtain ⟨hl1, hl2, h⟩ := h
    have hsub := sub_zip
    have hL1 : Heap.IsList (Shared.heap ⟨hp, gs, d, tk, os⟩) l1 xs := hl1
    have hL2 : Heap.IsGen (Shared.heap ⟨hp.push { cls := .type "list_iterator", data := .fields #[.ref l1, .int 0 0] }, gs, d, tk, os⟩) a g := IsGen.push1 hl2
    wp_walk using wpAny_pyIter_list hL1, wpAny_pyIter_gen hL2
    exact ⟨_, rfl, h⟩
section
variable {prog : Program} {w : World} {A : Around} {E : Value → Shared → Prop} {s : Shared}
theorem call_zipG {l1 a : Addr} {g : Nat} {xs : Array Value} {Q : Value → Shared → Prop} (hl1 : s.heap.IsList l1 xs) (hg : s.heap.IsGen a g)
    (h : ∀ h', IsZip h' (s.heap.objs.size + 3) (s.heap.objs.size + 1) (s.heap.objs.size + 2) .none → IsPair h' (s.heap.objs.size + 1) (.ref s.heap.objs.size) (.ref a) →
      IsPair h' (s.heap.objs.size + 2) .none .none → h'.IsListIter s.heap.objs.size l1 0 → h'.objs.size = s.heap.objs.size + 4 →
      (∀ c o, s.heap.get? c = some o → h'.get? c = some o) → Q (.ref (s.heap.objs.size + 3)) { s with heap := h' }) :
    wpAny (model prog w) A (call (.type "zip") [.ref l1, .ref a]) Q E s := by
  refine callType_new F.called_zip (by decide) (F.typeCall_zip_2 _ _) (F.newCall_zip_2 _ _) (fun obj => F.args_object_init_3 obj _ _) F.entry_zip_new
    (meets_zipG_new l1 a g xs) ⟨hl1, hg, ?_⟩
  have z1 : (zgH1 s.heap l1).objs.size = s.heap.objs.size + 1 := Heap.size_push ..
  have z2 : (zgH2 s.heap l1 a).objs.size = s.heap.objs.size + 2 := by rw [Heap.size_push, z1]
  have z3 : (zgH3 s.heap l1 a).objs.size = s.heap.objs.size + 3 := by rw [Heap.size_push, z2]
  have z4 : (zgH4 s.heap l1 a).objs.size = s.heap.objs.size + 4 := by rw [Heap.size_push, z3]
  have g4 : (zgH4 s.heap l1 a).get? (zgH3 s.heap l1 a).objs.size = some _ := Heap.get?_push_size _ rfl
  have g3 : (zgH4 s.heap l1 a).get? (zgH2 s.heap l1 a).objs.size = some _ := Heap.get?_push_of_some _ (Heap.get?_push_size _ rfl)
  have g2 : (zgH4 s.heap l1 a).get? (zgH1 s.heap l1).objs.size = some _ := Heap.get?_push_of_some _ (Heap.get?_push_of_some _ (Heap.get?_push_size _ rfl))
  have g1 : (zgH4 s.heap l1 a).get? s.heap.objs.size = some _ := Heap.get?_push_of_some _ (Heap.get?_push_of_some _ (Heap.get?_push_of_some _ (Heap.get?_push_size _ rfl)))
  show _ ∧ _
  rw [z1, z2, z3] at g4
  rw [z2] at g3
  rw [z1] at g2
  rw [z3]
  exact ⟨⟨_, g4, rfl⟩, h _ g4 g2 g3 ⟨_, g1, rfl, rfl⟩ z4 fun c o x =>
    Heap.get?_push_of_some _ (Heap.get?_push_of_some _ (Heap.get?_push_of_some _ (Heap.get?_push_of_some _ x)))⟩
end
end T5
namespace T5
open PySem PySem.Spec PyProof.Rows L2 GenW
/-! ### list of such a zip -/
theorem call_list_zipG {P : Program} {w : World} {A : Around} {s : Shared} {z TI TO i1 i2 l1 : Addr} {a b : Value} {Q : Value → Shared → Prop} {E : Value → Shared → Prop} (hh : A.handled = none) (Dz : i1 ≠ z) (Dl : l1 ≠ z)
    (hz : IsZip s.heap z TI TO .none) (hTI : IsPair s.heap TI (.ref i1) (.ref i2)) (hTO : IsPair s.heap TO a b) (h1 : s.heap.IsListIter i1 l1 0) (hl1 : s.heap.IsList l1 #[])
    (hQ : ∀ s' acc c, s'.heap.get? s.heap.objs.size = some (lstObj acc c) → acc = #[] → s'.os = s.os → s'.gens = s.gens → (∀ c o, c ≠ z → c ≠ i1 → s.heap.get? c = some o → s'.heap.get? c = some o) → Q (.ref s.heap.objs.size) s') :
    wpAny (model P w) A (call (.type "list") [.ref z]) Q E s := by
  have hzl : z < s.heap.objs.size := Heap.lt_size hz
  have hSz : s.heap.objs.size ≠ z := Nat.ne_of_gt hzl
  have hSi : s.heap.objs.size ≠ i1 := by obtain ⟨_, e1, _⟩ := h1; exact Nat.ne_of_gt (Heap.lt_size e1)
  have hSl : s.heap.objs.size ≠ l1 := by obtain ⟨_, e1, _⟩ := hl1; exact Nat.ne_of_gt (Heap.lt_size e1)
  refine callType_codes (Q₁ := fun obj s₁ => obj = .ref s.heap.objs.size ∧ s₁ = { s with heap := s.heap.push { cls := .type "list", data := .seq #[] } }) F.called_list (F.typeCall_list_1 _) F.entry_list_init
    (code_list_new _ ⟨rfl, rfl⟩) fun obj s₁ h₁ => ?_
  obtain ⟨rfl, rfl⟩ := h₁
  have hS : (s.heap.push { cls := .type "list", data := .seq #[] }).get? s.heap.objs.size = some { cls := .type "list", data := .seq #[] } := Heap.get?_push_size _ rfl
  refine ⟨⟨_, hS, rfl⟩, F.args_list_init_2 _ _, ?_⟩
  show wpAny _ A.in1.in1 (do let old ← Builtin.List.listItems (.ref s.heap.objs.size); Builtin.List.listUpdate (.ref s.heap.objs.size) (fun _ => #[]); letGo old.toList.reverse; Builtin.List.listExtendWith (.ref s.heap.objs.size) (.ref z) .none) _ _ _
  refine wpAny_bind ?_
  unfold Builtin.List.listItems
  refine wpAny_bind (wpAny_seqItems hS rfl (wpAny_pure ?_))
  show wpAny _ A.in1.in1 (updateSeq s.heap.objs.size (fun _ => #[]) >>= fun _ => letGo (#[] : Array Value).toList.reverse >>= fun _ => Builtin.List.listExtendWith (.ref s.heap.objs.size) (.ref z) .none) _ _ _
  refine wpAny_bind (wpAny_updateSeq hS rfl ?_)
  have hS2 := Heap.get?_update_self (Obj.mapSeq (fun _ => (#[] : Array Value))) hS rfl
  refine wpAny_bind (wpAny_letGo ?_)
  unfold Builtin.List.listExtendWith
  have up : ∀ (h : Heap) (f : Obj → Obj), (∀ b o, s.heap.get? b = some o → h.get? b = some o) → ∀ b o, s.heap.get? b = some o → (h.update s.heap.objs.size f).get? b = some o := fun h f q b o e =>
    (Heap.get?_update_other _ _ (Ne.symm (Nat.ne_of_lt (Heap.lt_size e)))).trans (q b o e)
  have k1 : ∀ b o, s.heap.get? b = some o → (s.heap.push { cls := .type "list", data := .seq #[] }).get? b = some o := fun b o e => Heap.get?_push_of_some _ e
  have k2 := up _ (Obj.mapSeq (fun _ => (#[] : Array Value))) k1
  have zty : ∀ {h : Heap} {g : Array GenState} {d : Drawn} {t : Nat} {os}, (∀ b o, s.heap.get? b = some o → h.get? b = some o) → Shared.TypeIs ⟨h, g, d, t, os⟩ (.ref z) "zip" := fun q => ⟨_, q _ _ hz, rfl⟩
  refine wpAny_bind (wpAny_typeOf (zty k2) ?_)
  have h1' : Builtin.List.listSameRef (.ref s.heap.objs.size) (.ref z) = false := by simp [Builtin.List.listSameRef, hSz]
  have h2 : (Value.type "zip" == Value.type "list") = false := by decide
  have h3 : (Value.type "zip" == Value.type "tuple") = false := by decide
  simp only [h1', h2, h3, Bool.or_false, Bool.false_eq_true, if_false]
  refine wpAny_bind (wpAny_pyIter_zip (s := { s with heap := _ }) (k2 _ _ hz) ?_)
  refine wpAny_bind (wpAny_holding ?_)
  unfold Builtin.List.listLengthHint
  refine wpAny_bind (wpAny_specialOf (zty k2) zip_no_len ?_)
  show wpAny _ A.in1.in1 (specialOf (Value.ref z) (Str.ofString "__length_hint__") >>= _) _ _ _
  refine wpAny_bind (wpAny_specialOf (zty k2) zip_no_hint ?_)
  refine wpAny_pure ?_
  show wpAny _ A.in1.in1 (rule "list.extend.makes-room" >>= fun _ => Builtin.List.listTouch (.ref s.heap.objs.size) >>= fun _ =>
    again (.builtin "list.extend.loop" ⟨[.ref s.heap.objs.size, .ref z, .none], []⟩)) _ _ _
  refine wpAny_bind (wpAny_rule ?_)
  refine wpAny_bind ?_
  show wpAny _ A.in1.in1 (updateSeq s.heap.objs.size (·.push .none) >>= fun _ => updateSeq s.heap.objs.size (·.pop)) _ _ _
  refine wpAny_bind (wpAny_updateSeq hS2 rfl ?_)
  have hS3 := Heap.get?_update_self (Obj.mapSeq (·.push Value.none)) hS2 rfl
  refine wpAny_updateSeq (hz := by seq_fits) hS3 rfl ?_
  have hS4 := Heap.get?_update_self (Obj.mapSeq (·.pop)) hS3 rfl
  have k4 := up _ (Obj.mapSeq (·.pop)) (up _ (Obj.mapSeq (·.push Value.none)) k2)
  refine wpAny_pure ⟨plainId_quiet F.plain_extend_loop _, ?_⟩
  refine codeAny_builtin F.entry_extend_loop ?_
  rw [Around.under_plainId F.plain_extend_loop _]
  show wpAny _ _ (pyNext (.ref z) >>= _) _ _ _
  refine wpAny_bind (pyNext_zipG_end (k1 := 0) (xs := #[]) (i1 := i1) (TI := TI) (TO := TO) hh Dz Dl (k4 _ _ hz) (k4 _ _ hTI) (k4 _ _ hTO) (h1.at fun o e => k4 _ _ e) (by obtain ⟨ol, e1, e2⟩ := hl1; exact ⟨ol, k4 _ _ e1, e2⟩) rfl fun h' hk => ?_)
  refine wpAny_pure ⟨rfl, hQ _ _ _ (hk _ _ hSz hSi hS4) rfl rfl rfl fun c o c1 c2 e => hk c o c1 c2 (k4 c o e)⟩
end T5
namespace T5
open PySem PySem.Spec PyProof.Rows L2 GenW
/-! ### a generator is made and not begun; list(zip([], f(..))) -/
def UMade (sc : Shared) (u : Value) (s' : Shared) : Prop :=
  ∃ (a : Addr) (g : Nat), u = .ref a ∧ sc.heap.objs.size ≤ a ∧ s'.heap.IsGen a g ∧ s'.os = sc.os ∧ AllBare s'.gens ∧ (∀ b o, sc.heap.get? b = some o → s'.heap.get? b = some o)
section
variable {P : Program} {w : World} {K : PySem.W.Frag} {mg : Str → Option Value} {base : Heap} {N ps : List Str} {k : Nat} {f : Addr} {name qual : Str} {params : Arguments} {scope : Scope} {dV kV doc pm cdv ct oc : Value} {an od : Option Addr} {osl : Array (Option Value)} {body : List Stmt}
theorem u_call {A : Around} {outer : List Env} {s : Shared} {H : Hp} {args : Args} {us : List Value}
    (lk : K.lookup f = some ⟨oc, od, .func (PySem.W.fnOf name qual params body scope dV kV doc pm an cdv ct), osl⟩) (hcd : PySem.W.codeIn K cdv qual = true) (Sc : GScope N ps scope)
    (hr : Room (k + 1) A) (e0 : Env0 P w K mg base A outer s H) (hb : BindsTo s (PySem.W.fnOf name qual params body scope dV kV doc pm an cdv ct) args (ps.zip us)) :
    codeAny (model P w) A (.call (.ref f) args) (fun r s' => match r with | .ok (.ret u) => UMade s u s' | _ => False) s := by
  have KX : K.In s.heap := e0.mod.kin.keeps fun b o e => (e0.bs b o e).1
  have lim : s.heap.NoLimit := e0.mod.nolimit.keeps fun b o e => (e0.bs b o e).1
  have hkind : ∀ y ∈ ps.zip us, scope.names.lookup y.1 = some .local ∨ (scope.names.lookup y.1 = some .cell ∧ ((cellsFrom (s.heap.objs.size + 1) scope.names []).lookup y.1).isSome = true) := fun ⟨n, v⟩ hy => by
    rcases Sc.par n (List.of_mem_zip hy).1 with q | q
    · exact .inl q
    · exact .inr ⟨q, PySem.W.cellsFrom_some _ _ _ (.inl q)⟩
  refine codeAny_call_generator hr.depth (KX _ _ lk) rfl Sc.co Sc.gen rfl (PySem.W.codeRec_of KX hcd) (hb _ _ _ _ ?_)
  refine wpAny_newFunctionEnv_cells Sc.kind hkind fun env he s1 z => ?_
  subst he
  have lim1 : s1.heap.NoLimit := lim.keeps z.toInCall.keep
  refine ⟨lim1, ?_⟩
  obtain ⟨h1, tk, es1, hk1⟩ := z.done
  have os1 : s1.os = s.os := by rw [es1]
  have gen1 : s1.gens = s.gens := by rw [es1]
  have sz1 : s.heap.objs.size ≤ s1.heap.objs.size := Nat.le_of_lt z.toInCall.ns.lt
  have kp1 : ∀ b o, s.heap.get? b = some o → s1.heap.get? b = some o := z.toInCall.keep
  have main : ∀ (go : Obj) (nm qn : Value) (tk2 : Nat), go.cls = .type "generator" → go.data = .fields #[.int s1.gens.size 0, nm, qn] → go.slots = #[] → (∀ h : Heap, (h.push go).get? h.objs.size = some go) →
      UMade s (.ref s1.heap.objs.size) { s1 with gens := s1.gens.push (.fresh (.func body (envOfC qual scope s.heap.objs.size f cdv))), toks := tk2, heap := s1.heap.push go } := by
    intro go nm qn tk2 hgc hgd0 hgs hgp
    exact ⟨s1.heap.objs.size, s1.gens.size, rfl, sz1, ⟨go, nm, qn, hgp _, hgc, hgd0, hgs⟩, os1, AllBare.push (by rw [gen1]; exact e0.bare) rfl, fun b o e => Heap.get?_push_of_some _ (kp1 b o e)⟩
  exact main _ _ _ _ rfl rfl rfl fun h => Heap.get?_push_size _ rfl
end
section
variable {X : Cx} {k : Nat}
def tZipG (n : Nat) (ta : TA) : TE := fun σ H Q => ta σ H fun vs H1 => vs.length = n ∧ ∀ p, H1 p = none → Q (.ref p) (upd H1 p (.lst []))
theorem pe_zipG {fn qual nm : Str} {pa : Arguments} {sg : Scope} {f : Addr} {fd : FuncData} {N ps : List Str} {p p1 p2 pl zpos lpos cpos : Pos} {e : Expr} {es : List Expr} {body : List Stmt} {ta : TA} (hc : X.calm = true)
    (F : FunD X.K nm qual pa body sg [] [] f fd) (Sc : GScope N ps sg) (hb : Binds X.K fd ps [])
    (hr : Room (k + 1) X.A) (hg : Gl X fn) (hm : X.mg fn = some (.ref f)) (hgl : Gl X "list") (hml : X.mg "list" = none) (hgz : Gl X "zip") (hmz : X.mg "zip" = none) (ha : PA X (e :: es) ta) (hdf : (fn == ("__debug__" : Str)) = false := by decide)
    (he : starEach (e :: es) X.env = (false, eval e X.env) :: starEach es X.env := by rfl) (hpl : (backTo cpos (starEach es X.env)).any (·.1) = false := by rfl) :
    PE X (.Call (.Name "list" p1) [.Call (.Name "zip" p2) [.List [] pl, .Call (.Name fn p) (e :: es) [] cpos] [] zpos] [] lpos) (tZipG ps.length ta) := by
  refine ⟨fun pins s σ H Q I h => ?_⟩
  refine Call_ (ld_blt I hgl hml PyProof.Rows.boot_list (PyProof.Rows.callWith_type1 (PyProof.Rows.args_cons ?_ (by rfl)) (by rfl) (by rfl)))
  refine Call_ (ld_blt I hgz hmz PyProof.Rows.boot_zip (PyProof.Rows.callWith_type1 (PyProof.Rows.args_cons ?_ (by rfl)) (by rfl) (by rfl)))
  refine wpAny_List_spliced (PyProof.Rows.args_nil ⟨Nat.zero_le _, ?_⟩)
  refine PyProof.Rows.args_cons ?_ (by rfl)
  generalize hs0 : ({ s with heap := s.heap.push { cls := .type "list", data := .seq ([] : List Value).toArray } } : Shared) = s0
  have h0 : s0.heap = s.heap.push { cls := .type "list", data := .seq ([] : List Value).toArray } := by rw [← hs0]
  have hS0 : s0.heap.get? s.heap.objs.size = some { cls := .type "list", data := .seq ([] : List Value).toArray } := by rw [h0]; exact Heap.get?_push_size _ rfl
  have I0 : Inv X pins σ H s0 := by rw [← hs0]; exact I.kept (t' := s.toks) fun b u e => Heap.get?_push_of_some _ e
  have I0' := I0.pinned (fp := [s.heap.objs.size]) (fun b hb => by rw [List.mem_singleton.mp hb]; exact I.fpOk (Nat.le_refl _) (I.hok.fresh (Nat.le_refl _))) (fun b hb => by rw [List.mem_singleton.mp hb]; exact ⟨_, hS0, fun v q => by cases q⟩)
  refine wpAny_Call_Name_kw (ld_glob I0' hg hm ?_ hdf)
  refine PySem.W.callWith_K (h₀ := X.base) I0'.ok.mod.kin F.kp (thn (ha.run cpos _ s0 σ H _ I0' h) fun us s1 ⟨vs, H1, I1, r, hl⟩ => ⟨I1.kIn, ?_⟩) he hpl
  obtain ⟨oc, od, dV, kV, doc, pm, an, cdv, ct, osl, rfl, lk, hcd, _, _⟩ := F.ex
  have bb := hb s1 us I1.kIn (by rw [List.append_nil, ← r.length, hl.1])
  rw [List.append_nil] at bb
  have hS1 : s1.heap.get? s.heap.objs.size = some { cls := .type "list", data := .seq ([] : List Value).toArray } := (I1.pin (s.heap.objs.size, _) (List.mem_append_right _ (List.mem_append_right _ (mem_pinsAt (List.mem_singleton.mpr rfl) hS0)))).1
  refine wpAny_call (codeAny_mono (u_call (k := k) (args := ⟨us, []⟩) lk hcd Sc hr I1.env0 bb) fun res t' hres => ?_)
  cases res with
  | error er => exact hres.elim
  | ok fl =>
    cases fl with
    | next => exact hres.elim
    | brk => exact hres.elim
    | cont => exact hres.elim
    | ret u =>
      obtain ⟨a, g, rfl, ha1, hgen, hos, hbr, hkp⟩ := hres
      refine PyProof.Rows.args_nil ?_
      have hS2 := hkp _ _ hS1
      have hL2 : t'.heap.IsList s.heap.objs.size #[] := ⟨_, hS2, rfl, _, rfl⟩
      refine call_zipG (g := g) hL2 hgen fun h' hz hTI hTO h1 hsz hk => ?_
      refine PyProof.Rows.args_nil ?_
      have hL3 : h'.IsList s.heap.objs.size #[] := ⟨_, hk _ _ hS2, rfl, _, rfl⟩
      refine call_list_zipG (s := { t' with heap := h' }) (l1 := s.heap.objs.size) (I1.ok.hd hc) (Nat.ne_of_lt (Nat.lt_add_of_pos_right (by decide))) ?_ hz hTI hTO h1 hL3 fun s' acc c e1 e2 o1 g1 k1 => ?_
      · exact Nat.ne_of_lt (Nat.lt_of_lt_of_le (Heap.lt_size hS2) (Nat.le_add_right _ _))
      · have hsz1 : s1.heap.objs.size ≤ t'.heap.objs.size := by
          obtain ⟨_, _, _, eg, _⟩ := hgen
          exact Nat.le_trans ha1 (Nat.le_of_lt (Heap.lt_size eg))
        have kall : ∀ b o, s1.heap.get? b = some o → s'.heap.get? b = some o := fun b o e => by
          have lt := Heap.lt_size (hkp _ _ e)
          exact k1 b o (Nat.ne_of_lt (Nat.lt_of_lt_of_le lt (Nat.le_add_right _ _))) (Nat.ne_of_lt lt) (hk _ _ (hkp _ _ e))
        have I2 : Inv X pins σ H1 s1 := I1.unpinned
        have hn : H1 h'.objs.size = none := I2.hok.fresh (by rw [hsz]; omega)
        exact ⟨.ref h'.objs.size, upd H1 h'.objs.size (.lst []), I2.drained (S := h'.objs.size) (by rw [hsz]; omega) (Nat.zero_le _) e1 (by rw [e2]; exact .nil) .nil (o1.trans hos) (by rw [g1]; exact hbr) (Un.kept kall) (I2.hok.kept kall) hn, rfl, hl.2 _ hn⟩
end
end T5
namespace T5
open PySem PySem.Spec PyProof.Rows L2 GenW
/-! ### list(zip([], f(..))) at the level of data; an own exception is no StopIteration; a getter from the facts -/
def eZipG (m : MGn) (ma : MA) : ME := fun env st => (ma env st).bind fun ds st1 => match m ds st1 with
  | .bad => .bad
  | _ => .ok (.lst []) st1
section
variable [TabC] {X : Cx} {k : Nat} {f : Addr} {F : ItF} {m : MGn} {mn : MN} {ma : MA} {N ps : List Str}
theorem zipG_of {K : PySem.W.Frag} {mg : Str → Option Value} {W : WX} {σ : L2.St} {H : Hp} {Q : VK} (h : tM K mg W (eZipG (runN N.length ps.length mn) ma) σ H Q) : tZipG ps.length (tMA K mg W ma) σ H Q := by
  refine tMA_run h fun ds vs μ env st H1 r re hd a => ?_
  unfold runN at a
  by_cases hl : ds.length = ps.length
  · refine ⟨hd.length.symm.trans hl, fun p hp => ?_⟩
    have fin : Aft K mg W σ μ H1 (.ok (.lst []) st : R D) (fun d _ μ' H' => ∀ v, Rep K mg μ' H' d v → Q v H') → Q (.ref p) (upd H1 p (.lst [])) := fun a => a μ _ (Ext.same r (same_upd hp)) (r.same (same_upd hp)) _ (rep_newL r hp rfl)
    rw [if_pos hl] at a
    cases e : mn (ds.map some ++ List.replicate (N.length - ps.length) none) st [] with
    | bad => rw [e] at a; exact a.elim
    | nx => rw [e] at a; exact fin a
    | ex => rw [e] at a; exact fin a
  · rw [if_neg hl] at a
    exact a.elim
theorem se_zipG {fn : Str} {p p1 p2 pl zpos lpos cpos : Pos} {e : Expr} {es : List Expr} (hc : X.calm = true)
    (G : GnN X.prog X.w X.K X.mg X.base k f F m) (hr : Room (k + 1) X.A) (hg : Gl X fn) (hm : X.mg fn = some (.ref f)) (hgl : Gl X "list") (hml : X.mg "list" = none) (hgz : Gl X "zip") (hmz : X.mg "zip" = none) (ha : SA X (e :: es) ma) (hdf : (fn == ("__debug__" : Str)) = false := by decide)
    (he : starEach (e :: es) X.env = (false, eval e X.env) :: starEach es X.env := by rfl) (hpl : (backTo cpos (starEach es X.env)).any (·.1) = false := by rfl) :
    SE X (.Call (.Name "list" p1) [.Call (.Name "zip" p2) [.List [] pl, .Call (.Name fn p) (e :: es) [] cpos] [] zpos] [] lpos) (eZipG m ma) := fun pn xe W tk => by
  obtain ⟨nm, qual, pa, body, sg, fd, N, ps, mn, FD, Sc, hb, hbody, rfl⟩ := G.ex
  exact PE.imp (pe_zipG (X := X.tr pn xe) (k := k) hc FD Sc hb hr hg hm hgl hml hgz hmz (ha pn xe W tk) hdf he hpl) fun σ H Q h => zipG_of h
end
open PySem.HandSPX in
theorem refsVE_stop : ∀ l : List Value, refsVE l = true → l.contains (.type "StopIteration") = false
  | l, h => by
    rcases refsVE_cases l h with ⟨c, r, rfl, hr⟩ | rfl
    · have := refsVE_stop r hr
      rw [List.contains_cons, this, Bool.or_false]
      rfl
    · decide
termination_by l => l.length
theorem noStop_exc {K : PySem.W.Frag} {mg : Str → Option Value} {c : String} {C fI : Addr} (h : ExcF K mg c C fI) : PySem.W.subIn K (.ref C) (.type "StopIteration") = some false := by
  obtain ⟨nm, q, N, bs, bm, sn, sub, ab, col, dd, k0, k1, k2, k3, k5, lk, hv⟩ := h.oex.cls
  show PySem.W.mroIn K C _ = _
  unfold PySem.W.mroIn PySem.W.clsIn
  rw [lk]
  show (if ((Value.ref C :: bm).isEmpty) = true then none else some ((Value.ref C :: bm).contains (.type "StopIteration"))) = _
  rw [if_neg (by simp), List.contains_cons, refsVE_stop bm hv, Bool.or_false]
  rfl
end T5
namespace T5.G
open PySem PySem.Spec PyProof.Rows L2
noncomputable section
/-- _law_begun -/
def b__law_begun : MS := (sSeq (sAsg (eBin bAdd (eC (.int 15485863)) (eBin bMul (eC (.int 613)) (eCB fLen (aCons (eVar 0) aNil)))) (gN 1))
  (sSeq (sFor (iEn (eVar 0)) (gT (gsCons (gN 2) (gsCons (gN 3) gsNil))) (sAsg (eBin bMod (eCB fInt (aCons (eBin bAdd (eBin bAdd (eBin bMul (eVar 1) (eC (.int 48271))) (eVar 3)) (eBin bMul (eC (.int 32452843)) (eVar 2))) aNil)) (eC (.int 2305843009213693951))) (gN 1)))
  (sRet (eDisp [((eC (.str [103, 114, 101, 97, 116])), (eLcM (iSeq (eVar 0)) (gN 3) (cBool (eBin bGe (eVar 3) (eBin bPow (eC (.int 10)) (eC (.int 18))))) (eVar 3) [3])), ((eC (.str [110, 117, 109, 98, 101, 114])), (eVar 1)), ((eC (.str [116, 117, 114, 110])), (eC (.int 0)))]))))
def f__law_begun : MF := runF 4 1 b__law_begun
theorem len__law_begun : ∀ ds st, ds.length ≠ 1 → f__law_begun ds st = .bad := runF_len
/-- is_integer -/
def b_is_integer : MS := (sRet (eAnd (eCB fIsi (aCons (eVar 0) (aCons (eC (.ty "int")) aNil))) (eAnd (eNot (eCB fIsi (aCons (eVar 0) (aCons (eC (.ty "bool")) aNil)))) (eChain bLe bLe (eVar 1) (eVar 0) (eVar 2)))))
def f_is_integer : MF := runF 3 3 b_is_integer
theorem len_is_integer : ∀ ds st, ds.length ≠ 3 → f_is_integer ds st = .bad := runF_len
abbrev z_is_edit_0 : MS := (sRet (eAnd (eCall f_is_integer (aCons (eBin bIx (eVar 0) (eC (.int 1))) (aCons (eC (.int 0)) (aCons (eC (.int 999)) aNil)))) (eCall f_is_integer (aCons (eBin bIx (eVar 0) (eC (.int 2))) (aCons (eC (.int 1)) (aCons (eC (.int 9)) aNil))))))
abbrev z_is_edit_1 : MS := (sSeq (sIf (cAnd (cBool (eBin bNe (eBin bIx (eVar 0) (eC (.int 0))) (eC (.str [105, 110])))) (cBool (eBin bNe (eBin bIx (eVar 0) (eC (.int 0))) (eC (.str [111, 117, 116]))))) (sRet (eC (.bl false))) sPass)
  z_is_edit_0)
def b_is_edit : MS := (sSeq (sIf (cOr (cNot (cTru (eCB fIsi (aCons (eVar 0) (aCons (eC (.ty "tuple")) aNil))))) (cOr (cBool (eBin bNe (eCB fLen (aCons (eVar 0) aNil)) (eC (.int 3)))) (cNot (cTru (eCB fIsi (aCons (eBin bIx (eVar 0) (eC (.int 0))) (aCons (eC (.ty "str")) aNil))))))) (sRet (eC (.bl false))) sPass)
  z_is_edit_1)
def f_is_edit : MF := runF 1 1 b_is_edit
abbrev z_need_log_0 : MS := (sIf (cNot (cTru (eCall f_is_edit (aCons (eVar 2) aNil)))) (sRaise "BadLog" ["place"] (aCons (eVar 1) aNil)) sPass)
abbrev z_need_log_1 : MS := (sSeq (sFor (iEn (eVar 0)) (gT (gsCons (gN 1) (gsCons (gN 2) gsNil))) z_need_log_0)
  (sRet (eVar 0)))
def b_need_log : MS := (sSeq (sIf (cOr (cNot (cTru (eCB fIsi (aCons (eVar 0) (aCons (eC (.ty "tuple")) aNil))))) (cBool (eBin bGt (eCB fLen (aCons (eVar 0) aNil)) (eC (.int 40))))) (sRaise "BadLog" ["place"] (aCons (eC .non) aNil)) sPass)
  z_need_log_1)
def f_need_log : MF := runF 3 1 b_need_log
/-- log_cost -/
def b_log_cost : MS := (sRet (eCB fSum (aCons (eLc (iSeq (eCall f_need_log (aCons (eVar 0) aNil))) (gN 1) cYes (eBin bIx (eVar 1) (eC (.int 2))) [1]) aNil)))
def f_log_cost : MF := runF 2 1 b_log_cost
/-- need_edit -/
def b_need_edit : MS := (sSeq (sIf (cNot (cTru (eCall f_is_edit (aCons (eVar 0) aNil)))) (sRaise "BadEdit" ["given"] (aCons (eVar 0) aNil)) sPass)
  (sRet (eVar 0)))
def f_need_edit : MF := runF 1 1 b_need_edit
/-- _law_draw -/
def b__law_draw : MS := (sSeq (sAsg (eBin bIx (eVar 0) (eC (.str [103, 114, 101, 97, 116]))) (gN 2))
  (sSeq (sWhile 1000 (cAnd (cBool (eBin bNe (eVar 2) (eLst aNil))) (cBool (eBin bEq (eBin bIx (eVar 2) (eC (.int 0))) (eC (.int 0))))) (sExp (eMthL fPop (eVar 2) (aCons (eC (.int 0)) aNil))))
  (sSeq (sIf (cBool (eBin bNe (eVar 2) (eLst aNil))) (sSeq (sAsg (eBin bMod (eCB fInt (aCons (eBin bIx (eVar 2) (eC (.int 0))) aNil)) (eVar 1)) (gN 3))
  (sSeq (sSet (eBin bDiv (eBin bIx (eVar 2) (eC (.int 0))) (eVar 1)) (eVar 2) (eC (.int 0)))
  (sRet (eVar 3)))) sPass)
  (sSeq (sSet (eBin bAdd (eBin bIx (eVar 0) (eC (.str [116, 117, 114, 110]))) (eC (.int 1))) (eVar 0) (eC (.str [116, 117, 114, 110])))
  (sSeq (sAsg (eBin bAdd (eBin bMul (eBin bIx (eVar 0) (eC (.str [110, 117, 109, 98, 101, 114]))) (eC (.int 2862933555777941757))) (eC (.int 3037000493))) (gN 4))
  (sSeq (sAsg (eBin bAdd (eVar 4) (eBin bMul (eC (.int 49979687)) (eBin bIx (eVar 0) (eC (.str [116, 117, 114, 110]))))) (gN 4))
  (sSeq (sSet (eBin bMod (eCB fInt (aCons (eVar 4) aNil)) (eC (.int 2305843009213693951))) (eVar 0) (eC (.str [110, 117, 109, 98, 101, 114])))
  (sRet (eBin bMod (eCB fInt (aCons (eBin bDiv (eBin bIx (eVar 0) (eC (.str [110, 117, 109, 98, 101, 114]))) (eC (.int 1299709))) aNil)) (eVar 1))))))))))
def f__law_draw : MF := runF 5 2 b__law_draw
theorem len__law_draw : ∀ ds st, ds.length ≠ 2 → f__law_draw ds st = .bad := runF_len
/-- _law_log -/
def b__law_log : MS := (sSeq (sAsg (eLstM aNil) (gN 3))
  (sSeq (sFor (iRng1 (aCons (eCall f__law_draw (aCons (eVar 0) (aCons (eBin bAdd (eVar 2) (eC (.int 1))) aNil))) aNil)) (gN 4) (sSeq (sAsg (eBin bAdd (eC (.int 1)) (eCall f__law_draw (aCons (eVar 0) (aCons (eBin bIx (eLst (aCons (eC (.int 1)) (aCons (eC (.int 3)) (aCons (eC (.int 9)) aNil)))) (eCall f__law_draw (aCons (eVar 0) (aCons (eC (.int 3)) aNil)))) aNil)))) (gN 5))
  (sIf (cAnd (cBool (eBin bEq (eCall f__law_draw (aCons (eVar 0) (aCons (eC (.int 2)) aNil))) (eC (.int 0)))) (cBool (eBin bGt (eVar 1) (eC (.int 0))))) (sSeq (sAsg (eCall f__law_draw (aCons (eVar 0) (aCons (eVar 1) aNil))) (gN 6))
  (sSeq (sAsg (eCB fMin (aCons (eVar 5) (aCons (eBin bSub (eVar 1) (eVar 6)) aNil))) (gN 5))
  (sSeq (sExp (eMthL fApp (eVar 3) (aCons (eTup (aCons (eC (.str [111, 117, 116])) (aCons (eVar 6) (aCons (eVar 5) aNil)))) aNil)))
  (sAsg (eBin bSub (eVar 1) (eVar 5)) (gN 1))))) (sSeq (sExp (eMthL fApp (eVar 3) (aCons (eTup (aCons (eC (.str [105, 110])) (aCons (eCall f__law_draw (aCons (eVar 0) (aCons (eBin bAdd (eVar 1) (eC (.int 1))) aNil))) (aCons (eVar 5) aNil)))) aNil)))
  (sAsg (eBin bAdd (eVar 1) (eVar 5)) (gN 1))))))
  (sRet (eCB fTuple (aCons (eVar 3) aNil)))))
def f__law_log : MF := fin (runF 7 3 b__law_log)
/-- _law_among -/
def b__law_among : MS := (sRet (eBin bIx (eVar 1) (eCall f__law_draw (aCons (eVar 0) (aCons (eCB fLen (aCons (eVar 1) aNil)) aNil)))))
def f__law_among : MF := runF 2 2 b__law_among
/-- need_length -/
def b_need_length : MS := (sIf (cNot (cTru (eCall f_is_integer (aCons (eVar 0) (aCons (eC (.int 0)) (aCons (eC (.int 100)) aNil)))))) (sRaise "BadLength" ["given"] (aCons (eVar 0) aNil)) sPass)
def f_need_length : MF := runF 1 1 b_need_length
abbrev z_grown_0 : MS := (sAug 0 bAddI (eIf (cBool (eBin bEq (eVar 3) (eC (.str [105, 110])))) (eVar 5) (eNeg (eVar 5))))
abbrev z_grown_1 : MS := (sSeq (sIf (cBool (eBin bGt (eBin bAdd (eVar 4) (eIf (cBool (eBin bEq (eVar 3) (eC (.str [111, 117, 116])))) (eVar 5) (eC (.int 0)))) (eVar 0))) (sRaise "OutOfText" ["place"] (aCons (eVar 2) aNil)) sPass)
  z_grown_0)
def b_grown : MS := (sSeq (sFor (iEn (eVar 1)) (gT (gsCons (gN 2) (gsCons (gT (gsCons (gN 3) (gsCons (gN 4) (gsCons (gN 5) gsNil)))) gsNil))) z_grown_1)
  (sRet (eVar 0)))
def f_grown : MF := runF 6 2 b_grown
abbrev z_length_behind_0 : MS := (sRet (eCall f_grown (aCons (eVar 0) (aCons (eCall f_need_log (aCons (eVar 1) aNil)) aNil))))
def b_length_behind : MS := (sSeq (sExp (eCall f_need_length (aCons (eVar 0) aNil)))
  z_length_behind_0)
def f_length_behind : MF := runF 2 2 b_length_behind
abbrev z_reach_of_0 : MS := (sAug 2 bAddI (eIf (cBool (eBin bEq (eVar 3) (eC (.str [105, 110])))) (eVar 5) (eNeg (eVar 5))))
abbrev z_reach_of_1 : MS := (sSeq (sAsg (eCB fMax (aCons (eVar 1) (aCons (eBin bSub (eBin bAdd (eVar 4) (eIf (cBool (eBin bEq (eVar 3) (eC (.str [111, 117, 116])))) (eVar 5) (eC (.int 0)))) (eVar 2)) aNil))) (gN 1))
  z_reach_of_0)
abbrev z_reach_of_2 : MS := (sSeq (sFor (iSeq (eVar 0)) (gT (gsCons (gN 3) (gsCons (gN 4) (gsCons (gN 5) gsNil)))) z_reach_of_1)
  (sRet (eVar 1)))
def b_reach_of : MS := (sSeq (sAsg (eTup (aCons (eC (.int 0)) (aCons (eC (.int 0)) aNil))) (gT (gsCons (gN 1) (gsCons (gN 2) gsNil))))
  z_reach_of_2)
def f_reach_of : MF := runF 6 1 b_reach_of
/-- reach -/
def b_reach : MS := (sRet (eCall f_reach_of (aCons (eCall f_need_log (aCons (eVar 0) aNil)) aNil)))
def f_reach : MF := runF 1 1 b_reach
abbrev z_law_rows_0 : MS := (sAsg (eBin bAdd (eBin bAdd (eBin bAdd (eBin bAdd (eSl (eVar 2) oNone (oSome (eVar 5))) (eLst (aCons (eLst (aCons (eBin bIx (eBin bIx (eVar 2) (eVar 5)) (eC (.int 0))) (aCons (eLst aNil) aNil))) aNil))) (eVar 7)) (eLst (aCons (eLst (aCons (eLst aNil) (aCons (eBin bIx (eBin bIx (eVar 2) (eVar 5)) (eC (.int 1))) aNil))) aNil))) (eSl (eVar 2) (oSome (eBin bAdd (eVar 5) (eC (.int 1)))) oNone)) (gN 2))
abbrev z_law_rows_1 : MS := (sPar2 9 10 (aCons (eBin bAdd (eVar 9) (eBin bIx (eVar 11) (eC (.int 0)))) (aCons (eBin bAdd (eVar 10) (eBin bIx (eVar 11) (eC (.int 1)))) aNil)))
abbrev z_law_rows_2 : MS := (sAsg (eBin bAdd (eBin bAdd (eSl (eVar 2) oNone (oSome (eVar 5))) (eLst (aCons (eLst (aCons (eVar 9) (aCons (eVar 10) aNil))) aNil))) (eSl (eVar 2) (oSome (eBin bAdd (eBin bAdd (eVar 5) (eVar 6)) (eC (.int 1)))) oNone)) (gN 2))
abbrev z_law_rows_3 : MS := (sSeq (sFor (iSeq (eSl (eVar 2) (oSome (eVar 5)) (oSome (eBin bAdd (eBin bAdd (eVar 5) (eVar 6)) (eC (.int 1)))))) (gN 11) z_law_rows_1)
  z_law_rows_2)
abbrev z_law_rows_4 : MS := (sIf (cBool (eBin bEq (eVar 4) (eC (.str [105, 110])))) (sSeq (sAsg (eLc (iRng1 (aCons (eBin bSub (eVar 6) (eC (.int 1))) aNil)) (gN 8) cYes (eLst (aCons (eLst aNil) (aCons (eLst aNil) aNil))) [8]) (gN 7))
  z_law_rows_0) (sSeq (sPar2 9 10 (aCons (eLst aNil) (aCons (eLst aNil) aNil)))
  z_law_rows_3))
abbrev z_law_rows_5 : MS := (sSeq (sFor (iSeq (eVar 1)) (gT (gsCons (gN 4) (gsCons (gN 5) (gsCons (gN 6) gsNil)))) z_law_rows_4)
  (sRet (eVar 2)))
def b__law_rows : MS := (sSeq (sAsg (eLc (iRng1 (aCons (eBin bAdd (eVar 0) (eC (.int 1))) aNil)) (gN 3) cYes (eLst (aCons (eLst (aCons (eVar 3) aNil)) (aCons (eLst (aCons (eVar 3) aNil)) aNil))) [3]) (gN 2))
  z_law_rows_5)
def f__law_rows : MF := runF 12 2 b__law_rows
abbrev z_law_chart_0 : MS := (sFor (iSeq (eBin bIx (eVar 6) (eC (.int 1)))) (gN 7) (sSet (eVar 5) (eVar 4) (eVar 7)))
abbrev z_law_chart_1 : MS := (sSeq (sFor (iSeq (eBin bIx (eVar 6) (eC (.int 0)))) (gN 7) (sSet (eVar 5) (eVar 3) (eVar 7)))
  z_law_chart_0)
abbrev z_law_chart_2 : MS := (sRet (eTup (aCons (eBin bSub (eCB fLen (aCons (eVar 2) aNil)) (eC (.int 1))) (aCons (eCB fTuple (aCons (eLc (iSeq (eVar 8)) (gN 5) cYes (eBin bIx (eVar 3) (eVar 5)) [5]) aNil)) (aCons (eCB fTuple (aCons (eLc (iSeq (eVar 8)) (gN 5) cYes (eBin bIx (eVar 4) (eVar 5)) [5]) aNil)) aNil)))))
abbrev z_law_chart_3 : MS := (sSeq (sAsg (eLstRg (eBin bAdd (eVar 0) (eC (.int 1)))) (gN 8))
  z_law_chart_2)
abbrev z_law_chart_4 : MS := (sSeq (sFor (iEn (eVar 2)) (gT (gsCons (gN 5) (gsCons (gN 6) gsNil))) z_law_chart_1)
  z_law_chart_3)
def b__law_chart : MS := (sSeq (sAsg (eTup (aCons (eCall f__law_rows (aCons (eVar 0) (aCons (eVar 1) aNil))) (aCons (eDnew false) (aCons (eDnew false) aNil)))) (gT (gsCons (gN 2) (gsCons (gN 3) (gsCons (gN 4) gsNil)))))
  z_law_chart_4)
def f__law_chart : MF := fin (runF 9 2 b__law_chart)
abbrev z_is_mark_0 : MS := (sRet (eAnd (eCB fIsi (aCons (eBin bIx (eVar 1) (eC (.int 1))) (aCons (eC (.ty "str")) aNil))) (eBin bIn (eBin bIx (eVar 1) (eC (.int 1))) (eTup (aCons (eC (.str [108, 101, 102, 116])) (aCons (eC (.str [114, 105, 103, 104, 116])) aNil))))))
def b_is_mark : MS := (sSeq (sIf (cOr (cNot (cTru (eCB fIsi (aCons (eVar 1) (aCons (eC (.ty "tuple")) aNil))))) (cOr (cBool (eBin bNe (eCB fLen (aCons (eVar 1) aNil)) (eC (.int 2)))) (cNot (cTru (eCall f_is_integer (aCons (eBin bIx (eVar 1) (eC (.int 0))) (aCons (eC (.int 0)) (aCons (eVar 0) aNil)))))))) (sRet (eC (.bl false))) sPass)
  z_is_mark_0)
def f_is_mark : MF := runF 2 2 b_is_mark
/-- need_mark -/
def b_need_mark : MS := (sIf (cNot (cTru (eCall f_is_mark (aCons (eVar 0) (aCons (eVar 1) aNil))))) (sRaise "BadMark" ["given"] (aCons (eVar 1) aNil)) sPass)
def f_need_mark : MF := runF 2 2 b_need_mark
abbrev z_gap_behind_0 : MS := (sRet (eIf (cBool (eBin bLe (eVar 1) (eVar 4))) (eVar 1) (eCB fMax (aCons (eVar 4) (aCons (eBin bSub (eVar 1) (eVar 5)) aNil)))))
abbrev z_gap_behind_1 : MS := (sSeq (sIf (cBool (eBin bEq (eVar 3) (eC (.str [105, 110])))) (sRet (eIf (cOr (cBool (eBin bLt (eVar 1) (eVar 4))) (cAnd (cBool (eBin bEq (eVar 1) (eVar 4))) (cBool (eBin bEq (eVar 2) (eC (.str [108, 101, 102, 116])))))) (eVar 1) (eBin bAdd (eVar 1) (eVar 5)))) sPass)
  z_gap_behind_0)
def b_gap_behind : MS := (sSeq (sAsg (eVar 0) (gT (gsCons (gN 3) (gsCons (gN 4) (gsCons (gN 5) gsNil)))))
  z_gap_behind_1)
def f_gap_behind : MF := runF 6 3 b_gap_behind
abbrev z_carried_0 : MS := (sAsg (eCall f_gap_behind (aCons (eVar 3) (aCons (eVar 1) (aCons (eVar 2) aNil)))) (gN 1))
def b_carried : MS := (sSeq (sFor (iSeq (eVar 0)) (gN 3) z_carried_0)
  (sRet (eVar 1)))
def f_carried : MF := runF 4 3 b_carried
abbrev z_carry_0 : MS := (sRet (eTup (aCons (eCall f_carried (aCons (eVar 1) (aCons (eBin bIx (eVar 2) (eC (.int 0))) (aCons (eBin bIx (eVar 2) (eC (.int 1))) aNil)))) (aCons (eBin bIx (eVar 2) (eC (.int 1))) aNil))))
abbrev z_carry_1 : MS := (sSeq (sExp (eCall f_grown (aCons (eVar 0) (aCons (eVar 1) aNil))))
  z_carry_0)
abbrev z_carry_2 : MS := (sSeq (sExp (eCall f_need_mark (aCons (eVar 0) (aCons (eVar 2) aNil))))
  z_carry_1)
abbrev z_carry_3 : MS := (sSeq (sExp (eCall f_need_log (aCons (eVar 1) aNil)))
  z_carry_2)
def b_carry : MS := (sSeq (sExp (eCall f_need_length (aCons (eVar 0) aNil)))
  z_carry_3)
def f_carry : MF := runF 3 3 b_carry
abbrev z_law_any_chart_0 : MS := (sExp (eMthL fApp (eVar 3) (aCons (eBin bAdd (eCB fMax (aCons (eBin bIx (eVar 3) (eNeg (eC (.int 1)))) (aCons (eVar 6) aNil))) (eCall f__law_draw (aCons (eVar 0) (aCons (eBin bIx (eLst (aCons (eC (.int 1)) (aCons (eC (.int 2)) (aCons (eC (.int 3)) aNil)))) (eCall f__law_draw (aCons (eVar 0) (aCons (eC (.int 3)) aNil)))) aNil)))) aNil)))
abbrev z_law_any_chart_1 : MS := (sSeq (sExp (eMthL fApp (eVar 2) (aCons (eVar 6) aNil)))
  z_law_any_chart_0)
abbrev z_law_any_chart_2 : MS := (sSeq (sIf (cBool (eBin bEq (eVar 5) (eC (.int 0)))) (sAsg (eBin bAdd (eBin bIx (eVar 3) (eNeg (eC (.int 1)))) (eC (.int 1))) (gN 6)) (sIf (cBool (eBin bEq (eVar 5) (eC (.int 1)))) (sAsg (eBin bAdd (eVar 6) (eCall f__law_draw (aCons (eVar 0) (aCons (eBin bSub (eBin bAdd (eBin bIx (eVar 3) (eNeg (eC (.int 1)))) (eC (.int 2))) (eVar 6)) aNil)))) (gN 6)) (sIf (cBool (eBin bLt (eVar 5) (eC (.int 4)))) (sAsg (eCB fMin (aCons (eBin bAdd (eVar 6) (eC (.int 1))) (aCons (eBin bIx (eVar 3) (eNeg (eC (.int 1)))) aNil))) (gN 6)) sPass)))
  z_law_any_chart_1)
abbrev z_law_any_chart_3 : MS := (sSeq (sPar2 5 6 (aCons (eCall f__law_draw (aCons (eVar 0) (aCons (eC (.int 6)) aNil))) (aCons (eBin bIx (eVar 2) (eNeg (eC (.int 1)))) aNil)))
  z_law_any_chart_2)
abbrev z_law_any_chart_4 : MS := (sRet (eTup (aCons (eBin bIx (eVar 3) (eNeg (eC (.int 1)))) (aCons (eCB fTuple (aCons (eVar 2) aNil)) (aCons (eCB fTuple (aCons (eVar 3) aNil)) aNil)))))
abbrev z_law_any_chart_5 : MS := (sSeq (sFor (iRng1 (aCons (eCall f__law_draw (aCons (eVar 0) (aCons (eBin bAdd (eVar 1) (eC (.int 1))) aNil))) aNil)) (gN 4) z_law_any_chart_3)
  z_law_any_chart_4)
def b__law_any_chart : MS := (sSeq (sPar2 2 3 (aCons (eLstM (aCons (eC (.int 0)) aNil)) (aCons (eLstM (aCons (eCall f__law_draw (aCons (eVar 0) (aCons (eC (.int 4)) aNil))) aNil)) aNil)))
  z_law_any_chart_5)
def f__law_any_chart : MF := fin (runF 7 2 b__law_any_chart)
abbrev z_is_row_0 : MS := (sRet (eCB fAll (aCons (eLc (iSeq (eVar 0)) (gN 1) cYes (eAnd (eCB fIsi (aCons (eVar 1) (aCons (eC (.ty "int")) aNil))) (eNot (eCB fIsi (aCons (eVar 1) (aCons (eC (.ty "bool")) aNil))))) [1]) aNil)))
def b_is_row : MS := (sSeq (sIf (cOr (cNot (cTru (eCB fIsi (aCons (eVar 0) (aCons (eC (.ty "tuple")) aNil))))) (cNot (cBool (eChain bLe bLe (eC (.int 1)) (eCB fLen (aCons (eVar 0) aNil)) (eC (.int 101)))))) (sRet (eC (.bl false))) sPass)
  z_is_row_0)
def f_is_row : MF := runF 2 1 b_is_row
theorem len_is_row : ∀ ds st, ds.length ≠ 1 → f_is_row ds st = .bad := runF_len
abbrev z_is_gap_right_0 : MS := (sRet (eOr (eBin bLt (eVar 3) (eBin bSub (eCB fLen (aCons (eVar 1) aNil)) (eC (.int 1)))) (eBin bEq (eBin bIx (eVar 2) (eVar 3)) (eVar 0))))
abbrev z_is_gap_right_1 : MS := (sSeq (sIf (cAnd (cBool (eBin bGt (eVar 3) (eC (.int 0)))) (cBool (eBin bGt (eBin bIx (eVar 1) (eVar 3)) (eBin bAdd (eBin bIx (eVar 2) (eBin bSub (eVar 3) (eC (.int 1)))) (eC (.int 1)))))) (sRet (eC (.bl false))) sPass)
  z_is_gap_right_0)
abbrev z_is_gap_right_2 : MS := (sSeq (sIf (cAnd (cBool (eBin bGt (eVar 3) (eC (.int 0)))) (cOr (cBool (eBin bLt (eBin bIx (eVar 1) (eVar 3)) (eBin bIx (eVar 1) (eBin bSub (eVar 3) (eC (.int 1)))))) (cBool (eBin bLt (eBin bIx (eVar 2) (eVar 3)) (eBin bIx (eVar 2) (eBin bSub (eVar 3) (eC (.int 1)))))))) (sRet (eC (.bl false))) sPass)
  z_is_gap_right_1)
def b_is_gap_right : MS := (sSeq (sIf (cOr (cBool (eBin bGt (eBin bIx (eVar 1) (eVar 3)) (eBin bIx (eVar 2) (eVar 3)))) (cAnd (cBool (eBin bEq (eVar 3) (eC (.int 0)))) (cBool (eBin bNe (eBin bIx (eVar 1) (eC (.int 0))) (eC (.int 0)))))) (sRet (eC (.bl false))) sPass)
  z_is_gap_right_2)
def f_is_gap_right : MF := runF 4 4 b_is_gap_right
theorem len_is_gap_right : ∀ ds st, ds.length ≠ 4 → f_is_gap_right ds st = .bad := runF_len
abbrev z_Chart_init_0 : MS := (sIf (cNot (cTru (eCall f_is_gap_right (aCons (eVar 1) (aCons (eVar 2) (aCons (eVar 3) (aCons (eVar 4) aNil))))))) (sRaise "BadChart" ["place"] (aCons (eVar 4) aNil)) sPass)
abbrev z_Chart_init_1 : MS := (sFldD "Chart" "own_signs" (eVar 0) (eSl (eVar 2) (oSome (eC (.int 1))) oNone))
abbrev z_Chart_init_2 : MS := (sSeq (sFldD "Chart" "own_rights" (eVar 0) (eVar 3))
  z_Chart_init_1)
abbrev z_Chart_init_3 : MS := (sSeq (sFldD "Chart" "own_lefts" (eVar 0) (eVar 2))
  z_Chart_init_2)
abbrev z_Chart_init_4 : MS := (sSeq (sFldD "Chart" "own_many" (eVar 0) (eVar 1))
  z_Chart_init_3)
abbrev z_Chart_init_5 : MS := (sSeq (sFor (iRng1 (aCons (eCB fLen (aCons (eVar 2) aNil)) aNil)) (gN 4) z_Chart_init_0)
  z_Chart_init_4)
abbrev z_Chart_init_6 : MS := (sSeq (sIf (cBool (eBin bNe (eCB fLen (aCons (eVar 2) aNil)) (eCB fLen (aCons (eVar 3) aNil)))) (sRaise "BadChart" ["place"] (aCons (eC .non) aNil)) sPass)
  z_Chart_init_5)
def b_Chart_init : MS := (sSeq (sIf (cOr (cNot (cTru (eCall f_is_integer (aCons (eVar 1) (aCons (eC (.int 0)) (aCons (eC (.int 500)) aNil)))))) (cOr (cNot (cTru (eCall f_is_row (aCons (eVar 2) aNil)))) (cNot (cTru (eCall f_is_row (aCons (eVar 3) aNil)))))) (sRaise "BadChart" ["place"] (aCons (eC .non) aNil)) sPass)
  z_Chart_init_6)
def f_Chart_init : MF := runF 5 4 b_Chart_init
theorem len_Chart_init : ∀ ds st, ds.length ≠ 4 → f_Chart_init ds st = .bad := runF_len
/-- Chart.many -/
def b_Chart_many : MS := (sRet (eFld "Chart" "own_many" (eVar 0)))
def f_Chart_many : MF := runF 1 1 b_Chart_many
/-- Chart.lefts -/
def b_Chart_lefts : MS := (sRet (eFld "Chart" "own_lefts" (eVar 0)))
def f_Chart_lefts : MF := runF 1 1 b_Chart_lefts
/-- Chart.rights -/
def b_Chart_rights : MS := (sRet (eFld "Chart" "own_rights" (eVar 0)))
def f_Chart_rights : MF := runF 1 1 b_Chart_rights
abbrev z_chart_by_0 : MS := (sRet (eCall (fin (mkF "Chart" f_Chart_init)) (aCons (eVar 2) (aCons (eVar 3) (aCons (eCB fTuple (aCons (eLc (iRng1 (aCons (eBin bAdd (eVar 0) (eC (.int 1))) aNil)) (gN 4) cYes (eCall f_carried (aCons (eVar 1) (aCons (eVar 4) (aCons (eC (.str [114, 105, 103, 104, 116])) aNil)))) [4]) aNil)) aNil)))))
abbrev z_chart_by_1 : MS := (sSeq (sAsg (eCB fTuple (aCons (eLc (iRng1 (aCons (eBin bAdd (eVar 0) (eC (.int 1))) aNil)) (gN 4) cYes (eCall f_carried (aCons (eVar 1) (aCons (eVar 4) (aCons (eC (.str [108, 101, 102, 116])) aNil)))) [4]) aNil)) (gN 3))
  z_chart_by_0)
def b_chart_by : MS := (sSeq (sAsg (eCall f_grown (aCons (eVar 0) (aCons (eVar 1) aNil))) (gN 2))
  z_chart_by_1)
def f_chart_by : MF := runF 5 2 b_chart_by
abbrev z_chart_of_0 : MS := (sRet (eCall f_chart_by (aCons (eVar 0) (aCons (eCall f_need_log (aCons (eVar 1) aNil)) aNil))))
def b_chart_of : MS := (sSeq (sExp (eCall f_need_length (aCons (eVar 0) aNil)))
  z_chart_of_0)
def f_chart_of : MF := runF 2 2 b_chart_of
/-- Chart.__len__ -/
def b_Chart_len : MS := (sRet (eCB fLen (aCons (eFld "Chart" "own_signs" (eVar 0)) aNil)))
def f_Chart_len : MF := runF 1 1 b_Chart_len
abbrev z_Chart_getitem_0 : MS := (sRet (eIf (cBool (eBin bEq (eBin bIx (eVar 1) (eC (.int 1))) (eC (.str [108, 101, 102, 116])))) (eBin bIx (eFld "Chart" "own_lefts" (eVar 0)) (eBin bIx (eVar 1) (eC (.int 0)))) (eBin bIx (eFld "Chart" "own_rights" (eVar 0)) (eBin bIx (eVar 1) (eC (.int 0))))))
def b_Chart_getitem : MS := (sSeq (sIf (cNot (cTru (eCall f_is_mark (aCons (eBin bSub (eCB fLen (aCons (eFld "Chart" "own_lefts" (eVar 0)) aNil)) (eC (.int 1))) (aCons (eVar 1) aNil))))) (sRaise "Missing" ["given"] (aCons (eVar 1) aNil)) sPass)
  z_Chart_getitem_0)
def f_Chart_getitem : MF := runF 2 2 b_Chart_getitem
/-- _law_stay -/
def b__law_stay : MS := (sRet (eLc (iRng1 (aCons (eBin bSub (eCB fLen (aCons (eBin bIx (eVar 0) (eC (.int 1))) aNil)) (eC (.int 1))) aNil)) (gN 1) (cBool (eBin bEq (eBin bIx (eBin bIx (eVar 0) (eC (.int 1))) (eBin bAdd (eVar 1) (eC (.int 1)))) (eBin bAdd (eBin bIx (eBin bIx (eVar 0) (eC (.int 2))) (eVar 1)) (eC (.int 1))))) (eVar 1) [1]))
def f__law_stay : MF := runF 2 1 b__law_stay
abbrev z_Chart_contains_0 : MS := (sRet (eBin bEq (eBin bIx (eFld "Chart" "own_lefts" (eVar 0)) (eBin bAdd (eVar 1) (eC (.int 1)))) (eBin bAdd (eBin bIx (eFld "Chart" "own_rights" (eVar 0)) (eVar 1)) (eC (.int 1)))))
def b_Chart_contains : MS := (sSeq (sIf (cNot (cTru (eCall f_is_integer (aCons (eVar 1) (aCons (eC (.int 0)) (aCons (eBin bSub (eCB fLen (aCons (eFld "Chart" "own_lefts" (eVar 0)) aNil)) (eC (.int 2))) aNil)))))) (sRet (eC (.bl false))) sPass)
  z_Chart_contains_0)
def f_Chart_contains : MF := runF 2 2 b_Chart_contains
abbrev z_same_chart_0 : MS := (sRet (eCall f_chart_by (aCons (eVar 0) (aCons (eTup aNil) aNil))))
def b_same_chart : MS := (sSeq (sExp (eCall f_need_length (aCons (eVar 0) aNil)))
  z_same_chart_0)
def f_same_chart : MF := runF 1 1 b_same_chart
abbrev z_Chart_eq_0 : MS := (sRet (eAnd (eBin bEq (eFld "Chart" "own_lefts" (eVar 0)) (eFld "Chart" "own_lefts" (eVar 1))) (eBin bEq (eFld "Chart" "own_rights" (eVar 0)) (eFld "Chart" "own_rights" (eVar 1)))))
def b_Chart_eq : MS := (sSeq (sIf (cOr (cNot (cTru (eCB (fIsiC "Chart") (aCons (eVar 1) (aCons (eC (.cls "Chart")) aNil))))) (cBool (eBin bNe (eFld "Chart" "own_many" (eVar 0)) (eFld "Chart" "own_many" (eVar 1))))) (sRet (eC (.bl false))) sPass)
  z_Chart_eq_0)
def f_Chart_eq : MF := runF 2 2 b_Chart_eq
abbrev z_Chart_add_0 : MS := (sRet (eCall (fin (mkF "Chart" f_Chart_init)) (aCons (eFld "Chart" "own_many" (eVar 1)) (aCons (eVar 2) (aCons (eCB fTuple (aCons (eLc (iSeq (eFld "Chart" "own_rights" (eVar 0))) (gN 3) cYes (eBin bIx (eFld "Chart" "own_rights" (eVar 1)) (eVar 3)) [3]) aNil)) aNil)))))
abbrev z_Chart_add_1 : MS := (sSeq (sAsg (eCB fTuple (aCons (eLc (iSeq (eFld "Chart" "own_lefts" (eVar 0))) (gN 3) cYes (eBin bIx (eFld "Chart" "own_lefts" (eVar 1)) (eVar 3)) [3]) aNil)) (gN 2))
  z_Chart_add_0)
def b_Chart_add : MS := (sSeq (sIf (cBool (eBin bNe (eFld "Chart" "own_many" (eVar 0)) (eBin bSub (eCB fLen (aCons (eFld "Chart" "own_lefts" (eVar 1)) aNil)) (eC (.int 1))))) (sRaise "Unlike" ["one", "other"] (aCons (eFld "Chart" "own_many" (eVar 0)) (aCons (eBin bSub (eCB fLen (aCons (eFld "Chart" "own_lefts" (eVar 1)) aNil)) (eC (.int 1))) aNil))) sPass)
  z_Chart_add_1)
def f_Chart_add : MF := runF 4 2 b_Chart_add
/-- need_listed -/
def b_need_listed : MS := (sIf (cNot (cTru (eCall f_is_integer (aCons (eVar 0) (aCons (eC (.int 0)) (aCons (eC (.int 3)) aNil)))))) (sRaise "BadLength" ["given"] (aCons (eVar 0) aNil)) sPass)
def f_need_listed : MF := runF 1 1 b_need_listed
theorem len_need_listed : ∀ ds st, ds.length ≠ 1 → f_need_listed ds st = .bad := runF_len
abbrev z_law_rewritten_0 : MS := (sAsg (eIf (cBool (eBin bEq (eVar 4) (eC (.int 0)))) (eBin bAdd (eVar 7) (eVar 2)) (eVar 2)) (gN 2))
abbrev z_law_rewritten_1 : MS := (sSeq (sAsg (eLst (aCons (eTup (aCons (eC (.str [105, 110])) (aCons (eVar 6) (aCons (eC (.int 2)) aNil)))) (aCons (eTup (aCons (eC (.str [111, 117, 116])) (aCons (eVar 6) (aCons (eC (.int 1)) aNil)))) (aCons (eTup (aCons (eC (.str [111, 117, 116])) (aCons (eVar 6) (aCons (eC (.int 1)) aNil)))) aNil)))) (gN 7))
  z_law_rewritten_0)
abbrev z_law_rewritten_2 : MS := (sAsg (eBin bAdd (eBin bAdd (eSl (eVar 2) oNone (oSome (eVar 4))) (eLst (aCons (eTup (aCons (eVar 8) (aCons (eVar 6) (aCons (eC (.int 1)) aNil)))) (aCons (eTup (aCons (eVar 8) (aCons (eBin bAdd (eVar 6) (eCB fInt (aCons (eBin bEq (eVar 8) (eC (.str [105, 110]))) aNil))) (aCons (eBin bSub (eVar 9) (eC (.int 1))) aNil)))) aNil)))) (eSl (eVar 2) (oSome (eBin bAdd (eVar 4) (eC (.int 1)))) oNone)) (gN 2))
abbrev z_law_rewritten_3 : MS := (sAsg (eBin bAdd (eBin bAdd (eSl (eVar 2) oNone (oSome (eVar 4))) (eLst (aCons (eVar 11) (aCons (eTup (aCons (eBin bIx (eVar 10) (eC (.int 0))) (aCons (eBin bAdd (eBin bIx (eVar 10) (eC (.int 1))) (eVar 7)) (aCons (eBin bIx (eVar 10) (eC (.int 2))) aNil)))) aNil)))) (eSl (eVar 2) (oSome (eBin bAdd (eVar 4) (eC (.int 2)))) oNone)) (gN 2))
abbrev z_law_rewritten_4 : MS := (sIf (cAnd (cBool (eBin bEq (eBin bIx (eVar 10) (eC (.int 0))) (eC (.str [105, 110])))) (cBool (eBin bLt (eBin bAdd (eBin bIx (eVar 11) (eC (.int 1))) (eIf (cBool (eBin bEq (eBin bIx (eVar 11) (eC (.int 0))) (eC (.str [111, 117, 116])))) (eBin bIx (eVar 11) (eC (.int 2))) (eC (.int 0)))) (eBin bIx (eVar 10) (eC (.int 1)))))) (sSeq (sAsg (eIf (cBool (eBin bEq (eBin bIx (eVar 11) (eC (.int 0))) (eC (.str [105, 110])))) (eBin bIx (eVar 11) (eC (.int 2))) (eNeg (eBin bIx (eVar 11) (eC (.int 2))))) (gN 7))
  z_law_rewritten_3) sPass)
abbrev z_law_rewritten_5 : MS := (sIf (cAnd (cBool (eBin bEq (eVar 5) (eC (.int 0)))) (cBool (eBin bLt (eCB fLen (aCons (eVar 2) aNil)) (eC (.int 38))))) (sSeq (sAsg (eCall f__law_draw (aCons (eVar 0) (aCons (eC (.int 3)) aNil))) (gN 6))
  z_law_rewritten_1) (sIf (cAnd (cBool (eBin bLt (eVar 4) (eCB fLen (aCons (eVar 2) aNil)))) (cAnd (cBool (eBin bGt (eBin bIx (eBin bIx (eVar 2) (eVar 4)) (eC (.int 2))) (eC (.int 1)))) (cBool (eBin bLt (eCB fLen (aCons (eVar 2) aNil)) (eC (.int 39)))))) (sSeq (sAsg (eBin bIx (eVar 2) (eVar 4)) (gT (gsCons (gN 8) (gsCons (gN 6) (gsCons (gN 9) gsNil)))))
  z_law_rewritten_2) (sIf (cBool (eBin bLt (eBin bAdd (eVar 4) (eC (.int 1))) (eCB fLen (aCons (eVar 2) aNil)))) (sSeq (sPar2 10 11 (aCons (eBin bIx (eVar 2) (eVar 4)) (aCons (eBin bIx (eVar 2) (eBin bAdd (eVar 4) (eC (.int 1)))) aNil)))
  z_law_rewritten_4) sPass)))
abbrev z_law_rewritten_6 : MS := (sSeq (sPar2 4 5 (aCons (eCall f__law_draw (aCons (eVar 0) (aCons (eBin bAdd (eCB fLen (aCons (eVar 2) aNil)) (eC (.int 1))) aNil))) (aCons (eCall f__law_draw (aCons (eVar 0) (aCons (eC (.int 4)) aNil))) aNil)))
  z_law_rewritten_5)
abbrev z_law_rewritten_7 : MS := (sSeq (sFor (iRng1 (aCons (eBin bAdd (eC (.int 1)) (eCall f__law_draw (aCons (eVar 0) (aCons (eC (.int 4)) aNil)))) aNil)) (gN 3) z_law_rewritten_6)
  (sRet (eCB fTuple (aCons (eVar 2) aNil))))
def b__law_rewritten : MS := (sSeq (sAsg (eCB fList (aCons (eVar 1) aNil)) (gN 2))
  z_law_rewritten_7)
def f__law_rewritten : MF := runF 12 2 b__law_rewritten
abbrev z_law_other_log_0 : MS := (sRet (eBin bAdd (eBin bAdd (eSl (eVar 2) oNone (oSome (eVar 4))) (eTup (aCons (eCall f__law_among (aCons (eVar 0) (aCons (eVar 8) aNil))) aNil))) (eSl (eVar 2) (oSome (eBin bAdd (eVar 4) (eC (.int 1)))) oNone)))
abbrev z_law_other_log_1 : MS := (sSeq (sAsg (eBin bAdd (eVar 8) (eLst (aCons (eTup (aCons (eBin bIx (eLst (aCons (eC (.str [105, 110])) (aCons (eC (.str [111, 117, 116])) aNil))) (eCall f__law_draw (aCons (eVar 0) (aCons (eC (.int 2)) aNil)))) (aCons (eVar 6) (aCons (eVar 7) aNil)))) aNil))) (gN 8))
  z_law_other_log_0)
abbrev z_law_other_log_2 : MS := (sSeq (sAsg (eLst (aCons (eTup (aCons (eVar 5) (aCons (eBin bAdd (eVar 6) (eC (.int 1))) (aCons (eVar 7) aNil)))) (aCons (eTup (aCons (eVar 5) (aCons (eCB fMax (aCons (eC (.int 0)) (aCons (eBin bSub (eVar 6) (eC (.int 1))) aNil))) (aCons (eVar 7) aNil)))) (aCons (eTup (aCons (eVar 5) (aCons (eVar 6) (aCons (eBin bAdd (eC (.int 1)) (eCall f__law_draw (aCons (eVar 0) (aCons (eC (.int 9)) aNil)))) aNil)))) aNil)))) (gN 8))
  z_law_other_log_1)
abbrev z_law_other_log_3 : MS := (sSeq (sAsg (eBin bIx (eVar 2) (eVar 4)) (gT (gsCons (gN 5) (gsCons (gN 6) (gsCons (gN 7) gsNil)))))
  z_law_other_log_2)
abbrev z_law_other_log_4 : MS := (sSeq (sAsg (eCall f__law_draw (aCons (eVar 0) (aCons (eCB fLen (aCons (eVar 2) aNil)) aNil))) (gN 4))
  z_law_other_log_3)
abbrev z_law_other_log_5 : MS := (sSeq (sIf (cBool (eBin bEq (eVar 3) (eC (.int 4)))) (sRet (eCall f__law_log (aCons (eVar 0) (aCons (eVar 1) (aCons (eC (.int 8)) aNil))))) sPass)
  z_law_other_log_4)
abbrev z_law_other_log_6 : MS := (sSeq (sIf (cOr (cBool (eBin bLt (eVar 3) (eC (.int 2)))) (cBool (eBin bEq (eVar 2) (eTup aNil)))) (sRet (eCall f__law_rewritten (aCons (eVar 0) (aCons (eVar 2) aNil)))) sPass)
  z_law_other_log_5)
def b__law_other_log : MS := (sSeq (sAsg (eCall f__law_draw (aCons (eVar 0) (aCons (eC (.int 5)) aNil))) (gN 3))
  z_law_other_log_6)
def f__law_other_log : MF := runF 9 3 b__law_other_log
abbrev z_law_reach_0 : MS := (sAsg (eIf (cBool (eBin bEq (eVar 3) (eC (.str [105, 110])))) (eBin bAdd (eVar 2) (eVar 5)) (eBin bSub (eVar 2) (eVar 5))) (gN 2))
abbrev z_law_reach_1 : MS := (sSeq (sAsg (eCB fMax3 (aCons (eVar 1) (aCons (eBin bSub (eVar 4) (eVar 2)) (aCons (eIf (cBool (eBin bEq (eVar 3) (eC (.str [111, 117, 116])))) (eBin bSub (eBin bAdd (eVar 4) (eVar 5)) (eVar 2)) (eC (.int 0))) aNil)))) (gN 1))
  z_law_reach_0)
abbrev z_law_reach_2 : MS := (sSeq (sFor (iSeq (eVar 0)) (gT (gsCons (gN 3) (gsCons (gN 4) (gsCons (gN 5) gsNil)))) z_law_reach_1)
  (sRet (eVar 1)))
def b__law_reach : MS := (sSeq (sAsg (eTup (aCons (eC (.int 0)) (aCons (eC (.int 0)) aNil))) (gT (gsCons (gN 1) (gsCons (gN 2) gsNil))))
  z_law_reach_2)
def f__law_reach : MF := runF 6 1 b__law_reach
/-- need_logs -/
def b_need_logs : MS := (sSeq (sExp (eCall f_need_log (aCons (eVar 0) aNil)))
  (sExp (eCall f_need_log (aCons (eVar 1) aNil))))
def f_need_logs : MF := runF 2 2 b_need_logs
abbrev z_meeting_length_0 : MS := (sRet (eCB fMax (aCons (eCall f_reach_of (aCons (eVar 0) aNil)) (aCons (eCall f_reach_of (aCons (eVar 1) aNil)) aNil))))
def b_meeting_length : MS := (sSeq (sExp (eCall f_need_logs (aCons (eVar 0) (aCons (eVar 1) aNil))))
  z_meeting_length_0)
def f_meeting_length : MF := runF 2 2 b_meeting_length
abbrev z_parting_mark_0 : MS := (sIf (cBool (eBin bNe (eCall f_carried (aCons (eVar 0) (aCons (eVar 2) (aCons (eVar 3) aNil)))) (eCall f_carried (aCons (eVar 1) (aCons (eVar 2) (aCons (eVar 3) aNil)))))) (sRet (eTup (aCons (eVar 2) (aCons (eVar 3) aNil)))) sPass)
abbrev z_parting_mark_1 : MS := (sFor (iSeq (eTup (aCons (eC (.str [108, 101, 102, 116])) (aCons (eC (.str [114, 105, 103, 104, 116])) aNil)))) (gN 3) z_parting_mark_0)
def b_parting_mark : MS := (sSeq (sFor (iRng1 (aCons (eBin bAdd (eCall f_meeting_length (aCons (eVar 0) (aCons (eVar 1) aNil))) (eC (.int 1))) aNil)) (gN 2) z_parting_mark_1)
  (sRet (eC .non)))
def f_parting_mark : MF := runF 4 2 b_parting_mark
/-- alike -/
def b_alike : MS := (sRet (eBin bIs (eCall f_parting_mark (aCons (eVar 0) (aCons (eVar 1) aNil))) (eC .non)))
def f_alike : MF := runF 2 2 b_alike
abbrev z_is_range_0 : MS := (sRet (eAnd (eCall f_is_mark (aCons (eVar 0) (aCons (eSl (eVar 1) oNone (oSome (eC (.int 2)))) aNil))) (eAnd (eCall f_is_mark (aCons (eVar 0) (aCons (eSl (eVar 1) (oSome (eC (.int 2))) oNone) aNil))) (eBin bLe (eBin bIx (eVar 1) (eC (.int 0))) (eBin bIx (eVar 1) (eC (.int 2)))))))
def b_is_range : MS := (sSeq (sIf (cOr (cNot (cTru (eCB fIsi (aCons (eVar 1) (aCons (eC (.ty "tuple")) aNil))))) (cBool (eBin bNe (eCB fLen (aCons (eVar 1) aNil)) (eC (.int 4))))) (sRet (eC (.bl false))) sPass)
  z_is_range_0)
def f_is_range : MF := runF 2 2 b_is_range
/-- checked -/
def b_checked : MS := (sSeq (sIf (cNot (cTru (eCall f_is_range (aCons (eVar 0) (aCons (eVar 1) aNil))))) (sRaise "BadRange" ["given"] (aCons (eVar 1) aNil)) sPass)
  (sRet (eVar 1)))
def f_checked : MF := runF 2 2 b_checked
abbrev z_need_range_0 : MS := (sRet (eCall f_checked (aCons (eVar 0) (aCons (eVar 1) aNil))))
def b_need_range : MS := (sSeq (sExp (eCall f_need_length (aCons (eVar 0) aNil)))
  z_need_range_0)
def f_need_range : MF := runF 2 2 b_need_range
abbrev z_carry_range_0 : MS := (sRet (eTup (aCons (eIxC "Chart" f_Chart_getitem (eVar 0) (eTup (aCons (eVar 2) (aCons (eVar 3) aNil)))) (aCons (eIxC "Chart" f_Chart_getitem (eVar 0) (eTup (aCons (eVar 4) (aCons (eVar 5) aNil)))) aNil))))
def b_carry_range : MS := (sSeq (sAsg (eCall f_checked (aCons (eLenC "Chart" f_Chart_len (aCons (eVar 0) aNil)) (aCons (eVar 1) aNil))) (gT (gsCons (gN 2) (gsCons (gN 3) (gsCons (gN 4) (gsCons (gN 5) gsNil))))))
  z_carry_range_0)
def f_carry_range : MF := runF 6 2 b_carry_range
/-- turns_over -/
def b_turns_over : MS := (sSeq (sAsg (eCall f_carry_range (aCons (eVar 0) (aCons (eVar 1) aNil))) (gT (gsCons (gN 2) (gsCons (gN 3) gsNil))))
  (sRet (eBin bGt (eVar 2) (eVar 3))))
def f_turns_over : MF := runF 4 2 b_turns_over
abbrev z_law_edit_0 : MS := (sRet (eTup (aCons (eC (.str [105, 110])) (aCons (eVar 2) (aCons (eVar 3) aNil)))))
abbrev z_law_edit_1 : MS := (sSeq (sIf (cAnd (cBool (eBin bEq (eCall f__law_draw (aCons (eVar 0) (aCons (eC (.int 2)) aNil))) (eC (.int 0)))) (cBool (eBin bLt (eVar 2) (eVar 1)))) (sRet (eTup (aCons (eC (.str [111, 117, 116])) (aCons (eVar 2) (aCons (eCB fMin (aCons (eVar 3) (aCons (eBin bSub (eVar 1) (eVar 2)) aNil))) aNil))))) sPass)
  z_law_edit_0)
def b__law_edit : MS := (sSeq (sPar2 2 3 (aCons (eCall f__law_draw (aCons (eVar 0) (aCons (eBin bAdd (eVar 1) (eC (.int 1))) aNil))) (aCons (eBin bAdd (eC (.int 1)) (eCall f__law_draw (aCons (eVar 0) (aCons (eC (.int 9)) aNil)))) aNil)))
  z_law_edit_1)
def f__law_edit : MF := runF 4 2 b__law_edit
abbrev z_still_there_0 : MS := (sRet (eLst (aCons (eTup (aCons (eIf (cBool (eBin bLe (eVar 3) (eVar 5))) (eBin bAdd (eVar 5) (eVar 4)) (eVar 5)) (aCons (eBin bIx (eVar 0) (eC (.int 2))) aNil))) aNil)))
abbrev z_still_there_1 : MS := (sRet (eIf (cBool (eBin bGt (eVar 7) (eC (.int 0)))) (eLst (aCons (eTup (aCons (eCall f_gap_behind (aCons (eVar 1) (aCons (eVar 5) (aCons (eC (.str [108, 101, 102, 116])) aNil)))) (aCons (eVar 7) aNil))) aNil)) (eLst aNil)))
abbrev z_still_there_2 : MS := (sSeq (sAsg (eCB fLen (aCons (eLc (iRng2 (aCons (eVar 5) (aCons (eVar 6) aNil))) (gN 8) (cNot (cBool (eChain bLe bLt (eVar 3) (eVar 8) (eBin bAdd (eVar 3) (eVar 4))))) (eVar 8) [8]) aNil)) (gN 7))
  z_still_there_1)
abbrev z_still_there_3 : MS := (sSeq (sIf (cBool (eBin bEq (eVar 2) (eC (.str [105, 110])))) (sSeq (sIf (cBool (eChain bLt bLt (eVar 5) (eVar 3) (eVar 6))) (sRet (eLst (aCons (eTup (aCons (eVar 5) (aCons (eBin bSub (eVar 3) (eVar 5)) aNil))) (aCons (eTup (aCons (eBin bAdd (eVar 3) (eVar 4)) (aCons (eBin bSub (eVar 6) (eVar 3)) aNil))) aNil)))) sPass)
  z_still_there_0) sPass)
  z_still_there_2)
abbrev z_still_there_4 : MS := (sSeq (sPar2 5 6 (aCons (eBin bIx (eVar 0) (eC (.int 1))) (aCons (eBin bAdd (eBin bIx (eVar 0) (eC (.int 1))) (eBin bIx (eVar 0) (eC (.int 2)))) aNil)))
  z_still_there_3)
def b_still_there : MS := (sSeq (sAsg (eVar 1) (gT (gsCons (gN 2) (gsCons (gN 3) (gsCons (gN 4) gsNil)))))
  z_still_there_4)
def f_still_there : MF := runF 9 2 b_still_there
/-- Desk.__init__ -/
def b_Desk_init : MS := (sSeq (sFldD "Desk" "own_length" (eVar 0) (eC (.int 0)))
  (sFldD "Desk" "own_log" (eVar 0) (eTup aNil)))
def f_Desk_init : MF := runF 1 1 b_Desk_init
end
end T5.G
namespace T5.G
open PySem PySem.Spec PyProof.Rows L2
noncomputable section
/-- inverse_of -/
def b_inverse_of : MS := (sRet (eCB fTuple (aCons (eLc (iSeq (eRev (eVar 0))) (gT (gsCons (gN 1) (gsCons (gN 2) (gsCons (gN 3) gsNil)))) cYes (eTup (aCons (eIf (cBool (eBin bEq (eVar 1) (eC (.str [105, 110])))) (eC (.str [111, 117, 116])) (eC (.str [105, 110]))) (aCons (eVar 2) (aCons (eVar 3) aNil)))) [1, 2, 3]) aNil)))
def f_inverse_of : MF := runF 4 1 b_inverse_of
/-- inverse -/
def b_inverse : MS := (sRet (eCall f_inverse_of (aCons (eCall f_need_log (aCons (eVar 0) aNil)) aNil)))
def f_inverse : MF := runF 1 1 b_inverse
abbrev z_comes_back_0 : MS := (sRet (eBin bEq (eCall f_carried (aCons (eCall f_inverse_of (aCons (eVar 1) aNil)) (aCons (eVar 3) (aCons (eVar 4) aNil)))) (eBin bIx (eVar 2) (eC (.int 0)))))
def b_comes_back : MS := (sSeq (sAsg (eCall f_carry (aCons (eVar 0) (aCons (eVar 1) (aCons (eVar 2) aNil)))) (gT (gsCons (gN 3) (gsCons (gN 4) gsNil))))
  z_comes_back_0)
def f_comes_back : MF := runF 5 3 b_comes_back
abbrev z_done_behind_0 : MS := (sRet (eCB fTuple (aCons (eLc (iSeq (eRev (eCall f_still_there (aCons (eVar 0) (aCons (eVar 1) aNil))))) (gT (gsCons (gN 3) (gsCons (gN 4) gsNil))) cYes (eTup (aCons (eC (.str [111, 117, 116])) (aCons (eVar 3) (aCons (eVar 4) aNil)))) [3, 4]) aNil)))
def b_done_behind : MS := (sSeq (sIf (cBool (eBin bEq (eBin bIx (eVar 0) (eC (.int 0))) (eC (.str [105, 110])))) (sRet (eTup (aCons (eTup (aCons (eC (.str [105, 110])) (aCons (eCall f_gap_behind (aCons (eVar 1) (aCons (eBin bIx (eVar 0) (eC (.int 1))) (aCons (eIf (cTru (eVar 2)) (eC (.str [108, 101, 102, 116])) (eC (.str [114, 105, 103, 104, 116]))) aNil)))) (aCons (eBin bIx (eVar 0) (eC (.int 2))) aNil)))) aNil))) sPass)
  z_done_behind_0)
def f_done_behind : MF := runF 5 3 b_done_behind
abbrev z_both_ways_0 : MS := (sRet (eTup (aCons (eBin bAdd (eTup (aCons (eVar 0) aNil)) (eCall f_done_behind (aCons (eVar 1) (aCons (eVar 0) (aCons (eC (.bl false)) aNil))))) (aCons (eBin bAdd (eTup (aCons (eVar 1) aNil)) (eCall f_done_behind (aCons (eVar 0) (aCons (eVar 1) (aCons (eC (.bl true)) aNil))))) aNil))))
abbrev z_both_ways_1 : MS := (sSeq (sExp (eCall f_need_edit (aCons (eVar 1) aNil)))
  z_both_ways_0)
def b_both_ways : MS := (sSeq (sExp (eCall f_need_edit (aCons (eVar 0) aNil)))
  z_both_ways_1)
def f_both_ways : MF := runF 2 2 b_both_ways
abbrev z_ways_alike_0 : MS := (sIf (cTru (eCB fAny (aCons (eLc (iRng1 (aCons (eBin bAdd (eVar 4) (eC (.int 1))) aNil)) (gN 6) cYes (eBin bNe (eCall f_carried (aCons (eVar 2) (aCons (eVar 6) (aCons (eVar 5) aNil)))) (eCall f_carried (aCons (eVar 3) (aCons (eVar 6) (aCons (eVar 5) aNil))))) [6]) aNil))) (sRet (eC (.bl false))) sPass)
abbrev z_ways_alike_1 : MS := (sSeq (sFor (iSeq (eTup (aCons (eC (.str [108, 101, 102, 116])) (aCons (eC (.str [114, 105, 103, 104, 116])) aNil)))) (gN 5) z_ways_alike_0)
  (sRet (eC (.bl true))))
abbrev z_ways_alike_2 : MS := (sSeq (sAsg (eCB fMax (aCons (eCall f_reach_of (aCons (eVar 2) aNil)) (aCons (eCall f_reach_of (aCons (eVar 3) aNil)) aNil))) (gN 4))
  z_ways_alike_1)
def b_ways_alike : MS := (sSeq (sAsg (eCall f_both_ways (aCons (eVar 0) (aCons (eVar 1) aNil))) (gT (gsCons (gN 2) (gsCons (gN 3) gsNil))))
  z_ways_alike_2)
def f_ways_alike : MF := runF 7 2 b_ways_alike
end
end T5.G
namespace T5.G
open PySem PySem.Spec PyProof.Rows L2
noncomputable section
abbrev z_Chart_str_0 : MS := (sRet (eFs [(true, (eFld "Chart" "own_many" (eVar 0))), (false, eC (.str [58, 32])), (true, (eVar 1))]))
def b_Chart_str : MS := (sSeq (sAsg (eJoin (eC (.str [32])) (eLc (iZipD (aCons (eFld "Chart" "own_lefts" (eVar 0)) (aCons (eFld "Chart" "own_rights" (eVar 0)) aNil))) (gT (gsCons (gN 2) (gsCons (gN 3) gsNil))) cYes (eFs [(true, (eVar 2)), (false, eC (.str [45])), (true, (eVar 3))]) [2, 3])) (gN 1))
  z_Chart_str_0)
def f_Chart_str : MF := runF 4 1 b_Chart_str
abbrev z_law_any_log_0 : MS := (sExp (eMthL fApp (eVar 1) (aCons (eTup (aCons (eBin bIx (eLst (aCons (eC (.str [105, 110])) (aCons (eC (.str [111, 117, 116])) aNil))) (eCall f__law_draw (aCons (eVar 0) (aCons (eC (.int 2)) aNil)))) (aCons (eVar 3) (aCons (eBin bAdd (eC (.int 1)) (eCall f__law_draw (aCons (eVar 0) (aCons (eC (.int 9)) aNil)))) aNil)))) aNil)))
abbrev z_law_any_log_1 : MS := (sSeq (sAsg (eCall f__law_among (aCons (eVar 0) (aCons (eLst (aCons (eCall f__law_draw (aCons (eVar 0) (aCons (eC (.int 1000)) aNil))) (aCons (eCall f__law_draw (aCons (eVar 0) (aCons (eC (.int 12)) aNil))) (aCons (eC (.int 0)) (aCons (eC (.int 9)) (aCons (eC (.int 10)) (aCons (eC (.int 99)) (aCons (eC (.int 100)) (aCons (eC (.int 999)) aNil))))))))) aNil))) (gN 3))
  z_law_any_log_0)
abbrev z_law_any_log_2 : MS := (sSeq (sFor (iRng1 (aCons (eBin bIx (eLst (aCons (eCall f__law_draw (aCons (eVar 0) (aCons (eC (.int 9)) aNil))) (aCons (eCall f__law_draw (aCons (eVar 0) (aCons (eC (.int 9)) aNil))) (aCons (eC (.int 40)) aNil)))) (eCall f__law_draw (aCons (eVar 0) (aCons (eC (.int 3)) aNil)))) aNil)) (gN 2) z_law_any_log_1)
  (sRet (eCB fTuple (aCons (eVar 1) aNil))))
def b__law_any_log : MS := (sSeq (sAsg (eLstM aNil) (gN 1))
  z_law_any_log_2)
def f__law_any_log : MF := fin (runF 4 1 b__law_any_log)
abbrev z_law_written_0 : MS := (sExp (eMthL fApp (eVar 1) (aCons (eBin bAdd (eBin bAdd (eBin bAdd (eIf (cBool (eBin bEq (eVar 2) (eC (.str [105, 110])))) (eC (.str [43])) (eC (.str [45]))) (eCB fStr (aCons (eVar 3) aNil))) (eC (.str [120]))) (eCB fStr (aCons (eVar 4) aNil))) aNil)))
abbrev z_law_written_1 : MS := (sSeq (sFor (iSeq (eVar 0)) (gT (gsCons (gN 2) (gsCons (gN 3) (gsCons (gN 4) gsNil)))) z_law_written_0)
  (sRet (eJoin (eC (.str [32])) (eVar 1))))
def b__law_written : MS := (sSeq (sAsg (eLstM aNil) (gN 1))
  z_law_written_1)
def f__law_written : MF := fin (runF 5 1 b__law_written)
abbrev z_edit_text_0 : MS := (sRet (eFs [(true, (eIf (cBool (eBin bEq (eVar 1) (eC (.str [105, 110])))) (eC (.str [43])) (eC (.str [45])))), (true, (eVar 2)), (false, eC (.str [120])), (true, (eVar 3))]))
def b_edit_text : MS := (sSeq (sAsg (eVar 0) (gT (gsCons (gN 1) (gsCons (gN 2) (gsCons (gN 3) gsNil)))))
  z_edit_text_0)
def f_edit_text : MF := runF 4 1 b_edit_text
/-- edits_text -/
def b_edits_text : MS := (sRet (eJoin (eC (.str [32])) (eLc (iSeq (eVar 0)) (gN 1) cYes (eCall f_edit_text (aCons (eVar 1) aNil)) [1])))
def f_edits_text : MF := runF 2 1 b_edits_text
/-- log_text -/
def b_log_text : MS := (sRet (eCall f_edits_text (aCons (eCall f_need_log (aCons (eVar 0) aNil)) aNil)))
def f_log_text : MF := runF 1 1 b_log_text
abbrev z_law_piece_0 : MS := (sRet (eJoin (eC (.str [])) (eLc (iRng1 (aCons (eCall f__law_draw (aCons (eVar 0) (aCons (eBin bAdd (eVar 1) (eC (.int 1))) aNil))) aNil)) (gN 4) cYes (eBin bIx (eVar 2) (eCall f__law_draw (aCons (eVar 0) (aCons (eVar 3) aNil)))) [4])))
abbrev z_law_piece_1 : MS := (sSeq (sAsg (eBin bIx (eLst (aCons (eC (.int 3)) (aCons (eC (.int 5)) (aCons (eCB fLen (aCons (eVar 2) aNil)) aNil)))) (eCall f__law_draw (aCons (eVar 0) (aCons (eC (.int 3)) aNil)))) (gN 3))
  z_law_piece_0)
def b__law_piece : MS := (sSeq (sAsg (eC (.str [97, 32, 98, 10, 99, 100, 101, 102, 103, 104, 105, 106, 107, 108, 109, 110, 111, 112, 113, 114, 115, 116, 117, 118, 119, 120, 121, 122, 65, 66, 67, 68, 69, 70, 71, 72, 73, 74, 75, 76, 77, 78, 79, 80, 81, 82, 83, 84, 85, 86, 87, 88, 89, 90, 48, 49, 50, 51, 52, 53, 54, 55, 56, 57, 46, 44, 59, 58, 33, 63, 45, 43, 42, 47, 61, 60, 62, 40, 41, 91, 93, 123, 125, 35, 36, 38, 64, 94, 124, 126, 96, 39])) (gN 2))
  z_law_piece_1)
def f__law_piece : MF := runF 5 2 b__law_piece
abbrev z_Sheet_init_0 : MS := (sSeq (sFldD "Sheet" "ahead" (eVar 0) (eTup aNil))
  (sFldD "Sheet" "undone" (eVar 0) (eTup aNil)))
abbrev z_Sheet_init_1 : MS := (sSeq (sFldD "Sheet" "now" (eVar 0) (eTup (aCons (eVar 1) (aCons (eC (.dic false [] [])) aNil))))
  z_Sheet_init_0)
def b_Sheet_init : MS := (sSeq (sIf (cNot (cTru (eCB fIsi (aCons (eVar 1) (aCons (eC (.ty "str")) aNil))))) (sRaise "BadText" ["place"] (aCons (eNeg (eC (.int 1))) aNil)) sPass)
  z_Sheet_init_1)
def f_Sheet_init : MF := runF 2 2 b_Sheet_init
/-- _law_world -/
def b__law_world : MS := (sRet (eDisp [((eC (.str [115, 116, 97, 116, 101, 115])), (eLstM (aCons (eTup (aCons (eVar 0) (aCons (eC (.dic false [] [])) aNil))) aNil))), ((eC (.str [97, 116])), (eC (.int 0)))]))
def f__law_world : MF := fin (runF 1 1 b__law_world)
end
end T5.G
namespace T5.G
open PySem PySem.Spec PyProof.Rows L2
noncomputable section
/-- Reader.__init__ -/
def b_Reader_init : MS := (sSeq (sFldD "Reader" "own_text" (eVar 0) (eVar 1))
  (sFldD "Reader" "own_at" (eVar 0) (eC (.int 0))))
def f_Reader_init : MF := runF 2 2 b_Reader_init
/-- Reader.sign -/
def b_Reader_sign : MS := (sRet (eSl (eFld "Reader" "own_text" (eVar 0)) (oSome (eFld "Reader" "own_at" (eVar 0))) (oSome (eBin bAdd (eFld "Reader" "own_at" (eVar 0)) (eC (.int 1))))))
def f_Reader_sign : MF := runF 1 1 b_Reader_sign
/-- Reader.need -/
def b_Reader_need : MS := (sIf (cNot (cTru (eVar 1))) (sRaise "BadText" ["place"] (aCons (eFld "Reader" "own_at" (eVar 0)) aNil)) sPass)
def f_Reader_need : MF := runF 2 2 b_Reader_need
abbrev z_Reader_read_one_0 : MS := (sSeq (sAugFI "Reader" "own_at" (eVar 0) (eC (.int 1)))
  (sRet (eVar 2)))
abbrev z_Reader_read_one_1 : MS := (sSeq (sExp (eMeth "Reader" "need" f_Reader_need (eVar 0) (aCons (eAnd (eBin bNe (eVar 2) (eC (.str []))) (eBin bIn (eVar 2) (eVar 1))) aNil)))
  z_Reader_read_one_0)
def b_Reader_read_one : MS := (sSeq (sAsg (eMeth "Reader" "sign" f_Reader_sign (eVar 0) aNil) (gN 2))
  z_Reader_read_one_1)
def f_Reader_read_one : MF := runF 3 2 b_Reader_read_one
abbrev z_Reader_read_gap_0 : MS := (sAsg (eBin bAdd (eVar 1) (eMeth "Reader" "read_one" f_Reader_read_one (eVar 0) (aCons (eC (.str [48, 49, 50, 51, 52, 53, 54, 55, 56, 57])) aNil))) (gN 1))
abbrev z_Reader_read_gap_1 : MS := (sSeq (sWhile 1000 (cAnd (cBool (eBin bNe (eVar 1) (eC (.str [48])))) (cAnd (cBool (eBin bNe (eMeth "Reader" "sign" f_Reader_sign (eVar 0) aNil) (eC (.str [])))) (cAnd (cBool (eBin bIn (eMeth "Reader" "sign" f_Reader_sign (eVar 0) aNil) (eC (.str [48, 49, 50, 51, 52, 53, 54, 55, 56, 57])))) (cBool (eBin bLe (eCB fInt (aCons (eBin bAdd (eVar 1) (eMeth "Reader" "sign" f_Reader_sign (eVar 0) aNil)) aNil)) (eC (.int 999))))))) z_Reader_read_gap_0)
  (sRet (eCB fInt (aCons (eVar 1) aNil))))
def b_Reader_read_gap : MS := (sSeq (sAsg (eMeth "Reader" "read_one" f_Reader_read_one (eVar 0) (aCons (eC (.str [48, 49, 50, 51, 52, 53, 54, 55, 56, 57])) aNil)) (gN 1))
  z_Reader_read_gap_1)
def f_Reader_read_gap : MF := runF 2 1 b_Reader_read_gap
abbrev z_Reader_read_edit_0 : MS := (sRet (eTup (aCons (eVar 1) (aCons (eVar 2) (aCons (eCB fInt (aCons (eMeth "Reader" "read_one" f_Reader_read_one (eVar 0) (aCons (eSl (eC (.str [48, 49, 50, 51, 52, 53, 54, 55, 56, 57])) (oSome (eC (.int 1))) oNone) aNil)) aNil)) aNil)))))
abbrev z_Reader_read_edit_1 : MS := (sSeq (sExp (eMeth "Reader" "read_one" f_Reader_read_one (eVar 0) (aCons (eC (.str [120])) aNil)))
  z_Reader_read_edit_0)
abbrev z_Reader_read_edit_2 : MS := (sSeq (sAsg (eMeth "Reader" "read_gap" f_Reader_read_gap (eVar 0) aNil) (gN 2))
  z_Reader_read_edit_1)
def b_Reader_read_edit : MS := (sSeq (sAsg (eIf (cBool (eBin bEq (eMeth "Reader" "read_one" f_Reader_read_one (eVar 0) (aCons (eC (.str [43, 45])) aNil)) (eC (.str [43])))) (eC (.str [105, 110])) (eC (.str [111, 117, 116]))) (gN 1))
  z_Reader_read_edit_2)
def f_Reader_read_edit : MF := runF 3 1 b_Reader_read_edit
abbrev z_Reader_read_all_0 : MS := (sExp (eMeth "Reader" "read_one" f_Reader_read_one (eVar 0) (aCons (eC (.str [32])) aNil)))
abbrev z_Reader_read_all_1 : MS := (sExp (eMthL fApp (eVar 1) (aCons (eMeth "Reader" "read_edit" f_Reader_read_edit (eVar 0) aNil) aNil)))
abbrev z_Reader_read_all_2 : MS := (sSeq (sIf (cBool (eBin bNe (eVar 1) (eLst aNil))) (sSeq (sExp (eMeth "Reader" "need" f_Reader_need (eVar 0) (aCons (eBin bLt (eCB fLen (aCons (eVar 1) aNil)) (eC (.int 40))) aNil)))
  z_Reader_read_all_0) sPass)
  z_Reader_read_all_1)
abbrev z_Reader_read_all_3 : MS := (sSeq (sWhile 1000 (cOr (cAnd (cBool (eBin bEq (eVar 1) (eLst aNil))) (cBool (eBin bNe (eFld "Reader" "own_text" (eVar 0)) (eC (.str []))))) (cBool (eBin bNe (eMeth "Reader" "sign" f_Reader_sign (eVar 0) aNil) (eC (.str []))))) z_Reader_read_all_2)
  (sRet (eCB fTuple (aCons (eVar 1) aNil))))
def b_Reader_read_all : MS := (sSeq (sAsg (eLstM aNil) (gN 1))
  z_Reader_read_all_3)
def f_Reader_read_all : MF := fin (runF 2 1 b_Reader_read_all)
abbrev z_read_log_0 : MS := (sRet (eMeth "Reader" "read_all" f_Reader_read_all (eCall (mkF "Reader" f_Reader_init) (aCons (eVar 0) aNil)) aNil))
def b_read_log : MS := (sSeq (sIf (cNot (cTru (eCB fIsi (aCons (eVar 0) (aCons (eC (.ty "str")) aNil))))) (sRaise "BadText" ["place"] (aCons (eNeg (eC (.int 1))) aNil)) sPass)
  z_read_log_0)
def f_read_log : MF := runF 1 1 b_read_log
end
end T5.G
namespace T5
open PySem PySem.Spec PyProof.Rows L2
def rRep01 (K : PySem.W.Frag) : R2 := fun x y H Q => ∃ l k xs, x = .ref l ∧ y = .int k ∧ SqT K H l xs ∧ xs ≠ [] ∧ ((k = 1 ∧ Q (.ref l) H) ∨ (k = 0 ∧ ∀ p, H p = none → Q (.ref p) (upd H p (.tup []))))
section
variable {X : Cx}
end
variable [TabC]
section
variable {K : PySem.W.Frag} {mg : Str → Option Value}
def bMulT : BO := fun st x y => match x, y with
  | .tup l, .int k => if l ≠ [] ∧ k = 1 then some (.tup l) else if l ≠ [] ∧ k = 0 then some (.tup []) else bMul st (.tup l) (.int k)
  | x, y => bMul st x y
end
section
variable {X : Cx} {a b : Expr} {ma mb : ME} {pos : Pos}
end
end T5
namespace T5.G
open PySem PySem.Spec PyProof.Rows L2
noncomputable section
abbrev z_law_number_0 : MS := (sRet (eTup (aCons (eLst (aCons (eCB fInt (aCons (eSl (eVar 0) (oSome (eVar 1)) (oSome (eVar 2))) aNil)) aNil)) (aCons (eVar 2) aNil))))
abbrev z_law_number_1 : MS := (sSeq (sWhile 1000 (cAnd (cBool (eBin bNe (eBin bIx (eVar 0) (eVar 1)) (eC (.str [48])))) (cAnd (cBool (eBin bNe (eSl (eVar 0) (oSome (eVar 2)) (oSome (eBin bAdd (eVar 2) (eC (.int 1))))) (eC (.str [])))) (cAnd (cBool (eBin bIn (eBin bIx (eVar 0) (eVar 2)) (eC (.str [48, 49, 50, 51, 52, 53, 54, 55, 56, 57])))) (cBool (eBin bLt (eVar 2) (eBin bAdd (eVar 1) (eC (.int 3)))))))) (sAsg (eBin bAdd (eVar 2) (eC (.int 1))) (gN 2)))
  z_law_number_0)
abbrev z_law_number_2 : MS := (sSeq (sAsg (eBin bAdd (eVar 1) (eC (.int 1))) (gN 2))
  z_law_number_1)
def b__law_number : MS := (sSeq (sIf (cOr (cBool (eBin bEq (eSl (eVar 0) (oSome (eVar 1)) (oSome (eBin bAdd (eVar 1) (eC (.int 1))))) (eC (.str [])))) (cBool (eBin bNotIn (eBin bIx (eVar 0) (eVar 1)) (eC (.str [48, 49, 50, 51, 52, 53, 54, 55, 56, 57]))))) (sRet (eTup (aCons (eLst aNil) (aCons (eVar 1) aNil)))) sPass)
  z_law_number_2)
def f__law_number : MF := runF 3 2 b__law_number
abbrev z_law_one_edit_0 : MS := (sRet (eTup (aCons (eLst (aCons (eTup (aCons (eIf (cBool (eBin bEq (eBin bIx (eVar 0) (eVar 1)) (eC (.str [43])))) (eC (.str [105, 110])) (eC (.str [111, 117, 116]))) (aCons (eBin bIx (eVar 2) (eC (.int 0))) (aCons (eCB fInt (aCons (eBin bIx (eVar 0) (eBin bAdd (eVar 3) (eC (.int 1)))) aNil)) aNil)))) aNil)) (aCons (eBin bAdd (eVar 3) (eC (.int 2))) aNil))))
abbrev z_law_one_edit_1 : MS := (sSeq (sIf (cOr (cBool (eBin bEq (eSl (eVar 0) (oSome (eBin bAdd (eVar 3) (eC (.int 1)))) (oSome (eBin bAdd (eVar 3) (eC (.int 2))))) (eC (.str [])))) (cBool (eBin bNotIn (eBin bIx (eVar 0) (eBin bAdd (eVar 3) (eC (.int 1)))) (eC (.str [49, 50, 51, 52, 53, 54, 55, 56, 57]))))) (sRet (eTup (aCons (eLst aNil) (aCons (eBin bAdd (eVar 3) (eC (.int 1))) aNil)))) sPass)
  z_law_one_edit_0)
abbrev z_law_one_edit_2 : MS := (sSeq (sIf (cOr (cBool (eBin bEq (eVar 2) (eLst aNil))) (cBool (eBin bNe (eSl (eVar 0) (oSome (eVar 3)) (oSome (eBin bAdd (eVar 3) (eC (.int 1))))) (eC (.str [120]))))) (sRet (eTup (aCons (eLst aNil) (aCons (eVar 3) aNil)))) sPass)
  z_law_one_edit_1)
abbrev z_law_one_edit_3 : MS := (sSeq (sAsg (eCall f__law_number (aCons (eVar 0) (aCons (eBin bAdd (eVar 1) (eC (.int 1))) aNil))) (gT (gsCons (gN 2) (gsCons (gN 3) gsNil))))
  z_law_one_edit_2)
def b__law_one_edit : MS := (sSeq (sIf (cOr (cBool (eBin bEq (eSl (eVar 0) (oSome (eVar 1)) (oSome (eBin bAdd (eVar 1) (eC (.int 1))))) (eC (.str [])))) (cBool (eBin bNotIn (eBin bIx (eVar 0) (eVar 1)) (eC (.str [43, 45]))))) (sRet (eTup (aCons (eLst aNil) (aCons (eVar 1) aNil)))) sPass)
  z_law_one_edit_3)
def f__law_one_edit : MF := runF 4 2 b__law_one_edit
abbrev z_law_read_0 : MS := (sSeq (sIf (cOr (cBool (eBin bNe (eBin bIx (eVar 0) (eVar 2)) (eC (.str [32])))) (cBool (eBin bEq (eCB fLen (aCons (eVar 1) aNil)) (eC (.int 40))))) (sRet (eLst (aCons (eC (.str [116, 101, 120, 116])) (aCons (eVar 2) aNil)))) sPass)
  (sAsg (eBin bAdd (eVar 2) (eC (.int 1))) (gN 2)))
abbrev z_law_read_1 : MS := (sSeq (sIf (cBool (eBin bEq (eVar 2) (eCB fLen (aCons (eVar 0) aNil)))) sBrk sPass)
  z_law_read_0)
abbrev z_law_read_2 : MS := (sSeq (sAsg (eBin bAdd (eVar 1) (eVar 3)) (gN 1))
  z_law_read_1)
abbrev z_law_read_3 : MS := (sSeq (sIf (cBool (eBin bEq (eVar 3) (eLst aNil))) (sRet (eLst (aCons (eC (.str [116, 101, 120, 116])) (aCons (eVar 2) aNil)))) sPass)
  z_law_read_2)
abbrev z_law_read_4 : MS := (sSeq (sAsg (eCall f__law_one_edit (aCons (eVar 0) (aCons (eVar 2) aNil))) (gT (gsCons (gN 3) (gsCons (gN 2) gsNil))))
  z_law_read_3)
abbrev z_law_read_5 : MS := (sRet (eLst (aCons (eC (.str [116, 111, 108, 100])) (aCons (eCB fTuple (aCons (eVar 1) aNil)) aNil))))
abbrev z_law_read_6 : MS := (sSeq (sWhile 1000 (cBool (eBin bNe (eVar 0) (eC (.str [])))) z_law_read_4)
  z_law_read_5)
def b__law_read : MS := (sSeq (sPar2 1 2 (aCons (eLst aNil) (aCons (eC (.int 0)) aNil)))
  z_law_read_6)
def f__law_read : MF := runF 4 1 b__law_read
end
end T5.G
namespace T5.G
open PySem PySem.Spec PyProof.Rows L2
noncomputable section
abbrev z_law_news_0 : MS := (sExp (eMthL fApp (eVar 2) (aCons (eTup (aCons (eVar 3) (aCons (eCB fLen (aCons (eVar 4) aNil)) (aCons (eBin bSub (eCB fLen (aCons (eLc (iSeq (eBin bIx (eVar 0) (eC (.int 1)))) (gN 7) (cBool (eBin bLe (eVar 7) (eVar 3))) (eVar 7) [7]) aNil)) (eC (.int 1))) aNil)))) aNil)))
abbrev z_law_news_1 : MS := (sIf (cBool (eBin bNotIn (eVar 3) (eVar 1))) (sSeq (sAsg (eLc (iEn (eBin bIx (eVar 0) (eC (.int 2)))) (gT (gsCons (gN 5) (gsCons (gN 6) gsNil))) (cBool (eBin bLe (eVar 6) (eVar 3))) (eVar 5) [5, 6]) (gN 4))
  z_law_news_0) sPass)
abbrev z_law_news_2 : MS := (sSeq (sFor (iRng1 (aCons (eBin bIx (eVar 0) (eC (.int 0))) aNil)) (gN 3) z_law_news_1)
  (sRet (eVar 2)))
def b__law_news : MS := (sSeq (sPar2 1 2 (aCons (eLc (iSeq (eCall f__law_stay (aCons (eVar 0) aNil))) (gN 3) cYes (eBin bIx (eBin bIx (eVar 0) (eC (.int 2))) (eVar 3)) [3]) (aCons (eLstM aNil) aNil)))
  z_law_news_2)
def f__law_news : MF := fin (runF 8 1 b__law_news)
/-- places_of -/
def b_places_of : MS := (sRet (eDc (iRng1 (aCons (eLenC "Chart" f_Chart_len (aCons (eVar 0) aNil)) aNil)) (gN 1) (cBool (eInC "Chart" f_Chart_contains (eVar 1) (eVar 0))) (eBin bIx (eProp "Chart" f_Chart_rights (eVar 0)) (eVar 1)) (eVar 1) [1]))
def f_places_of : MF := runF 2 1 b_places_of
abbrev z_holes_of_0 : MS := (sExp (eMthL fApp (eVar 3) (aCons (eTup (aCons (eVar 4) (aCons (eVar 5) (aCons (eCB fMax (aCons (eLc (iSeq (eVar 2)) (gN 6) (cBool (eBin bLe (eBin bIx (eProp "Chart" f_Chart_lefts (eVar 0)) (eVar 6)) (eVar 4))) (eVar 6) [6]) aNil)) aNil)))) aNil)))
abbrev z_holes_of_1 : MS := (sIf (cBool (eBin bNotIn (eVar 4) (eVar 1))) (sSeq (sAsg (eCB fMin (aCons (eLc (iSeq (eVar 2)) (gN 6) (cBool (eBin bGt (eBin bIx (eProp "Chart" f_Chart_rights (eVar 0)) (eVar 6)) (eVar 4))) (eVar 6) [6]) aNil)) (gN 5))
  z_holes_of_0) sPass)
abbrev z_holes_of_2 : MS := (sSeq (sFor (iRng1 (aCons (eProp "Chart" f_Chart_many (eVar 0)) aNil)) (gN 4) z_holes_of_1)
  (sRet (eVar 3)))
def b_holes_of : MS := (sSeq (sPar3 1 2 3 (aCons (eCall f_places_of (aCons (eVar 0) aNil)) (aCons (eLstRg (eBin bAdd (eLenC "Chart" f_Chart_len (aCons (eVar 0) aNil)) (eC (.int 1)))) (aCons (eLstM aNil) aNil))))
  z_holes_of_2)
def f_holes_of : MF := fin (runF 7 1 b_holes_of)
abbrev z_needed_pairs_0 : MS := (sIf (cAnd (cBool (eChain3 bLt bLe bLt (eVar 3) (eVar 6) (eVar 4) (eVar 7))) (cBool (eBin bNotIn (eTup (aCons (eVar 6) (aCons (eVar 4) aNil))) (eVar 1)))) (sSet (eC (.bl true)) (eVar 5) (eTup (aCons (eVar 6) (aCons (eVar 4) aNil)))) sPass)
abbrev z_needed_pairs_1 : MS := (sFor (iKeyT (eVar 1)) (gT (gsCons (gN 6) (gsCons (gN 7) gsNil))) z_needed_pairs_0)
abbrev z_needed_pairs_2 : MS := (sRet (eCB fTuple (aCons (eCB fSortP (aCons (eCB fListT (aCons (eVar 5) aNil)) aNil)) aNil)))
abbrev z_needed_pairs_3 : MS := (sSeq (sFor (iKeyT (eVar 1)) (gT (gsCons (gN 3) (gsCons (gN 4) gsNil))) z_needed_pairs_1)
  z_needed_pairs_2)
def b_needed_pairs : MS := (sSeq (sAsg (eDcT (iSeq (eCall f_holes_of (aCons (eVar 0) aNil))) (gT (gsCons (gN 2) (gsCons (gN 3) (gsCons (gN 4) gsNil)))) cYes (eTup (aCons (eVar 3) (aCons (eVar 4) aNil))) (eC (.bl true)) [2, 3, 4]) (gN 1))
  (sSeq (sAsg (eDnew true) (gN 5))
  z_needed_pairs_3))
def f_needed_pairs : MF := fin (runF 8 1 b_needed_pairs)
/-- least_cost -/
def b_least_cost : MS := (sRet (eBin bAdd (eBin bSub (eBin bAdd (eLenC "Chart" f_Chart_len (aCons (eVar 0) aNil)) (eProp "Chart" f_Chart_many (eVar 0))) (eBin bMul (eC (.int 2)) (eCB fLen (aCons (eCall f_places_of (aCons (eVar 0) aNil)) aNil)))) (eBin bMul (eC (.int 2)) (eCB fLen (aCons (eCall f_needed_pairs (aCons (eVar 0) aNil)) aNil)))))
def f_least_cost : MF := runF 1 1 b_least_cost
abbrev z_law_needed_0 : MS := (sIf (cAnd (cBool (eBin bLt (eVar 4) (eVar 6))) (cAnd (cBool (eBin bLe (eVar 6) (eVar 5))) (cAnd (cBool (eBin bLt (eVar 5) (eVar 7))) (cBool (eBin bNotInP (eTup (aCons (eVar 6) (aCons (eVar 5) aNil))) (eVar 1)))))) (sSet (eC (.bl true)) (eVar 2) (eTup (aCons (eVar 6) (aCons (eVar 5) aNil)))) sPass)
abbrev z_law_needed_1 : MS := (sFor (iSeq (eVar 1)) (gT (gsCons (gN 6) (gsCons (gN 7) gsNil))) z_law_needed_0)
abbrev z_law_needed_2 : MS := (sRet (eCB fTuple (aCons (eCB fSortP (aCons (eCB fListT (aCons (eVar 2) aNil)) aNil)) aNil)))
abbrev z_law_needed_3 : MS := (sSeq (sFor (iSeq (eVar 1)) (gT (gsCons (gN 4) (gsCons (gN 5) gsNil))) z_law_needed_1)
  z_law_needed_2)
def b__law_needed : MS := (sSeq (sPar2 1 2 (aCons (eLc (iSeq (eCall f__law_news (aCons (eVar 0) aNil))) (gT (gsCons (gN 3) (gsCons (gN 4) (gsCons (gN 5) gsNil)))) cYes (eTup (aCons (eVar 4) (aCons (eVar 5) aNil))) [3, 4, 5]) (aCons (eDnew true) aNil)))
  z_law_needed_3)
def f__law_needed : MF := fin (runF 8 1 b__law_needed)
abbrev z_law_least_0 : MS := (sRet (eBin bAdd (eBin bSub (eBin bAdd (eBin bSub (eBin bSub (eCB fLen (aCons (eBin bIx (eVar 0) (eC (.int 1))) aNil)) (eC (.int 1))) (eVar 1)) (eBin bIx (eVar 0) (eC (.int 0)))) (eVar 1)) (eBin bMul (eC (.int 2)) (eCB fLen (aCons (eCall f__law_needed (aCons (eVar 0) aNil)) aNil)))))
def b__law_least : MS := (sSeq (sAsg (eCB fLen (aCons (eCall f__law_stay (aCons (eVar 0) aNil)) aNil)) (gN 1))
  z_law_least_0)
def f__law_least : MF := runF 2 1 b__law_least
end
end T5.G
namespace T5.G
open PySem PySem.Spec PyProof.Rows L2
noncomputable section
/-- new_signs -/
def y_new_signs : ME := (eCall f_holes_of (aCons (eVar 0) aNil))
def f_new_signs : MF := runG 2 1 y_new_signs
end
end T5.G
namespace T5.G
open PySem PySem.Spec PyProof.Rows L2
noncomputable section
/-- Sheet.need_gap -/
def b_Sheet_need_gap : MS := (sIf (cNot (cTru (eCall f_is_integer (aCons (eVar 1) (aCons (eC (.int 0)) (aCons (eCB fLen (aCons (eBin bIx (eFld "Sheet" "now" (eVar 0)) (eC (.int 0))) aNil)) aNil)))))) (sRaise "BadMark" ["given"] (aCons (eVar 1) aNil)) sPass)
def f_Sheet_need_gap : MF := runF 2 2 b_Sheet_need_gap
/-- carried_marks -/
def b_carried_marks : MS := (sRet (eDc (iItm (eVar 0)) (gT (gsCons (gN 2) (gsCons (gT (gsCons (gN 3) (gsCons (gN 4) gsNil))) gsNil))) cYes (eVar 2) (eTup (aCons (eCall f_gap_behind (aCons (eVar 1) (aCons (eVar 3) (aCons (eVar 4) aNil)))) (aCons (eVar 4) aNil))) [2, 3, 4]))
def f_carried_marks : MF := runF 5 2 b_carried_marks
abbrev z_Sheet_set_now_0 : MS := (sFldD "Sheet" "now" (eVar 0) (eTup (aCons (eVar 1) (aCons (eVar 2) aNil))))
abbrev z_Sheet_set_now_1 : MS := (sSeq (sFldD "Sheet" "undone" (eVar 0) (eTup aNil))
  z_Sheet_set_now_0)
def b_Sheet_set_now : MS := (sSeq (sFldD "Sheet" "ahead" (eVar 0) (eBin bAdd (eFld "Sheet" "ahead" (eVar 0)) (eTup (aCons (eFld "Sheet" "now" (eVar 0)) aNil))))
  z_Sheet_set_now_1)
def f_Sheet_set_now : MF := runF 3 3 b_Sheet_set_now
abbrev z_Sheet_put_0 : MS := (sExp (eMeth "Sheet" "set_now" f_Sheet_set_now (eVar 0) (aCons (eBin bAdd (eBin bAdd (eSl (eVar 3) oNone (oSome (eVar 1))) (eVar 2)) (eSl (eVar 3) (oSome (eVar 1)) oNone)) (aCons (eCall f_carried_marks (aCons (eBin bIx (eFld "Sheet" "now" (eVar 0)) (eC (.int 1))) (aCons (eTup (aCons (eC (.str [105, 110])) (aCons (eVar 1) (aCons (eCB fLen (aCons (eVar 2) aNil)) aNil)))) aNil))) aNil))))
abbrev z_Sheet_put_1 : MS := (sSeq (sAsg (eBin bIx (eFld "Sheet" "now" (eVar 0)) (eC (.int 0))) (gN 3))
  z_Sheet_put_0)
abbrev z_Sheet_put_2 : MS := (sSeq (sIf (cNot (cTru (eCB fIsi (aCons (eVar 2) (aCons (eC (.ty "str")) aNil))))) (sRaise "BadText" ["place"] (aCons (eNeg (eC (.int 1))) aNil)) sPass)
  z_Sheet_put_1)
def b_Sheet_put : MS := (sSeq (sExp (eMeth "Sheet" "need_gap" f_Sheet_need_gap (eVar 0) (aCons (eVar 1) aNil)))
  z_Sheet_put_2)
def f_Sheet_put : MF := runF 4 3 b_Sheet_put
/-- Sheet.__iadd__ -/
def b_Sheet_iadd : MS := (sSeq (sExp (eMeth "Sheet" "put" f_Sheet_put (eVar 0) (aCons (eCB fLen (aCons (eBin bIx (eFld "Sheet" "now" (eVar 0)) (eC (.int 0))) aNil)) (aCons (eVar 1) aNil))))
  (sRet (eVar 0)))
def f_Sheet_iadd : MF := runF 2 2 b_Sheet_iadd
/-- _law_added -/
def b__law_added : MS := (sSeq (sAddC "Sheet" 0 f_Sheet_iadd (eVar 1))
  (sRet (eVar 0)))
def f__law_added : MF := runF 2 2 b__law_added
/-- Sheet.text -/
def b_Sheet_text : MS := (sRet (eBin bIx (eFld "Sheet" "now" (eVar 0)) (eC (.int 0))))
def f_Sheet_text : MF := runF 1 1 b_Sheet_text
abbrev z_Sheet_undo_0 : MS := (sSeq (sFldD "Sheet" "ahead" (eVar 0) (eSl (eFld "Sheet" "ahead" (eVar 0)) oNone (oSome (eNeg (eC (.int 1))))))
  (sRet (eC (.bl true))))
abbrev z_Sheet_undo_1 : MS := (sSeq (sFldD "Sheet" "now" (eVar 0) (eBin bIx (eFld "Sheet" "ahead" (eVar 0)) (eNeg (eC (.int 1)))))
  z_Sheet_undo_0)
abbrev z_Sheet_undo_2 : MS := (sSeq (sFldD "Sheet" "undone" (eVar 0) (eBin bAdd (eFld "Sheet" "undone" (eVar 0)) (eTup (aCons (eFld "Sheet" "now" (eVar 0)) aNil))))
  z_Sheet_undo_1)
def b_Sheet_undo : MS := (sSeq (sIf (cBool (eBin bEqN (eFld "Sheet" "ahead" (eVar 0)) (eTup aNil))) (sRet (eC (.bl false))) sPass)
  z_Sheet_undo_2)
def f_Sheet_undo : MF := runF 1 1 b_Sheet_undo
abbrev z_Sheet_cut_0 : MS := (sRet (eSl (eVar 3) (oSome (eVar 1)) (oSome (eBin bAdd (eVar 1) (eVar 2)))))
abbrev z_Sheet_cut_1 : MS := (sSeq (sExp (eMeth "Sheet" "set_now" f_Sheet_set_now (eVar 0) (aCons (eBin bAdd (eSl (eVar 3) oNone (oSome (eVar 1))) (eSl (eVar 3) (oSome (eBin bAdd (eVar 1) (eVar 2))) oNone)) (aCons (eCall f_carried_marks (aCons (eBin bIx (eFld "Sheet" "now" (eVar 0)) (eC (.int 1))) (aCons (eTup (aCons (eC (.str [111, 117, 116])) (aCons (eVar 1) (aCons (eVar 2) aNil)))) aNil))) aNil))))
  z_Sheet_cut_0)
abbrev z_Sheet_cut_2 : MS := (sSeq (sIf (cNot (cTru (eCall f_is_integer (aCons (eVar 2) (aCons (eC (.int 0)) (aCons (eBin bSub (eCB fLen (aCons (eVar 3) aNil)) (eVar 1)) aNil)))))) (sRaise "BadMark" ["given"] (aCons (eVar 2) aNil)) sPass)
  z_Sheet_cut_1)
abbrev z_Sheet_cut_3 : MS := (sSeq (sAsg (eBin bIx (eFld "Sheet" "now" (eVar 0)) (eC (.int 0))) (gN 3))
  z_Sheet_cut_2)
def b_Sheet_cut : MS := (sSeq (sExp (eMeth "Sheet" "need_gap" f_Sheet_need_gap (eVar 0) (aCons (eVar 1) aNil)))
  z_Sheet_cut_3)
def f_Sheet_cut : MF := runF 4 3 b_Sheet_cut
/-- Sheet.__len__ -/
def b_Sheet_len : MS := (sRet (eCB fLen (aCons (eBin bIx (eFld "Sheet" "now" (eVar 0)) (eC (.int 0))) aNil)))
def f_Sheet_len : MF := runF 1 1 b_Sheet_len
end
end T5.G
namespace T5
open PySem PySem.Spec PyProof.Rows L2
variable [TabC]
/-! ### sorting by an order of one's own -/
section
variable {α : Type} (lt : α → α → Bool)
def insG (p : α) : List α → List α
  | [] => [p]
  | q :: l => if lt q p = true then q :: insG p l else p :: q :: l
def sortG : List α → List α
  | [] => []
  | p :: l => insG lt p (sortG l)
variable {lt}
end
/-! ### sorted(xs), quads (int, int, str, int) -/
abbrev Qd : Type := Int × Int × List Nat × Int
def qkey (q : Qd) : List (Int ⊕ List Nat) := [.inl q.1, .inl q.2.1, .inr q.2.2.1, .inl q.2.2.2]
def ltQ (p q : Qd) : Bool := lexLt itemOrd (qkey p) (qkey q)
def sortQ (l : List Qd) : List Qd := sortG ltQ l
def quadD : D → Option Qd
  | .tup [.int i, .int j, .str s, .int k] => some (i, j, s, k)
  | _ => none
def dQd (p : Qd) : D := .tup [.int p.1, .int p.2.1, .str p.2.2.1, .int p.2.2.2]
def quadsD : List D → Option (List Qd)
  | [] => some []
  | d :: ds => (quadD d).bind fun p => (quadsD ds).map fun ps => p :: ps
def fSortQ : BF := fun st ds => match ds with
  | [d] => (lstOf st d).bind fun l => (quadsD l).map fun ps => .lst ((sortQ ps).map dQd)
  | _ => none
/-- sorted(xs), quads: which they are says k -/
def rSortedQ (K : PySem.W.Frag) : List V → Hp → VK → Prop := fun vs H Q => ∃ (a : Addr) (xs : List V) (k : V → Qd), vs = [V.ref a] ∧ SqL K H a xs ∧ (∀ x ∈ xs, ∃ t, x = V.ref t ∧ H t = some (.tup [.int (k x).1, .int (k x).2.1, .str (toStr (k x).2.2.1), .int (k x).2.2.2])) ∧
  ∀ ys p, SrtO.Srtd (fun x y => ltQ (k x) (k y)) ys → ys.Perm xs → H p = none → Q (.ref p) (upd H p (.lst ys))
section
variable {prog : Program} {w : World} {A : Around} {E : Value → Shared → Prop} {s : Shared}
def IsQuad (h : Heap) (v : Value) (q : Qd) : Prop := ∃ a o t1 t2 t3 t4 n, v = .ref a ∧ h.get? a = some o ∧ o.cls = .type "tuple" ∧ o.data = .seq #[.int q.1 t1, .int q.2.1 t2, .str (toStr q.2.2.1) t3, .int q.2.2.2 t4] n
theorem IsQuad.keeps {h h' : Heap} {v : Value} {q : Qd} (p : IsQuad h v q) (k : ∀ b o, h.get? b = some o → o.cls = .type "tuple" → h'.get? b = some o) : IsQuad h' v q := by
  obtain ⟨a, o, t1, t2, t3, t4, n, e, ho, hc, hd⟩ := p
  exact ⟨a, o, t1, t2, t3, t4, n, e, k _ _ ho hc, hc, hd⟩
def shQ (i : Nat) : Bool := i == 2
end
section
variable {X : Cx}
end
section
variable {K : PySem.W.Frag} {mg : Str → Option Value} {μ : Mu} {H : Hp} {X : Cx} {e : Expr} {es : List Expr} {ma : MA} {p pos : Pos}
/-- what a thing of the heap is as a quad -/
def kQ (H : Hp) : V → Qd
  | .ref t => match H t with
    | some (.tup [.int i, .int j, .str s, .int k]) => (i, j, s.cps.toList, k)
    | _ => (0, 0, [], 0)
  | _ => (0, 0, [], 0)
end
/-! ### sorted(xs), texts -/
section
variable {X : Cx} {K : PySem.W.Frag} {mg : Str → Option Value} {e : Expr} {es : List Expr} {ma : MA} {p pos : Pos}
def ltS (a b : List Nat) : Bool := decide (a < b)
def sortS (l : List (List Nat)) : List (List Nat) := sortG ltS l
def fSortS : BF := fun st ds => match ds with
  | [d] => (lstOf st d).bind fun l => (strsD l).map fun ps => .lst ((sortS ps).map .str)
  | _ => none
def rSortedSA (K : PySem.W.Frag) : List V → Hp → VK → Prop := fun vs H Q => ∃ (a : Addr) (xs : List Str), vs = [V.ref a] ∧ SqL K H a (xs.map V.str) ∧
  ∀ (ys : List Str) (p : Addr), ys.Perm xs → sortedS ys = true → H p = none → Q (.ref p) (upd H p (.lst (ys.map V.str)))
end
end T5
namespace T5
open PySem PySem.Spec PyProof.Rows L2
variable [TabC]
section
variable {X : Cx} {K : PySem.W.Frag} {mg : Str → Option Value} {e : Expr} {es : List Expr} {ma : MA} {p pos : Pos}
end
/-! ### for v in d.values(), d held -/
def iVal (m : ME) : MI := fun env st => (m env st).bind fun d st1 => match d with
  | .dic false _ vs => .ok vs st1
  | _ => .bad
section
variable {X : Cx} {tg e : Expr} {m : ME} {K : PySem.W.Frag} {mg : Str → Option Value} {μ1 : Mu} {H1 : Hp} {apos cpos : Pos}
end
end T5
namespace T5.G
open PySem PySem.Spec PyProof.Rows L2
noncomputable section
abbrev z_Builder_init_0 : MS := (sFldD "Builder" "stay" (eVar 0) (eDc (iVal (eCall f_places_of (aCons (eVar 1) aNil))) (gN 2) cYes (eVar 2) (eC (.bl true)) [2]))
abbrev z_Builder_init_1 : MS := (sSeq (sFldD "Builder" "edits" (eVar 0) (eLstM aNil))
  z_Builder_init_0)
def b_Builder_init : MS := (sSeq (sFldD "Builder" "rows" (eVar 0) (eLc (iRng1 (aCons (eLenC "Chart" f_Chart_len (aCons (eVar 1) aNil)) aNil)) (gN 2) cYes (eTup (aCons (eBin bAdd (eVar 2) (eC (.int 1))) (aCons (eVar 2) (aCons (eC (.str [111, 108, 100])) (aCons (eVar 2) aNil))))) [2]))
  z_Builder_init_1)
def f_Builder_init : MF := runF 3 2 b_Builder_init
abbrev z_Builder_take_0 : MS := (sExp (eMthL fApp (eFld "Builder" "edits" (eVar 0)) (aCons (eTup (aCons (eC (.str [111, 117, 116])) (aCons (eVar 1) (aCons (eC (.int 1)) aNil)))) aNil)))
def b_Builder_take : MS := (sSeq (sFldD "Builder" "rows" (eVar 0) (eBin bAdd (eSl (eFld "Builder" "rows" (eVar 0)) oNone (oSome (eVar 1))) (eSl (eFld "Builder" "rows" (eVar 0)) (oSome (eBin bAdd (eVar 1) (eC (.int 1)))) oNone)))
  z_Builder_take_0)
def f_Builder_take : MF := runF 2 2 b_Builder_take
abbrev z_Builder_clear_0 : MS := (sSeq (sIf (cAnd (cBool (eBin bLt (eVar 1) (eVar 4))) (cAnd (cBool (eBin bLt (eVar 5) (eVar 2))) (cBool (eBin bNe (eVar 6) (eC (.str [110, 101, 119])))))) (sExp (eMeth "Builder" "take" f_Builder_take (eVar 0) (aCons (eVar 3) aNil))) sPass)
  (sAug 3 bSub (eC (.int 1))))
abbrev z_Builder_clear_1 : MS := (sSeq (sAsg (eBin bIx (eFld "Builder" "rows" (eVar 0)) (eVar 3)) (gT (gsCons (gN 4) (gsCons (gN 5) (gsCons (gN 6) (gsCons (gN 7) gsNil))))))
  z_Builder_clear_0)
abbrev z_Builder_clear_2 : MS := (sWhile 1000 (cBool (eBin bGe (eVar 3) (eC (.int 0)))) z_Builder_clear_1)
def b_Builder_clear : MS := (sSeq (sAsg (eBin bSub (eCB fLen (aCons (eFld "Builder" "rows" (eVar 0)) aNil)) (eC (.int 1))) (gN 3))
  z_Builder_clear_2)
def f_Builder_clear : MF := runF 8 3 b_Builder_clear
abbrev z_Builder_come_0 : MS := (sExp (eMthL fApp (eFld "Builder" "edits" (eVar 0)) (aCons (eTup (aCons (eC (.str [105, 110])) (aCons (eVar 5) (aCons (eC (.int 1)) aNil)))) aNil)))
abbrev z_Builder_come_1 : MS := (sSeq (sFldD "Builder" "rows" (eVar 0) (eBin bAdd (eBin bAdd (eSl (eFld "Builder" "rows" (eVar 0)) oNone (oSome (eVar 5))) (eLst (aCons (eTup (aCons (eVar 1) (aCons (eVar 2) (aCons (eVar 3) (aCons (eVar 4) aNil))))) aNil))) (eSl (eFld "Builder" "rows" (eVar 0)) (oSome (eVar 5)) oNone)))
  z_Builder_come_0)
abbrev z_Builder_come_2 : MS := (sSeq (sAsg (eCB fLen (aCons (eLc (iSeq (eFld "Builder" "rows" (eVar 0))) (gN 6) (cAnd (cBool (eBin bLe (eBin bIx (eVar 6) (eC (.int 0))) (eVar 1))) (cBool (eBin bLe (eBin bIx (eVar 6) (eC (.int 1))) (eVar 2)))) (eVar 6) [6]) aNil)) (gN 5))
  z_Builder_come_1)
def b_Builder_come : MS := (sSeq (sExp (eMeth "Builder" "clear" f_Builder_clear (eVar 0) (aCons (eVar 1) (aCons (eVar 2) aNil))))
  z_Builder_come_2)
def f_Builder_come : MF := runF 7 5 b_Builder_come
abbrev z_Builder_finish_0 : MS := (sSeq (sIf (cOr (cBool (eBin bEq (eVar 4) (eC (.str [97, 105, 100])))) (cAnd (cBool (eBin bEq (eVar 4) (eC (.str [111, 108, 100])))) (cBool (eBin bNotIn (eVar 5) (eFld "Builder" "stay" (eVar 0)))))) (sExp (eMeth "Builder" "take" f_Builder_take (eVar 0) (aCons (eVar 1) aNil))) sPass)
  (sAug 1 bSub (eC (.int 1))))
abbrev z_Builder_finish_1 : MS := (sSeq (sAsg (eBin bIx (eFld "Builder" "rows" (eVar 0)) (eVar 1)) (gT (gsCons (gN 2) (gsCons (gN 3) (gsCons (gN 4) (gsCons (gN 5) gsNil))))))
  z_Builder_finish_0)
abbrev z_Builder_finish_2 : MS := (sWhile 1000 (cBool (eBin bGe (eVar 1) (eC (.int 0)))) z_Builder_finish_1)
def b_Builder_finish : MS := (sSeq (sAsg (eBin bSub (eCB fLen (aCons (eFld "Builder" "rows" (eVar 0)) aNil)) (eC (.int 1))) (gN 1))
  z_Builder_finish_2)
def f_Builder_finish : MF := runF 6 1 b_Builder_finish
abbrev z_shortest_log_0 : MS := (sExp (eMeth "Builder" "come" f_Builder_come (eVar 5) (aCons (eVar 3) (aCons (eBin bAdd (eVar 3) (eVar 6)) (aCons (eVar 7) (aCons (eVar 8) aNil))))))
abbrev z_shortest_log_1 : MS := (sRet (eCB fTuple (aCons (eFld "Builder" "edits" (eVar 5)) aNil)))
abbrev z_shortest_log_2 : MS := (sSeq (sExp (eMeth "Builder" "finish" f_Builder_finish (eVar 5) aNil))
  z_shortest_log_1)
abbrev z_shortest_log_3 : MS := (sSeq (sFor (iSeq (eCB fSortQ (aCons (eVar 1) aNil))) (gT (gsCons (gN 6) (gsCons (gN 3) (gsCons (gN 7) (gsCons (gN 8) gsNil))))) z_shortest_log_0)
  z_shortest_log_2)
abbrev z_shortest_log_4 : MS := (sSeq (sAsg (eCall (mkF "Builder" f_Builder_init) (aCons (eVar 0) aNil)) (gN 5))
  z_shortest_log_3)
abbrev z_shortest_log_5 : MS := (sSeq (sAsg (eBin bAdd (eVar 1) (eLc (iSeq (eCall f_needed_pairs (aCons (eVar 0) aNil))) (gT (gsCons (gN 3) (gsCons (gN 4) gsNil))) cYes (eTup (aCons (eBin bSub (eVar 4) (eVar 3)) (aCons (eVar 3) (aCons (eC (.str [97, 105, 100])) (aCons (eC (.int 0)) aNil))))) [3, 4])) (gN 1))
  z_shortest_log_4)
def b_shortest_log : MS := (sSeq (sAsg (eLc (iSeq (eCall f_holes_of (aCons (eVar 0) aNil))) (gT (gsCons (gN 2) (gsCons (gN 3) (gsCons (gN 4) gsNil)))) cYes (eTup (aCons (eBin bSub (eVar 4) (eVar 3)) (aCons (eVar 3) (aCons (eC (.str [110, 101, 119])) (aCons (eVar 2) aNil))))) [2, 3, 4]) (gN 1))
  z_shortest_log_5)
def f_shortest_log : MF := fin (runF 9 1 b_shortest_log)
end
end T5.G
namespace T5.G
open PySem PySem.Spec PyProof.Rows L2
noncomputable section
abbrev z_is_name_0 : MS := (sRet (eCB fAll (aCons (eLc (iStrD (eVar 0)) (gN 1) cYes (eChain bLe bLe (eC (.str [97])) (eVar 1) (eC (.str [122]))) [1]) aNil)))
def b_is_name : MS := (sSeq (sIf (cOr (cNot (cTru (eCB fIsi (aCons (eVar 0) (aCons (eC (.ty "str")) aNil))))) (cNot (cBool (eChain bLe bLe (eC (.int 1)) (eCB fLen (aCons (eVar 0) aNil)) (eC (.int 20)))))) (sRet (eC (.bl false))) sPass)
  z_is_name_0)
def f_is_name : MF := runF 2 1 b_is_name
/-- Sheet.names -/
def b_Sheet_names : MS := (sRet (eCB fTuple (aCons (eCB fSortS (aCons (eCB fListD (aCons (eBin bIx (eFld "Sheet" "now" (eVar 0)) (eC (.int 1))) aNil)) aNil)) aNil)))
def f_Sheet_names : MF := runF 1 1 b_Sheet_names
abbrev z_Sheet_getitem_0 : MS := (sRet (eBin bIx (eBin bIx (eFld "Sheet" "now" (eVar 0)) (eC (.int 1))) (eVar 1)))
def b_Sheet_getitem : MS := (sSeq (sIf (cOr (cNot (cTru (eCall f_is_name (aCons (eVar 1) aNil)))) (cBool (eBin bNotIn (eVar 1) (eBin bIx (eFld "Sheet" "now" (eVar 0)) (eC (.int 1)))))) (sRaise "Missing" ["given"] (aCons (eVar 1) aNil)) sPass)
  z_Sheet_getitem_0)
def f_Sheet_getitem : MF := runF 2 2 b_Sheet_getitem
abbrev z_Sheet_setitem_0 : MS := (sExp (eMeth "Sheet" "set_now" f_Sheet_set_now (eVar 0) (aCons (eBin bIx (eFld "Sheet" "now" (eVar 0)) (eC (.int 0))) (aCons (eStar (eBin bIx (eFld "Sheet" "now" (eVar 0)) (eC (.int 1))) (eVar 1) (eVar 2)) aNil))))
abbrev z_Sheet_setitem_1 : MS := (sSeq (sIf (cNot (cTru (eCall f_is_mark (aCons (eCB fLen (aCons (eBin bIx (eFld "Sheet" "now" (eVar 0)) (eC (.int 0))) aNil)) (aCons (eVar 2) aNil))))) (sRaise "BadMark" ["given"] (aCons (eVar 2) aNil)) sPass)
  z_Sheet_setitem_0)
def b_Sheet_setitem : MS := (sSeq (sIf (cNot (cTru (eCall f_is_name (aCons (eVar 1) aNil)))) (sRaise "BadName" ["given"] (aCons (eVar 1) aNil)) sPass)
  z_Sheet_setitem_1)
def f_Sheet_setitem : MF := runF 3 3 b_Sheet_setitem
/-- Sheet.__contains__ -/
def b_Sheet_contains : MS := (sRet (eAnd (eCall f_is_name (aCons (eVar 1) aNil)) (eBin bIn (eVar 1) (eBin bIx (eFld "Sheet" "now" (eVar 0)) (eC (.int 1))))))
def f_Sheet_contains : MF := runF 2 2 b_Sheet_contains
abbrev z_Sheet_drop_0 : MS := (sExp (eMeth "Sheet" "set_now" f_Sheet_set_now (eVar 0) (aCons (eBin bIx (eFld "Sheet" "now" (eVar 0)) (eC (.int 0))) (aCons (eDc (iItm (eBin bIx (eFld "Sheet" "now" (eVar 0)) (eC (.int 1)))) (gT (gsCons (gN 2) (gsCons (gN 3) gsNil))) (cBool (eBin bNe (eVar 2) (eVar 1))) (eVar 2) (eVar 3) [2, 3]) aNil))))
def b_Sheet_drop : MS := (sSeq (sIf (cBool (eNotInC "Sheet" f_Sheet_contains (eVar 1) (eVar 0))) (sRaise "Missing" ["given"] (aCons (eVar 1) aNil)) sPass)
  z_Sheet_drop_0)
def f_Sheet_drop : MF := runF 4 2 b_Sheet_drop
/-- Sheet.__eq__ -/
def b_Sheet_eq : MS := (sRet (eAnd (eCB (fIsiC "Sheet") (aCons (eVar 1) (aCons (eC (.cls "Sheet")) aNil))) (eBin bEqPg (eFld "Sheet" "now" (eVar 0)) (eFld "Sheet" "now" (eVar 1)))))
def f_Sheet_eq : MF := runF 2 2 b_Sheet_eq
abbrev z_Sheet_redo_0 : MS := (sSeq (sFldD "Sheet" "undone" (eVar 0) (eSl (eFld "Sheet" "undone" (eVar 0)) oNone (oSome (eNeg (eC (.int 1))))))
  (sRet (eC (.bl true))))
abbrev z_Sheet_redo_1 : MS := (sSeq (sFldD "Sheet" "now" (eVar 0) (eBin bIx (eFld "Sheet" "undone" (eVar 0)) (eNeg (eC (.int 1)))))
  z_Sheet_redo_0)
abbrev z_Sheet_redo_2 : MS := (sSeq (sFldD "Sheet" "ahead" (eVar 0) (eBin bAdd (eFld "Sheet" "ahead" (eVar 0)) (eTup (aCons (eFld "Sheet" "now" (eVar 0)) aNil))))
  z_Sheet_redo_1)
def b_Sheet_redo : MS := (sSeq (sIf (cBool (eBin bEqN (eFld "Sheet" "undone" (eVar 0)) (eTup aNil))) (sRet (eC (.bl false))) sPass)
  z_Sheet_redo_2)
def f_Sheet_redo : MF := runF 1 1 b_Sheet_redo
end
end T5.G
namespace T5.G
open PySem PySem.Spec PyProof.Rows L2
noncomputable section
abbrev z_law_due_0 : MS := (sRet (eCB fRepr (aCons (eLst (aCons (eVar 1) (aCons (eCB fLen (aCons (eVar 1) aNil)) (aCons (eCB fTuple (aCons (eVar 3) aNil)) (aCons (eLc (iSeq (eVar 3)) (gN 4) cYes (eBin bIx (eVar 2) (eVar 4)) [4]) aNil))))) aNil)))
abbrev z_law_due_1 : MS := (sSeq (sAsg (eCB fSortS (aCons (eCB fListD (aCons (eVar 2) aNil)) aNil)) (gN 3))
  z_law_due_0)
def b__law_due : MS := (sSeq (sAsg (eVar 0) (gT (gsCons (gN 1) (gsCons (gN 2) gsNil))))
  z_law_due_1)
def f__law_due : MF := runF 5 1 b__law_due
abbrev z_law_put_in_0 : MS := (sSet (eTup (aCons (eIf (cTru (eVar 9)) (eBin bAdd (eVar 7) (eCB fLen (aCons (eVar 2) aNil))) (eVar 7)) (aCons (eVar 8) aNil))) (eVar 5) (eVar 6))
abbrev z_law_put_in_1 : MS := (sSeq (sAsg (eOr (eBin bGt (eVar 7) (eVar 1)) (eAnd (eBin bEq (eVar 7) (eVar 1)) (eBin bEq (eVar 8) (eC (.str [114, 105, 103, 104, 116]))))) (gN 9))
  z_law_put_in_0)
abbrev z_law_put_in_2 : MS := (sSeq (sAsg (eBin bIx (eVar 4) (eVar 6)) (gT (gsCons (gN 7) (gsCons (gN 8) gsNil))))
  z_law_put_in_1)
abbrev z_law_put_in_3 : MS := (sRet (eTup (aCons (eBin bAdd (eBin bAdd (eSl (eVar 3) oNone (oSome (eVar 1))) (eVar 2)) (eSl (eVar 3) (oSome (eVar 1)) oNone)) (aCons (eVar 5) aNil))))
abbrev z_law_put_in_4 : MS := (sSeq (sFor (iKeyF (eVar 4)) (gN 6) z_law_put_in_2)
  z_law_put_in_3)
def b__law_put_in : MS := (sSeq (sAsg (eVar 0) (gT (gsCons (gN 3) (gsCons (gN 4) gsNil))))
  (sSeq (sAsg (eDnew false) (gN 5))
  z_law_put_in_4))
def f__law_put_in : MF := runF 10 3 b__law_put_in
abbrev z_law_taken_out_0 : MS := (sSet (eTup (aCons (eIf (cBool (eBin bGt (eVar 7) (eBin bAdd (eVar 1) (eVar 2)))) (eBin bSub (eVar 7) (eVar 2)) (eCB fMin (aCons (eVar 7) (aCons (eVar 1) aNil)))) (aCons (eVar 8) aNil))) (eVar 5) (eVar 6))
abbrev z_law_taken_out_1 : MS := (sSeq (sAsg (eBin bIx (eVar 4) (eVar 6)) (gT (gsCons (gN 7) (gsCons (gN 8) gsNil))))
  z_law_taken_out_0)
abbrev z_law_taken_out_2 : MS := (sRet (eTup (aCons (eBin bAdd (eSl (eVar 3) oNone (oSome (eVar 1))) (eSl (eVar 3) (oSome (eBin bAdd (eVar 1) (eVar 2))) oNone)) (aCons (eVar 5) aNil))))
abbrev z_law_taken_out_3 : MS := (sSeq (sFor (iKeyF (eVar 4)) (gN 6) z_law_taken_out_1)
  z_law_taken_out_2)
def b__law_taken_out : MS := (sSeq (sAsg (eVar 0) (gT (gsCons (gN 3) (gsCons (gN 4) gsNil))))
  (sSeq (sAsg (eDnew false) (gN 5))
  z_law_taken_out_3))
def f__law_taken_out : MF := runF 9 3 b__law_taken_out
abbrev z_law_behind_0 : MS := (sRet (eTup (aCons (eTup (aCons (eVar 2) (aCons (eVar 4) aNil))) (aCons (eC .non) aNil))))
abbrev z_law_behind_1 : MS := (sSeq (sIf (cBool (eBin bEq (eBin bIx (eVar 1) (eC (.int 0))) (eC (.str [115, 101, 116])))) (sSet (eBin bIx (eVar 1) (eC (.int 2))) (eVar 4) (eBin bIx (eVar 1) (eC (.int 1)))) (sExp (ePopD (eVar 4) (eBin bIx (eVar 1) (eC (.int 1))))))
  z_law_behind_0)
abbrev z_law_behind_2 : MS := (sSeq (sIf (cBool (eBin bEq (eBin bIx (eVar 1) (eC (.int 0))) (eC (.str [111, 117, 116])))) (sRet (eTup (aCons (eFrz 0 (eCall f__law_taken_out (aCons (eVar 0) (aCons (eBin bIx (eVar 1) (eC (.int 1))) (aCons (eBin bIx (eVar 1) (eC (.int 2))) aNil))))) (aCons (eSl (eVar 2) (oSome (eBin bIx (eVar 1) (eC (.int 1)))) (oSome (eBin bAdd (eBin bIx (eVar 1) (eC (.int 1))) (eBin bIx (eVar 1) (eC (.int 2)))))) aNil)))) sPass)
  (sSeq (sAsg (eDicI (eVar 3)) (gN 4))
  z_law_behind_1))
abbrev z_law_behind_3 : MS := (sSeq (sIf (cBool (eBin bEq (eBin bIx (eVar 1) (eC (.int 0))) (eC (.str [109, 111, 114, 101])))) (sRet (eTup (aCons (eFrz 0 (eCall f__law_put_in (aCons (eVar 0) (aCons (eCB fLen (aCons (eVar 2) aNil)) (aCons (eBin bIx (eVar 1) (eC (.int 1))) aNil))))) (aCons (eC .non) aNil)))) sPass)
  z_law_behind_2)
abbrev z_law_behind_4 : MS := (sSeq (sIf (cBool (eBin bEq (eBin bIx (eVar 1) (eC (.int 0))) (eC (.str [105, 110])))) (sRet (eTup (aCons (eFrz 0 (eCall f__law_put_in (aCons (eVar 0) (aCons (eBin bIx (eVar 1) (eC (.int 1))) (aCons (eBin bIx (eVar 1) (eC (.int 2))) aNil))))) (aCons (eC .non) aNil)))) sPass)
  z_law_behind_3)
def b__law_behind : MS := (sSeq (sAsg (eVar 0) (gT (gsCons (gN 2) (gsCons (gN 3) gsNil))))
  z_law_behind_4)
def f__law_behind : MF := runF 5 2 b__law_behind
abbrev z_law_name_0 : MS := (sRet (eBin bIx (eLst (aCons (eSl (eBin bAdd (eVar 8) (eVar 6)) oNone (oSome (eC (.int 20)))) (aCons (eSl (eBin bAdd (eSl (eVar 6) oNone (oSome (eC (.int 1)))) (eVar 8)) oNone (oSome (eC (.int 20)))) (aCons (eBin bAdd (eSl (eVar 8) (oSome (eC (.int 1))) oNone) (eC (.str [122]))) aNil)))) (eCall f__law_draw (aCons (eVar 0) (aCons (eC (.int 3)) aNil)))))
abbrev z_law_name_1 : MS := (sSeq (sIf (cBool (eBin bEq (eVar 4) (eC (.int 0)))) (sRet (eVar 8)) sPass)
  z_law_name_0)
abbrev z_law_name_2 : MS := (sSeq (sIf (cAnd (cBool (eBin bLt (eVar 4) (eC (.int 2)))) (cBool (eBin bNe (eVar 3) (eLst aNil)))) (sSeq (sAsg (eCall f__law_among (aCons (eVar 0) (aCons (eVar 3) aNil))) (gN 8))
  z_law_name_1) sPass)
  (sRet (eVar 6)))
abbrev z_law_name_3 : MS := (sSeq (sAsg (eJoin (eC (.str [])) (eLc (iRng1 (aCons (eVar 5) aNil)) (gN 7) cYes (eBin bIx (eVar 2) (eCall f__law_draw (aCons (eVar 0) (aCons (eBin bIx (eLst (aCons (eC (.int 2)) (aCons (eC (.int 26)) aNil))) (eBin bMod (eVar 4) (eC (.int 2)))) aNil)))) [7])) (gN 6))
  z_law_name_2)
abbrev z_law_name_4 : MS := (sSeq (sAsg (eTup (aCons (eCall f__law_draw (aCons (eVar 0) (aCons (eC (.int 4)) aNil))) (aCons (eBin bIx (eLst (aCons (eC (.int 1)) (aCons (eC (.int 2)) (aCons (eC (.int 20)) (aCons (eBin bAdd (eC (.int 1)) (eCall f__law_draw (aCons (eVar 0) (aCons (eC (.int 20)) aNil)))) aNil))))) (eCall f__law_draw (aCons (eVar 0) (aCons (eC (.int 4)) aNil)))) aNil))) (gT (gsCons (gN 4) (gsCons (gN 5) gsNil))))
  z_law_name_3)
def b__law_name : MS := (sSeq (sAsg (eTup (aCons (eC (.str [97, 98, 99, 100, 101, 102, 103, 104, 105, 106, 107, 108, 109, 110, 111, 112, 113, 114, 115, 116, 117, 118, 119, 120, 121, 122])) (aCons (eCB fSortS (aCons (eCB fListD (aCons (eVar 1) aNil)) aNil)) aNil))) (gT (gsCons (gN 2) (gsCons (gN 3) gsNil))))
  z_law_name_4)
def f__law_name : MF := runF 9 2 b__law_name
/-- _law_told -/
def b__law_told : MS := (sRet (eCB fRepr (aCons (eLst (aCons (eProp "Sheet" f_Sheet_text (eVar 0)) (aCons (eLenC "Sheet" f_Sheet_len (aCons (eVar 0) aNil)) (aCons (eProp "Sheet" f_Sheet_names (eVar 0)) (aCons (eLc (iSeq (eProp "Sheet" f_Sheet_names (eVar 0))) (gN 1) cYes (eIxC "Sheet" f_Sheet_getitem (eVar 0) (eVar 1)) [1]) aNil))))) aNil)))
def f__law_told : MF := runF 2 1 b__law_told
/-- _law_worldS -/
def b__law_worldS : MS := (sRet (eDisp [((eC (.str [115, 116, 97, 116, 101, 115])), (eLst (aCons (eTup (aCons (eVar 0) (aCons (eC (.dic false [] [])) aNil))) aNil))), ((eC (.str [97, 116])), (eC (.int 0)))]))
def f__law_worldS : MF := runF 1 1 b__law_worldS
/-- _law_now -/
def b__law_now : MS := (sRet (eBin bIx (eBin bIx (eVar 0) (eC (.str [115, 116, 97, 116, 101, 115]))) (eBin bIx (eVar 0) (eC (.str [97, 116])))))
def f__law_now : MF := runF 1 1 b__law_now
abbrev z_law_deed_0 : MS := (sRet (eTup (aCons (eC (.str [111, 117, 116])) (aCons (eVar 5) (aCons (eCB fMin (aCons (eVar 7) (aCons (eBin bIx (eLst (aCons (eC (.int 0)) (aCons (eC (.int 1)) (aCons (eC (.int 4)) (aCons (eVar 7) aNil))))) (eCall f__law_draw (aCons (eVar 0) (aCons (eC (.int 4)) aNil)))) aNil))) aNil)))))
abbrev z_law_deed_1 : MS := (sRet (eIf (cBool (eBin bEq (eVar 4) (eC (.int 5)))) (eTup (aCons (eC (.str [103, 111, 110, 101])) (aCons (eVar 8) aNil))) (eTup (aCons (eC (.str [115, 101, 116])) (aCons (eVar 8) (aCons (eBin bIx (eVar 3) (eVar 8)) aNil))))))
abbrev z_law_deed_2 : MS := (sRet (eTup (aCons (eC (.str [115, 101, 116])) (aCons (eCall f__law_name (aCons (eVar 0) (aCons (eVar 3) aNil))) (aCons (eTup (aCons (eVar 5) (aCons (eBin bIx (eLst (aCons (eC (.str [108, 101, 102, 116])) (aCons (eC (.str [114, 105, 103, 104, 116])) aNil))) (eCall f__law_draw (aCons (eVar 0) (aCons (eC (.int 2)) aNil)))) aNil))) aNil)))))
abbrev z_law_deed_3 : MS := (sSeq (sIf (cAnd (cBool (eBin bLt (eVar 4) (eC (.int 7)))) (cBool (eBin bNeE (eVar 3) (eC (.dic false [] []))))) (sSeq (sAsg (eCall f__law_among (aCons (eVar 0) (aCons (eCB fSortS (aCons (eCB fListD (aCons (eVar 3) aNil)) aNil)) aNil))) (gN 8))
  z_law_deed_1) sPass)
  z_law_deed_2)
abbrev z_law_deed_4 : MS := (sSeq (sIf (cBool (eBin bLt (eVar 4) (eC (.int 5)))) (sSeq (sAsg (eBin bSub (eCB fLen (aCons (eVar 2) aNil)) (eVar 5)) (gN 7))
  z_law_deed_0) sPass)
  z_law_deed_3)
abbrev z_law_deed_5 : MS := (sSeq (sIf (cBool (eBin bEq (eVar 4) (eC (.int 2)))) (sRet (eTup (aCons (eC (.str [109, 111, 114, 101])) (aCons (eVar 6) aNil)))) sPass)
  z_law_deed_4)
abbrev z_law_deed_6 : MS := (sSeq (sIf (cBool (eBin bLt (eVar 4) (eC (.int 2)))) (sRet (eTup (aCons (eC (.str [105, 110])) (aCons (eVar 5) (aCons (eVar 6) aNil))))) sPass)
  z_law_deed_5)
abbrev z_law_deed_7 : MS := (sSeq (sPar3 4 5 6 (aCons (eCall f__law_draw (aCons (eVar 0) (aCons (eC (.int 9)) aNil))) (aCons (eCall f__law_draw (aCons (eVar 0) (aCons (eBin bAdd (eCB fLen (aCons (eVar 2) aNil)) (eC (.int 1))) aNil))) (aCons (eCall f__law_piece (aCons (eVar 0) (aCons (eC (.int 6)) aNil))) aNil))))
  z_law_deed_6)
def b__law_deed : MS := (sSeq (sAsg (eVar 1) (gT (gsCons (gN 2) (gsCons (gN 3) gsNil))))
  z_law_deed_7)
def f__law_deed : MF := runF 9 2 b__law_deed
abbrev z_law_do_0 : MS := (sSeq (sIf (cBool (eBin bEq (eBin bIx (eVar 1) (eC (.int 0))) (eC (.str [115, 101, 116])))) (sSetC "Sheet" f_Sheet_setitem (eBin bIx (eVar 1) (eC (.int 2))) (eVar 0) (eBin bIx (eVar 1) (eC (.int 1)))) (sAddC "Sheet" 0 f_Sheet_iadd (eBin bIx (eVar 1) (eC (.int 1)))))
  (sRet (eC .non)))
abbrev z_law_do_1 : MS := (sSeq (sIf (cBool (eBin bEq (eBin bIx (eVar 1) (eC (.int 0))) (eC (.str [103, 111, 110, 101])))) (sRet (eMeth "Sheet" "drop" f_Sheet_drop (eVar 0) (aCons (eBin bIx (eVar 1) (eC (.int 1))) aNil))) sPass)
  z_law_do_0)
abbrev z_law_do_2 : MS := (sSeq (sIf (cBool (eBin bEq (eBin bIx (eVar 1) (eC (.int 0))) (eC (.str [111, 117, 116])))) (sRet (eMeth "Sheet" "cut" f_Sheet_cut (eVar 0) (aCons (eBin bIx (eVar 1) (eC (.int 1))) (aCons (eBin bIx (eVar 1) (eC (.int 2))) aNil)))) sPass)
  z_law_do_1)
def b__law_do : MS := (sSeq (sIf (cBool (eBin bEq (eBin bIx (eVar 1) (eC (.int 0))) (eC (.str [105, 110])))) (sRet (eMeth "Sheet" "put" f_Sheet_put (eVar 0) (aCons (eBin bIx (eVar 1) (eC (.int 1))) (aCons (eBin bIx (eVar 1) (eC (.int 2))) aNil)))) sPass)
  z_law_do_2)
def f__law_do : MF := runF 2 2 b__law_do
abbrev z_law_forward_0 : MS := (sRet (eBin bEq (eCB fRepr (aCons (eCall f__law_do (aCons (eVar 1) (aCons (eVar 5) aNil))) aNil)) (eCB fRepr (aCons (eVar 7) aNil))))
abbrev z_law_forward_1 : MS := (sSeq (sAsgSub2 (eTup (aCons (eBin bAdd (eSl (eBin bIx (eVar 2) (eC (.str [115, 116, 97, 116, 101, 115]))) oNone (oSome (eBin bAdd (eVar 4) (eC (.int 1))))) (eLst (aCons (eVar 6) aNil))) (aCons (eBin bAdd (eVar 4) (eC (.int 1))) aNil))) (eVar 2) (eC (.str [115, 116, 97, 116, 101, 115])) (eVar 2) (eC (.str [97, 116])))
  z_law_forward_0)
abbrev z_law_forward_2 : MS := (sSeq (sAsg (eFrz 0 (eCall f__law_behind (aCons (eVar 3) (aCons (eVar 5) aNil)))) (gT (gsCons (gN 6) (gsCons (gN 7) gsNil))))
  z_law_forward_1)
abbrev z_law_forward_3 : MS := (sSeq (sAsg (eCall f__law_deed (aCons (eVar 0) (aCons (eVar 3) aNil))) (gN 5))
  z_law_forward_2)
def b__law_forward : MS := (sSeq (sPar2 3 4 (aCons (eCall f__law_now (aCons (eVar 2) aNil)) (aCons (eBin bIx (eVar 2) (eC (.str [97, 116]))) aNil)))
  z_law_forward_3)
def f__law_forward : MF := runF 8 3 b__law_forward
abbrev z_law_turn_0 : MS := (sRet (eBin bEq (eCB fRepr (aCons (eMeth "Sheet" "undo" f_Sheet_undo (eVar 1) aNil) aNil)) (eCB fRepr (aCons (eBin bGt (eVar 4) (eC (.int 0))) aNil))))
abbrev z_law_turn_1 : MS := (sRet (eBin bEq (eCB fRepr (aCons (eMeth "Sheet" "redo" f_Sheet_redo (eVar 1) aNil) aNil)) (eCB fRepr (aCons (eBin bLt (eVar 4) (eVar 5)) aNil))))
abbrev z_law_turn_2 : MS := (sRet (eCall f__law_forward (aCons (eVar 0) (aCons (eVar 1) (aCons (eVar 2) aNil)))))
abbrev z_law_turn_3 : MS := (sSeq (sIf (cBool (eBin bLt (eVar 3) (eC (.int 4)))) (sSeq (sSet (eCB fMin (aCons (eVar 5) (aCons (eBin bAdd (eVar 4) (eC (.int 1))) aNil))) (eVar 2) (eC (.str [97, 116])))
  z_law_turn_1) sPass)
  z_law_turn_2)
abbrev z_law_turn_4 : MS := (sSeq (sIf (cBool (eBin bLt (eVar 3) (eC (.int 2)))) (sSeq (sSet (eCB fMax (aCons (eC (.int 0)) (aCons (eBin bSub (eVar 4) (eC (.int 1))) aNil))) (eVar 2) (eC (.str [97, 116])))
  z_law_turn_0) sPass)
  z_law_turn_3)
def b__law_turn : MS := (sSeq (sPar3 3 4 5 (aCons (eCall f__law_draw (aCons (eVar 0) (aCons (eC (.int 8)) aNil))) (aCons (eBin bIx (eVar 2) (eC (.str [97, 116]))) (aCons (eBin bSub (eCB fLen (aCons (eBin bIx (eVar 2) (eC (.str [115, 116, 97, 116, 101, 115]))) aNil)) (eC (.int 1))) aNil))))
  z_law_turn_4)
def f__law_turn : MF := runF 6 3 b__law_turn
end
end T5.G
namespace T5
open PySem PySem.Spec PyProof.Rows L2
variable [TabC]
/-! ### some statements make a dict and fill it; behind them it is changed no more -/
mutual
def rnO (n : Nat) (x : D) : D → D
  | .obj i => if i = n then x else if n < i then .obj (i - 1) else .obj i
  | .tup l => .tup (rnOL n x l)
  | d => d
def rnOL (n : Nat) (x : D) : List D → List D
  | [] => []
  | d :: ds => rnO n x d :: rnOL n x ds
end
mutual
def okD (n : Nat) : D → Bool
  | .obj _ => true
  | .tup l => okL n l
  | d => clD n d
def okL (n : Nat) : List D → Bool
  | [] => true
  | d :: ds => okD n d && okL n ds
end
def Mu.cutAt (μ : Mu) (n : Nat) : Mu := ⟨μ.l.eraseIdx n, μ.r, μ.t⟩
section
variable {X : Cx} {K : PySem.W.Frag} {mg : Str → Option Value} {μ : Mu} {H : Hp} {st : Store} {e : Expr}
theorem Mu.cut_nin {n : Nat} {a : Addr} (h : a ∉ μ) : a ∉ μ.cutAt n := fun q => by
  rcases q with q | q | q
  · exact h (.inl (List.mem_of_mem_eraseIdx q))
  · exact h (.inr (.inl q))
  · exact h (.inr (.inr q))
theorem Mu.cut_lt {n i : Nat} {a : Addr} (h : μ.get i = some a) (hi : i < n) : (μ.cutAt n).get i = some a := by
  show (μ.l.eraseIdx n)[i]? = some a
  rw [List.getElem?_eraseIdx, if_pos hi]
  exact h
theorem Mu.cut_gt {n i : Nat} {a : Addr} (h : μ.get i = some a) (hi : n < i) : (μ.cutAt n).get (i - 1) = some a := by
  show (μ.l.eraseIdx n)[i - 1]? = some a
  rw [List.getElem?_eraseIdx, if_neg (by omega), show i - 1 + 1 = i by omega]
  exact h
mutual
theorem Rep.keepC {n : Nat} {a : Addr} {H' : Hp} (b : But a H H') (hm : a ∈ μ) : ∀ {d : D} {v : V}, clD n d = true → Rep K mg μ H d v → Rep K mg (μ.cutAt n) H' d v
  | .non, _, _, h => h
  | .bl _, _, _, h => h
  | .int _, _, _, h => h
  | .str _, _, _, h => h
  | .ty _, _, _, h => h
  | .cls _, _, _, h => h
  | .tup l, v, c, ⟨p, vs, e, m, r, q⟩ => by
    have np : p ≠ a := fun z => m (z ▸ hm)
    exact ⟨p, vs, e, Mu.cut_nin m, (b.ne p np).trans r, RepL.keepC b hm (by simpa [clD] using c) q⟩
  | .lst l, v, c, ⟨p, vs, e, m, r, q⟩ => by
    have np : p ≠ a := fun z => m (z ▸ hm)
    exact ⟨p, vs, e, Mu.cut_nin m, (b.ne p np).trans r, RepL.keepC b hm (by simpa [clD] using c) q⟩
  | .scr l, v, c, ⟨p, vs, e, m, q⟩ => by
    refine ⟨p, vs, e, ?_, RepL.keepC b hm (by simpa [clD] using c) q⟩
    rcases m with ⟨m, o, r⟩ | m
    · have np : p ≠ a := fun z => m (z ▸ hm)
      exact .inl ⟨Mu.cut_nin m, o, (b.ne p np).trans r⟩
    · exact .inr m
  | .obj i, v, c, ⟨p, e, q⟩ => ⟨p, e, Mu.cut_lt q (by simpa [clD] using c)⟩
  | .dic t ks ds, v, c, ⟨p, vs, u, e, m, q, dh, o, r⟩ => by
    have np : p ≠ a := fun z => m (z ▸ hm)
    exact ⟨p, vs, u, e, Mu.cut_nin m, RepL.keepC b hm (by simpa [clD] using c) q, dh, o, (b.ne p np).trans r⟩
  | .ins _ ks ds, v, c, ⟨p, C, dx, vs, e, m, g, l, r, q⟩ => by
    have np : p ≠ a := fun z => m (z ▸ hm)
    exact ⟨p, C, dx, vs, e, Mu.cut_nin m, g, l, (b.ne p np).trans r, RepL.keepC b hm (by simpa [clD] using c) q⟩
  | .exc c ks ds, v, cl, ⟨p, C, dx, us, e, m, g, l, r, q⟩ => by
    have np : p ≠ a := fun z => m (z ▸ hm)
    refine ⟨p, C, dx, us, e, Mu.cut_nin m, g, l, ?_, RepL.keepC b hm (by simpa [clD] using cl) q⟩
    rcases r with ⟨r1, r2, r3⟩ | ⟨r0, r1⟩
    · have nx : dx ≠ a := fun z => r2 (z ▸ hm)
      exact .inl ⟨(b.ne p np).trans r1, Mu.cut_nin r2, (b.ne dx nx).trans r3⟩
    · exact .inr ⟨r0, (b.ne p np).trans r1⟩
  | .fn p c q ds us, v, cl, ⟨e, m, r, y⟩ => by
    have np : c ≠ a := fun z => m (z ▸ hm)
    exact ⟨e, Mu.cut_nin m, (b.ne c np).trans r, RepL.keepC b hm (by simpa [clD] using cl) y⟩
theorem RepL.keepC {n : Nat} {a : Addr} {H' : Hp} (b : But a H H') (hm : a ∈ μ) : ∀ {ds : List D} {vs : List V}, clL n ds = true → RepL K mg μ H ds vs → RepL K mg (μ.cutAt n) H' ds vs
  | [], _, _, h => h
  | d :: ds, vs, c, ⟨v, r, e, h1, h2⟩ => by
    have c' : clD n d = true ∧ clL n ds = true := by simpa [clL] using c
    exact ⟨v, r, e, Rep.keepC b hm c'.1 h1, RepL.keepC b hm c'.2 h2⟩
end
theorem ObR.keepC {n : Nat} {a b : Addr} {H' : Hp} (bt : But a H H') (hm : a ∈ μ) (ne : b ≠ a) : ∀ {o : Ob}, clO n o = true → ObR K mg μ H b o → ObR K mg (μ.cutAt n) H' b o
  | .lst l, c, ⟨vs, h, q⟩ => ⟨vs, (bt.ne b ne).trans h, q.keepC bt hm c⟩
  | .dic t ks ds, c, ⟨vs, u, q, d, h⟩ => ⟨vs, u, q.keepC bt hm c, d, (bt.ne b ne).trans h⟩
  | .ins _ ks ds, c, ⟨C, dx, vs, g, l, h, q⟩ => ⟨C, dx, vs, g, l, (bt.ne b ne).trans h, q.keepC bt hm c⟩
  | .fdc ks ds, c, ⟨vs, u, o, q, d, h⟩ => ⟨vs, u, o, q.keepC bt hm c, d, (bt.ne b ne).trans h⟩
mutual
theorem Rep.rn {n : Nat} {x : D} {a : Addr} {H' : Hp} (b : But a H H') (ha : μ.get n = some a) (hm : a ∈ μ) (hx : Rep K mg (μ.cutAt n) H' x (.ref a)) : ∀ {d : D} {v : V}, okD n d = true → Rep K mg μ H d v → Rep K mg (μ.cutAt n) H' (rnO n x d) v
  | .non, _, _, h => h
  | .bl _, _, _, h => h
  | .int _, _, _, h => h
  | .str _, _, _, h => h
  | .ty _, _, _, h => h
  | .cls _, _, _, h => h
  | .tup l, v, c, ⟨p, vs, e, m, r, q⟩ => by
    have np : p ≠ a := fun z => m (z ▸ hm)
    exact ⟨p, vs, e, Mu.cut_nin m, (b.ne p np).trans r, RepL.rn b ha hm hx c q⟩
  | .obj i, v, c, ⟨p, e, q⟩ => by
    show Rep K mg (μ.cutAt n) H' (if i = n then x else if n < i then .obj (i - 1) else .obj i) v
    by_cases z : i = n
    · subst z
      have : p = a := Option.some.inj (q.symm.trans ha)
      subst this
      subst e
      rw [if_pos rfl]
      exact hx
    · rw [if_neg z]
      by_cases z2 : n < i
      · rw [if_pos z2]
        exact ⟨p, e, Mu.cut_gt q z2⟩
      · rw [if_neg z2]
        exact ⟨p, e, Mu.cut_lt q (by omega)⟩
  | .lst l, v, c, h => Rep.keepC b hm (d := .lst l) c h
  | .scr l, v, c, h => Rep.keepC b hm (d := .scr l) c h
  | .dic t ks ds, v, c, h => Rep.keepC b hm (d := .dic t ks ds) c h
  | .ins c0 ks ds, v, c, h => Rep.keepC b hm (d := .ins c0 ks ds) c h
  | .exc c0 ks ds, v, c, h => Rep.keepC b hm (d := .exc c0 ks ds) c h
  | .fn p c0 q ds us, v, c, h => Rep.keepC b hm (d := .fn p c0 q ds us) c h
theorem RepL.rn {n : Nat} {x : D} {a : Addr} {H' : Hp} (b : But a H H') (ha : μ.get n = some a) (hm : a ∈ μ) (hx : Rep K mg (μ.cutAt n) H' x (.ref a)) : ∀ {ds : List D} {vs : List V}, okL n ds = true → RepL K mg μ H ds vs → RepL K mg (μ.cutAt n) H' (rnOL n x ds) vs
  | [], _, _, h => h
  | d :: ds, vs, c, ⟨v, r, e, h1, h2⟩ => by
    have c' : okD n d = true ∧ okL n ds = true := by simpa [okL] using c
    exact ⟨v, r, e, Rep.rn b ha hm hx c'.1 h1, RepL.rn b ha hm hx c'.2 h2⟩
end
theorem REnv.rn {n : Nat} {x : D} {a : Addr} {H' : Hp} {env : DEnv} {σ : L2.St} (b : But a H H') (ha : μ.get n = some a) (hm : a ∈ μ) (hx : Rep K mg (μ.cutAt n) H' x (.ref a)) (c : env.all (fun o => o.all (okD n)) = true) (re : REnv K mg μ H env σ) : REnv K mg (μ.cutAt n) H' (env.map (Option.map (rnO n x))) σ := by
  refine ⟨by rw [List.length_map]; exact re.len, fun i d h => ?_⟩
  rw [List.getElem?_map] at h
  obtain ⟨o, h1, h2⟩ := Option.map_eq_some_iff.mp h
  cases o with
  | none => cases h2
  | some d0 =>
    injection h2 with h2
    subst h2
    obtain ⟨v, e1, e2⟩ := re.at_ i d0 h1
    have hc := List.all_eq_true.mp c _ (List.mem_of_getElem? h1)
    exact ⟨v, e1, Rep.rn b ha hm hx hc e2⟩
def sFrzB (j : Nat) (m : MS) : MS := fun env st => match m env st with
  | .nx e st1 => (match st1[st.length + j]? with
    | some (.dic false ks vs) => if (st1.eraseIdx (st.length + j)).all (clO (st.length + j)) = true ∧ clL (st.length + j) vs = true ∧ e.all (fun o => o.all (okD (st.length + j))) = true then .nx (e.map (Option.map (rnO (st.length + j) (.dic false ks vs)))) (st1.eraseIdx (st.length + j)) else .bad
    | _ => .bad)
  | r => r
end
end T5
namespace T5
open PySem PySem.Spec PyProof.Rows L2
variable [TabC]
section
variable {X : Cx} {k : Nat} {f C : Addr} {ps : List Str} {m : MF} {x : Str} {c : String} {p pos : Pos}
end
end T5
namespace T5
open PySem PySem.Spec PyProof.Rows L2
/-! a world, by what it says at one row -/
def wFT (w : World) (b : Bool) : World := { w with params := { w.params with followText := fun r => if r = "special-get-raises" then b else w.params.followText r } }
end T5
namespace T5
open PySem PySem.Spec PyProof.Rows L2
variable [TabC]
/-! ### a or b, a a text -/
def eOrS (ma mb : ME) : ME := fun env st => (ma env st).bind fun d st1 => match d with
  | .str s => if s = [] then mb env st1 else if s.length ≤ cap then .ok (.str s) st1 else .bad
  | _ => .bad
section
variable {X : Cx} {a b : Expr} {rest : List Expr} {ma mb : ME} {pos : Pos}
end
end T5
namespace T5
open PySem PySem.Spec PyProof.Rows L2
variable [TabC]
/-! ### some statements make a list and fill it; behind them it is changed no more -/
section
variable {X : Cx} {K : PySem.W.Frag} {mg : Str → Option Value} {μ : Mu} {H : Hp} {st : Store} {e : Expr}
def sDrpB (j : Nat) (m : MS) : MS := fun env st => match m env st with
  | .nx e st1 => (match st1[st.length + j]? with
    | some (.lst l) => if (st1.eraseIdx (st.length + j)).all (clO (st.length + j)) = true ∧ clL (st.length + j) l = true ∧ e.all (fun o => o.all (okD (st.length + j))) = true then .nx (e.map (Option.map (rnO (st.length + j) (.lst l)))) (st1.eraseIdx (st.length + j)) else .bad
    | _ => .bad)
  | r => r
end
end T5
namespace T5.G
open PySem PySem.Spec PyProof.Rows L2
noncomputable section
/-- Desk.length -/
def b_Desk_length : MS := (sRet (eFld "Desk" "own_length" (eVar 0)))
def f_Desk_length : MF := runF 1 1 b_Desk_length
/-- Desk.log -/
def b_Desk_log : MS := (sRet (eFld "Desk" "own_log" (eVar 0)))
def f_Desk_log : MF := runF 1 1 b_Desk_log
abbrev z_Desk_said_0 : MS := (sRet (eOrS (eJoin (eC (.str [32])) (eLc (iRng1 (aCons (eFld "Desk" "own_length" (eVar 0)) aNil)) (gN 3) (cBool (eInC "Chart" f_Chart_contains (eVar 3) (eVar 2))) (eCB fStr (aCons (eVar 3) aNil)) [3])) (eC (.str [45]))))
abbrev z_Desk_said_1 : MS := (sSeq (sIf (cBool (eBin bEq (eVar 1) (eC (.str [110, 101, 119])))) (sRet (eCB fStr (aCons (eCB fLen (aCons (eCall f_holes_of (aCons (eVar 2) aNil)) aNil)) aNil))) sPass)
  z_Desk_said_0)
abbrev z_Desk_said_2 : MS := (sSeq (sIf (cBool (eBin bEq (eVar 1) (eC (.str [115, 104, 111, 114, 116])))) (sRet (eCall f_edits_text (aCons (eCall f_shortest_log (aCons (eVar 2) aNil)) aNil))) sPass)
  z_Desk_said_1)
abbrev z_Desk_said_3 : MS := (sSeq (sIf (cBool (eBin bEq (eVar 1) (eC (.str [99, 111, 115, 116])))) (sRet (eBin bAdd (eBin bAdd (eCB fStr (aCons (eCall f_log_cost (aCons (eFld "Desk" "own_log" (eVar 0)) aNil)) aNil)) (eC (.str [32]))) (eCB fStr (aCons (eCall f_least_cost (aCons (eVar 2) aNil)) aNil)))) sPass)
  z_Desk_said_2)
abbrev z_Desk_said_4 : MS := (sSeq (sIf (cBool (eBin bEq (eVar 1) (eC (.str [99, 104, 97, 114, 116])))) (sRet (eStrC "Chart" f_Chart_str (aCons (eVar 2) aNil))) sPass)
  z_Desk_said_3)
abbrev z_Desk_said_5 : MS := (sSeq (sAsg (eCall f_chart_by (aCons (eFld "Desk" "own_length" (eVar 0)) (aCons (eFld "Desk" "own_log" (eVar 0)) aNil))) (gN 2))
  z_Desk_said_4)
abbrev z_Desk_said_6 : MS := (sSeq (sIf (cBool (eBin bNotIn (eVar 1) (eTup (aCons (eC (.str [99, 104, 97, 114, 116])) (aCons (eC (.str [99, 111, 115, 116])) (aCons (eC (.str [115, 104, 111, 114, 116])) (aCons (eC (.str [110, 101, 119])) (aCons (eC (.str [115, 116, 97, 121, 115])) aNil)))))))) (sRet (eC (.str [110, 111]))) sPass)
  z_Desk_said_5)
def b_Desk_said : MS := (sSeq (sIf (cBool (eBin bEq (eVar 1) (eC (.str [108, 111, 103])))) (sRet (eCall f_log_text (aCons (eFld "Desk" "own_log" (eVar 0)) aNil))) sPass)
  z_Desk_said_6)
def f_Desk_said : MF := runF 4 2 b_Desk_said
abbrev z_number_in_0 : MS := (sRet (eIf (cTru (eVar 1)) (eCB fInt (aCons (eVar 0) aNil)) (eNeg (eC (.int 1)))))
def b_number_in : MS := (sSeq (sAsg (eAnd (eChain bLe bLe (eC (.int 1)) (eCB fLen (aCons (eVar 0) aNil)) (eC (.int 4))) (eAnd (eCB fAll (aCons (eLc (iStrD (eVar 0)) (gN 2) cYes (eBin bIn (eVar 2) (eC (.str [48, 49, 50, 51, 52, 53, 54, 55, 56, 57]))) [2]) aNil)) (eOr (eBin bEq (eVar 0) (eC (.str [48]))) (eBin bNe (eBin bIx (eVar 0) (eC (.int 0))) (eC (.str [48])))))) (gN 1))
  z_number_in_0)
def f_number_in : MF := runF 3 1 b_number_in
abbrev z_mark_in_0 : MS := (sRet (eTup (aCons (eCall f_number_in (aCons (eBin bIx (eVar 0) (eC (.int 0))) aNil)) (aCons (eBin (bIxT "LEANS" [([108], [108, 101, 102, 116]), ([114], [114, 105, 103, 104, 116])]) (eC (.cls "LEANS")) (eBin bIx (eVar 0) (eC (.int 1)))) aNil))))
def b_mark_in : MS := (sSeq (sIf (cOr (cBool (eBin bNe (eCB fLen (aCons (eVar 0) aNil)) (eC (.int 2)))) (cBool (eBin (bNotInT "LEANS" [([108], [108, 101, 102, 116]), ([114], [114, 105, 103, 104, 116])]) (eBin bIx (eVar 0) (eC (.int 1))) (eC (.cls "LEANS"))))) (sRet (eTup aNil)) sPass)
  z_mark_in_0)
def f_mark_in : MF := runF 1 1 b_mark_in
abbrev z_Desk_asked_0 : MS := (sRet (eIf (cBool (eBin bIs (eVar 3) (eC .non))) (eC (.str [121, 101, 115])) (eBin bAdd (eBin bAdd (eCB fStr (aCons (eBin bIx (eVar 3) (eC (.int 0))) aNil)) (eC (.str [32]))) (eBin bIx (eBin bIx (eVar 3) (eC (.int 1))) (eC (.int 0))))))
abbrev z_Desk_asked_1 : MS := (sSeq (sIf (cBool (eBin bEq (eVar 1) (eC (.str [98, 97, 99, 107])))) (sRet (eIf (cTru (eCall f_comes_back (aCons (eFld "Desk" "own_length" (eVar 0)) (aCons (eFld "Desk" "own_log" (eVar 0)) (aCons (eVar 3) aNil))))) (eC (.str [121, 101, 115])) (eC (.str [110, 111, 32, 119, 97, 121])))) sPass)
  (sRet (eC (.str [110, 111]))))
abbrev z_Desk_asked_2 : MS := (sSeq (sIf (cBool (eBin bEq (eVar 1) (eC (.str [109, 97, 114, 107])))) (sRet (eCB fStr (aCons (eBin bIx (eCall f_carry (aCons (eFld "Desk" "own_length" (eVar 0)) (aCons (eFld "Desk" "own_log" (eVar 0)) (aCons (eVar 3) aNil)))) (eC (.int 0))) aNil))) sPass)
  z_Desk_asked_1)
abbrev z_Desk_asked_3 : MS := (sSeq (sAsg (eCall f_mark_in (aCons (eSplit (eVar 2) (eC (.str [32]))) aNil)) (gN 3))
  z_Desk_asked_2)
def b_Desk_asked : MS := (sSeq (sIf (cBool (eBin bEq (eVar 1) (eC (.str [97, 108, 105, 107, 101])))) (sSeq (sAsg (eCall f_parting_mark (aCons (eFld "Desk" "own_log" (eVar 0)) (aCons (eCall f_read_log (aCons (eVar 2) aNil)) aNil))) (gN 3))
  z_Desk_asked_0) sPass)
  z_Desk_asked_3)
def f_Desk_asked : MF := runF 4 3 b_Desk_asked
abbrev z_Desk_answer_0 : MS := (sSeq (sAsgF2 "Desk" "own_length" "own_log" (eTup (aCons (eCall f_number_in (aCons (eVar 4) aNil)) (aCons (eTup aNil) aNil))) (eVar 0) (eVar 0))
  (sRet (eC (.str [100, 111, 110, 101]))))
abbrev z_Desk_answer_1 : MS := (sSeq (sFldD "Desk" "own_log" (eVar 0) (eVar 5))
  (sRet (eC (.str [100, 111, 110, 101]))))
abbrev z_Desk_answer_2 : MS := (sSeq (sExp (eCall f_grown (aCons (eFld "Desk" "own_length" (eVar 0)) (aCons (eVar 5) aNil))))
  z_Desk_answer_1)
abbrev z_Desk_answer_3 : MS := (sRet (eMeth "Desk" "asked" f_Desk_asked (eVar 0) (aCons (eVar 2) (aCons (eVar 4) aNil))))
abbrev z_Desk_answer_4 : MS := (sSeq (sIf (cBool (eBin bEq (eVar 2) (eC (.str [108, 111, 103])))) (sSeq (sAsg (eCall f_read_log (aCons (eVar 4) aNil)) (gN 5))
  z_Desk_answer_2) sPass)
  z_Desk_answer_3)
abbrev z_Desk_answer_5 : MS := (sSeq (sIf (cBool (eBin bEq (eVar 2) (eC (.str [108, 101, 110, 103, 116, 104])))) (sSeq (sExp (eCall f_need_length (aCons (eCall f_number_in (aCons (eVar 4) aNil)) aNil)))
  z_Desk_answer_0) sPass)
  z_Desk_answer_4)
abbrev z_Desk_answer_6 : MS := (sSeq (sIf (cBool (eBin bEq (eVar 3) (eC (.str [])))) (sRet (eMeth "Desk" "said" f_Desk_said (eVar 0) (aCons (eVar 2) aNil))) sPass)
  z_Desk_answer_5)
def b_Desk_answer : MS := (sSeq (sAsg (ePart (eVar 1) (eC (.str [32]))) (gT (gsCons (gN 2) (gsCons (gN 3) (gsCons (gN 4) gsNil)))))
  z_Desk_answer_6)
def f_Desk_answer : MF := runF 6 2 b_Desk_answer
abbrev z_law_can_0 : MS := (sAsg (eIf (cBool (eBin bEq (eVar 2) (eC (.str [105, 110])))) (eBin bAdd (eVar 0) (eVar 4)) (eBin bSub (eVar 0) (eVar 4))) (gN 0))
abbrev z_law_can_1 : MS := (sSeq (sIf (cBool (eBin bGt (eIf (cBool (eBin bEq (eVar 2) (eC (.str [105, 110])))) (eVar 3) (eBin bAdd (eVar 3) (eVar 4))) (eVar 0))) (sRet (eC (.bl false))) sPass)
  z_law_can_0)
def b__law_can : MS := (sSeq (sFor (iSeq (eVar 1)) (gT (gsCons (gN 2) (gsCons (gN 3) (gsCons (gN 4) gsNil)))) z_law_can_1)
  (sRet (eC (.bl true))))
def f__law_can : MF := runF 5 2 b__law_can
abbrev z_law_is_short_0 : MS := (sIf (cBool (eBin bNe (eCall f__law_written (aCons (eSl (eVar 4) (oSome (eNeg (eC (.int 1)))) oNone) aNil)) (eVar 5))) (sRet (eC (.bl false))) sPass)
abbrev z_law_is_short_1 : MS := (sSeq (sExp (eMthL fApp (eVar 4) (aCons (eTup (aCons (eIf (cBool (eBin bEq (eBin bIx (eVar 5) (eC (.int 0))) (eC (.str [43])))) (eC (.str [105, 110])) (eC (.str [111, 117, 116]))) (aCons (eCB fInt (aCons (eBin bIx (eVar 6) (eC (.int 0))) aNil)) (aCons (eCB fInt (aCons (eBin bIx (eVar 6) (eC (.int 1))) aNil)) aNil)))) aNil)))
  z_law_is_short_0)
abbrev z_law_is_short_2 : MS := (sSeq (sIf (cBool (eBin bNe (eLc (iStrD (eBin bAdd (eBin bIx (eVar 6) (eC (.int 0))) (eBin bIx (eVar 6) (eC (.int 1))))) (gN 7) (cBool (eBin bNotIn (eVar 7) (eC (.str [48, 49, 50, 51, 52, 53, 54, 55, 56, 57])))) (eVar 7) [7]) (eLst aNil))) (sRet (eC (.bl false))) sPass)
  z_law_is_short_1)
abbrev z_law_is_short_3 : MS := (sSeq (sIf (cOr (cBool (eBin bNe (eCB fLen (aCons (eVar 6) aNil)) (eC (.int 2)))) (cBool (eBin bIn (eC (.str [])) (eVar 6)))) (sRet (eC (.bl false))) sPass)
  z_law_is_short_2)
abbrev z_law_is_short_4 : MS := (sSeq (sAsg (eSplit (eSl (eVar 5) (oSome (eC (.int 1))) oNone) (eC (.str [120]))) (gN 6))
  z_law_is_short_3)
abbrev z_law_is_short_5 : MS := (sFor (iSeq (eIf (cBool (eBin bNe (eVar 2) (eC (.str [])))) (eSplit (eVar 2) (eC (.str [32]))) (eLst aNil))) (gN 5) z_law_is_short_4)
abbrev z_law_is_short_6 : MS := (sRet (eAnd (eBin bEq (eCall f__law_chart (aCons (eVar 0) (aCons (eVar 4) aNil))) (eVar 3)) (eBin bEq (eCB fSum (aCons (eLc (iSeq (eVar 4)) (gN 8) cYes (eBin bIx (eVar 8) (eC (.int 2))) [8]) aNil)) (eCall f__law_least (aCons (eVar 3) aNil)))))
abbrev z_law_is_short_7 : MS := (sSeq (sIf (cOr (cBool (eBin bNe (eLc (iSeq (eVar 4)) (gN 8) (cNot (cBool (eChain bLe bLe (eC (.int 1)) (eBin bIx (eVar 8) (eC (.int 2))) (eC (.int 9))))) (eVar 8) [8]) (eLst aNil))) (cNot (cTru (eCall f__law_can (aCons (eVar 0) (aCons (eVar 4) aNil)))))) (sRet (eC (.bl false))) sPass)
  z_law_is_short_6)
def b__law_is_short : MS := (sSeq (sDrpB 0 (sSeq (sPar2 3 4 (aCons (eCall f__law_chart (aCons (eVar 0) (aCons (eVar 1) aNil))) (aCons (eLstM aNil) aNil))) z_law_is_short_5))
  z_law_is_short_7)
def f__law_is_short : MF := fin (runF 9 3 b__law_is_short)
end
end T5.G
namespace T5.G
open PySem PySem.Spec PyProof.Rows L2
noncomputable section
def top (i : Nat) : Stmt := PySem.Challenge.pw_tiltmarks_k14_all_charts.main.body.getD i (.Pass ⟨0, 0, 0, 0⟩)
def inCls (i j : Nat) : Stmt := match top i with
  | .ClassDef _ _ _ body _ _ _ _ _ _ _ => body.getD j (.Pass ⟨0, 0, 0, 0⟩)
  | s => s
/-! ### what each def does -/
def cs_ : List String := ["BadLength", "BadChart"]
def tb : Tbl := [("BadLength", true, "Missing", false), ("BadLength", false, "ValueError", true), ("BadLength", true, "BadEdit", false), ("BadLength", true, "BadLog", false), ("BadLength", true, "BadLength", true), ("BadLength", true, "BadMark", false), ("BadLength", true, "BadRange", false), ("BadLength", true, "BadChart", false), ("BadLength", true, "OutOfText", false), ("BadLength", true, "Unlike", false), ("BadChart", true, "Missing", false), ("BadChart", false, "ValueError", true), ("BadChart", true, "BadEdit", false), ("BadChart", true, "BadLog", false), ("BadChart", true, "BadLength", false), ("BadChart", true, "BadMark", false), ("BadChart", true, "BadRange", false), ("BadChart", true, "BadChart", true), ("BadChart", true, "OutOfText", false), ("BadChart", true, "Unlike", false)]
def xf_given : List String := ["BadLength"]
def xf_place : List String := ["BadChart"]
def xf_one : List String := []
def xf_other : List String := []
abbrev s__law_begun : Stmt := (top 28)
theorem sc__law_begun : FnScope ["_law_script", "_law_number", "_law_at", "_law_cell"] ["_law_script"] (defScope s__law_begun) := ⟨rfl, rfl, rfl, by decide +kernel, rfl, by decide +kernel, by decide +kernel⟩
abbrev s__law_draw : Stmt := (top 29)
theorem sc__law_draw : FnScope ["_law_m", "_law_many", "_law_great", "_law_found", "_law_number"] ["_law_m", "_law_many"] (defScope s__law_draw) := ⟨rfl, rfl, rfl, by decide +kernel, rfl, by decide +kernel, by decide +kernel⟩
/-- _law_rows_of -/
abbrev z_law_rows_of_0 : MS := (sAsg (eBin bAdd (eVar 4) (eLc (iRng1 (aCons (eBin bAdd (eVar 1) (eC (.int 1))) aNil)) (gN 6) cYes (eBin bAdd (eVar 5) (eTup (aCons (eVar 6) aNil))) [6])) (gN 4))
abbrev z_law_rows_of_1 : MS := (sSeq (sFor (iSeq (eVar 2)) (gN 5) z_law_rows_of_0)
  (sAsg (eVar 4) (gN 2)))
abbrev z_law_rows_of_2 : MS := (sSeq (sFor (iRng1 (aCons (eVar 0) aNil)) (gN 3) (sSeq (sAsg (eLst aNil) (gN 4))
  z_law_rows_of_1))
  (sRet (eVar 2)))
abbrev s__law_rows_of : Stmt := (top 31)
def b__law_rows_of : MS := (sSeq (sAsg (eLst (aCons (eTup aNil) aNil)) (gN 2))
  z_law_rows_of_2)
def f__law_rows_of : MF := runF 7 2 b__law_rows_of
theorem len__law_rows_of : ∀ ds st, ds.length ≠ 2 → f__law_rows_of ds st = .bad := runF_len
theorem sc__law_rows_of : FnScope ["_law_many", "_law_most", "_law_found", "_law_again", "_law_longer", "_law_row", "_law_one"] ["_law_many", "_law_most"] (defScope s__law_rows_of) := ⟨rfl, rfl, rfl, by decide +kernel, rfl, by decide +kernel, by decide +kernel⟩
/-- _law_is_chart -/
abbrev z_law_is_chart_0 : MS := (sIf (cAnd (cBool (eBin bGt (eVar 3) (eC (.int 0)))) (cBool (eBin bGt (eBin bIx (eVar 1) (eVar 3)) (eBin bAdd (eBin bIx (eVar 2) (eBin bSub (eVar 3) (eC (.int 1)))) (eC (.int 1)))))) (sRet (eC (.bl false))) sPass)
abbrev z_law_is_chart_1 : MS := (sSeq (sIf (cAnd (cBool (eBin bGt (eVar 3) (eC (.int 0)))) (cBool (eBin bLt (eBin bIx (eVar 2) (eVar 3)) (eBin bIx (eVar 2) (eBin bSub (eVar 3) (eC (.int 1))))))) (sRet (eC (.bl false))) sPass)
  z_law_is_chart_0)
abbrev z_law_is_chart_2 : MS := (sSeq (sIf (cAnd (cBool (eBin bGt (eVar 3) (eC (.int 0)))) (cBool (eBin bLt (eBin bIx (eVar 1) (eVar 3)) (eBin bIx (eVar 1) (eBin bSub (eVar 3) (eC (.int 1))))))) (sRet (eC (.bl false))) sPass)
  z_law_is_chart_1)
abbrev z_law_is_chart_3 : MS := (sSeq (sIf (cBool (eBin bGt (eBin bIx (eVar 1) (eVar 3)) (eBin bIx (eVar 2) (eVar 3)))) (sRet (eC (.bl false))) sPass)
  z_law_is_chart_2)
abbrev z_law_is_chart_4 : MS := (sSeq (sFor (iRng1 (aCons (eCB fLen (aCons (eVar 1) aNil)) aNil)) (gN 3) z_law_is_chart_3)
  (sRet (eC (.bl true))))
abbrev s__law_is_chart : Stmt := (top 32)
def b__law_is_chart : MS := (sSeq (sIf (cOr (cBool (eBin bNe (eBin bIx (eVar 1) (eC (.int 0))) (eC (.int 0)))) (cBool (eBin bNe (eBin bIx (eVar 2) (eNeg (eC (.int 1)))) (eVar 0)))) (sRet (eC (.bl false))) sPass)
  z_law_is_chart_4)
def f__law_is_chart : MF := runF 4 3 b__law_is_chart
theorem len__law_is_chart : ∀ ds st, ds.length ≠ 3 → f__law_is_chart ds st = .bad := runF_len
theorem sc__law_is_chart : FnScope ["_law_many", "_law_lefts", "_law_rights", "_law_gap"] ["_law_many", "_law_lefts", "_law_rights"] (defScope s__law_is_chart) := ⟨rfl, rfl, rfl, by decide +kernel, rfl, by decide +kernel, by decide +kernel⟩
abbrev s_Chart_many : Stmt := (inCls 21 1)
theorem sc_Chart_many : FnScope ["self"] ["self"] (defScope s_Chart_many) := ⟨rfl, rfl, rfl, by decide +kernel, rfl, by decide +kernel, by decide +kernel⟩
abbrev s_Chart_lefts : Stmt := (inCls 21 2)
theorem sc_Chart_lefts : FnScope ["self"] ["self"] (defScope s_Chart_lefts) := ⟨rfl, rfl, rfl, by decide +kernel, rfl, by decide +kernel, by decide +kernel⟩
abbrev s_Chart_rights : Stmt := (inCls 21 3)
theorem sc_Chart_rights : FnScope ["self"] ["self"] (defScope s_Chart_rights) := ⟨rfl, rfl, rfl, by decide +kernel, rfl, by decide +kernel, by decide +kernel⟩
abbrev s_is_integer : Stmt := (top 14)
theorem sc_is_integer : FnScope ["thing", "least", "most"] ["thing", "least", "most"] (defScope s_is_integer) := ⟨rfl, rfl, rfl, by decide +kernel, rfl, by decide +kernel, by decide +kernel⟩
/-- BadLength -/
abbrev s_BadLength_init : Stmt := (inCls 4 0)
abbrev s_need_listed : Stmt := (top 25)
theorem sc_need_listed : FnScope ["thing"] ["thing"] (defScope s_need_listed) := ⟨rfl, rfl, rfl, by decide +kernel, rfl, by decide +kernel, by decide +kernel⟩
/-- rising -/
abbrev z_rising_0 : MS := (sAsg (eLc2 (iSeq (eVar 2)) (gN 4) (iRng2 (aCons (eIf (cBool (eBin bNe (eVar 4) (eTup aNil))) (eBin bIx (eVar 4) (eNeg (eC (.int 1)))) (eC (.int 0))) (aCons (eBin bAdd (eVar 1) (eC (.int 1))) aNil))) (gN 5) (eBin bAdd (eVar 4) (eTup (aCons (eVar 5) aNil))) [4, 5] [5]) (gN 2))
abbrev z_rising_1 : MS := (sSeq (sFor (iRng1 (aCons (eVar 0) aNil)) (gN 3) z_rising_0)
  (sRet (eVar 2)))
abbrev s_rising : Stmt := (top 24)
def b_rising : MS := (sSeq (sAsg (eLst (aCons (eTup aNil) aNil)) (gN 2))
  z_rising_1)
def f_rising : MF := runF 6 2 b_rising
theorem len_rising : ∀ ds st, ds.length ≠ 2 → f_rising ds st = .bad := runF_len
theorem sc_rising : FnScope ["length", "most", "found", "turn", "row", "number"] ["length", "most"] (defScope s_rising) := ⟨rfl, rfl, rfl, by decide +kernel, rfl, by decide +kernel, by decide +kernel⟩
abbrev s_is_gap_right : Stmt := (top 20)
theorem sc_is_gap_right : FnScope ["many", "lefts", "rights", "gap"] ["many", "lefts", "rights", "gap"] (defScope s_is_gap_right) := ⟨rfl, rfl, rfl, by decide +kernel, rfl, by decide +kernel, by decide +kernel⟩
abbrev s_is_row : Stmt := (top 19)
theorem sc_is_row : FnScope ["thing", "gap"] ["thing"] (defScope s_is_row) := ⟨rfl, rfl, rfl, by decide +kernel, rfl, by decide +kernel, by decide +kernel⟩
/-- BadChart -/
abbrev s_BadChart_init : Stmt := (inCls 7 0)
abbrev s_Chart_init : Stmt := (inCls 21 0)
theorem sc_Chart_init : FnScope ["self", "many", "lefts", "rights", "gap"] ["self", "many", "lefts", "rights"] (defScope s_Chart_init) := ⟨rfl, rfl, rfl, by decide +kernel, rfl, by decide +kernel, by decide +kernel⟩
/-- all_charts -/
abbrev s_all_charts : Stmt := (top 26)
def y_all_charts : MN := (nSeq (nPlain (sExp (eCall f_need_listed (aCons (eVar 0) aNil)))) (nSeq (nPlain (sExp (eCall f_need_listed (aCons (eVar 1) aNil)))) (nSeq (nPlain (sAsg (eCall f_rising (aCons (eVar 0) (aCons (eVar 1) aNil))) (gN 2))) (nSeq (nFor (eLc (iSeq (eVar 2)) (gN 4) cYes (eTup (aCons (eC (.int 0)) (aStar (eVar 4) aNil))) [4]) (gN 3) (nSeq (nFor (eLc (iSeq (eVar 2)) (gN 4) cYes (eTup (aStar (eVar 4) (aCons (eVar 1) aNil))) [4]) (gN 5) (nSeq (nIf (cTru (eCB fAll (aCons (eLc (iRng1 (aCons (eBin bAdd (eVar 0) (eC (.int 1))) aNil)) (gN 6) cYes (eCall f_is_gap_right (aCons (eVar 1) (aCons (eVar 3) (aCons (eVar 5) (aCons (eVar 6) aNil))))) [6]) aNil))) (nSeq (nYield "own_many" "own_lefts" "own_rights" (eCall (fin (mkF "Chart" f_Chart_init)) (aCons (eVar 1) (aCons (eVar 3) (aCons (eVar 5) aNil))))) nPass)) nPass)) nPass)) nPass))))
def yx_all_charts : MN := (nSeq (nPlain (sExp (eCall f_need_listed (aCons (eVar 0) aNil)))) (nSeq (nPlain (sExp (eCall f_need_listed (aCons (eVar 1) aNil)))) nBad))
def f_all_charts : MGn := runN 7 2 y_all_charts
def fx_all_charts : MGn := runN 7 2 yx_all_charts
theorem sc_all_charts : GScope ["length", "many", "some", "lefts", "row", "rights", "gap"] ["length", "many"] (defScope s_all_charts) := ⟨rfl, rfl, rfl, by decide +kernel, rfl, by decide +kernel, by decide +kernel⟩
/-- _law_heard -/
abbrev s__law_heard : Stmt := (top 30)
def b__law_heard (mt : ME) : MS := (sSeq (sAsg (eC .non) (gN 1))
  (sSeq (sTry cs_ 2 1 (sExp mt))
  (sSeq (sIf (cBool (eBin bIs (eVar 1) (eC .non))) (sRet (eC (.str [116, 111, 108, 100]))) sPass)
  (sSeq (sIf (cTru (eCB (fIsX tb) (aCons (eVar 1) (aCons (eC (.cls "Missing")) aNil)))) (sRet (eIf (cTru (eCB (fIsX tb) (aCons (eVar 1) (aCons (eC (.ty "ValueError")) aNil)))) (eC (.str [111, 100, 100])) (eLst (aCons (eC (.str [109, 105, 115, 115, 105, 110, 103])) (aCons (eXf xf_given "given" (eVar 1)) aNil))))) sPass)
  (sSeq (sAsg (eLst (aCons (eCB (fIsX tb) (aCons (eVar 1) (aCons (eC (.cls "BadEdit")) aNil))) (aCons (eCB (fIsX tb) (aCons (eVar 1) (aCons (eC (.cls "BadLog")) aNil))) (aCons (eCB (fIsX tb) (aCons (eVar 1) (aCons (eC (.cls "BadLength")) aNil))) aNil)))) (gN 3))
  (sSeq (sAsg (eBin bAdd (eVar 3) (eLst (aCons (eCB (fIsX tb) (aCons (eVar 1) (aCons (eC (.cls "BadMark")) aNil))) (aCons (eCB (fIsX tb) (aCons (eVar 1) (aCons (eC (.cls "BadRange")) aNil))) (aCons (eCB (fIsX tb) (aCons (eVar 1) (aCons (eC (.cls "BadChart")) aNil))) aNil))))) (gN 3))
  (sSeq (sAsg (eBin bAdd (eVar 3) (eLst (aCons (eCB (fIsX tb) (aCons (eVar 1) (aCons (eC (.cls "OutOfText")) aNil))) (aCons (eCB (fIsX tb) (aCons (eVar 1) (aCons (eC (.cls "Unlike")) aNil))) aNil)))) (gN 3))
  (sSeq (sIf (cBool (eBin bNe (eMthL fCnt (eVar 3) (aCons (eC (.bl true)) aNil)) (eC (.int 1)))) (sRet (eC (.str [111, 100, 100]))) sPass)
  (sSeq (sAsg (eMthL fIdx (eVar 3) (aCons (eC (.bl true)) aNil)) (gN 4))
  (sSeq (sAsg (eBin bIx (eLst (aCons (eC (.str [101, 100, 105, 116])) (aCons (eC (.str [108, 111, 103])) (aCons (eC (.str [108, 101, 110, 103, 116, 104])) (aCons (eC (.str [109, 97, 114, 107])) (aCons (eC (.str [114, 97, 110, 103, 101])) (aCons (eC (.str [99, 104, 97, 114, 116])) (aCons (eC (.str [111, 117, 116])) (aCons (eC (.str [117, 110, 108, 105, 107, 101])) aNil))))))))) (eVar 4)) (gN 5))
  (sSeq (sIf (cBool (eBin bIn (eVar 4) (eTup (aCons (eC (.int 1)) (aCons (eC (.int 5)) (aCons (eC (.int 6)) aNil)))))) (sRet (eLst (aCons (eVar 5) (aCons (eXf xf_place "place" (eVar 1)) aNil)))) sPass)
  (sRet (eIf (cBool (eBin bLt (eVar 4) (eC (.int 7)))) (eLst (aCons (eVar 5) (aCons (eXf xf_given "given" (eVar 1)) aNil))) (eLst (aCons (eVar 5) (aCons (eXf xf_one "one" (eVar 1)) (aCons (eXf xf_other "other" (eVar 1)) aNil)))))))))))))))))
theorem sc__law_heard : FnScope ["_law_call", "_law_caught", "e", "_law_some", "_law_at", "_law_word"] ["_law_call"] (defScope s__law_heard) := ⟨rfl, rfl, rfl, by decide +kernel, rfl, by decide +kernel, by decide +kernel⟩
def h__law_heard (mt : Store → R D) : Store → R D := fun st => match mt st with
  | .ok _ st1 => .ok (.str [116, 111, 108, 100]) st1
  | .ex c ks vs st1 => if c = "BadLength" ∧ ks = ["given"] ∧ vs.length = 1 then .ok (.lst [.str [108, 101, 110, 103, 116, 104], vs.getD 0 .non]) st1 else if c = "BadChart" ∧ ks = ["place"] ∧ vs.length = 1 then .ok (.lst [.str [99, 104, 97, 114, 116], vs.getD 0 .non]) st1 else .bad
  | .bad => .bad
theorem hR__law_heard (fn : D) (mt : Store → R D) (st : Store) : h__law_heard mt st = .bad ∨ runF 6 1 (b__law_heard (eThunk fn mt)) [fn] st = h__law_heard mt st := by
  unfold h__law_heard
  have e0 : ∀ r : List (Option D), eThunk fn mt (some fn :: r) st = mt st := fun r => if_pos rfl
  have go : ∀ r : R D, mt st = r → runF 6 1 (b__law_heard (eThunk fn mt)) [fn] st = runF 6 1 (b__law_heard fun _ _ => r) [fn] st := fun r hr => by
    have e1 : eThunk fn mt (some fn :: some .non :: List.replicate 4 none) st = r := (e0 _).trans hr
    show _ = _
    simp only [runF, b__law_heard, sSeq, sAsg, eC, gN, sTry, sExp, R.toS, List.length_cons, List.length_nil, if_true, List.map, List.replicate, List.cons_append, List.nil_append, List.set, Nat.sub_self, SR.seq] at e1 ⊢
    rw [e1]
  cases e : mt st with
  | ok v st1 => exact .inr ((go _ e).trans rfl)
  | bad => exact .inl rfl
  | ex c ks vs st1 =>
    rw [go _ e]
    clear go e0 e
    simp only
    split
    · rename_i z
      obtain ⟨rfl, rfl, z⟩ := z
      match vs, z with
      | [v0], _ => exact .inr rfl
    split
    · rename_i z
      obtain ⟨rfl, rfl, z⟩ := z
      match vs, z with
      | [v0], _ => exact .inr rfl
    exact .inl rfl
/-- law -/
abbrev z_law_0 : MS := (sIf (cTru (eCall f__law_is_chart (aCons (eVar 3) (aCons (eBin bIx (eVar 8) (eC (.int 1))) (aCons (eBin bIx (eVar 8) (eC (.int 2))) aNil))))) (sExp (eMthL fApp (eVar 4) (aCons (eVar 8) aNil))) sPass)
abbrev z_law_1 : MS := (sSeq (sAsg (eTup (aCons (eVar 3) (aCons (eBin bAdd (eTup (aCons (eC (.int 0)) aNil)) (eVar 6)) (aCons (eBin bAdd (eVar 7) (eTup (aCons (eVar 3) aNil))) aNil)))) (gN 8))
  z_law_0)
abbrev z_law_2 : MS := (sIf (cBool (eBin bNe (eCB fRepr (aCons (eVar 10) aNil)) (eCB fRepr (aCons (eVar 4) aNil)))) (sRet (eC (.bl false))) sPass)
abbrev z_law_3 : MS := (sSeq (sAsg (eLcF f_all_charts (aCons (eVar 2) (aCons (eVar 3) aNil))) (gN 10))
  z_law_2)
abbrev z_law_4 : MS := (sIf (cBool (eBin bNe (eCB fRepr (aCons (eHeard h__law_heard (eLcX ["BadLength"] fx_all_charts (aCons (eC (.int 1)) (aCons (eVar 12) aNil)))) aNil)) (eCB fRepr (aCons (eLst (aCons (eC (.str [108, 101, 110, 103, 116, 104])) (aCons (eVar 12) aNil))) aNil)))) (sRet (eC (.bl false))) sPass)
abbrev z_law_5 : MS := (sSeq (sIf (cBool (eBin bNe (eCB fRepr (aCons (eLst (aCons (eVar 10) aNil)) aNil)) (eCB fRepr (aCons (eLst (aCons (eLst (aCons (eC (.str [108, 101, 110, 103, 116, 104])) (aCons (eVar 12) aNil))) aNil)) aNil)))) (sRet (eC (.bl false))) sPass)
  z_law_4)
abbrev z_law_6 : MS := (sSeq (sAsg (eHeard h__law_heard (eLcX ["BadLength"] fx_all_charts (aCons (eVar 12) (aCons (eC .non) aNil)))) (gN 10))
  z_law_5)
abbrev z_law_7 : MS := (sSeq (sFor (iSeq (eTup (aCons (eC .non) (aCons (eNeg (eC (.int 1))) (aCons (eC (.int 4)) (aCons (eC (.bl true)) (aCons (eC (.str [49])) (aCons (eTup aNil) (aCons (eLst aNil) (aCons (eBin bPow (eC (.int 10)) (eC (.int 29))) aNil)))))))))) (gN 12) z_law_6)
  (sRet (eC (.bl true))))
abbrev z_law_8 : MS := (sSeq (sIf (cBool (eBin bNe (eZipG fx_all_charts (aCons (eC (.int 4)) (aCons (eC (.int 0)) aNil))) (eLst aNil))) (sRet (eC (.bl false))) sPass)
  z_law_7)
abbrev z_law_9 : MS := (sSeq (sFor (iRng1 (aCons (eC (.int 2)) aNil)) (gN 9) z_law_3)
  z_law_8)
abbrev z_law_10 : MS := (sSeq (sFor (iSeq (eVar 5)) (gN 6) (sFor (iSeq (eVar 5)) (gN 7) z_law_1))
  z_law_9)
abbrev z_law_11 : MS := (sSeq (sAsg (eCall f__law_rows_of (aCons (eVar 2) (aCons (eVar 3) aNil))) (gN 5))
  z_law_10)
abbrev z_law_12 : MS := (sSeq (sPar3 2 3 4 (aCons (eCall f__law_draw (aCons (eVar 1) (aCons (eC (.int 4)) aNil))) (aCons (eCall f__law_draw (aCons (eVar 1) (aCons (eC (.int 4)) aNil))) (aCons (eLstM aNil) aNil))))
  z_law_11)
abbrev s_law : Stmt := (top 33)
def b_law : MS := (sSeq (sAsg (eCall f__law_begun (aCons (eVar 0) aNil)) (gN 1))
  z_law_12)
def f_law : MF := runF 13 1 b_law
theorem sc_law : FnScope ["_law_script", "_law_m", "_law_length", "_law_many", "_law_found", "_law_some", "_law_near", "_law_far", "_law_own", "_law_again", "_law_told", "_law_chart", "_law_odd"] ["_law_script"] (defScope s_law) := ⟨rfl, rfl, rfl, by decide +kernel, rfl, by decide +kernel, by decide +kernel⟩
end
/-! ### what the walk leans on -/
structure Facts [TabC] (K : PySem.W.Frag) (mg : Str → Option Value) (base : Heap) : Prop where
  free_len : mg "len" = none
  free_enumerate : mg "enumerate" = none
  free_int : mg "int" = none
  def__law_begun : ∃ fd, FunD K "_law_begun" "_law_begun" (defArgs s__law_begun) (defBody s__law_begun) (defScope s__law_begun) [] [] (He.ga K "_law_begun") fd
  glo__law_begun : mg "_law_begun" = some (.ref (He.ga K "_law_begun"))
  def__law_draw : ∃ fd, FunD K "_law_draw" "_law_draw" (defArgs s__law_draw) (defBody s__law_draw) (defScope s__law_draw) [] [] (He.ga K "_law_draw") fd
  glo__law_draw : mg "_law_draw" = some (.ref (He.ga K "_law_draw"))
  free_range : mg "range" = none
  def__law_rows_of : ∃ fd, FunD K "_law_rows_of" "_law_rows_of" (defArgs s__law_rows_of) (defBody s__law_rows_of) (defScope s__law_rows_of) [] [] (He.ga K "_law_rows_of") fd
  glo__law_rows_of : mg "_law_rows_of" = some (.ref (He.ga K "_law_rows_of"))
  def__law_is_chart : ∃ fd, FunD K "_law_is_chart" "_law_is_chart" (defArgs s__law_is_chart) (defBody s__law_is_chart) (defScope s__law_is_chart) [] [] (He.ga K "_law_is_chart") fd
  glo__law_is_chart : mg "_law_is_chart" = some (.ref (He.ga K "_law_is_chart"))
  glo_Chart : mg "Chart" = some (.ref (He.ga K "Chart"))
  cls_Chart : Cls K (He.ga K "Chart")
  noat_Chart_own_many : NoAttr K (He.ga K "Chart") "own_many"
  def_Chart_many : ∃ fd, FunD K "many" "Chart.many" (defArgs s_Chart_many) (defBody s_Chart_many) (defScope s_Chart_many) [] [] (pAd K (He.ga K "Chart") "many") fd
  noat_Chart_own_lefts : NoAttr K (He.ga K "Chart") "own_lefts"
  def_Chart_lefts : ∃ fd, FunD K "lefts" "Chart.lefts" (defArgs s_Chart_lefts) (defBody s_Chart_lefts) (defScope s_Chart_lefts) [] [] (pAd K (He.ga K "Chart") "lefts") fd
  noat_Chart_own_rights : NoAttr K (He.ga K "Chart") "own_rights"
  def_Chart_rights : ∃ fd, FunD K "rights" "Chart.rights" (defArgs s_Chart_rights) (defBody s_Chart_rights) (defScope s_Chart_rights) [] [] (pAd K (He.ga K "Chart") "rights") fd
  free_bool : mg "bool" = none
  free_isinstance : mg "isinstance" = none
  def_is_integer : ∃ fd, FunD K "is_integer" "is_integer" (defArgs s_is_integer) (defBody s_is_integer) (defScope s_is_integer) [] [] (He.ga K "is_integer") fd
  con_MOST_LISTED : ∃ t, mg "MOST_LISTED" = some (.int 3 t)
  glo_is_integer : mg "is_integer" = some (.ref (He.ga K "is_integer"))
  glo_BadLength : mg "BadLength" = some (.ref (He.ga K "BadLength"))
  glo_MarkError : mg "MarkError" = some (.ref (He.ga K "MarkError"))
  def_BadLength_init : ∃ fd, FunD K "__init__" "BadLength.__init__" (defArgs s_BadLength_init) (defBody s_BadLength_init) (defScope s_BadLength_init) [] [] (He.ma K (He.ga K "BadLength") "__init__") fd
  base_MarkError : BaseI K mg "MarkError" (He.ga K "MarkError")
  exc_BadLength : ExcF K mg "BadLength" (He.ga K "BadLength") (He.ma K (He.ga K "BadLength") "__init__") ∧ ExcC K (He.ga K "BadLength")
  noat_BadLength_given : NoAttr K (He.ga K "BadLength") "given"
  def_need_listed : ∃ fd, FunD K "need_listed" "need_listed" (defArgs s_need_listed) (defBody s_need_listed) (defScope s_need_listed) [] [] (He.ga K "need_listed") fd
  glo_need_listed : mg "need_listed" = some (.ref (He.ga K "need_listed"))
  def_rising : ∃ fd, FunD K "rising" "rising" (defArgs s_rising) (defBody s_rising) (defScope s_rising) [] [] (He.ga K "rising") fd
  glo_rising : mg "rising" = some (.ref (He.ga K "rising"))
  def_is_gap_right : ∃ fd, FunD K "is_gap_right" "is_gap_right" (defArgs s_is_gap_right) (defBody s_is_gap_right) (defScope s_is_gap_right) [] [] (He.ga K "is_gap_right") fd
  glo_is_gap_right : mg "is_gap_right" = some (.ref (He.ga K "is_gap_right"))
  free_all : mg "all" = none
  con_MOST_GAPS : ∃ t, mg "MOST_GAPS" = some (.int 101 t)
  free_tuple : mg "tuple" = none
  def_is_row : ∃ fd, FunD K "is_row" "is_row" (defArgs s_is_row) (defBody s_is_row) (defScope s_is_row) [] [] (He.ga K "is_row") fd
  glo_is_row : mg "is_row" = some (.ref (He.ga K "is_row"))
  con_MOST_BEHIND : ∃ t, mg "MOST_BEHIND" = some (.int 500 t)
  glo_BadChart : mg "BadChart" = some (.ref (He.ga K "BadChart"))
  def_BadChart_init : ∃ fd, FunD K "__init__" "BadChart.__init__" (defArgs s_BadChart_init) (defBody s_BadChart_init) (defScope s_BadChart_init) [] [] (He.ma K (He.ga K "BadChart") "__init__") fd
  exc_BadChart : ExcF K mg "BadChart" (He.ga K "BadChart") (He.ma K (He.ga K "BadChart") "__init__") ∧ ExcC K (He.ga K "BadChart")
  noat_BadChart_place : NoAttr K (He.ga K "BadChart") "place"
  noat_Chart_own_signs : NoAttr K (He.ga K "Chart") "own_signs"
  def_Chart_init : ∃ fd, FunD K "__init__" "Chart.__init__" (defArgs s_Chart_init) (defBody s_Chart_init) (defScope s_Chart_init) [] [] (He.ma K (He.ga K "Chart") "__init__") fd
  mk_Chart : Mk K (He.ga K "Chart") (He.ma K (He.ga K "Chart") "__init__")
  def_all_charts : ∃ fd, FunD K "all_charts" "all_charts" (defArgs s_all_charts) (defBody s_all_charts) (defScope s_all_charts) [] [] (He.ga K "all_charts") fd
  prop_Chart_many : PropOf K (He.ga K "Chart") "many" (He.ma K (He.ga K "Chart") "many") (pAd K (He.ga K "Chart") "many")
  prop_Chart_lefts : PropOf K (He.ga K "Chart") "lefts" (He.ma K (He.ga K "Chart") "lefts") (pAd K (He.ga K "Chart") "lefts")
  prop_Chart_rights : PropOf K (He.ga K "Chart") "rights" (He.ma K (He.ga K "Chart") "rights") (pAd K (He.ga K "Chart") "rights")
  glo_all_charts : mg "all_charts" = some (.ref (He.ga K "all_charts"))
  sys : Sys K
  free_repr : mg "repr" = none
  free_list : mg "list" = none
  free_zip : mg "zip" = none
  any : ∀ c ∈ cs_, ∃ C, mg (Str.ofString c) = some (.ref C) ∧ PySem.W.exmAny K (.ref C) [.ref (He.ga K "MarkError"), .ref (He.ga K "Missing")] = some true
  glo_Missing : mg "Missing" = some (.ref (He.ga K "Missing"))
  free_ValueError : mg "ValueError" = none
  glo_BadEdit : mg "BadEdit" = some (.ref (He.ga K "BadEdit"))
  glo_BadLog : mg "BadLog" = some (.ref (He.ga K "BadLog"))
  glo_BadMark : mg "BadMark" = some (.ref (He.ga K "BadMark"))
  glo_BadRange : mg "BadRange" = some (.ref (He.ga K "BadRange"))
  glo_OutOfText : mg "OutOfText" = some (.ref (He.ga K "OutOfText"))
  glo_Unlike : mg "Unlike" = some (.ref (He.ga K "Unlike"))
  def__law_heard : ∃ fd, FunD K "_law_heard" "_law_heard" (defArgs s__law_heard) (defBody s__law_heard) (defScope s__law_heard) [] [] (He.ga K "_law_heard") fd
  lam_law : LamF K mg base (He.ga K "law") "law.<locals>.<lambda>" (cA K ("law", none)) (tA K ("law", none))
  glo__law_heard : mg "_law_heard" = some (.ref (He.ga K "_law_heard"))
  def_law : ∃ fd, FunD K "law" "law" (defArgs s_law) (defBody s_law) (defScope s_law) [] [] (He.ga K "law") fd
  tbl : TblOk K mg tb
  xf_given : ∀ c ∈ xf_given, ∃ C, mg (Str.ofString c) = some (.ref C) ∧ ExcC K C ∧ PySem.W.findIn K (.ref C) (Str.ofString "given") = some none
  xf_place : ∀ c ∈ xf_place, ∃ C, mg (Str.ofString c) = some (.ref C) ∧ ExcC K C ∧ PySem.W.findIn K (.ref C) (Str.ofString "place") = some none
  xf_one : ∀ c ∈ xf_one, ∃ C, mg (Str.ofString c) = some (.ref C) ∧ ExcC K C ∧ PySem.W.findIn K (.ref C) (Str.ofString "one") = some none
  xf_other : ∀ c ∈ xf_other, ∃ C, mg (Str.ofString c) = some (.ref C) ∧ ExcC K C ∧ PySem.W.findIn K (.ref C) (Str.ofString "other") = some none
section
variable [TabC] {P : Program} {w : World} {K : PySem.W.Frag} {mg : Str → Option Value} {base : Heap}
theorem fn__law_begun (h : Facts K mg base) : Fn P w K mg base 1 (He.ga K "_law_begun") ["_law_script"] f__law_begun := by
  obtain ⟨fd, F⟩ := h.def__law_begun
  have bn : Binds K fd ["_law_script"] [] := F.bindsN fun _ _ _ _ _ _ us hl => match us, hl with | [_], _ => rfl
  have r : Fn P w K mg base 1 (He.ga K "_law_begun") ["_law_script"] (runF 4 1 b__law_begun) := fn_mkN b__law_begun rfl rfl F sc__law_begun bn fun cdv A outer s H E hc hr hq => (ss_cons (ss_set sc__law_begun.nd (i := 1) rfl (by first | exact Or.inl rfl | exact Or.inr rfl) (se_add se_int (se_mul se_int (se_len rfl h.free_len (sa_cons (se_var 0) sa_nil)))))
  (ss_cons (ss_for rfl (si_enum rfl h.free_enumerate (se_var 0)) (sg_tup rfl (sgs_cons (sg_name sc__law_begun.nd (i := 2) rfl (by first | exact Or.inl rfl | exact Or.inr rfl)) (sgs_cons (sg_name sc__law_begun.nd (i := 3) rfl (by first | exact Or.inl rfl | exact Or.inr rfl)) sgs_nil)) (glen_cons (glen_cons glen_nil))) (ss_one (ss_set sc__law_begun.nd (i := 1) rfl (by first | exact Or.inl rfl | exact Or.inr rfl) (se_mod (se_int1 rfl h.free_int (sa_cons (se_add (se_add (se_mul (se_var 1) se_int) (se_var 3)) (se_mul se_int (se_var 2))) sa_nil)) se_int))))
  (ss_one (ss_ret (se_disp (sp_cons (se_str [103, 114, 101, 97, 116]) (se_lcM (own := [("_law_cell", 3)]) rfl sc__law_begun.nd (si_seq (se_var 0)) (blkOk_by (by show blkC ["_law_script", "_law_number", "_law_at", "_law_cell"] (defScope s__law_begun) _ _ = true; decide +kernel)) (by decide) (fun _ _ _ _ _ => (sg_name sc__law_begun.nd (i := 3) rfl (by first | exact Or.inl rfl | exact Or.inr rfl))) (fun _ _ _ _ _ => (sts_one (st_ge (se_var 3) (se_pow se_int se_int)))) (fun _ _ _ _ _ => (se_var 3))) (sp_cons (se_str [110, 117, 109, 98, 101, 114]) (se_var 1) (sp_cons (se_str [116, 117, 114, 110]) se_int sp_nil))))))))
  exact r
theorem fn__law_draw (h : Facts K mg base) : Fn P w K mg base 1 (He.ga K "_law_draw") ["_law_m", "_law_many"] f__law_draw := by
  obtain ⟨fd, F⟩ := h.def__law_draw
  have bn : Binds K fd ["_law_m", "_law_many"] [] := F.bindsN fun _ _ _ _ _ _ us hl => match us, hl with | [_, _], _ => rfl
  have r : Fn P w K mg base 1 (He.ga K "_law_draw") ["_law_m", "_law_many"] (runF 5 2 b__law_draw) := fn_mkN b__law_draw rfl rfl F sc__law_draw bn fun cdv A outer s H E hc hr hq => (ss_cons (ss_set sc__law_draw.nd (i := 2) rfl (by first | exact Or.inl rfl | exact Or.inr rfl) (se_sub_ix hr (se_var 0) (se_str [103, 114, 101, 97, 116]) (fun _ _ => rfl)))
  (ss_cons (ss_while 1000 (SW.st (sw_and (st_ne hr (se_var 2) (se_lst sa_nil)) (sw_and1 (st_eq hr (se_sub_ix hr (se_var 2) se_int (fun _ _ => rfl)) se_int)))) (ss_one (ss_exp (se_pop (se_var 2) (sa_cons se_int sa_nil)))))
  (ss_cons (ss_if (st_ne hr (se_var 2) (se_lst sa_nil)) (ss_cons (ss_set sc__law_draw.nd (i := 3) rfl (by first | exact Or.inl rfl | exact Or.inr rfl) (se_mod (se_int1 rfl h.free_int (sa_cons (se_sub_ix hr (se_var 2) se_int (fun _ _ => rfl)) sa_nil)) (se_var 1)))
  (ss_cons (ss_setix hr (se_div (se_sub_ix hr (se_var 2) se_int (fun _ _ => rfl)) (se_var 1)) (se_var 2) se_int)
  (ss_one (ss_ret (se_var 3))))) ss_nil)
  (ss_cons (ss_setix hr (se_add (se_sub_ix hr (se_var 0) (se_str [116, 117, 114, 110]) (fun _ _ => rfl)) se_int) (se_var 0) (se_str [116, 117, 114, 110]))
  (ss_cons (ss_set sc__law_draw.nd (i := 4) rfl (by first | exact Or.inl rfl | exact Or.inr rfl) (se_add (se_mul (se_sub_ix hr (se_var 0) (se_str [110, 117, 109, 98, 101, 114]) (fun _ _ => rfl)) se_int) se_int))
  (ss_cons (ss_set sc__law_draw.nd (i := 4) rfl (by first | exact Or.inl rfl | exact Or.inr rfl) (se_add (se_var 4) (se_mul se_int (se_sub_ix hr (se_var 0) (se_str [116, 117, 114, 110]) (fun _ _ => rfl)))))
  (ss_cons (ss_setix hr (se_mod (se_int1 rfl h.free_int (sa_cons (se_var 4) sa_nil)) se_int) (se_var 0) (se_str [110, 117, 109, 98, 101, 114]))
  (ss_one (ss_ret (se_mod (se_int1 rfl h.free_int (sa_cons (se_div (se_sub_ix hr (se_var 0) (se_str [110, 117, 109, 98, 101, 114]) (fun _ _ => rfl)) se_int) sa_nil)) (se_var 1)))))))))))
  exact r
theorem fn__law_rows_of (h : Facts K mg base) : Fn P w K mg base 1 (He.ga K "_law_rows_of") ["_law_many", "_law_most"] f__law_rows_of := by
  obtain ⟨fd, F⟩ := h.def__law_rows_of
  have bn : Binds K fd ["_law_many", "_law_most"] [] := F.bindsN fun _ _ _ _ _ _ us hl => match us, hl with | [_, _], _ => rfl
  have r : Fn P w K mg base 1 (He.ga K "_law_rows_of") ["_law_many", "_law_most"] (runF 7 2 b__law_rows_of) := fn_mkN b__law_rows_of rfl rfl F sc__law_rows_of bn fun cdv A outer s H E hc hr hq => (ss_cons (ss_set sc__law_rows_of.nd (i := 2) rfl (by first | exact Or.inl rfl | exact Or.inr rfl) (se_lst (sa_cons (se_tup sa_nil) sa_nil)))
  (ss_cons (ss_for rfl (si_rng1 rfl h.free_range (sa_cons (se_var 0) sa_nil)) (sg_name sc__law_rows_of.nd (i := 3) rfl (by first | exact Or.inl rfl | exact Or.inr rfl)) (ss_cons (ss_set sc__law_rows_of.nd (i := 4) rfl (by first | exact Or.inl rfl | exact Or.inr rfl) (se_lst sa_nil))
  (ss_cons (ss_for rfl (si_seq (se_var 2)) (sg_name sc__law_rows_of.nd (i := 5) rfl (by first | exact Or.inl rfl | exact Or.inr rfl)) (ss_one (ss_set sc__law_rows_of.nd (i := 4) rfl (by first | exact Or.inl rfl | exact Or.inr rfl) (se_add (se_var 4) (se_lc (own := [("_law_one", 6)]) rfl sc__law_rows_of.nd (si_rng1 rfl h.free_range (sa_cons (se_add (se_var 1) se_int) sa_nil)) (blkOk_by (by show blkC ["_law_many", "_law_most", "_law_found", "_law_again", "_law_longer", "_law_row", "_law_one"] (defScope s__law_rows_of) _ _ = true; decide +kernel)) (by decide) (fun _ _ _ _ _ => (sg_name sc__law_rows_of.nd (i := 6) rfl (by first | exact Or.inl rfl | exact Or.inr rfl))) (fun _ _ _ _ _ => sts_nil) (fun _ _ _ _ _ => (se_add (se_var 5) (se_tup (sa_cons (se_var 6) sa_nil)))))))))
  (ss_one (ss_set sc__law_rows_of.nd (i := 2) rfl (by first | exact Or.inl rfl | exact Or.inr rfl) (se_var 4))))))
  (ss_one (ss_ret (se_var 2)))))
  exact r
theorem fn__law_is_chart (h : Facts K mg base) : Fn P w K mg base 1 (He.ga K "_law_is_chart") ["_law_many", "_law_lefts", "_law_rights"] f__law_is_chart := by
  obtain ⟨fd, F⟩ := h.def__law_is_chart
  have bn : Binds K fd ["_law_many", "_law_lefts", "_law_rights"] [] := F.bindsN fun _ _ _ _ _ _ us hl => match us, hl with | [_, _, _], _ => rfl
  have r : Fn P w K mg base 1 (He.ga K "_law_is_chart") ["_law_many", "_law_lefts", "_law_rights"] (runF 4 3 b__law_is_chart) := fn_mkN b__law_is_chart rfl rfl F sc__law_is_chart bn fun cdv A outer s H E hc hr hq => (ss_cons (ss_if (SW.st (sw_or (st_ne hr (se_sub_ix hr (se_var 1) se_int (fun _ _ => rfl)) se_int) (sw_or1 (st_ne hr (se_sub_ix hr (se_var 2) (se_neg se_int) (fun _ _ => rfl)) (se_var 0))))) (ss_one (ss_ret se_bl)) ss_nil)
  (ss_cons (ss_for rfl (si_rng1 rfl h.free_range (sa_cons (se_len rfl h.free_len (sa_cons (se_var 1) sa_nil)) sa_nil)) (sg_name sc__law_is_chart.nd (i := 3) rfl (by first | exact Or.inl rfl | exact Or.inr rfl)) (ss_cons (ss_if (st_gt (se_sub_ix hr (se_var 1) (se_var 3) (fun _ _ => rfl)) (se_sub_ix hr (se_var 2) (se_var 3) (fun _ _ => rfl))) (ss_one (ss_ret se_bl)) ss_nil)
  (ss_cons (ss_if (SW.st (sw_and (st_gt (se_var 3) se_int) (sw_and1 (st_lt (se_sub_ix hr (se_var 1) (se_var 3) (fun _ _ => rfl)) (se_sub_ix hr (se_var 1) (se_sub (se_var 3) se_int) (fun _ _ => rfl)))))) (ss_one (ss_ret se_bl)) ss_nil)
  (ss_cons (ss_if (SW.st (sw_and (st_gt (se_var 3) se_int) (sw_and1 (st_lt (se_sub_ix hr (se_var 2) (se_var 3) (fun _ _ => rfl)) (se_sub_ix hr (se_var 2) (se_sub (se_var 3) se_int) (fun _ _ => rfl)))))) (ss_one (ss_ret se_bl)) ss_nil)
  (ss_one (ss_if (SW.st (sw_and (st_gt (se_var 3) se_int) (sw_and1 (st_gt (se_sub_ix hr (se_var 1) (se_var 3) (fun _ _ => rfl)) (se_add (se_sub_ix hr (se_var 2) (se_sub (se_var 3) se_int) (fun _ _ => rfl)) se_int))))) (ss_one (ss_ret se_bl)) ss_nil))))))
  (ss_one (ss_ret se_bl))))
  exact r
theorem fn_is_integer (h : Facts K mg base) : Fn P w K mg base 1 (He.ga K "is_integer") ["thing", "least", "most"] f_is_integer := by
  obtain ⟨fd, F⟩ := h.def_is_integer
  have bn : Binds K fd ["thing", "least", "most"] [] := F.bindsN fun _ _ _ _ _ _ us hl => match us, hl with | [_, _, _], _ => rfl
  have r : Fn P w K mg base 1 (He.ga K "is_integer") ["thing", "least", "most"] (runF 3 3 b_is_integer) := fn_mkN b_is_integer rfl rfl F sc_is_integer bn fun cdv A outer s H E hc hr hq => (ss_one (ss_ret (se_and (se_isi rfl h.free_isinstance (sa_cons (se_var 0) (sa_cons (se_ty "int" rfl h.free_int (by decide +kernel)) sa_nil))) (se_and (se_not (se_isi rfl h.free_isinstance (sa_cons (se_var 0) (sa_cons (se_ty "bool" rfl h.free_bool (by decide +kernel)) sa_nil)))) (se_one (se_lele (se_var 1) (se_var 0) (se_var 2)))))))
  exact r
theorem exi_BadLength (h : Facts K mg base) : ∃ fd, FnOk P w K mg base (L2.CX P w) 1 (He.ma K (He.ga K "BadLength") "__init__") fd ["self", "given"] (spX1 K "given") ∧ Binds K fd ["self", "given"] [] := by
  obtain ⟨fd, F⟩ := h.def_BadLength_init
  exact ⟨fd, fn_exI1 "not a length" F ⟨rfl, rfl, rfl, by decide +kernel, rfl, by decide +kernel, by decide +kernel⟩ (fun cdv A outer s H E => pss_cons (ps_expr (pe_baseI (B := He.ga K "MarkError") rfl h.base_MarkError (pa_cons (pv 0) (pa_cons pe_str pa_nil)) (by decide))) (pss_one (ps_ost (pv 0) (pv 1)))), F.bindsN fun _ _ _ _ _ _ us hl => match us, hl with | [_, _], _ => rfl⟩
theorem fn_need_listed (h : Facts K mg base) : Fn P w K mg base 3 (He.ga K "need_listed") ["thing"] f_need_listed := by
  obtain ⟨fd, F⟩ := h.def_need_listed
  have bn : Binds K fd ["thing"] [] := F.bindsN fun _ _ _ _ _ _ us hl => match us, hl with | [_], _ => rfl
  have r : Fn P w K mg base 3 (He.ga K "need_listed") ["thing"] (runF 1 1 b_need_listed) := fn_mkN b_need_listed rfl rfl F sc_need_listed bn fun cdv A outer s H E hc hr hq => (ss_one (ss_if (st_not (st_tru (se_call ((fn_is_integer h).mono (by decide)) hr hq rfl h.glo_is_integer (sa_cons (se_var 0) (sa_cons se_int (sa_cons (se_gint rfl h.con_MOST_LISTED) sa_nil))) (hn := len_is_integer)))) (ss_one (ss_raise1 (c := "BadLength") (f := "given") rfl h.exc_BadLength.1 h.noat_BadLength_given (exi_BadLength h) (hr.mono (by decide)) rfl (sa_cons (se_var 0) sa_nil))) ss_nil))
  exact r
theorem fn_rising (h : Facts K mg base) : Fn P w K mg base 1 (He.ga K "rising") ["length", "most"] f_rising := by
  obtain ⟨fd, F⟩ := h.def_rising
  have bn : Binds K fd ["length", "most"] [] := F.bindsN fun _ _ _ _ _ _ us hl => match us, hl with | [_, _], _ => rfl
  have r : Fn P w K mg base 1 (He.ga K "rising") ["length", "most"] (runF 6 2 b_rising) := fn_mkN b_rising rfl rfl F sc_rising bn fun cdv A outer s H E hc hr hq => (ss_cons (ss_set sc_rising.nd (i := 2) rfl (by first | exact Or.inl rfl | exact Or.inr rfl) (se_lst (sa_cons (se_tup sa_nil) sa_nil)))
  (ss_cons (ss_for rfl (si_rng1 rfl h.free_range (sa_cons (se_var 0) sa_nil)) (sg_name sc_rising.nd (i := 3) rfl (by first | exact Or.inl rfl | exact Or.inr rfl)) (ss_one (ss_setLc2 (own := [("row", 4), ("number", 5)]) (vs1 := [5]) rfl sc_rising.nd (si_seq (se_var 2)) (blkOk_by (by show blkC ["length", "most", "found", "turn", "row", "number"] (defScope s_rising) _ _ = true; decide +kernel)) (by decide) (by decide) (by decide) (fun _ _ _ _ _ => (sg_name sc_rising.nd (i := 4) rfl (by first | exact Or.inl rfl | exact Or.inr rfl))) (fun _ _ _ _ _ => by rfl) h.free_range (fun _ _ _ _ _ => (sa_cons (se_if (st_ne hr (se_var 4) (se_tup sa_nil)) (se_sub_ix hr (se_var 4) (se_neg se_int) (fun _ _ => rfl)) se_int) (sa_cons (se_add (se_var 1) se_int) sa_nil))) (fun _ _ _ _ _ => (sg_name sc_rising.nd (i := 5) rfl (by first | exact Or.inl rfl | exact Or.inr rfl))) (fun _ _ _ _ _ => (se_add (se_var 4) (se_tup (sa_cons (se_var 5) sa_nil)))) (fun _ => by rfl) (fun _ => by rfl) rfl rfl rfl)))
  (ss_one (ss_ret (se_var 2)))))
  exact r
theorem fn_is_gap_right (h : Facts K mg base) : Fn P w K mg base 1 (He.ga K "is_gap_right") ["many", "lefts", "rights", "gap"] f_is_gap_right := by
  obtain ⟨fd, F⟩ := h.def_is_gap_right
  have bn : Binds K fd ["many", "lefts", "rights", "gap"] [] := F.bindsN fun _ _ _ _ _ _ us hl => match us, hl with | [_, _, _, _], _ => rfl
  have r : Fn P w K mg base 1 (He.ga K "is_gap_right") ["many", "lefts", "rights", "gap"] (runF 4 4 b_is_gap_right) := fn_mkN b_is_gap_right rfl rfl F sc_is_gap_right bn fun cdv A outer s H E hc hr hq => (ss_cons (ss_if (SW.st (sw_or (st_gt (se_sub_ix hr (se_var 1) (se_var 3) (fun _ _ => rfl)) (se_sub_ix hr (se_var 2) (se_var 3) (fun _ _ => rfl))) (sw_or1 (SW.st (sw_and (st_eq hr (se_var 3) se_int) (sw_and1 (st_ne hr (se_sub_ix hr (se_var 1) se_int (fun _ _ => rfl)) se_int))))))) (ss_one (ss_ret se_bl)) ss_nil)
  (ss_cons (ss_if (SW.st (sw_and (st_gt (se_var 3) se_int) (sw_and1 (SW.st (sw_or (st_lt (se_sub_ix hr (se_var 1) (se_var 3) (fun _ _ => rfl)) (se_sub_ix hr (se_var 1) (se_sub (se_var 3) se_int) (fun _ _ => rfl))) (sw_or1 (st_lt (se_sub_ix hr (se_var 2) (se_var 3) (fun _ _ => rfl)) (se_sub_ix hr (se_var 2) (se_sub (se_var 3) se_int) (fun _ _ => rfl))))))))) (ss_one (ss_ret se_bl)) ss_nil)
  (ss_cons (ss_if (SW.st (sw_and (st_gt (se_var 3) se_int) (sw_and1 (st_gt (se_sub_ix hr (se_var 1) (se_var 3) (fun _ _ => rfl)) (se_add (se_sub_ix hr (se_var 2) (se_sub (se_var 3) se_int) (fun _ _ => rfl)) se_int))))) (ss_one (ss_ret se_bl)) ss_nil)
  (ss_one (ss_ret (se_or (se_lt (se_var 3) (se_sub (se_len rfl h.free_len (sa_cons (se_var 1) sa_nil)) se_int)) (se_one (se_eq hr (se_sub_ix hr (se_var 2) (se_var 3) (fun _ _ => rfl)) (se_var 0)))))))))
  exact r
theorem fn_is_row (h : Facts K mg base) : Fn P w K mg base 1 (He.ga K "is_row") ["thing"] f_is_row := by
  obtain ⟨fd, F⟩ := h.def_is_row
  have bn : Binds K fd ["thing"] [] := F.bindsN fun _ _ _ _ _ _ us hl => match us, hl with | [_], _ => rfl
  have r : Fn P w K mg base 1 (He.ga K "is_row") ["thing"] (runF 2 1 b_is_row) := fn_mkN b_is_row rfl rfl F sc_is_row bn fun cdv A outer s H E hc hr hq => (ss_cons (ss_if (SW.st (sw_or (st_not (st_tru (se_isi rfl h.free_isinstance (sa_cons (se_var 0) (sa_cons (se_ty "tuple" rfl h.free_tuple (by decide +kernel)) sa_nil))))) (sw_or1 (st_not (st_lele se_int (se_len rfl h.free_len (sa_cons (se_var 0) sa_nil)) (se_gint rfl h.con_MOST_GAPS)))))) (ss_one (ss_ret se_bl)) ss_nil)
  (ss_one (ss_ret (se_all rfl rfl h.free_all (sa_cons (se_lc (own := [("gap", 1)]) rfl sc_is_row.nd (si_seq (se_var 0)) (blkOk_by (by show blkC ["thing", "gap"] (defScope s_is_row) _ _ = true; decide +kernel)) (by decide) (fun _ _ _ _ _ => (sg_name sc_is_row.nd (i := 1) rfl (by first | exact Or.inl rfl | exact Or.inr rfl))) (fun _ _ _ _ _ => sts_nil) (fun _ _ _ _ _ => (se_and (se_isi rfl h.free_isinstance (sa_cons (se_var 1) (sa_cons (se_ty "int" rfl h.free_int (by decide +kernel)) sa_nil))) (se_one (se_not (se_isi rfl h.free_isinstance (sa_cons (se_var 1) (sa_cons (se_ty "bool" rfl h.free_bool (by decide +kernel)) sa_nil)))))))) sa_nil)))))
  exact r
theorem exi_BadChart (h : Facts K mg base) : ∃ fd, FnOk P w K mg base (L2.CX P w) 1 (He.ma K (He.ga K "BadChart") "__init__") fd ["self", "place"] (spX1 K "place") ∧ Binds K fd ["self", "place"] [] := by
  obtain ⟨fd, F⟩ := h.def_BadChart_init
  exact ⟨fd, fn_exI1 "not a chart" F ⟨rfl, rfl, rfl, by decide +kernel, rfl, by decide +kernel, by decide +kernel⟩ (fun cdv A outer s H E => pss_cons (ps_expr (pe_baseI (B := He.ga K "MarkError") rfl h.base_MarkError (pa_cons (pv 0) (pa_cons pe_str pa_nil)) (by decide))) (pss_one (ps_ost (pv 0) (pv 1)))), F.bindsN fun _ _ _ _ _ _ us hl => match us, hl with | [_, _], _ => rfl⟩
theorem fn_Chart_init (h : Facts K mg base) : Fn P w K mg base 3 (He.ma K (He.ga K "Chart") "__init__") ["self", "many", "lefts", "rights"] f_Chart_init := by
  obtain ⟨fd, F⟩ := h.def_Chart_init
  have bn : Binds K fd ["self", "many", "lefts", "rights"] [] := F.bindsN fun _ _ _ _ _ _ us hl => match us, hl with | [_, _, _, _], _ => rfl
  have r : Fn P w K mg base 3 (He.ma K (He.ga K "Chart") "__init__") ["self", "many", "lefts", "rights"] (runF 5 4 b_Chart_init) := fn_mkN b_Chart_init rfl rfl F sc_Chart_init bn fun cdv A outer s H E hc hr hq => (ss_cons (ss_if (SW.st (sw_or (st_not (st_tru (se_call ((fn_is_integer h).mono (by decide)) hr hq rfl h.glo_is_integer (sa_cons (se_var 1) (sa_cons se_int (sa_cons (se_gint rfl h.con_MOST_BEHIND) sa_nil))) (hn := len_is_integer)))) (sw_or (st_not (st_tru (se_call ((fn_is_row h).mono (by decide)) hr hq rfl h.glo_is_row (sa_cons (se_var 2) sa_nil) (hn := len_is_row)))) (sw_or1 (st_not (st_tru (se_call ((fn_is_row h).mono (by decide)) hr hq rfl h.glo_is_row (sa_cons (se_var 3) sa_nil) (hn := len_is_row)))))))) (ss_one (ss_raise1 (c := "BadChart") (f := "place") rfl h.exc_BadChart.1 h.noat_BadChart_place (exi_BadChart h) (hr.mono (by decide)) rfl (sa_cons se_non sa_nil))) ss_nil)
  (ss_cons (ss_if (st_ne hr (se_len rfl h.free_len (sa_cons (se_var 2) sa_nil)) (se_len rfl h.free_len (sa_cons (se_var 3) sa_nil))) (ss_one (ss_raise1 (c := "BadChart") (f := "place") rfl h.exc_BadChart.1 h.noat_BadChart_place (exi_BadChart h) (hr.mono (by decide)) rfl (sa_cons se_non sa_nil))) ss_nil)
  (ss_cons (ss_for rfl (si_rng1 rfl h.free_range (sa_cons (se_len rfl h.free_len (sa_cons (se_var 2) sa_nil)) sa_nil)) (sg_name sc_Chart_init.nd (i := 4) rfl (by first | exact Or.inl rfl | exact Or.inr rfl)) (ss_one (ss_if (st_not (st_tru (se_call ((fn_is_gap_right h).mono (by decide)) hr hq rfl h.glo_is_gap_right (sa_cons (se_var 1) (sa_cons (se_var 2) (sa_cons (se_var 3) (sa_cons (se_var 4) sa_nil)))) (hn := len_is_gap_right)))) (ss_one (ss_raise1 (c := "BadChart") (f := "place") rfl h.exc_BadChart.1 h.noat_BadChart_place (exi_BadChart h) (hr.mono (by decide)) rfl (sa_cons (se_var 4) sa_nil))) ss_nil)))
  (ss_cons (ss_fld (c := "Chart") (f := "own_many") (se_var 0) (se_var 1) h.glo_Chart h.cls_Chart h.noat_Chart_own_many)
  (ss_cons (ss_fld (c := "Chart") (f := "own_lefts") (se_var 0) (se_var 2) h.glo_Chart h.cls_Chart h.noat_Chart_own_lefts)
  (ss_cons (ss_fld (c := "Chart") (f := "own_rights") (se_var 0) (se_var 3) h.glo_Chart h.cls_Chart h.noat_Chart_own_rights)
  (ss_one (ss_fld (c := "Chart") (f := "own_signs") (se_var 0) (se_slice (se_var 2) (so_some se_int) so_none) h.glo_Chart h.cls_Chart h.noat_Chart_own_signs))))))))
  exact r
theorem gt_many (h : Facts K mg base) : Getter K (He.ga K "Chart") "many" "own_many" := by
  obtain ⟨fd, F⟩ := h.def_Chart_many
  exact ⟨h.cls_Chart, h.noat_Chart_own_many, _, _, _, _, _, _, _, _, _, fd, ["self"], h.prop_Chart_many, F, sc_Chart_many, F.bindsN fun _ _ _ _ _ _ us hl => match us, hl with | [_], _ => rfl, rfl, fun _ => rfl⟩
theorem gt_lefts (h : Facts K mg base) : Getter K (He.ga K "Chart") "lefts" "own_lefts" := by
  obtain ⟨fd, F⟩ := h.def_Chart_lefts
  exact ⟨h.cls_Chart, h.noat_Chart_own_lefts, _, _, _, _, _, _, _, _, _, fd, ["self"], h.prop_Chart_lefts, F, sc_Chart_lefts, F.bindsN fun _ _ _ _ _ _ us hl => match us, hl with | [_], _ => rfl, rfl, fun _ => rfl⟩
theorem gt_rights (h : Facts K mg base) : Getter K (He.ga K "Chart") "rights" "own_rights" := by
  obtain ⟨fd, F⟩ := h.def_Chart_rights
  exact ⟨h.cls_Chart, h.noat_Chart_own_rights, _, _, _, _, _, _, _, _, _, fd, ["self"], h.prop_Chart_rights, F, sc_Chart_rights, F.bindsN fun _ _ _ _ _ _ us hl => match us, hl with | [_], _ => rfl, rfl, fun _ => rfl⟩
theorem gn_all_charts (h : Facts K mg base) : GnN P w K mg base 4 (He.ga K "all_charts") (fldF (He.ga K "Chart") "own_many" "own_lefts" "own_rights") f_all_charts := by
  obtain ⟨fd, F⟩ := h.def_all_charts
  have bn : Binds K fd ["length", "many"] [] := F.bindsN fun _ _ _ _ _ _ us hl => match us, hl with | [_, _], _ => rfl
  exact ⟨_, _, _, _, _, fd, ["length", "many", "some", "lefts", "row", "rights", "gap"], ["length", "many"], y_all_charts, F, sc_all_charts, bn, fun cdv A outer s H E hc hr hq => (sns_cons (sn_plain (ss_exp (se_call ((fn_need_listed h).mono (by decide)) hr hq rfl h.glo_need_listed (sa_cons (se_var 0) sa_nil) (hn := len_need_listed))))
  (sns_cons (sn_plain (ss_exp (se_call ((fn_need_listed h).mono (by decide)) hr hq rfl h.glo_need_listed (sa_cons (se_var 1) sa_nil) (hn := len_need_listed))))
  (sns_cons (sn_plain (ss_set sc_all_charts.nd (i := 2) rfl (by first | exact Or.inl rfl | exact Or.inr rfl) (se_call ((fn_rising h).mono (by decide)) hr hq rfl h.glo_rising (sa_cons (se_var 0) (sa_cons (se_var 1) sa_nil)) (hn := len_rising))))
  (sns_cons (sn_for hr.hd (se_lc (own := [("row", 4)]) rfl sc_all_charts.nd (si_seq (se_var 2)) (blkOk_by (by show blkC ["length", "many", "some", "lefts", "row", "rights", "gap"] (defScope s_all_charts) _ _ = true; decide +kernel)) (by decide) (fun _ _ _ _ _ => (sg_name sc_all_charts.nd (i := 4) rfl (by first | exact Or.inl rfl | exact Or.inr rfl))) (fun _ _ _ _ _ => sts_nil) (fun _ _ _ _ _ => (se_tup (sa_cons se_int (sa_star (se_var 4) sa_nil))))) (sg_name sc_all_charts.nd (i := 3) rfl (by first | exact Or.inl rfl | exact Or.inr rfl)) (sns_cons (sn_for hr.hd (se_lc (own := [("row", 4)]) rfl sc_all_charts.nd (si_seq (se_var 2)) (blkOk_by (by show blkC ["length", "many", "some", "lefts", "row", "rights", "gap"] (defScope s_all_charts) _ _ = true; decide +kernel)) (by decide) (fun _ _ _ _ _ => (sg_name sc_all_charts.nd (i := 4) rfl (by first | exact Or.inl rfl | exact Or.inr rfl))) (fun _ _ _ _ _ => sts_nil) (fun _ _ _ _ _ => (se_tup (sa_star (se_var 4) (sa_cons (se_var 1) sa_nil))))) (sg_name sc_all_charts.nd (i := 5) rfl (by first | exact Or.inl rfl | exact Or.inr rfl)) (sns_cons (sn_if (st_tru (se_all rfl rfl h.free_all (sa_cons (se_lc (own := [("gap", 6)]) rfl sc_all_charts.nd (si_rng1 rfl h.free_range (sa_cons (se_add (se_var 0) se_int) sa_nil)) (blkOk_by (by show blkC ["length", "many", "some", "lefts", "row", "rights", "gap"] (defScope s_all_charts) _ _ = true; decide +kernel)) (by decide) (fun _ _ _ _ _ => (sg_name sc_all_charts.nd (i := 6) rfl (by first | exact Or.inl rfl | exact Or.inr rfl))) (fun _ _ _ _ _ => sts_nil) (fun _ _ _ _ _ => (se_call ((fn_is_gap_right h).mono (by decide)) hr hq rfl h.glo_is_gap_right (sa_cons (se_var 1) (sa_cons (se_var 3) (sa_cons (se_var 5) (sa_cons (se_var 6) sa_nil)))) (hn := len_is_gap_right)))) sa_nil))) (sns_cons (sn_yield (f1 := "own_many") (f2 := "own_lefts") (f3 := "own_rights") h.glo_Chart (se_make (c := "Chart") h.mk_Chart ((fn_Chart_init h).mono (by decide)) hr hq rfl h.glo_Chart (sa_cons (se_var 1) (sa_cons (se_var 3) (sa_cons (se_var 5) sa_nil))) (hn := len_Chart_init) (hB := below_fin)))
  sns_nil))
  sns_nil))
  sns_nil))
  sns_nil)))), rfl⟩
theorem gx_all_charts (h : Facts K mg base) : GnN P w K mg base 4 (He.ga K "all_charts") FNo fx_all_charts := by
  obtain ⟨fd, F⟩ := h.def_all_charts
  have bn : Binds K fd ["length", "many"] [] := F.bindsN fun _ _ _ _ _ _ us hl => match us, hl with | [_, _], _ => rfl
  exact ⟨_, _, _, _, _, fd, ["length", "many", "some", "lefts", "row", "rights", "gap"], ["length", "many"], yx_all_charts, F, sc_all_charts, bn, fun cdv A outer s H E hc hr hq => (sns_cons (sn_plain (ss_exp (se_call ((fn_need_listed h).mono (by decide)) hr hq rfl h.glo_need_listed (sa_cons (se_var 0) sa_nil) (hn := len_need_listed))))
  (sns_cons (sn_plain (ss_exp (se_call ((fn_need_listed h).mono (by decide)) hr hq rfl h.glo_need_listed (sa_cons (se_var 1) sa_nil) (hn := len_need_listed))))
  sns_bad)), rfl⟩
theorem hd__law_heard (h : Facts K mg base) : ∃ fd, FunD K "_law_heard" "_law_heard" (defArgs s__law_heard) (defBody s__law_heard) (defScope s__law_heard) [] [] (He.ga K "_law_heard") fd ∧ L2.Binds K fd ["_law_call"] [] := by
  obtain ⟨fd, F⟩ := h.def__law_heard
  exact ⟨fd, F, F.bindsN fun _ _ _ _ _ _ us hl => match us, hl with | [_], _ => rfl⟩
theorem bd__law_heard (h : Facts K mg base) (cdv : Value) (A : Around) (outer : List Env) (s : Shared) (H : Hp) (E : XK) (mt : ME) (hr : Room 0 (A.deeper (envOfC "_law_heard" (defScope s__law_heard) s.heap.objs.size (He.ga K "_law_heard") cdv))) (hq : Gd (A.deeper (envOfC "_law_heard" (defScope s__law_heard) s.heap.objs.size (He.ga K "_law_heard") cdv))) (hcall : ∀ p1 p2, SE (cxOf (L2.CX P w) P w K mg base ["_law_call", "_law_caught", "e", "_law_some", "_law_at", "_law_word"] "_law_heard" (defScope s__law_heard) (He.ga K "_law_heard") cdv A outer s H E) (.Call (.Name "_law_call" p1) [] [] p2) mt) : SSs (cxOf (L2.CX P w) P w K mg base ["_law_call", "_law_caught", "e", "_law_some", "_law_at", "_law_word"] "_law_heard" (defScope s__law_heard) (He.ga K "_law_heard") cdv A outer s H E) (defBody s__law_heard) (b__law_heard mt) :=
  (ss_cons (ss_set sc__law_heard.nd (i := 1) rfl (by first | exact Or.inl rfl | exact Or.inr rfl) se_non)
  (ss_cons (ss_try (i := 2) (j := 1) rfl rfl rfl sc__law_heard.nd rfl rfl (by decide) rfl rfl rfl h.glo_MarkError rfl h.glo_Missing h.any (ss_one (ss_exp (hcall _ _))))
  (ss_cons (ss_if (st_is (se_var 1) se_non) (ss_one (ss_ret (se_str [116, 111, 108, 100]))) ss_nil)
  (ss_cons (ss_if (st_tru (se_isX h.tbl rfl h.free_isinstance (sa_cons (se_var 1) (sa_cons (se_cls (c := "Missing") rfl h.glo_Missing) sa_nil)))) (ss_one (ss_ret (se_if (st_tru (se_isX h.tbl rfl h.free_isinstance (sa_cons (se_var 1) (sa_cons (se_ty "ValueError" rfl h.free_ValueError (by decide +kernel)) sa_nil)))) (se_str [111, 100, 100]) (se_lst (sa_cons (se_str [109, 105, 115, 115, 105, 110, 103]) (sa_cons (se_xf (f := "given") (se_var 1) h.xf_given) sa_nil)))))) ss_nil)
  (ss_cons (ss_set sc__law_heard.nd (i := 3) rfl (by first | exact Or.inl rfl | exact Or.inr rfl) (se_lst (sa_cons (se_isX h.tbl rfl h.free_isinstance (sa_cons (se_var 1) (sa_cons (se_cls (c := "BadEdit") rfl h.glo_BadEdit) sa_nil))) (sa_cons (se_isX h.tbl rfl h.free_isinstance (sa_cons (se_var 1) (sa_cons (se_cls (c := "BadLog") rfl h.glo_BadLog) sa_nil))) (sa_cons (se_isX h.tbl rfl h.free_isinstance (sa_cons (se_var 1) (sa_cons (se_cls (c := "BadLength") rfl h.glo_BadLength) sa_nil))) sa_nil)))))
  (ss_cons (ss_set sc__law_heard.nd (i := 3) rfl (by first | exact Or.inl rfl | exact Or.inr rfl) (se_add (se_var 3) (se_lst (sa_cons (se_isX h.tbl rfl h.free_isinstance (sa_cons (se_var 1) (sa_cons (se_cls (c := "BadMark") rfl h.glo_BadMark) sa_nil))) (sa_cons (se_isX h.tbl rfl h.free_isinstance (sa_cons (se_var 1) (sa_cons (se_cls (c := "BadRange") rfl h.glo_BadRange) sa_nil))) (sa_cons (se_isX h.tbl rfl h.free_isinstance (sa_cons (se_var 1) (sa_cons (se_cls (c := "BadChart") rfl h.glo_BadChart) sa_nil))) sa_nil))))))
  (ss_cons (ss_set sc__law_heard.nd (i := 3) rfl (by first | exact Or.inl rfl | exact Or.inr rfl) (se_add (se_var 3) (se_lst (sa_cons (se_isX h.tbl rfl h.free_isinstance (sa_cons (se_var 1) (sa_cons (se_cls (c := "OutOfText") rfl h.glo_OutOfText) sa_nil))) (sa_cons (se_isX h.tbl rfl h.free_isinstance (sa_cons (se_var 1) (sa_cons (se_cls (c := "Unlike") rfl h.glo_Unlike) sa_nil))) sa_nil)))))
  (ss_cons (ss_if (st_ne hr (se_cnt (se_var 3) (sa_cons se_bl sa_nil)) se_int) (ss_one (ss_ret (se_str [111, 100, 100]))) ss_nil)
  (ss_cons (ss_set sc__law_heard.nd (i := 4) rfl (by first | exact Or.inl rfl | exact Or.inr rfl) (se_idx (se_var 3) (sa_cons se_bl sa_nil)))
  (ss_cons (ss_set sc__law_heard.nd (i := 5) rfl (by first | exact Or.inl rfl | exact Or.inr rfl) (se_sub_ix hr (se_lst (sa_cons (se_str [101, 100, 105, 116]) (sa_cons (se_str [108, 111, 103]) (sa_cons (se_str [108, 101, 110, 103, 116, 104]) (sa_cons (se_str [109, 97, 114, 107]) (sa_cons (se_str [114, 97, 110, 103, 101]) (sa_cons (se_str [99, 104, 97, 114, 116]) (sa_cons (se_str [111, 117, 116]) (sa_cons (se_str [117, 110, 108, 105, 107, 101]) sa_nil))))))))) (se_var 4) (fun _ _ => rfl)))
  (ss_cons (ss_if (st_in hr (se_var 4) (se_tup (sa_cons se_int (sa_cons se_int (sa_cons se_int sa_nil))))) (ss_one (ss_ret (se_lst (sa_cons (se_var 5) (sa_cons (se_xf (f := "place") (se_var 1) h.xf_place) sa_nil))))) ss_nil)
  (ss_one (ss_ret (se_if (st_lt (se_var 4) se_int) (se_lst (sa_cons (se_var 5) (sa_cons (se_xf (f := "given") (se_var 1) h.xf_given) sa_nil))) (se_lst (sa_cons (se_var 5) (sa_cons (se_xf (f := "one") (se_var 1) h.xf_one) (sa_cons (se_xf (f := "other") (se_var 1) h.xf_other) sa_nil))))))))))))))))))
theorem fn_law (h : Facts K mg base) : Fn P w K mg base 9 (He.ga K "law") ["_law_script"] f_law := by
  obtain ⟨fd, F⟩ := h.def_law
  have bn : Binds K fd ["_law_script"] [] := F.bindsN fun _ _ _ _ _ _ us hl => match us, hl with | [_], _ => rfl
  have r : Fn P w K mg base 9 (He.ga K "law") ["_law_script"] (runF 13 1 b_law) := fn_mkN b_law rfl rfl F sc_law bn fun cdv A outer s H E hc hr hq => (ss_cons (ss_set sc_law.nd (i := 1) rfl (by first | exact Or.inl rfl | exact Or.inr rfl) (se_call ((fn__law_begun h).mono (by decide)) hr hq rfl h.glo__law_begun (sa_cons (se_var 0) sa_nil) (hn := len__law_begun)))
  (ss_cons (ss_par3 (i := 2) (j := 3) (k := 4) rfl sc_law.nd rfl rfl rfl (by decide) (by decide) (by decide) rfl rfl rfl (sa_cons (se_call ((fn__law_draw h).mono (by decide)) hr hq rfl h.glo__law_draw (sa_cons (se_var 1) (sa_cons se_int sa_nil)) (hn := len__law_draw)) (sa_cons (se_call ((fn__law_draw h).mono (by decide)) hr hq rfl h.glo__law_draw (sa_cons (se_var 1) (sa_cons se_int sa_nil)) (hn := len__law_draw)) (sa_cons (se_lstM sa_nil) sa_nil))) rfl)
  (ss_cons (ss_set sc_law.nd (i := 5) rfl (by first | exact Or.inl rfl | exact Or.inr rfl) (se_call ((fn__law_rows_of h).mono (by decide)) hr hq rfl h.glo__law_rows_of (sa_cons (se_var 2) (sa_cons (se_var 3) sa_nil)) (hn := len__law_rows_of)))
  (ss_cons (ss_for rfl (si_seq (se_var 5)) (sg_name sc_law.nd (i := 6) rfl (by first | exact Or.inl rfl | exact Or.inr rfl)) (ss_one (ss_for rfl (si_seq (se_var 5)) (sg_name sc_law.nd (i := 7) rfl (by first | exact Or.inl rfl | exact Or.inr rfl)) (ss_cons (ss_set sc_law.nd (i := 8) rfl (by first | exact Or.inl rfl | exact Or.inr rfl) (se_tup (sa_cons (se_var 3) (sa_cons (se_add (se_tup (sa_cons se_int sa_nil)) (se_var 6)) (sa_cons (se_add (se_var 7) (se_tup (sa_cons (se_var 3) sa_nil))) sa_nil)))))
  (ss_one (ss_if (st_tru (se_call ((fn__law_is_chart h).mono (by decide)) hr hq rfl h.glo__law_is_chart (sa_cons (se_var 3) (sa_cons (se_sub_ix hr (se_var 8) se_int (fun _ _ => rfl)) (sa_cons (se_sub_ix hr (se_var 8) se_int (fun _ _ => rfl)) sa_nil))) (hn := len__law_is_chart))) (ss_one (ss_exp (se_append (se_var 4) (sa_cons (se_var 8) sa_nil)))) ss_nil))))))
  (ss_cons (ss_for rfl (si_rng1 rfl h.free_range (sa_cons se_int sa_nil)) (sg_name sc_law.nd (i := 9) rfl (by first | exact Or.inl rfl | exact Or.inr rfl)) (ss_cons (ss_setLcF (own := [("_law_chart", 11)]) rfl sc_law.nd (blkOk_by (by show blkC ["_law_script", "_law_m", "_law_length", "_law_many", "_law_found", "_law_some", "_law_near", "_law_far", "_law_own", "_law_again", "_law_told", "_law_chart", "_law_odd"] (defScope s_law) _ _ = true; decide +kernel)) rfl (fun _ _ => elt_props (hr.mono (by decide)) rfl rfl (by decide) (gt_many h) (gt_lefts h) (gt_rights h) (fun _ => rfl) (fun _ => rfl) (fun _ => rfl)) (gn_all_charts h) (hr.mono (by decide)) hq rfl h.glo_all_charts (sa_cons (se_var 2) (sa_cons (se_var 3) sa_nil)) rfl rfl rfl)
  (ss_one (ss_if (st_ne hr (se_repr h.sys hr hq rfl h.free_repr (sa_cons (se_var 10) sa_nil)) (se_repr h.sys hr hq rfl h.free_repr (sa_cons (se_var 4) sa_nil))) (ss_one (ss_ret se_bl)) ss_nil))))
  (ss_cons (ss_if (st_ne hr (se_zipG rfl (gx_all_charts h) (hr.mono (by decide)) rfl h.glo_all_charts rfl h.free_list rfl h.free_zip (sa_cons se_int (sa_cons se_int sa_nil))) (se_lst sa_nil)) (ss_one (ss_ret se_bl)) ss_nil)
  (ss_cons (ss_for rfl (si_seq (se_tup (sa_cons se_non (sa_cons (se_neg se_int) (sa_cons se_int (sa_cons se_bl (sa_cons (se_str [49]) (sa_cons (se_tup sa_nil) (sa_cons (se_lst sa_nil) (sa_cons (se_pow se_int se_int) sa_nil)))))))))) (sg_name sc_law.nd (i := 12) rfl (by first | exact Or.inl rfl | exact Or.inr rfl)) (ss_cons (ss_set sc_law.nd (i := 10) rfl (by first | exact Or.inl rfl | exact Or.inr rfl) (se_heard (x := "_law_heard") (k := 6) rfl h.glo__law_heard (hd__law_heard h) rfl sc__law_heard rfl rfl (by first | exact Or.inl rfl | exact Or.inr (Or.inl rfl) | exact Or.inr (Or.inr rfl)) (fun s H mt hr hq hcall => bd__law_heard h _ _ _ s H _ mt (hr.mono (by decide)) hq hcall) hR__law_heard h.lam_law.tb (hc.symm.trans h.lam_law.code) h.lam_law.mem h.lam_law.un (hr.mono (by decide)) hq (LamX.lamS_by (by show LamX.lamSB (defScope s_law) _ = true; decide +kernel)) rfl (fun _ _ _ _ _ => rfl) (fun _ _ _ _ _ _ _ hr hq => (se_lcX (own := [("_law_chart", 11)]) rfl (blkOk_by (by rfl)) (fun c hc C hm => by obtain rfl := List.mem_singleton.mp hc; cases h.glo_BadLength.symm.trans hm; exact noStop_exc h.exc_BadLength.1) (gx_all_charts h) (hr.mono (by decide)) hq rfl rfl rfl h.glo_all_charts (sa_cons (se_var 12) (sa_cons se_non sa_nil))))))
  (ss_cons (ss_if (st_ne hr (se_repr h.sys hr hq rfl h.free_repr (sa_cons (se_lst (sa_cons (se_var 10) sa_nil)) sa_nil)) (se_repr h.sys hr hq rfl h.free_repr (sa_cons (se_lst (sa_cons (se_lst (sa_cons (se_str [108, 101, 110, 103, 116, 104]) (sa_cons (se_var 12) sa_nil))) sa_nil)) sa_nil))) (ss_one (ss_ret se_bl)) ss_nil)
  (ss_one (ss_if (st_ne hr (se_repr h.sys hr hq rfl h.free_repr (sa_cons (se_heard (x := "_law_heard") (k := 6) rfl h.glo__law_heard (hd__law_heard h) rfl sc__law_heard rfl rfl (by first | exact Or.inl rfl | exact Or.inr (Or.inl rfl) | exact Or.inr (Or.inr rfl)) (fun s H mt hr hq hcall => bd__law_heard h _ _ _ s H _ mt (hr.mono (by decide)) hq hcall) hR__law_heard h.lam_law.tb (hc.symm.trans h.lam_law.code) h.lam_law.mem h.lam_law.un (hr.mono (by decide)) hq (LamX.lamS_by (by show LamX.lamSB (defScope s_law) _ = true; decide +kernel)) rfl (fun _ _ _ _ _ => rfl) (fun _ _ _ _ _ _ _ hr hq => (se_lcX (own := [("_law_chart", 11)]) rfl (blkOk_by (by rfl)) (fun c hc C hm => by obtain rfl := List.mem_singleton.mp hc; cases h.glo_BadLength.symm.trans hm; exact noStop_exc h.exc_BadLength.1) (gx_all_charts h) (hr.mono (by decide)) hq rfl rfl rfl h.glo_all_charts (sa_cons se_int (sa_cons (se_var 12) sa_nil))))) sa_nil)) (se_repr h.sys hr hq rfl h.free_repr (sa_cons (se_lst (sa_cons (se_str [108, 101, 110, 103, 116, 104]) (sa_cons (se_var 12) sa_nil))) sa_nil))) (ss_one (ss_ret se_bl)) ss_nil)))))
  (ss_one (ss_ret se_bl)))))))))
  exact r
end
end T5.G
namespace T5.G
open PySem PySem.Spec PyProof.Rows L2
/-! ### the head -/
abbrev fn : List He.DefD := [⟨("_law_begun", none), "_law_begun", "_law_begun", defArgs s__law_begun, defBody s__law_begun, defScope s__law_begun, [], []⟩,
  ⟨("_law_draw", none), "_law_draw", "_law_draw", defArgs s__law_draw, defBody s__law_draw, defScope s__law_draw, [], []⟩,
  ⟨("_law_rows_of", none), "_law_rows_of", "_law_rows_of", defArgs s__law_rows_of, defBody s__law_rows_of, defScope s__law_rows_of, [], []⟩,
  ⟨("_law_is_chart", none), "_law_is_chart", "_law_is_chart", defArgs s__law_is_chart, defBody s__law_is_chart, defScope s__law_is_chart, [], []⟩,
  ⟨("is_integer", none), "is_integer", "is_integer", defArgs s_is_integer, defBody s_is_integer, defScope s_is_integer, [], []⟩,
  ⟨("BadLength", some "__init__"), "__init__", "BadLength.__init__", defArgs s_BadLength_init, defBody s_BadLength_init, defScope s_BadLength_init, [], []⟩,
  ⟨("need_listed", none), "need_listed", "need_listed", defArgs s_need_listed, defBody s_need_listed, defScope s_need_listed, [], []⟩,
  ⟨("rising", none), "rising", "rising", defArgs s_rising, defBody s_rising, defScope s_rising, [], []⟩,
  ⟨("is_gap_right", none), "is_gap_right", "is_gap_right", defArgs s_is_gap_right, defBody s_is_gap_right, defScope s_is_gap_right, [], []⟩,
  ⟨("is_row", none), "is_row", "is_row", defArgs s_is_row, defBody s_is_row, defScope s_is_row, [], []⟩,
  ⟨("BadChart", some "__init__"), "__init__", "BadChart.__init__", defArgs s_BadChart_init, defBody s_BadChart_init, defScope s_BadChart_init, [], []⟩,
  ⟨("Chart", some "__init__"), "__init__", "Chart.__init__", defArgs s_Chart_init, defBody s_Chart_init, defScope s_Chart_init, [], []⟩,
  ⟨("all_charts", none), "all_charts", "all_charts", defArgs s_all_charts, defBody s_all_charts, defScope s_all_charts, [], []⟩,
  ⟨("_law_heard", none), "_law_heard", "_law_heard", defArgs s__law_heard, defBody s__law_heard, defScope s__law_heard, [], []⟩,
  ⟨("law", none), "law", "law", defArgs s_law, defBody s_law, defScope s_law, [], []⟩]
abbrev pn : List He.DefD := [⟨("Chart", some "many"), "many", "Chart.many", defArgs s_Chart_many, defBody s_Chart_many, defScope s_Chart_many, [], []⟩,
  ⟨("Chart", some "lefts"), "lefts", "Chart.lefts", defArgs s_Chart_lefts, defBody s_Chart_lefts, defScope s_Chart_lefts, [], []⟩,
  ⟨("Chart", some "rights"), "rights", "Chart.rights", defArgs s_Chart_rights, defBody s_Chart_rights, defScope s_Chart_rights, [], []⟩]
abbrev fa : List He.Fa := [.free "len", .free "enumerate", .free "int", .glo "_law_begun", .glo "_law_draw", .free "range", .glo "_law_rows_of", .glo "_law_is_chart", .glo "Chart", .cls "Chart", .noat "Chart" "own_many", .noat "Chart" "own_lefts", .noat "Chart" "own_rights", .free "bool", .free "isinstance", .int "MOST_LISTED" 3, .glo "is_integer", .glo "BadLength", .glo "MarkError", .noat "BadLength" "given", .glo "need_listed", .glo "rising", .glo "is_gap_right", .free "all", .int "MOST_GAPS" 101, .free "tuple", .glo "is_row", .int "MOST_BEHIND" 500, .glo "BadChart", .noat "BadChart" "place", .noat "Chart" "own_signs", .mkr "Chart", .glo "all_charts", .free "repr", .free "list", .free "zip", .glo "Missing", .free "ValueError", .glo "BadEdit", .glo "BadLog", .glo "BadMark", .glo "BadRange", .glo "OutOfText", .glo "Unlike", .glo "_law_heard", .glo "law"]
abbrev fx : List Fy := [.base "MarkError", .exk "BadLength", .exk "BadChart", .prop "Chart" "many", .prop "Chart" "lefts", .prop "Chart" "rights", .sys, .any "BadLength" "MarkError" "Missing", .any "BadChart" "MarkError" "Missing", .kitC "BadLength" "Missing" false, .kitT "BadLength" "ValueError" true, .kitC "BadLength" "BadEdit" false, .kitC "BadLength" "BadLog" false, .kitC "BadLength" "BadLength" true, .kitC "BadLength" "BadMark" false, .kitC "BadLength" "BadRange" false, .kitC "BadLength" "BadChart" false, .kitC "BadLength" "OutOfText" false, .kitC "BadLength" "Unlike" false, .kitC "BadChart" "Missing" false, .kitT "BadChart" "ValueError" true, .kitC "BadChart" "BadEdit" false, .kitC "BadChart" "BadLog" false, .kitC "BadChart" "BadLength" false, .kitC "BadChart" "BadMark" false, .kitC "BadChart" "BadRange" false, .kitC "BadChart" "BadChart" true, .kitC "BadChart" "OutOfText" false, .kitC "BadChart" "Unlike" false]
abbrev lq : List (DefA × Str) := [(("law", none), "law.<locals>.<lambda>")]
theorem facts_of {K : PySem.W.Frag} {h : Heap} {mg : Str → Option Value} (X : K.In h) (G : h.Ns mainGlobals mg) (c : SaysL fa fn fx (lq.map (·.1)) pn K) (hb : ∀ p ∈ lq.map (fun p => (cA K p.1, tA K p.1)), LamX.TabB h mg p.1 p.2) : @Facts (tabsC K lq) K mg h :=
  @Facts.mk (tabsC K lq) K mg h
    (He.free_ok X G (c.d.fact 0 (f := .free "len") rfl))
    (He.free_ok X G (c.d.fact 1 (f := .free "enumerate") rfl))
    (He.free_ok X G (c.d.fact 2 (f := .free "int") rfl))
    (c.d.def_ 0 (d := fn[0]) rfl)
    (He.glo_ok X G (c.d.fact 3 (f := .glo "_law_begun") rfl))
    (c.d.def_ 1 (d := fn[1]) rfl)
    (He.glo_ok X G (c.d.fact 4 (f := .glo "_law_draw") rfl))
    (He.free_ok X G (c.d.fact 5 (f := .free "range") rfl))
    (c.d.def_ 2 (d := fn[2]) rfl)
    (He.glo_ok X G (c.d.fact 6 (f := .glo "_law_rows_of") rfl))
    (c.d.def_ 3 (d := fn[3]) rfl)
    (He.glo_ok X G (c.d.fact 7 (f := .glo "_law_is_chart") rfl))
    (He.glo_ok X G (c.d.fact 8 (f := .glo "Chart") rfl))
    (He.cls_ok (c.d.fact 9 (f := .cls "Chart") rfl))
    (He.noat_ok (c.d.fact 10 (f := .noat "Chart" "own_many") rfl))
    (c.p 0 (d := pn[0]) rfl)
    (He.noat_ok (c.d.fact 11 (f := .noat "Chart" "own_lefts") rfl))
    (c.p 1 (d := pn[1]) rfl)
    (He.noat_ok (c.d.fact 12 (f := .noat "Chart" "own_rights") rfl))
    (c.p 2 (d := pn[2]) rfl)
    (He.free_ok X G (c.d.fact 13 (f := .free "bool") rfl))
    (He.free_ok X G (c.d.fact 14 (f := .free "isinstance") rfl))
    (c.d.def_ 4 (d := fn[4]) rfl)
    (He.int_ok X G (c.d.fact 15 (f := .int "MOST_LISTED" 3) rfl))
    (He.glo_ok X G (c.d.fact 16 (f := .glo "is_integer") rfl))
    (He.glo_ok X G (c.d.fact 17 (f := .glo "BadLength") rfl))
    (He.glo_ok X G (c.d.fact 18 (f := .glo "MarkError") rfl))
    (c.d.def_ 5 (d := fn[5]) rfl)
    (base_ok (He.glo_ok X G (c.d.fact 18 (f := .glo "MarkError") rfl)) (c.x 0 (f := .base "MarkError") rfl))
    (exk_ok (x := "BadLength") (He.glo_ok X G (c.d.fact 17 (f := .glo "BadLength") rfl)) (c.x 1 (f := .exk "BadLength") rfl))
    (He.noat_ok (c.d.fact 19 (f := .noat "BadLength" "given") rfl))
    (c.d.def_ 6 (d := fn[6]) rfl)
    (He.glo_ok X G (c.d.fact 20 (f := .glo "need_listed") rfl))
    (c.d.def_ 7 (d := fn[7]) rfl)
    (He.glo_ok X G (c.d.fact 21 (f := .glo "rising") rfl))
    (c.d.def_ 8 (d := fn[8]) rfl)
    (He.glo_ok X G (c.d.fact 22 (f := .glo "is_gap_right") rfl))
    (He.free_ok X G (c.d.fact 23 (f := .free "all") rfl))
    (He.int_ok X G (c.d.fact 24 (f := .int "MOST_GAPS" 101) rfl))
    (He.free_ok X G (c.d.fact 25 (f := .free "tuple") rfl))
    (c.d.def_ 9 (d := fn[9]) rfl)
    (He.glo_ok X G (c.d.fact 26 (f := .glo "is_row") rfl))
    (He.int_ok X G (c.d.fact 27 (f := .int "MOST_BEHIND" 500) rfl))
    (He.glo_ok X G (c.d.fact 28 (f := .glo "BadChart") rfl))
    (c.d.def_ 10 (d := fn[10]) rfl)
    (exk_ok (x := "BadChart") (He.glo_ok X G (c.d.fact 28 (f := .glo "BadChart") rfl)) (c.x 2 (f := .exk "BadChart") rfl))
    (He.noat_ok (c.d.fact 29 (f := .noat "BadChart" "place") rfl))
    (He.noat_ok (c.d.fact 30 (f := .noat "Chart" "own_signs") rfl))
    (c.d.def_ 11 (d := fn[11]) rfl)
    (He.mkr_ok (c.d.fact 31 (f := .mkr "Chart") rfl))
    (c.d.def_ 12 (d := fn[12]) rfl)
    (prop_ok (c.x 3 (f := .prop "Chart" "many") rfl))
    (prop_ok (c.x 4 (f := .prop "Chart" "lefts") rfl))
    (prop_ok (c.x 5 (f := .prop "Chart" "rights") rfl))
    (He.glo_ok X G (c.d.fact 32 (f := .glo "all_charts") rfl))
    (sys_ok (c.x 6 (f := .sys) rfl))
    (He.free_ok X G (c.d.fact 33 (f := .free "repr") rfl))
    (He.free_ok X G (c.d.fact 34 (f := .free "list") rfl))
    (He.free_ok X G (c.d.fact 35 (f := .free "zip") rfl))
    (List.forall_mem_cons.2 ⟨⟨_, (He.glo_ok X G (c.d.fact 17 (f := .glo "BadLength") rfl)), any_ok (c.x 7 (f := .any "BadLength" "MarkError" "Missing") rfl)⟩, List.forall_mem_cons.2 ⟨⟨_, (He.glo_ok X G (c.d.fact 28 (f := .glo "BadChart") rfl)), any_ok (c.x 8 (f := .any "BadChart" "MarkError" "Missing") rfl)⟩, (fun _ h => nomatch h)⟩⟩)
    (He.glo_ok X G (c.d.fact 36 (f := .glo "Missing") rfl))
    (He.free_ok X G (c.d.fact 37 (f := .free "ValueError") rfl))
    (He.glo_ok X G (c.d.fact 38 (f := .glo "BadEdit") rfl))
    (He.glo_ok X G (c.d.fact 39 (f := .glo "BadLog") rfl))
    (He.glo_ok X G (c.d.fact 40 (f := .glo "BadMark") rfl))
    (He.glo_ok X G (c.d.fact 41 (f := .glo "BadRange") rfl))
    (He.glo_ok X G (c.d.fact 42 (f := .glo "OutOfText") rfl))
    (He.glo_ok X G (c.d.fact 43 (f := .glo "Unlike") rfl))
    (c.d.def_ 13 (d := fn[13]) rfl)
    (lamF_of c hb (p := ("law", none)) (.head _))
    (He.glo_ok X G (c.d.fact 44 (f := .glo "_law_heard") rfl))
    (c.d.def_ 14 (d := fn[14]) rfl)
    (List.forall_mem_cons.2 ⟨⟨_, (He.glo_ok X G (c.d.fact 17 (f := .glo "BadLength") rfl)), (exk_ok (x := "BadLength") (He.glo_ok X G (c.d.fact 17 (f := .glo "BadLength") rfl)) (c.x 1 (f := .exk "BadLength") rfl)).2, (show ∃ C', mg (Str.ofString "Missing") = some (.ref C') ∧ PySem.W.kitOne K (.ref (He.ga K "BadLength")) (.ref C') = some false from ⟨_, (He.glo_ok X G (c.d.fact 36 (f := .glo "Missing") rfl)), kitC_ok (c.x 9 (f := .kitC "BadLength" "Missing" false) rfl)⟩)⟩, List.forall_mem_cons.2 ⟨⟨_, (He.glo_ok X G (c.d.fact 17 (f := .glo "BadLength") rfl)), (exk_ok (x := "BadLength") (He.glo_ok X G (c.d.fact 17 (f := .glo "BadLength") rfl)) (c.x 1 (f := .exk "BadLength") rfl)).2, (kitT_ok (c.x 10 (f := .kitT "BadLength" "ValueError" true) rfl))⟩, List.forall_mem_cons.2 ⟨⟨_, (He.glo_ok X G (c.d.fact 17 (f := .glo "BadLength") rfl)), (exk_ok (x := "BadLength") (He.glo_ok X G (c.d.fact 17 (f := .glo "BadLength") rfl)) (c.x 1 (f := .exk "BadLength") rfl)).2, (show ∃ C', mg (Str.ofString "BadEdit") = some (.ref C') ∧ PySem.W.kitOne K (.ref (He.ga K "BadLength")) (.ref C') = some false from ⟨_, (He.glo_ok X G (c.d.fact 38 (f := .glo "BadEdit") rfl)), kitC_ok (c.x 11 (f := .kitC "BadLength" "BadEdit" false) rfl)⟩)⟩, List.forall_mem_cons.2 ⟨⟨_, (He.glo_ok X G (c.d.fact 17 (f := .glo "BadLength") rfl)), (exk_ok (x := "BadLength") (He.glo_ok X G (c.d.fact 17 (f := .glo "BadLength") rfl)) (c.x 1 (f := .exk "BadLength") rfl)).2, (show ∃ C', mg (Str.ofString "BadLog") = some (.ref C') ∧ PySem.W.kitOne K (.ref (He.ga K "BadLength")) (.ref C') = some false from ⟨_, (He.glo_ok X G (c.d.fact 39 (f := .glo "BadLog") rfl)), kitC_ok (c.x 12 (f := .kitC "BadLength" "BadLog" false) rfl)⟩)⟩, List.forall_mem_cons.2 ⟨⟨_, (He.glo_ok X G (c.d.fact 17 (f := .glo "BadLength") rfl)), (exk_ok (x := "BadLength") (He.glo_ok X G (c.d.fact 17 (f := .glo "BadLength") rfl)) (c.x 1 (f := .exk "BadLength") rfl)).2, (show ∃ C', mg (Str.ofString "BadLength") = some (.ref C') ∧ PySem.W.kitOne K (.ref (He.ga K "BadLength")) (.ref C') = some true from ⟨_, (He.glo_ok X G (c.d.fact 17 (f := .glo "BadLength") rfl)), kitC_ok (c.x 13 (f := .kitC "BadLength" "BadLength" true) rfl)⟩)⟩, List.forall_mem_cons.2 ⟨⟨_, (He.glo_ok X G (c.d.fact 17 (f := .glo "BadLength") rfl)), (exk_ok (x := "BadLength") (He.glo_ok X G (c.d.fact 17 (f := .glo "BadLength") rfl)) (c.x 1 (f := .exk "BadLength") rfl)).2, (show ∃ C', mg (Str.ofString "BadMark") = some (.ref C') ∧ PySem.W.kitOne K (.ref (He.ga K "BadLength")) (.ref C') = some false from ⟨_, (He.glo_ok X G (c.d.fact 40 (f := .glo "BadMark") rfl)), kitC_ok (c.x 14 (f := .kitC "BadLength" "BadMark" false) rfl)⟩)⟩, List.forall_mem_cons.2 ⟨⟨_, (He.glo_ok X G (c.d.fact 17 (f := .glo "BadLength") rfl)), (exk_ok (x := "BadLength") (He.glo_ok X G (c.d.fact 17 (f := .glo "BadLength") rfl)) (c.x 1 (f := .exk "BadLength") rfl)).2, (show ∃ C', mg (Str.ofString "BadRange") = some (.ref C') ∧ PySem.W.kitOne K (.ref (He.ga K "BadLength")) (.ref C') = some false from ⟨_, (He.glo_ok X G (c.d.fact 41 (f := .glo "BadRange") rfl)), kitC_ok (c.x 15 (f := .kitC "BadLength" "BadRange" false) rfl)⟩)⟩, List.forall_mem_cons.2 ⟨⟨_, (He.glo_ok X G (c.d.fact 17 (f := .glo "BadLength") rfl)), (exk_ok (x := "BadLength") (He.glo_ok X G (c.d.fact 17 (f := .glo "BadLength") rfl)) (c.x 1 (f := .exk "BadLength") rfl)).2, (show ∃ C', mg (Str.ofString "BadChart") = some (.ref C') ∧ PySem.W.kitOne K (.ref (He.ga K "BadLength")) (.ref C') = some false from ⟨_, (He.glo_ok X G (c.d.fact 28 (f := .glo "BadChart") rfl)), kitC_ok (c.x 16 (f := .kitC "BadLength" "BadChart" false) rfl)⟩)⟩, List.forall_mem_cons.2 ⟨⟨_, (He.glo_ok X G (c.d.fact 17 (f := .glo "BadLength") rfl)), (exk_ok (x := "BadLength") (He.glo_ok X G (c.d.fact 17 (f := .glo "BadLength") rfl)) (c.x 1 (f := .exk "BadLength") rfl)).2, (show ∃ C', mg (Str.ofString "OutOfText") = some (.ref C') ∧ PySem.W.kitOne K (.ref (He.ga K "BadLength")) (.ref C') = some false from ⟨_, (He.glo_ok X G (c.d.fact 42 (f := .glo "OutOfText") rfl)), kitC_ok (c.x 17 (f := .kitC "BadLength" "OutOfText" false) rfl)⟩)⟩, List.forall_mem_cons.2 ⟨⟨_, (He.glo_ok X G (c.d.fact 17 (f := .glo "BadLength") rfl)), (exk_ok (x := "BadLength") (He.glo_ok X G (c.d.fact 17 (f := .glo "BadLength") rfl)) (c.x 1 (f := .exk "BadLength") rfl)).2, (show ∃ C', mg (Str.ofString "Unlike") = some (.ref C') ∧ PySem.W.kitOne K (.ref (He.ga K "BadLength")) (.ref C') = some false from ⟨_, (He.glo_ok X G (c.d.fact 43 (f := .glo "Unlike") rfl)), kitC_ok (c.x 18 (f := .kitC "BadLength" "Unlike" false) rfl)⟩)⟩, List.forall_mem_cons.2 ⟨⟨_, (He.glo_ok X G (c.d.fact 28 (f := .glo "BadChart") rfl)), (exk_ok (x := "BadChart") (He.glo_ok X G (c.d.fact 28 (f := .glo "BadChart") rfl)) (c.x 2 (f := .exk "BadChart") rfl)).2, (show ∃ C', mg (Str.ofString "Missing") = some (.ref C') ∧ PySem.W.kitOne K (.ref (He.ga K "BadChart")) (.ref C') = some false from ⟨_, (He.glo_ok X G (c.d.fact 36 (f := .glo "Missing") rfl)), kitC_ok (c.x 19 (f := .kitC "BadChart" "Missing" false) rfl)⟩)⟩, List.forall_mem_cons.2 ⟨⟨_, (He.glo_ok X G (c.d.fact 28 (f := .glo "BadChart") rfl)), (exk_ok (x := "BadChart") (He.glo_ok X G (c.d.fact 28 (f := .glo "BadChart") rfl)) (c.x 2 (f := .exk "BadChart") rfl)).2, (kitT_ok (c.x 20 (f := .kitT "BadChart" "ValueError" true) rfl))⟩, List.forall_mem_cons.2 ⟨⟨_, (He.glo_ok X G (c.d.fact 28 (f := .glo "BadChart") rfl)), (exk_ok (x := "BadChart") (He.glo_ok X G (c.d.fact 28 (f := .glo "BadChart") rfl)) (c.x 2 (f := .exk "BadChart") rfl)).2, (show ∃ C', mg (Str.ofString "BadEdit") = some (.ref C') ∧ PySem.W.kitOne K (.ref (He.ga K "BadChart")) (.ref C') = some false from ⟨_, (He.glo_ok X G (c.d.fact 38 (f := .glo "BadEdit") rfl)), kitC_ok (c.x 21 (f := .kitC "BadChart" "BadEdit" false) rfl)⟩)⟩, List.forall_mem_cons.2 ⟨⟨_, (He.glo_ok X G (c.d.fact 28 (f := .glo "BadChart") rfl)), (exk_ok (x := "BadChart") (He.glo_ok X G (c.d.fact 28 (f := .glo "BadChart") rfl)) (c.x 2 (f := .exk "BadChart") rfl)).2, (show ∃ C', mg (Str.ofString "BadLog") = some (.ref C') ∧ PySem.W.kitOne K (.ref (He.ga K "BadChart")) (.ref C') = some false from ⟨_, (He.glo_ok X G (c.d.fact 39 (f := .glo "BadLog") rfl)), kitC_ok (c.x 22 (f := .kitC "BadChart" "BadLog" false) rfl)⟩)⟩, List.forall_mem_cons.2 ⟨⟨_, (He.glo_ok X G (c.d.fact 28 (f := .glo "BadChart") rfl)), (exk_ok (x := "BadChart") (He.glo_ok X G (c.d.fact 28 (f := .glo "BadChart") rfl)) (c.x 2 (f := .exk "BadChart") rfl)).2, (show ∃ C', mg (Str.ofString "BadLength") = some (.ref C') ∧ PySem.W.kitOne K (.ref (He.ga K "BadChart")) (.ref C') = some false from ⟨_, (He.glo_ok X G (c.d.fact 17 (f := .glo "BadLength") rfl)), kitC_ok (c.x 23 (f := .kitC "BadChart" "BadLength" false) rfl)⟩)⟩, List.forall_mem_cons.2 ⟨⟨_, (He.glo_ok X G (c.d.fact 28 (f := .glo "BadChart") rfl)), (exk_ok (x := "BadChart") (He.glo_ok X G (c.d.fact 28 (f := .glo "BadChart") rfl)) (c.x 2 (f := .exk "BadChart") rfl)).2, (show ∃ C', mg (Str.ofString "BadMark") = some (.ref C') ∧ PySem.W.kitOne K (.ref (He.ga K "BadChart")) (.ref C') = some false from ⟨_, (He.glo_ok X G (c.d.fact 40 (f := .glo "BadMark") rfl)), kitC_ok (c.x 24 (f := .kitC "BadChart" "BadMark" false) rfl)⟩)⟩, List.forall_mem_cons.2 ⟨⟨_, (He.glo_ok X G (c.d.fact 28 (f := .glo "BadChart") rfl)), (exk_ok (x := "BadChart") (He.glo_ok X G (c.d.fact 28 (f := .glo "BadChart") rfl)) (c.x 2 (f := .exk "BadChart") rfl)).2, (show ∃ C', mg (Str.ofString "BadRange") = some (.ref C') ∧ PySem.W.kitOne K (.ref (He.ga K "BadChart")) (.ref C') = some false from ⟨_, (He.glo_ok X G (c.d.fact 41 (f := .glo "BadRange") rfl)), kitC_ok (c.x 25 (f := .kitC "BadChart" "BadRange" false) rfl)⟩)⟩, List.forall_mem_cons.2 ⟨⟨_, (He.glo_ok X G (c.d.fact 28 (f := .glo "BadChart") rfl)), (exk_ok (x := "BadChart") (He.glo_ok X G (c.d.fact 28 (f := .glo "BadChart") rfl)) (c.x 2 (f := .exk "BadChart") rfl)).2, (show ∃ C', mg (Str.ofString "BadChart") = some (.ref C') ∧ PySem.W.kitOne K (.ref (He.ga K "BadChart")) (.ref C') = some true from ⟨_, (He.glo_ok X G (c.d.fact 28 (f := .glo "BadChart") rfl)), kitC_ok (c.x 26 (f := .kitC "BadChart" "BadChart" true) rfl)⟩)⟩, List.forall_mem_cons.2 ⟨⟨_, (He.glo_ok X G (c.d.fact 28 (f := .glo "BadChart") rfl)), (exk_ok (x := "BadChart") (He.glo_ok X G (c.d.fact 28 (f := .glo "BadChart") rfl)) (c.x 2 (f := .exk "BadChart") rfl)).2, (show ∃ C', mg (Str.ofString "OutOfText") = some (.ref C') ∧ PySem.W.kitOne K (.ref (He.ga K "BadChart")) (.ref C') = some false from ⟨_, (He.glo_ok X G (c.d.fact 42 (f := .glo "OutOfText") rfl)), kitC_ok (c.x 27 (f := .kitC "BadChart" "OutOfText" false) rfl)⟩)⟩, List.forall_mem_cons.2 ⟨⟨_, (He.glo_ok X G (c.d.fact 28 (f := .glo "BadChart") rfl)), (exk_ok (x := "BadChart") (He.glo_ok X G (c.d.fact 28 (f := .glo "BadChart") rfl)) (c.x 2 (f := .exk "BadChart") rfl)).2, (show ∃ C', mg (Str.ofString "Unlike") = some (.ref C') ∧ PySem.W.kitOne K (.ref (He.ga K "BadChart")) (.ref C') = some false from ⟨_, (He.glo_ok X G (c.d.fact 43 (f := .glo "Unlike") rfl)), kitC_ok (c.x 28 (f := .kitC "BadChart" "Unlike" false) rfl)⟩)⟩, (fun _ h => nomatch h)⟩⟩⟩⟩⟩⟩⟩⟩⟩⟩⟩⟩⟩⟩⟩⟩⟩⟩⟩⟩)
    (List.forall_mem_cons.2 ⟨⟨_, (He.glo_ok X G (c.d.fact 17 (f := .glo "BadLength") rfl)), (exk_ok (x := "BadLength") (He.glo_ok X G (c.d.fact 17 (f := .glo "BadLength") rfl)) (c.x 1 (f := .exk "BadLength") rfl)).2, He.noat_ok (c.d.fact 19 (f := .noat "BadLength" "given") rfl)⟩, (fun _ h => nomatch h)⟩)
    (List.forall_mem_cons.2 ⟨⟨_, (He.glo_ok X G (c.d.fact 28 (f := .glo "BadChart") rfl)), (exk_ok (x := "BadChart") (He.glo_ok X G (c.d.fact 28 (f := .glo "BadChart") rfl)) (c.x 2 (f := .exk "BadChart") rfl)).2, He.noat_ok (c.d.fact 29 (f := .noat "BadChart" "place") rfl)⟩, (fun _ h => nomatch h)⟩)
    ((fun _ h => nomatch h))
    ((fun _ h => nomatch h))
abbrev R : PySem.W.OpenRow := PySem.W.OpenLaw.row PySem.Challenge.rw_tiltmarks_k14_all_charts
abbrev hk : PySem.W.Hook := hookL 6 fa fn fx (lq.map (·.1)) pn
def ob (s : PySem.W.SharedT) : AlL × Bool := obsLG 6 fa fn fx (lq.map (·.1)) pn (HandSHeadRun.getT s)
theorem ob_eq (s : PySem.W.SharedT) : ob s = hk.obs s.abs := obsL_eq (HandSHeadRun.getT_eq s)
abbrev looseNames : List PySem.Str := (["MarkError", "BadEdit", "BadLog", "BadLength", "BadMark", "BadRange", "BadChart", "OutOfText", "Unlike", "Missing", "LEFT", "RIGHT", "is_integer", "is_mark", "MOST_BEHIND", "MOST_GAPS", "is_row", "is_gap_right", "Chart", "MOST_LISTED", "rising", "need_listed", "all_charts", "_law_begun", "_law_draw", "_law_heard", "_law_rows_of", "_law_is_chart"] : List String).map PySem.Str.ofString
theorem run (w : World) : HandSHeadRun.RunEq R (PySem.W.view R.prog [33]) hk ob 8000 T5.G.looseNames w := by
  intro os
  kernel_rfl
end T5.G
section
open PySem PySem.W PySem.Calls PyProof.Rows
theorem T5.G.pre_holds (lp : ∀ ns : List Int, ns.length ≤ 63 → ∀ d, T5.isScr ns d → ∃ st', T5.G.f_law [d] [] = .ok (.bl true) st') : PySem.Challenge.rw_tiltmarks_k14_all_charts.Holds := by
  w_on; o_law
  refine HandSHeadRun.head_any (r := OpenLaw.row PySem.Challenge.rw_tiltmarks_k14_all_charts) (q := view (OpenLaw.row PySem.Challenge.rw_tiltmarks_k14_all_charts).prog [33]) (H := T5.G.hk) (ob := T5.G.ob) (M := 8000) (loose := T5.G.looseNames) (d := HandSHeadRun.topDef (OpenLaw.row PySem.Challenge.rw_tiltmarks_k14_all_charts).prog 33) (kwd := []) T5.G.ob_eq
    (by kernel_rfl) (fun s => by kernel_rfl) T5.G.run (by kernel_rfl) (by kernel_rfl) (by kernel_rfl) (by rfl) (by first | assumption | decide +kernel) (by decide +kernel) ⟨rfl, rfl, rfl, rfl, rfl, by decide +kernel⟩ ?hw ?hc
  case hw => w_witness2
  case hc =>
    refine T5.walk_ofX (l := PySem.Challenge.rw_tiltmarks_k14_all_charts) (n := 63) (k := 9) (x := "_law_script") rfl (by decide) (by kernel_rfl) ⟨rfl, by decide, by decide⟩ ?F
    intro w mg f h Y G hmg0
    obtain ⟨K, KX, c, t⟩ := Y
    have hmg : mg ("law" : PySem.Str) = some (.ref f) := by
      have e : (HandSHeadRun.topDef (OpenLaw.row PySem.Challenge.rw_tiltmarks_k14_all_charts).prog 33).name = ("law" : PySem.Str) := by kernel_rfl
      rw [← e]
      exact hmg0
    have hg := He.glo_ok KX G (c.d.fact 45 (f := .glo "law") rfl)
    cases hmg.symm.trans hg
    obtain ⟨e1, e2, e3, e4⟩ := T5.tabs_end (lq := T5.G.lq) KX c t
    exact ⟨T5.tabsC K T5.G.lq, K, T5.G.f_law, _, KX, e1, e2, e3, e4, lp, fun base KB GB TB => @T5.G.fn_law (T5.tabsC K T5.G.lq) _ _ _ _ _ (T5.G.facts_of KB GB c TB)⟩
end
namespace T5
open PySem PySem.Spec PyProof.Rows L2
/-! ### things whose repr is known -/
/-- n: how deep; b: how much -/
def Rp (n b : Nat) (d : D) : Prop := ∃ p, (∀ st, toPy st n d = some p) ∧ okPy p = true ∧ p.bulk ≤ b
theorem Rp.mono {n b c : Nat} {d : D} (h : Rp n b d) (l : b ≤ c) : Rp n c d := by
  obtain ⟨p, h1, h2, h3⟩ := h
  exact ⟨p, h1, h2, Nat.le_trans h3 l⟩
theorem pyL_mono {f g : D → Option PyData} (h : ∀ d p, f d = some p → g d = some p) : ∀ (l : List D) (ps : List PyData), pyL f l = some ps → pyL g l = some ps
  | [], ps, e => e
  | x :: xs, ps, e => by
    obtain ⟨a, e1, e2⟩ := Option.bind_eq_some_iff.mp e
    obtain ⟨r, e3, e4⟩ := Option.map_eq_some_iff.mp e2
    unfold pyL
    rw [h _ _ e1, Option.bind_some, pyL_mono h xs r e3, Option.map_some, e4]
theorem toPy_mono {st : Store} : ∀ (n : Nat) (d : D) (p : PyData), toPy st n d = some p → toPy st (n + 1) d = some p
  | 0, _, _, h => nomatch h
  | n + 1, d, p, h => by
    have ih := toPy_mono (st := st) n
    have lst : (lstOf st d).bind (fun l => (pyL (toPy st n) l).map .list) = some p → (lstOf st d).bind (fun l => (pyL (toPy st (n + 1)) l).map .list) = some p := fun h => by
      obtain ⟨l, e1, e2⟩ := Option.bind_eq_some_iff.mp h
      obtain ⟨r, e3, e4⟩ := Option.map_eq_some_iff.mp e2
      rw [e1, Option.bind_some, pyL_mono ih l r e3, Option.map_some, e4]
    unfold toPy at h
    split at h
    · exact h
    · exact h
    · exact h
    · exact h
    · obtain ⟨r, e3, e4⟩ := Option.map_eq_some_iff.mp h
      unfold toPy
      simp only
      rw [pyL_mono ih _ r e3, Option.map_some, e4]
    · exact h
    · have := lst h
      unfold toPy
      split <;> first | exact this | simp_all
theorem Rp.up {n m b : Nat} {d : D} (h : Rp n b d) (l : n ≤ m) : Rp m b d := by
  induction l with
  | refl => exact h
  | step _ ih =>
    obtain ⟨p, h1, h2, h3⟩ := ih
    exact ⟨p, fun st => toPy_mono _ _ _ (h1 st), h2, h3⟩
theorem rp_int {n : Nat} {i : Int} (h : -10 ^ 30 < i ∧ i < 10 ^ 30) : Rp (n + 1) 0 (.int i) := ⟨.int i, fun _ => rfl, decide_eq_true h, Nat.le_refl _⟩
theorem rp_all {n b : Nat} : ∀ {l : List D}, (∀ x ∈ l, Rp n b x) → ∃ ps, (∀ st, pyL (toPy st n) l = some ps) ∧ okPyL ps = true ∧ PyData.bulkAll ps ≤ l.length * (b + 1)
  | [], _ => ⟨[], fun _ => rfl, rfl, Nat.zero_le _⟩
  | x :: xs, h => by
    obtain ⟨p, h1, h2, h3⟩ := h x (List.mem_cons_self ..)
    obtain ⟨ps, h4, h5, h6⟩ := rp_all (l := xs) fun y hy => h y (List.mem_cons_of_mem _ hy)
    refine ⟨p :: ps, fun st => ?_, ?_, ?_⟩
    · unfold pyL
      rw [h1 st, Option.bind_some, h4 st]
      rfl
    · unfold okPyL
      rw [h2, h5]
      rfl
    · unfold PyData.bulkAll
      rw [List.length_cons, Nat.succ_mul]
      omega
theorem rp_tup {n b : Nat} {l : List D} (h : ∀ x ∈ l, Rp n b x) : Rp (n + 1) (l.length * (b + 1)) (.tup l) := by
  obtain ⟨ps, h4, h5, h6⟩ := rp_all h
  refine ⟨.tuple ps, fun st => ?_, ?_, ?_⟩
  · unfold toPy
    simp only [h4 st, Option.map_some]
  · unfold okPy; exact h5
  · unfold PyData.bulk; exact h6
theorem rp_lst {n b : Nat} {l : List D} (h : ∀ x ∈ l, Rp n b x) : Rp (n + 1) (l.length * (b + 1)) (.lst l) := by
  obtain ⟨ps, h4, h5, h6⟩ := rp_all h
  refine ⟨.list ps, fun st => ?_, ?_, ?_⟩
  · unfold toPy
    simp only [lstOf, Option.bind_some, h4 st, Option.map_some]
  · unfold okPy; exact h5
  · unfold PyData.bulk; exact h6
/-- its text -/
def rs (d : D) : List Nat := match toPy [] 12 d with
  | some p => p.shown.cps.toList
  | none => []
theorem f_repr {st : Store} {b : Nat} {d : D} (h : Rp 12 b d) (hb : b ≤ 2 ^ 18) : fRepr st [d] = some (.str (rs d)) := by
  obtain ⟨p, h1, h2, h3⟩ := h
  unfold fRepr rs
  simp only [h1, Option.bind_some]
  rw [if_pos ⟨h2, Nat.le_trans h3 hb⟩]
theorem o_repr {st : Store} {b : Nat} {d : D} {K : D → Prop} (h : Rp 12 b d) (hb : b ≤ 2 ^ 18) (k : K (.str (rs d))) : OnO (fRepr st [d]) K := ⟨_, f_repr h hb, k⟩
/-- what a thing of known repr may be -/
theorem rp_cases {n b : Nat} {d : D} (h : Rp n b d) : d = .non ∨ (∃ c, d = .bl c) ∨ (∃ i, d = .int i) ∨ (∃ s, d = .str s) ∨ (∃ l, d = .tup l) ∨ (∃ l, d = .lst l) ∨ d = .dic false [] [] := by
  obtain ⟨p, h1, _⟩ := h
  have h := h1 []
  cases n with
  | zero => exact nomatch h
  | succ n =>
    unfold toPy at h
    split at h
    · exact .inl rfl
    · exact .inr (.inl ⟨_, rfl⟩)
    · exact .inr (.inr (.inl ⟨_, rfl⟩))
    · exact .inr (.inr (.inr (.inl ⟨_, rfl⟩)))
    · exact .inr (.inr (.inr (.inr (.inl ⟨_, rfl⟩))))
    · exact .inr (.inr (.inr (.inr (.inr (.inr rfl)))))
    · obtain ⟨l, e1, e2⟩ := Option.bind_eq_some_iff.mp h
      cases d with
      | lst l => exact .inr (.inr (.inr (.inr (.inr (.inl ⟨_, rfl⟩)))))
      | obj k =>
        unfold lstOf at e1
        simp at e1
      | _ => cases e1
theorem rp_mem {n b : Nat} {l : List D} (h : Rp (n + 1) b (.tup l)) {x : D} (hx : x ∈ l) : Rp n b x := by
  obtain ⟨p, h1, h2, h3⟩ := h
  have go : ∀ (l : List D) (ps : List PyData), (∀ st, pyL (toPy st n) l = some ps) → okPyL ps = true → PyData.bulkAll ps ≤ b → x ∈ l → Rp n b x := by
    intro l
    induction l with
    | nil => intro _ _ _ _ hx; exact nomatch hx
    | cons y ys ih =>
      intro ps e ho hb hx
      cases ps with
      | nil =>
        obtain ⟨a, e1, e2⟩ := Option.bind_eq_some_iff.mp (e [])
        obtain ⟨r, e3, e4⟩ := Option.map_eq_some_iff.mp e2
        exact nomatch e4
      | cons q qs =>
        have e' : ∀ st, toPy st n y = some q ∧ pyL (toPy st n) ys = some qs := fun st => by
          obtain ⟨a, e1, e2⟩ := Option.bind_eq_some_iff.mp (e st)
          obtain ⟨r, e3, e4⟩ := Option.map_eq_some_iff.mp e2
          cases e4
          exact ⟨e1, e3⟩
        unfold okPyL at ho
        obtain ⟨o1, o2⟩ := Bool.and_eq_true_iff.mp ho
        unfold PyData.bulkAll at hb
        rcases List.mem_cons.mp hx with rfl | hx
        · exact ⟨q, fun st => (e' st).1, o1, by omega⟩
        · exact ih qs (fun st => (e' st).2) o2 (by omega) hx
  have e0 : ∀ st, ∃ ps, pyL (toPy st n) l = some ps ∧ p = .tuple ps := fun st => by
    have := h1 st
    unfold toPy at this
    obtain ⟨r, e3, e4⟩ := Option.map_eq_some_iff.mp this
    exact ⟨r, e3, e4.symm⟩
  obtain ⟨ps, _, rfl⟩ := e0 []
  refine go l ps (fun st => ?_) (by unfold okPy at h2; exact h2) (by unfold PyData.bulk at h3; exact h3) hx
  obtain ⟨qs, e1, e2⟩ := e0 st
  cases e2
  exact e1
/-- its type -/
def tyN : D → String
  | .non => "NoneType"
  | .bl _ => "bool"
  | .int _ => "int"
  | .str _ => "str"
  | .tup _ => "tuple"
  | .lst _ => "list"
  | _ => "dict"
theorem tyD_rp {st : Store} {n b : Nat} {d : D} (h : Rp n b d) : tyD st d = some (tyN d) := by
  rcases rp_cases h with rfl | ⟨_, rfl⟩ | ⟨_, rfl⟩ | ⟨_, rfl⟩ | ⟨_, rfl⟩ | ⟨_, rfl⟩ | rfl <;> rfl
def kT : D → Bool
  | .tup _ => true
  | _ => false
def kS : D → Bool
  | .str _ => true
  | _ => false
def kI : D → Bool
  | .int _ => true
  | .bl _ => true
  | _ => false
def kB : D → Bool
  | .bl _ => true
  | _ => false
def kL : D → Bool
  | .lst _ => true
  | _ => false
theorem e_non : kitB "NoneType" "tuple" = some false ∧ kitB "NoneType" "str" = some false ∧ kitB "NoneType" "int" = some false ∧ kitB "NoneType" "bool" = some false ∧ kitB "NoneType" "list" = some false := by decide +kernel
theorem e_bl : kitB "bool" "tuple" = some false ∧ kitB "bool" "str" = some false ∧ kitB "bool" "int" = some true ∧ kitB "bool" "bool" = some true ∧ kitB "bool" "list" = some false := by decide +kernel
theorem e_int : kitB "int" "tuple" = some false ∧ kitB "int" "str" = some false ∧ kitB "int" "int" = some true ∧ kitB "int" "bool" = some false ∧ kitB "int" "list" = some false := by decide +kernel
theorem e_str : kitB "str" "tuple" = some false ∧ kitB "str" "str" = some true ∧ kitB "str" "int" = some false ∧ kitB "str" "bool" = some false ∧ kitB "str" "list" = some false := by decide +kernel
theorem e_tup : kitB "tuple" "tuple" = some true ∧ kitB "tuple" "str" = some false ∧ kitB "tuple" "int" = some false ∧ kitB "tuple" "bool" = some false ∧ kitB "tuple" "list" = some false := by decide +kernel
theorem e_lst : kitB "list" "tuple" = some false ∧ kitB "list" "str" = some false ∧ kitB "list" "int" = some false ∧ kitB "list" "bool" = some false ∧ kitB "list" "list" = some true := by decide +kernel
theorem e_dic : kitB "dict" "tuple" = some false ∧ kitB "dict" "str" = some false ∧ kitB "dict" "int" = some false ∧ kitB "dict" "bool" = some false ∧ kitB "dict" "list" = some false := by decide +kernel
theorem kits : ∀ d : D, kitB (tyN d) "tuple" = some (kT d) ∧ kitB (tyN d) "str" = some (kS d) ∧ kitB (tyN d) "int" = some (kI d) ∧ kitB (tyN d) "bool" = some (kB d) ∧ kitB (tyN d) "list" = some (kL d)
  | .non => e_non
  | .bl _ => e_bl
  | .int _ => e_int
  | .str _ => e_str
  | .tup _ => e_tup
  | .lst _ => e_lst
  | .ty _ => e_dic
  | .scr _ => e_dic
  | .obj _ => e_dic
  | .dic _ _ _ => e_dic
  | .ins _ _ _ => e_dic
  | .exc _ _ _ => e_dic
  | .cls _ => e_dic
  | .fn _ _ _ _ _ => e_dic
section
variable {st : Store} {n b : Nat} {d : D} {K : D → Prop}
theorem isi_eq {T : String} {c : Bool} (h : Rp n b d) (e : kitB (tyN d) T = some c) : fIsi st [d, .ty T] = some (.bl c) := by
  show ((tyD st d).bind fun t => (kitB t T).map D.bl) = _
  rw [tyD_rp h, Option.bind_some, e]
  rfl
theorem o_isTup (h : Rp n b d) (k : K (.bl (kT d))) : OnO (fIsi st [d, .ty "tuple"]) K := ⟨_, isi_eq h (kits d).1, k⟩
theorem o_isStr (h : Rp n b d) (k : K (.bl (kS d))) : OnO (fIsi st [d, .ty "str"]) K := ⟨_, isi_eq h (kits d).2.1, k⟩
theorem o_isInt (h : Rp n b d) (k : K (.bl (kI d))) : OnO (fIsi st [d, .ty "int"]) K := ⟨_, isi_eq h (kits d).2.2.1, k⟩
theorem o_isBool (h : Rp n b d) (k : K (.bl (kB d))) : OnO (fIsi st [d, .ty "bool"]) K := ⟨_, isi_eq h (kits d).2.2.2.1, k⟩
theorem o_isLst (h : Rp n b d) (k : K (.bl (kL d))) : OnO (fIsi st [d, .ty "list"]) K := ⟨_, isi_eq h (kits d).2.2.2.2, k⟩
theorem o_eqS {a b : List Nat} (k : K (.bl (decide (a = b)))) : OnO (bEq st (.str a) (.str b)) K := ⟨_, rfl, k⟩
theorem o_neS {a b : List Nat} (k : K (.bl (!decide (a = b)))) : OnO (bNe st (.str a) (.str b)) K := ⟨_, rfl, k⟩
end
theorem onR_ok {α : Type} {r : R α} {x : α} {y : Store} (h : OnR r (fun a s => a = x ∧ s = y) fun _ _ _ _ => False) : r = .ok x y := by
  cases r with
  | ok a s => obtain ⟨rfl, rfl⟩ := h; rfl
  | ex => exact h.elim
  | bad => exact h.elim
section
variable {g : MG0} {b : MS} {ds : List D} {env : DEnv} {st : Store} {Q : SR → Prop}
end
/-- where the run stops -/
def Stp (p : Prop) : Prop := p
theorem stp {p : Prop} (h : Stp p) : p := h
/-! ### raise, a def that hears -/
section
variable {env : DEnv} {st : Store} {X : String → List String → List D → Store → Prop} {Q : SR → Prop}
theorem s_raise {c : String} {ks : List String} {m : MA} (h : OnR (m env st) (fun ds st1 => Sd (ds.length = ks.length) (Q (.ex c ks.reverse ds.reverse env st1))) (fun c ks vs st1 => Q (.ex c ks vs env st1))) : OnQ (sRaise c ks m env st) Q := by
  unfold sRaise
  refine onR_toS (onR_imp h (fun ds st1 h => ?_) fun _ _ _ _ h => h)
  rw [if_pos h.1]
  exact h.2
theorem s_raise1 {c k : String} {m : MA} (h : OnR (m env st) (fun ds st1 => ∃ x, ds = [x] ∧ Q (.ex c [k] [x] env st1)) (fun c ks vs st1 => Q (.ex c ks vs env st1))) : OnQ (sRaise c [k] m env st) Q := by
  refine s_raise (onR_imp h (fun ds st1 h => ?_) fun _ _ _ _ h => h)
  obtain ⟨x, rfl, q⟩ := h
  exact ⟨rfl, q⟩
theorem w_one {x : D} {P : D → Prop} (h : P x) : ∃ x', [x] = [x'] ∧ P x' := ⟨x, rfl, h⟩
end
end T5
namespace T5.G
open PySem PySem.Spec PyProof.Rows L2
variable {st : Store}
abbrev sIN : D := .str [105, 110]
abbrev sOUT : D := .str [111, 117, 116]
abbrev sL : D := .str [108, 101, 102, 116]
abbrev sR : D := .str [114, 105, 103, 104, 116]
/-- an edit: sets in or takes out, where, how many -/
structure Ed where
  i : Bool
  g : Int
  m : Int
def Ed.d (e : Ed) : D := .tup [if e.i = true then sIN else sOUT, .int e.g, .int e.m]
def dLog (l : List Ed) : D := .tup (l.map Ed.d)
def dLean (b : Bool) : D := if b = true then sL else sR
def Ed.ok (e : Ed) : Prop := 0 ≤ e.g ∧ e.g ≤ 999 ∧ 1 ≤ e.m ∧ e.m ≤ 9
/-- where a gap stands behind an edit -/
def gapB (e : Ed) (x : Int) (lf : Bool) : Int :=
  if e.i = true then (if x < e.g ∨ (x = e.g ∧ lf = true) then x else x + e.m) else if x ≤ e.g then x else maxI e.g (x - e.m)
def car : List Ed → Int → Bool → Int
  | [], x, _ => x
  | e :: l, x, lf => car l (gapB e x lf) lf
def grow : List Ed → Int → Int
  | [], n => n
  | e :: l, n => grow l (n + if e.i = true then e.m else -e.m)
/-- the log can be said of a text of n signs -/
def Fits : List Ed → Int → Prop
  | [], _ => True
  | e :: l, n => e.g + (if e.i = true then 0 else e.m) ≤ n ∧ Fits l (n + if e.i = true then e.m else -e.m)
def reach : List Ed → Int → Int → Int
  | [], le, _ => le
  | e :: l, le, mo => reach l (maxI le (e.g + (if e.i = true then 0 else e.m) - mo)) (mo + if e.i = true then e.m else -e.m)
abbrev wd (i : Bool) : D := if i = true then sIN else sOUT
theorem run_rt {N n : Nat} {b : MS} {ds : List D} {d : D} {st1 : Store} (hl : ds.length = n) (h : b (ds.map some ++ List.replicate (N - n) none) st = .rt d st1) : runF N n b ds st = .ok d st1 := by
  unfold runF
  rw [if_pos hl, h]
/-- no thing of the store names a place behind it -/
def Cl (st : Store) : Prop := st.all (clO st.length) = true
theorem q_asgN {m : ME} {i : Nat} {env : DEnv} {d : D} {st1 : Store} (h : m env st = .ok d st1) : sAsg m (gN i) env st = .nx (env.set i (some d)) st1 := by
  unfold sAsg
  rw [h] <;> rfl
/-! ### gaps carried: order -/
section
variable {e : Ed} {p q n : Int} {lf : Bool} {l : List Ed}
end
/-- the row of a log's chart over a text of n signs -/
theorem cl_ints (n : Nat) : ∀ l : List Int, clL n (l.map D.int) = true
  | [] => rfl
  | i :: l => by simp [clL, clD, cl_ints n l]
/-! ### the draws -/
abbrev kM : List D := [.str [103, 114, 101, 97, 116], .str [110, 117, 109, 98, 101, 114], .str [116, 117, 114, 110]]
def mk (G : List Int) (a b : Int) (X : Store) : Store := .dic false kM [.obj 1, .int a, .int b] :: .lst (G.map .int) :: X
section
variable {G : List Int} {a b n : Int} {X : Store}
theorem ix_great : bIx (mk G a b X) (.obj 0) (.str [103, 114, 101, 97, 116]) = some (.obj 1) := rfl
theorem ix_number : bIx (mk G a b X) (.obj 0) (.str [110, 117, 109, 98, 101, 114]) = some (.int a) := rfl
theorem ix_turn : bIx (mk G a b X) (.obj 0) (.str [116, 117, 114, 110]) = some (.int b) := rfl
theorem ne_great : bNe (mk G a b X) (.obj 1) (.lst []) = some (.bl (!decide (G = []))) := by
  have sh : SeqAt.shaped (.list (G.map PyData.int)) = true := by
    unfold SeqAt.shaped
    simp [PyData.canLay0, PyData.depth, ints_lay G]
  have sh2 : SeqAt.shaped (.list []) = true := by
    unfold SeqAt.shaped
    simp [PyData.canLay0, PyData.depth, PyData.canLayAll0, PyData.depthAll]
  unfold bNe
  show Option.map _ (dEq0 _ _ _) = _
  unfold dEq0
  have e1 : py (mk G a b X) (.obj 1) = some (.list (G.map PyData.int)) := by
    show ((some (G.map D.int)).bind fun l => (py0L l).map PyData.list) = _
    rw [opt_bind_some, py0_ints]
    rfl
  have e2 : py (mk G a b X) (.lst []) = some (.list []) := rfl
  rw [e1, opt_bind_some, e2, opt_bind_some, if_pos ⟨sh, sh2⟩]
  have e3 := ints_eqv G []
  show Option.map (fun b => D.bl (!b)) (some (PyData.eqv (.list (G.map PyData.int)) (.list []))) = _
  unfold PyData.eqv
  rw [show ([] : List PyData) = ([] : List Int).map PyData.int from rfl, e3]
  rfl
theorem ix_g0 {g : Int} : bIx (mk (g :: G) a b X) (.obj 1) (.int 0) = some (.int g) := by
  show ((seqOf (mk (g :: G) a b X) (.obj 1)).bind fun l => atI l 0) = _
  show atI ((g :: G).map D.int) 0 = _
  rw [List.map_cons, atI_cons0]
abbrev eDr (n : Int) (d3 d4 : Option D) : DEnv := [some (.obj 0), some (.int n), some (.obj 1), d3, d4]
abbrev cDr : MT := cAnd (cBool (eBin bNe (eVar 2) (eLst aNil))) (cBool (eBin bEq (eBin bIx (eVar 2) (eC (.int 0))) (eC (.int 0))))
abbrev bDr : MS := sExp (eMthL fPop (eVar 2) (aCons (eC (.int 0)) aNil))
theorem emp_l {env : DEnv} {st : Store} : eLst aNil env st = .ok (.lst []) st := rfl
theorem c_dr_nil {d3 d4 : Option D} : cDr (eDr n d3 d4) (mk [] a b X) = .ok false (mk [] a b X) := by
  have h : cBool (eBin bNe (eVar 2) (eLst aNil)) (eDr n d3 d4) (mk [] a b X) = .ok false (mk [] a b X) := by
    rw [q_cBool, q_bin, q_var rfl, bind_ok, emp_l, bind_ok, ne_great]
    rfl
  unfold cDr
  rw [q_cAnd, h]
  rfl
theorem c_dr_cons {d3 d4 : Option D} {g : Int} : cDr (eDr n d3 d4) (mk (g :: G) a b X) = .ok (decide (g = 0)) (mk (g :: G) a b X) := by
  have h : cBool (eBin bNe (eVar 2) (eLst aNil)) (eDr n d3 d4) (mk (g :: G) a b X) = .ok true (mk (g :: G) a b X) := by
    rw [q_cBool, q_bin, q_var rfl, bind_ok, emp_l, bind_ok, ne_great]
    rfl
  unfold cDr
  rw [q_cAnd, h, bind_ok, if_pos rfl, q_cBool, q_bin, q_bin, q_var rfl, bind_ok, q_c, bind_ok, ix_g0, ofO_some, bind_ok, q_c, bind_ok, v_eqI]
  rfl
theorem b_dr {d3 d4 : Option D} {g : Int} : bDr (eDr n d3 d4) (mk (g :: G) a b X) = .nx (eDr n d3 d4) (mk G a b X) := by
  have h : fPop (mk (g :: G) a b X) (.obj 1) [.int 0] = some (.int g, mk G a b X) := by
    have c : (-(2 ^ 63) ≤ (0 : Int) ∧ (0 : Int) < 2 ^ 63) := by decide
    have c2 : ixN (((g :: G).map D.int).length) 0 = some 0 := by simp [ixN]
    show (if -(2 ^ 63) ≤ (0 : Int) ∧ (0 : Int) < 2 ^ 63 then (ixN ((g :: G).map D.int).length 0).bind fun j => (((g :: G).map D.int)[j]?).map fun x => (x, (mk (g :: G) a b X).set 1 (.lst (((g :: G).map D.int).eraseIdx j))) else none) = _
    rw [if_pos c, c2]
    rfl
  unfold bDr
  rw [q_exp, q_mth, q_var rfl, bind_ok]
  have i : (lstOf (mk (g :: G) a b X) (.obj 1)).isSome = true := rfl
  rw [if_pos i, q_acons, q_c, bind_ok, q_anil, bind_ok, bind_ok, h]
  rfl
theorem w_dr {d3 d4 : Option D} : ∀ (k : Nat) (G : List Int), G.length < k → ∃ G', G'.length ≤ G.length ∧ (∀ g G2, G' = g :: G2 → g ≠ 0) ∧ whileS cDr bDr k (eDr n d3 d4) (mk G a b X) = .nx (eDr n d3 d4) (mk G' a b X)
  | 0, G, h => absurd h (Nat.not_lt_zero _)
  | k + 1, [], h => ⟨[], Nat.le_refl _, fun _ _ z => (nomatch z), by unfold whileS; rw [c_dr_nil, toS_ok, if_neg (by decide)]⟩
  | k + 1, g :: G, h => by
    by_cases hg : g = 0
    · obtain ⟨G', h1, h2, h3⟩ := w_dr (d3 := d3) (d4 := d4) k G (by simp at h; omega)
      refine ⟨G', by simp; omega, h2, ?_⟩
      unfold whileS
      rw [c_dr_cons, toS_ok, if_pos (decide_eq_true hg), b_dr, loop_nx]
      exact h3
    · refine ⟨g :: G, Nat.le_refl _, fun g' G2 z => by cases z; exact hg, ?_⟩
      unfold whileS
      rw [c_dr_cons, toS_ok, if_neg (by simp [hg])]
theorem set_d {x v : D} {a' b' : Int} (hx : x = .str [110, 117, 109, 98, 101, 114] ∧ v = .int a' ∧ b' = b ∨ x = .str [116, 117, 114, 110] ∧ v = .int b' ∧ a' = a) : bSet (mk G a b X) (.obj 0) x v = some (mk G a' b' X) := by
  rcases hx with ⟨rfl, rfl, rfl⟩ | ⟨rfl, rfl, rfl⟩ <;> rfl
theorem set_g {g v : Int} : bSet (mk (g :: G) a b X) (.obj 1) (.int 0) (.int v) = some (mk (v :: G) a b X) := by
  have c2 : ixN (((g :: G).map D.int).length) 0 = some 0 := by simp [ixN]
  show ((ixN ((g :: G).map D.int).length 0).map fun j => (mk (g :: G) a b X).set 1 (.lst (((g :: G).map D.int).set j (.int v)))) = _
  rw [c2]
  rfl
/-- a draw: some number below n -/
theorem p_draw (hn : 1 ≤ n) (hn2 : n ≤ 1000000) (hG : G.length ≤ 63) : ∃ v G' a' b', 0 ≤ v ∧ v < n ∧ G'.length ≤ 63 ∧ f__law_draw [.obj 0, .int n] (mk G a b X) = .ok (.int v) (mk G' a' b' X) := by
  obtain ⟨G1, h1, h2, h3⟩ := w_dr (a := a) (b := b) (n := n) (X := X) (d3 := none) (d4 := none) 1000 G (by omega)
  have hn0 : n ≠ 0 := by omega
  have start : b__law_draw [some (.obj 0), some (.int n), none, none, none] (mk G a b X) = (sSeq (sIf (cBool (eBin bNe (eVar 2) (eLst aNil))) (sSeq (sAsg (eBin bMod (eCB fInt (aCons (eBin bIx (eVar 2) (eC (.int 0))) aNil)) (eVar 1)) (gN 3))
      (sSeq (sSet (eBin bDiv (eBin bIx (eVar 2) (eC (.int 0))) (eVar 1)) (eVar 2) (eC (.int 0))) (sRet (eVar 3)))) sPass)
      (sSeq (sSet (eBin bAdd (eBin bIx (eVar 0) (eC (.str [116, 117, 114, 110]))) (eC (.int 1))) (eVar 0) (eC (.str [116, 117, 114, 110])))
      (sSeq (sAsg (eBin bAdd (eBin bMul (eBin bIx (eVar 0) (eC (.str [110, 117, 109, 98, 101, 114]))) (eC (.int 2862933555777941757))) (eC (.int 3037000493))) (gN 4))
      (sSeq (sAsg (eBin bAdd (eVar 4) (eBin bMul (eC (.int 49979687)) (eBin bIx (eVar 0) (eC (.str [116, 117, 114, 110]))))) (gN 4))
      (sSeq (sSet (eBin bMod (eCB fInt (aCons (eVar 4) aNil)) (eC (.int 2305843009213693951))) (eVar 0) (eC (.str [110, 117, 109, 98, 101, 114])))
      (sRet (eBin bMod (eCB fInt (aCons (eBin bDiv (eBin bIx (eVar 0) (eC (.str [110, 117, 109, 98, 101, 114]))) (eC (.int 1299709))) aNil)) (eVar 1)))))))) (eDr n none none) (mk G1 a b X) := by
    unfold b__law_draw
    have e1 : (eBin bIx (eVar 0) (eC (.str [103, 114, 101, 97, 116]))) [some (.obj 0), some (.int n), none, none, none] (mk G a b X) = .ok (.obj 1) (mk G a b X) := by
      rw [q_bin, q_var rfl, bind_ok, q_c, bind_ok, ix_great]
      rfl
    have s1 : (([some (.obj 0), some (.int n), none, none, none] : DEnv).set 2 (some (.obj 1))) = eDr n none none := rfl
    have e2 : (sWhile 1000 (cAnd (cBool (eBin bNe (eVar 2) (eLst aNil))) (cBool (eBin bEq (eBin bIx (eVar 2) (eC (.int 0))) (eC (.int 0))))) (sExp (eMthL fPop (eVar 2) (aCons (eC (.int 0)) aNil)))) (eDr n none none) (mk G a b X) = .nx (eDr n none none) (mk G1 a b X) := h3
    rw [q_seq, q_asgN e1, seq_nx, s1, q_seq, e2, seq_nx]
  cases G1 with
  | cons g G2 =>
    refine ⟨g.fmod n, g.fdiv n :: G2, a, b, ?_, ?_, by simp at h1 ⊢; omega, ?_⟩
    · exact Int.fmod_nonneg_of_pos g (by omega)
    · exact Int.fmod_lt_of_pos g (by omega)
    · refine run_rt (b := b__law_draw) rfl (start.trans ?_)
      have t : (cBool (eBin bNe (eVar 2) (eLst aNil))) (eDr n none none) (mk (g :: G2) a b X) = .ok true (mk (g :: G2) a b X) := by
        rw [q_cBool, q_bin, q_var rfl, bind_ok, emp_l, bind_ok, ne_great]
        rfl
      have e1 : (eBin bMod (eCB fInt (aCons (eBin bIx (eVar 2) (eC (.int 0))) aNil)) (eVar 1)) (eDr n none none) (mk (g :: G2) a b X) = .ok (.int (g.fmod n)) (mk (g :: G2) a b X) := by
        rw [q_bin, q_cb, q_acons, q_bin, q_var rfl, bind_ok, q_c, bind_ok, ix_g0, ofO_some, bind_ok, q_anil, bind_ok, bind_ok, v_int, ofO_some, bind_ok, q_var rfl, bind_ok, v_modI, if_pos hn0]
        rfl
      have s1 : (eDr n none none).set 3 (some (.int (g.fmod n))) = eDr n (some (.int (g.fmod n))) none := rfl
      have cd : CDivN g n := ⟨hn0, by omega⟩
      have e2 : (eBin bDiv (eBin bIx (eVar 2) (eC (.int 0))) (eVar 1)) (eDr n (some (.int (g.fmod n))) none) (mk (g :: G2) a b X) = .ok (.int (g.fdiv n)) (mk (g :: G2) a b X) := by
        rw [q_bin, q_bin, q_var rfl, bind_ok, q_c, bind_ok, ix_g0, ofO_some, bind_ok, q_var rfl, bind_ok]
        show ofO (if CDivN g n then some (D.int (g.fdiv n)) else none) _ = _
        rw [if_pos cd]
        rfl
      rw [q_seq, q_if, t, toS_ok, if_pos rfl, q_seq, q_asgN e1, seq_nx, s1, q_seq, q_set, e2, toS_ok, q_var rfl, toS_ok, q_c, toS_ok, set_g]
      rfl
  | nil =>
    have t : (cBool (eBin bNe (eVar 2) (eLst aNil))) (eDr n none none) (mk [] a b X) = .ok false (mk [] a b X) := by
      rw [q_cBool, q_bin, q_var rfl, bind_ok, emp_l, bind_ok, ne_great]
      rfl
    have e1 : (eBin bAdd (eBin bIx (eVar 0) (eC (.str [116, 117, 114, 110]))) (eC (.int 1))) (eDr n none none) (mk [] a b X) = .ok (.int (b + 1)) (mk [] a b X) := by
      rw [q_bin, q_bin, q_var rfl, bind_ok, q_c, bind_ok, ix_turn, ofO_some, bind_ok, q_c, bind_ok, v_addI]
      rfl
    have mul : ∀ (st : Store) (i j : Int), CMul i j → bMul st (.int i) (.int j) = some (.int (i * j)) := fun st i j h => by
      show (if CMul i j then some (D.int (i * j)) else none) = _
      rw [if_pos h]
    have e2 : (eBin bAdd (eBin bMul (eBin bIx (eVar 0) (eC (.str [110, 117, 109, 98, 101, 114]))) (eC (.int 2862933555777941757))) (eC (.int 3037000493))) (eDr n none none) (mk [] a (b + 1) X) = .ok (.int (a * 2862933555777941757 + 3037000493)) (mk [] a (b + 1) X) := by
      rw [q_bin, q_bin, q_bin, q_var rfl, bind_ok, q_c, bind_ok, ix_number, ofO_some, bind_ok, q_c, bind_ok, mul _ _ _ (.inr (by decide)), ofO_some, bind_ok, q_c, bind_ok, v_addI]
      rfl
    generalize hc1 : a * 2862933555777941757 + 3037000493 = c1 at e2
    have s2 : (eDr n none none).set 4 (some (.int c1)) = eDr n none (some (.int c1)) := rfl
    have e3 : (eBin bAdd (eVar 4) (eBin bMul (eC (.int 49979687)) (eBin bIx (eVar 0) (eC (.str [116, 117, 114, 110]))))) (eDr n none (some (.int c1))) (mk [] a (b + 1) X) = .ok (.int (c1 + 49979687 * (b + 1))) (mk [] a (b + 1) X) := by
      rw [q_bin, q_var rfl, bind_ok, q_bin, q_c, bind_ok, q_bin, q_var rfl, bind_ok, q_c, bind_ok, ix_turn, ofO_some, bind_ok, mul _ _ _ (.inl (by decide)), ofO_some, bind_ok, v_addI]
      rfl
    generalize hc2 : c1 + 49979687 * (b + 1) = c2 at e3
    have s3 : (eDr n none (some (.int c1))).set 4 (some (.int c2)) = eDr n none (some (.int c2)) := rfl
    have e4 : (eBin bMod (eCB fInt (aCons (eVar 4) aNil)) (eC (.int 2305843009213693951))) (eDr n none (some (.int c2))) (mk [] a (b + 1) X) = .ok (.int (c2.fmod 2305843009213693951)) (mk [] a (b + 1) X) := by
      rw [q_bin, q_cb, q_acons, q_var rfl, bind_ok, q_anil, bind_ok, bind_ok, v_int, ofO_some, bind_ok, q_c, bind_ok, v_modI, if_pos (by decide)]
      rfl
    generalize c2.fmod 2305843009213693951 = c3 at e4
    have cd : CDivN c3 1299709 := ⟨by decide, by decide⟩
    have e5 : (eBin bMod (eCB fInt (aCons (eBin bDiv (eBin bIx (eVar 0) (eC (.str [110, 117, 109, 98, 101, 114]))) (eC (.int 1299709))) aNil)) (eVar 1)) (eDr n none (some (.int c2))) (mk [] c3 (b + 1) X) = .ok (.int ((c3.fdiv 1299709).fmod n)) (mk [] c3 (b + 1) X) := by
      have dv : ∀ st : Store, bDiv st (.int c3) (.int 1299709) = some (.int (c3.fdiv 1299709)) := fun st => by
        show (if CDivN c3 1299709 then some (D.int (c3.fdiv 1299709)) else none) = _
        rw [if_pos cd]
      rw [q_bin, q_cb, q_acons, q_bin, q_bin, q_var rfl, bind_ok, q_c, bind_ok, ix_number, ofO_some, bind_ok, q_c, bind_ok, dv, ofO_some, bind_ok, q_anil, bind_ok, bind_ok, v_int, ofO_some, bind_ok, q_var rfl, bind_ok, v_modI, if_pos hn0]
      rfl
    refine ⟨(c3.fdiv 1299709).fmod n, [], c3, b + 1, Int.fmod_nonneg_of_pos _ (by omega), Int.fmod_lt_of_pos _ (by omega), by simp, ?_⟩
    refine run_rt (b := b__law_draw) rfl (start.trans ?_)
    rw [q_seq, q_if, t, toS_ok, if_neg (by decide), q_pass, seq_nx, q_seq, q_set, e1, toS_ok, q_var rfl, toS_ok, q_c, toS_ok, set_d (b' := b + 1) (a' := a) (.inr ⟨rfl, rfl, rfl⟩)]
    show (SR.nx (eDr n none none) (mk [] a (b + 1) X)).seq _ = _
    rw [seq_nx, q_seq, q_asgN e2, seq_nx, s2, q_seq, q_asgN e3, seq_nx, s3, q_seq, q_set, e4, toS_ok, q_var rfl, toS_ok, q_c, toS_ok, set_d (a' := c3) (b' := b + 1) (.inl ⟨rfl, rfl, rfl⟩)]
    show (SR.nx (eDr n none (some (.int c2))) (mk [] c3 (b + 1) X)).seq _ = _
    rw [seq_nx, q_ret, e5, toS_ok]
end
abbrev eLg (len many : Int) (d4 d5 d6 : Option D) : DEnv := [some (.obj 0), some (.int len), some (.int many), some (.obj 2), d4, d5, d6]
abbrev wSize : ME := eBin bAdd (eC (.int 1)) (eCall f__law_draw (aCons (eVar 0) (aCons (eBin bIx (eLst (aCons (eC (.int 1)) (aCons (eC (.int 3)) (aCons (eC (.int 9)) aNil)))) (eCall f__law_draw (aCons (eVar 0) (aCons (eC (.int 3)) aNil)))) aNil)))
abbrev bLg1 : MS := sSeq (sAsg (eCall f__law_draw (aCons (eVar 0) (aCons (eVar 1) aNil))) (gN 6))
  (sSeq (sAsg (eCB fMin (aCons (eVar 5) (aCons (eBin bSub (eVar 1) (eVar 6)) aNil))) (gN 5))
  (sSeq (sExp (eMthL fApp (eVar 3) (aCons (eTup (aCons (eC (.str [111, 117, 116])) (aCons (eVar 6) (aCons (eVar 5) aNil)))) aNil)))
  (sAsg (eBin bSub (eVar 1) (eVar 5)) (gN 1))))
abbrev bLg2 : MS := sSeq (sExp (eMthL fApp (eVar 3) (aCons (eTup (aCons (eC (.str [105, 110])) (aCons (eCall f__law_draw (aCons (eVar 0) (aCons (eBin bAdd (eVar 1) (eC (.int 1))) aNil))) (aCons (eVar 5) aNil)))) aNil)))
  (sAsg (eBin bAdd (eVar 1) (eVar 5)) (gN 1))
abbrev bLg : MS := sSeq (sAsg wSize (gN 5)) (sIf (cAnd (cBool (eBin bEq (eCall f__law_draw (aCons (eVar 0) (aCons (eC (.int 2)) aNil))) (eC (.int 0)))) (cBool (eBin bGt (eVar 1) (eC (.int 0))))) bLg1 bLg2)
/-- how the loop of _law_log stands -/
def LgI (n many : Int) (k : Nat) (env : DEnv) (st : Store) : Prop := ∃ (G : List Int) (a b : Int) (l : List Ed) (d4 d5 d6 : Option D), env = eLg (grow l n) many d4 d5 d6 ∧ st = mk G a b [.lst (l.map Ed.d)] ∧ G.length ≤ 63 ∧ l.length ≤ k ∧ (∀ e ∈ l, e.ok) ∧ Fits l n
/-! ### the start -/
theorem q_enS {env : DEnv} {st : Store} {m : ME} {l : List D} (h : m env st = .ok (.scr l) st) : iEn m env st = .ok (l.zipIdx.map fun p => .tup [.int (p.2 : Nat), p.1]) st := by
  unfold iEn
  rw [h]
  rfl
abbrev bBg : MS := sAsg (eBin bMod (eCB fInt (aCons (eBin bAdd (eBin bAdd (eBin bMul (eVar 1) (eC (.int 48271))) (eVar 3)) (eBin bMul (eC (.int 32452843)) (eVar 2))) aNil)) (eC (.int 2305843009213693951))) (gN 1)
theorem bg_loop {s : D} : ∀ (ds : List D) (x : Int) (y z : Option D), (∀ d ∈ ds, ∃ i n : Int, d = .tup [.int i, .int n]) → ∃ (x' : Int) (y' z' : Option D), loopS (gT (gsCons (gN 2) (gsCons (gN 3) gsNil))) bBg ds [some s, some (.int x), y, z] [] = .nx [some s, some (.int x'), y', z'] []
  | [], x, y, z, _ => ⟨x, y, z, rfl⟩
  | d :: ds, x, y, z, h => by
    obtain ⟨i, n, rfl⟩ := h d (List.mem_cons_self ..)
    have mul : ∀ (i j : Int), CMul i j → bMul [] (.int i) (.int j) = some (.int (i * j)) := fun i j h => by
      show (if CMul i j then some (D.int (i * j)) else none) = _
      rw [if_pos h]
    have e1 : (eBin bMod (eCB fInt (aCons (eBin bAdd (eBin bAdd (eBin bMul (eVar 1) (eC (.int 48271))) (eVar 3)) (eBin bMul (eC (.int 32452843)) (eVar 2))) aNil)) (eC (.int 2305843009213693951))) [some s, some (.int x), some (.int i), some (.int n)] [] = .ok (.int ((x * 48271 + n + 32452843 * i).fmod 2305843009213693951)) [] := by
      rw [q_bin, q_cb, q_acons, q_bin, q_bin, q_bin, q_var rfl, bind_ok, q_c, bind_ok, mul _ _ (.inr (by decide)), ofO_some, bind_ok, q_var rfl, bind_ok, v_addI, ofO_some, bind_ok, q_bin, q_c, bind_ok, q_var rfl, bind_ok, mul _ _ (.inl (by decide)), ofO_some, bind_ok, v_addI, ofO_some, bind_ok, q_anil, bind_ok, bind_ok, v_int, ofO_some, bind_ok, q_c, bind_ok, v_modI, if_pos (by decide)]
      rfl
    generalize (x * 48271 + n + 32452843 * i).fmod 2305843009213693951 = x1 at e1
    obtain ⟨x', y', z', hh⟩ := bg_loop (s := s) ds x1 (some (.int i)) (some (.int n)) fun d hd => h d (List.mem_cons_of_mem _ hd)
    refine ⟨x', y', z', ?_⟩
    unfold loopS
    show (bBg [some s, some (.int x), some (.int i), some (.int n)] []).loop _ = _
    unfold bBg
    rw [q_asgN e1, loop_nx]
    exact hh
theorem lc_great {env : DEnv} {st : Store} (h4 : env.length = 4) : ∀ (ns acc : List Int), acc.length + ns.length ≤ 63 → ∃ G : List Int, G.length ≤ 63 ∧ lcLoop (gN 3) (cBool (eBin bGe (eVar 3) (eBin bPow (eC (.int 10)) (eC (.int 18))))) (eVar 3) env (ns.map .int) (acc.map .int) st = .ok (G.map .int) st
  | [], acc, h => ⟨acc, by simp at h; omega, rfl⟩
  | n :: ns, acc, h => by
    have hv : (env.set 3 (some (.int n)))[3]? = some (some (.int n)) := by rw [List.getElem?_set_self (by omega)]
    have hp : CPow 10 18 := by unfold CPow; decide
    have ep : (eBin bPow (eC (.int 10)) (eC (.int 18))) (env.set 3 (some (.int n))) st = .ok (.int (10 ^ 18)) st := by
      rw [q_bin, q_c, bind_ok, q_c, bind_ok]
      show ofO (if CPow 10 18 then some (D.int (10 ^ (18 : Int).toNat)) else none) st = _
      rw [if_pos hp]
      rfl
    have et : (cBool (eBin bGe (eVar 3) (eBin bPow (eC (.int 10)) (eC (.int 18))))) (env.set 3 (some (.int n))) st = .ok (decide (10 ^ 18 ≤ n)) st := by
      rw [q_cBool, q_bin, q_var hv, bind_ok, ep, bind_ok, v_ge]
      rfl
    by_cases hc : (10 ^ 18 ≤ n)
    · obtain ⟨G, h1, h2⟩ := lc_great h4 (st := st) ns (acc ++ [n]) (by simp at h ⊢; omega)
      refine ⟨G, h1, ?_⟩
      have hcap : (acc.map D.int).length ≤ cap := by
        have : acc.length ≤ 63 := by simp at h; omega
        simp [cap]
        omega
      rw [List.map_cons]
      unfold lcLoop
      show ((cBool (eBin bGe (eVar 3) (eBin bPow (eC (.int 10)) (eC (.int 18))))) (env.set 3 (some (.int n))) st).bind _ = _
      rw [et, bind_ok, if_pos (decide_eq_true hc), q_var hv, bind_ok, if_pos hcap]
      rw [List.map_append] at h2
      exact h2
    · obtain ⟨G, h1, h2⟩ := lc_great h4 (st := st) ns acc (by simp at h ⊢; omega)
      refine ⟨G, h1, ?_⟩
      rw [List.map_cons]
      unfold lcLoop
      show ((cBool (eBin bGe (eVar 3) (eBin bPow (eC (.int 10)) (eC (.int 18))))) (env.set 3 (some (.int n))) st).bind _ = _
      rw [et, bind_ok, if_neg (by rw [decide_eq_false hc]; decide)]
      exact h2
theorem p_begun {ns : List Int} (h : ns.length ≤ 63) : ∃ (G : List Int) (a : Int), G.length ≤ 63 ∧ f__law_begun [.scr (ns.map .int)] [] = .ok (.obj 0) (mk G a 0 []) := by
  have e1 : (eBin bAdd (eC (.int 15485863)) (eBin bMul (eC (.int 613)) (eCB fLen (aCons (eVar 0) aNil)))) [some (.scr (ns.map .int)), none, none, none] [] = .ok (.int (15485863 + 613 * ((ns.map D.int).length : Int))) [] := by
    have mul : ∀ (j : Int), bMul [] (.int 613) (.int j) = some (.int (613 * j)) := fun j => by
      show (if CMul 613 j then some (D.int (613 * j)) else none) = _
      rw [if_pos (.inl (by decide))]
    have el : (eCB fLen (aCons (eVar 0) aNil)) [some (.scr (ns.map .int)), none, none, none] [] = .ok (.int ((ns.map D.int).length : Int)) [] := rfl
    rw [q_bin, q_c, bind_ok, q_bin, q_c, bind_ok, el, bind_ok, mul, ofO_some, bind_ok, v_addI]
    rfl
  generalize 15485863 + 613 * ((ns.map D.int).length : Int) = x0 at e1
  have s1 : (([some (.scr (ns.map .int)), none, none, none] : DEnv).set 1 (some (.int x0))) = [some (.scr (ns.map .int)), some (.int x0), none, none] := rfl
  obtain ⟨x, y, z, h2⟩ := bg_loop (s := .scr (ns.map .int)) ((ns.map D.int).zipIdx.map fun p => .tup [.int (p.2 : Nat), p.1]) x0 none none (by
    intro d hd
    obtain ⟨⟨q, i⟩, h1, rfl⟩ := List.mem_map.mp hd
    have h2 := List.fst_mem_of_mem_zipIdx h1
    obtain ⟨n, _, h4⟩ := List.mem_map.mp h2
    exact ⟨_, n, by rw [← h4]⟩)
  have e2 := q_enS (st := []) (m := eVar 0) (env := [some (.scr (ns.map .int)), some (.int x0), none, none]) (l := ns.map .int) (q_var rfl)
  obtain ⟨G, hG, h3⟩ := lc_great (env := wipeD [some (.scr (ns.map .int)), some (.int x), y, z] [3]) (st := [.dic false [] []]) rfl ns [] (by simpa using h)
  refine ⟨G, x, hG, run_rt (b := b__law_begun) rfl ?_⟩
  show b__law_begun [some (.scr (ns.map .int)), none, none, none] [] = _
  have e3 : (eLcM (iSeq (eVar 0)) (gN 3) (cBool (eBin bGe (eVar 3) (eBin bPow (eC (.int 10)) (eC (.int 18))))) (eVar 3) [3]) [some (.scr (ns.map .int)), some (.int x), y, z] [.dic false [] []] = .ok (.obj 1) [.dic false [] [], .lst (G.map .int)] := by
    have i : (iSeq (eVar 0)) [some (.scr (ns.map .int)), some (.int x), y, z] [.dic false [] []] = .ok (ns.map .int) [.dic false [] []] := rfl
    unfold eLcM
    rw [i, bind_ok]
    have h3' := h3
    rw [List.map_nil] at h3'
    rw [h3', noEx_ok, bind_ok]
    rfl
  have e4 : (eDisp [((eC (.str [103, 114, 101, 97, 116])), (eLcM (iSeq (eVar 0)) (gN 3) (cBool (eBin bGe (eVar 3) (eBin bPow (eC (.int 10)) (eC (.int 18))))) (eVar 3) [3])), ((eC (.str [110, 117, 109, 98, 101, 114])), (eVar 1)), ((eC (.str [116, 117, 114, 110])), (eC (.int 0)))]) [some (.scr (ns.map .int)), some (.int x), y, z] [] = .ok (.obj 0) (mk G x 0 []) := by
    have ev : evP [((eC (.str [103, 114, 101, 97, 116])), (eLcM (iSeq (eVar 0)) (gN 3) (cBool (eBin bGe (eVar 3) (eBin bPow (eC (.int 10)) (eC (.int 18))))) (eVar 3) [3])), ((eC (.str [110, 117, 109, 98, 101, 114])), (eVar 1)), ((eC (.str [116, 117, 114, 110])), (eC (.int 0)))] [some (.scr (ns.map .int)), some (.int x), y, z] [.dic false [] []] = .ok (kM, [.obj 1, .int x, .int 0]) [.dic false [] [], .lst (G.map .int)] := by
      unfold evP
      show ((eLcM (iSeq (eVar 0)) (gN 3) (cBool (eBin bGe (eVar 3) (eBin bPow (eC (.int 10)) (eC (.int 18))))) (eVar 3) [3]) [some (.scr (ns.map .int)), some (.int x), y, z] [.dic false [] []]).bind _ = _
      rw [e3, bind_ok]
      rfl
    unfold eDisp
    rw [List.nil_append, ev, bind_ok]
    rfl
  unfold b__law_begun
  rw [q_seq, q_asgN e1, seq_nx, s1, q_seq, q_for, e2, toS_ok, h2, seq_nx, q_ret, e4, toS_ok]
theorem q_enL {env : DEnv} {st : Store} {m : ME} {l : List D} (h : m env st = .ok (.lst l) st) : iEn m env st = .ok (l.zipIdx.map fun p => .tup [.int (p.2 : Nat), p.1]) st := by
  unfold iEn
  rw [h]
  rfl
theorem p_begunL {ns : List Int} (h : ns.length ≤ 63) : ∃ (G : List Int) (a : Int), G.length ≤ 63 ∧ f__law_begun [.lst (ns.map .int)] [] = .ok (.obj 0) (mk G a 0 []) := by
  have e1 : (eBin bAdd (eC (.int 15485863)) (eBin bMul (eC (.int 613)) (eCB fLen (aCons (eVar 0) aNil)))) [some (.lst (ns.map .int)), none, none, none] [] = .ok (.int (15485863 + 613 * ((ns.map D.int).length : Int))) [] := by
    have mul : ∀ (j : Int), bMul [] (.int 613) (.int j) = some (.int (613 * j)) := fun j => by
      show (if CMul 613 j then some (D.int (613 * j)) else none) = _
      rw [if_pos (.inl (by decide))]
    have el : (eCB fLen (aCons (eVar 0) aNil)) [some (.lst (ns.map .int)), none, none, none] [] = .ok (.int ((ns.map D.int).length : Int)) [] := rfl
    rw [q_bin, q_c, bind_ok, q_bin, q_c, bind_ok, el, bind_ok, mul, ofO_some, bind_ok, v_addI]
    rfl
  generalize 15485863 + 613 * ((ns.map D.int).length : Int) = x0 at e1
  have s1 : (([some (.lst (ns.map .int)), none, none, none] : DEnv).set 1 (some (.int x0))) = [some (.lst (ns.map .int)), some (.int x0), none, none] := rfl
  obtain ⟨x, y, z, h2⟩ := bg_loop (s := .lst (ns.map .int)) ((ns.map D.int).zipIdx.map fun p => .tup [.int (p.2 : Nat), p.1]) x0 none none (by
    intro d hd
    obtain ⟨⟨q, i⟩, h1, rfl⟩ := List.mem_map.mp hd
    have h2 := List.fst_mem_of_mem_zipIdx h1
    obtain ⟨n, _, h4⟩ := List.mem_map.mp h2
    exact ⟨_, n, by rw [← h4]⟩)
  have e2 := q_enL (st := []) (m := eVar 0) (env := [some (.lst (ns.map .int)), some (.int x0), none, none]) (l := ns.map .int) (q_var rfl)
  obtain ⟨G, hG, h3⟩ := lc_great (env := wipeD [some (.lst (ns.map .int)), some (.int x), y, z] [3]) (st := [.dic false [] []]) rfl ns [] (by simpa using h)
  refine ⟨G, x, hG, run_rt (b := b__law_begun) rfl ?_⟩
  show b__law_begun [some (.lst (ns.map .int)), none, none, none] [] = _
  have e3 : (eLcM (iSeq (eVar 0)) (gN 3) (cBool (eBin bGe (eVar 3) (eBin bPow (eC (.int 10)) (eC (.int 18))))) (eVar 3) [3]) [some (.lst (ns.map .int)), some (.int x), y, z] [.dic false [] []] = .ok (.obj 1) [.dic false [] [], .lst (G.map .int)] := by
    have i : (iSeq (eVar 0)) [some (.lst (ns.map .int)), some (.int x), y, z] [.dic false [] []] = .ok (ns.map .int) [.dic false [] []] := rfl
    unfold eLcM
    rw [i, bind_ok]
    have h3' := h3
    rw [List.map_nil] at h3'
    rw [h3', noEx_ok, bind_ok]
    rfl
  have e4 : (eDisp [((eC (.str [103, 114, 101, 97, 116])), (eLcM (iSeq (eVar 0)) (gN 3) (cBool (eBin bGe (eVar 3) (eBin bPow (eC (.int 10)) (eC (.int 18))))) (eVar 3) [3])), ((eC (.str [110, 117, 109, 98, 101, 114])), (eVar 1)), ((eC (.str [116, 117, 114, 110])), (eC (.int 0)))]) [some (.lst (ns.map .int)), some (.int x), y, z] [] = .ok (.obj 0) (mk G x 0 []) := by
    have ev : evP [((eC (.str [103, 114, 101, 97, 116])), (eLcM (iSeq (eVar 0)) (gN 3) (cBool (eBin bGe (eVar 3) (eBin bPow (eC (.int 10)) (eC (.int 18))))) (eVar 3) [3])), ((eC (.str [110, 117, 109, 98, 101, 114])), (eVar 1)), ((eC (.str [116, 117, 114, 110])), (eC (.int 0)))] [some (.lst (ns.map .int)), some (.int x), y, z] [.dic false [] []] = .ok (kM, [.obj 1, .int x, .int 0]) [.dic false [] [], .lst (G.map .int)] := by
      unfold evP
      show ((eLcM (iSeq (eVar 0)) (gN 3) (cBool (eBin bGe (eVar 3) (eBin bPow (eC (.int 10)) (eC (.int 18))))) (eVar 3) [3]) [some (.lst (ns.map .int)), some (.int x), y, z] [.dic false [] []]).bind _ = _
      rw [e3, bind_ok]
      rfl
    unfold eDisp
    rw [List.nil_append, ev, bind_ok]
    rfl
  unfold b__law_begun
  rw [q_seq, q_asgN e1, seq_nx, s1, q_seq, q_for, e2, toS_ok, h2, seq_nx, q_ret, e4, toS_ok]
theorem p_begunS {ns : List Int} {d : D} (h : ns.length ≤ 63) (hd : isScr ns d) : ∃ (G : List Int) (a : Int), G.length ≤ 63 ∧ f__law_begun [d] [] = .ok (.obj 0) (mk G a 0 []) := by
  rcases hd with rfl | rfl
  · exact p_begun h
  · exact p_begunL h
structure LS where
  G : List Int
  a : Int
  b : Int
  h : G.length ≤ 63
def mks (s : LS) (X : Store) : Store := mk s.G s.a s.b X
section
variable {s : LS} {n : Int} {Y : Store} {K : D → Store → Prop} {X : String → List String → List D → Store → Prop}
theorem sp_draw (h1 : 1 ≤ n) (h2 : n ≤ 1000000) (k : ∀ v s', 0 ≤ v → v < n → K (.int v) (mks s' Y)) : OnR (f__law_draw [.obj 0, .int n] (mks s Y)) K X := by
  obtain ⟨v, G', a', b', v1, v2, hG, e⟩ := p_draw (a := s.a) (b := s.b) (X := Y) h1 h2 s.h
  exact onR_eq e (k v ⟨G', a', b', hG⟩ v1 v2)
end
end T5.G
local macro_rules | `(tactic| k_caughtC0) => `(tactic| first | with_reducible assumption | exact Nat.le_of_ble_eq_true rfl | with_reducible rfl | omega | (simp only [T5.cap, List.length_map, List.length_append, List.length_cons, List.length_nil, List.length_take, List.length_drop]; omega) | (refine And.intro ?_ ?_ <;> first | omega | decide) | decide)
local macro_rules | `(tactic| k_caughtCB) => `(tactic| first | with_reducible rfl | with_reducible assumption | exact decide_eq_true (by first | with_reducible rfl | with_reducible assumption | omega) | (refine T5.nb_t ?_; tb_rel) | rfl)
local macro_rules | `(tactic| tb_rel) => `(tactic| first | with_reducible rfl | with_reducible assumption | exact decide_eq_false (by first | with_reducible assumption | omega) | (refine T5.nb_f ?_; k_caughtCB) | rfl)
local macro_rules | `(tactic| kts_caughtN) => `(tactic| fail "no rule for this call")
local macro_rules | `(tactic| kts_caught) => `(tactic| first
  | with_reducible refine T5.w_c ?_ | with_reducible refine T5.w_var rfl ?_ | with_reducible refine T5.w_nil ?_ | with_reducible refine T5.w_cons ?_ | with_reducible refine T5.w_bin ?_ | with_reducible refine T5.w_cb ?_ | with_reducible refine T5.w_call ?_
  | with_reducible refine T5.w_bl ?_ | with_reducible refine T5.w_in ?_ | with_reducible refine T5.w_bool ?_ | with_reducible refine T5.w_tru ?_ | with_reducible refine T5.w_tup ?_ | with_reducible refine T5.w_lst ?_ | with_reducible refine T5.w_lstM ?_
  | with_reducible refine T5.w_and ?_ | with_reducible refine T5.w_or ?_ | with_reducible refine T5.w_not ?_ | with_reducible refine T5.w_eif ?_ | with_reducible refine T5.w_neg ?_ | with_reducible refine T5.w_eand ?_ | with_reducible refine T5.w_eor ?_ | with_reducible refine T5.w_enot ?_
  | with_reducible refine T5.w_chain ?_ | with_reducible refine T5.w_oN ?_ | with_reducible refine T5.w_oS ?_ | with_reducible refine T5.w_sl ?_ | with_reducible refine T5.w_mth ?_ | with_reducible refine T5.w_two ?_ | with_reducible refine T5.w_three ?_ | with_reducible refine T5.w_i1 ?_ | with_reducible refine T5.w_i2 ?_
  | with_reducible refine T5.s_seq ?_ | with_reducible refine T5.s_asg ?_ | with_reducible refine T5.s_if ?_ | with_reducible refine T5.s_ret ?_ | with_reducible refine T5.s_pass ?_ | with_reducible refine T5.s_exp ?_ | with_reducible refine T5.s_retN ?_ | with_reducible refine T5.s_asgT ?_ | with_reducible refine T5.s_par2 ?_ | with_reducible refine T5.s_par3 ?_ | with_reducible refine T5.s_for ?_ | with_reducible refine T5.s_brk ?_ | with_reducible refine T5.s_cnt ?_ | with_reducible refine T5.s_aug rfl ?_
  | with_reducible refine T5.seqK_nx ?_ | with_reducible refine T5.seqK_rt ?_ | with_reducible refine T5.seqK_bk ?_ | with_reducible refine T5.seqK_ct ?_ | with_reducible refine T5.seqK_ex ?_ | with_reducible refine T5.end_nx ?_ | with_reducible refine T5.end_rt ?_ | with_reducible refine T5.end_ex ?_
  | with_reducible refine T5.turn_nx ?_ | with_reducible refine T5.turn_ct ?_ | with_reducible refine T5.turn_bk ?_ | with_reducible refine T5.turn_rt ?_ | with_reducible refine T5.turn_ex ?_
  | with_reducible refine T5.tg_n ?_ | with_reducible refine T5.tg_t ?_ | with_reducible refine T5.tgs_n ?_ | with_reducible refine T5.tgs_c ?_ | with_reducible refine T5.seqE_t ?_ | with_reducible refine T5.seqE_l ?_ | with_reducible refine T5.seqE_s ?_ | with_reducible refine T5.i_seq ?_ | with_reducible refine T5.i_en ?_ | with_reducible refine T5.i_rng1 ?_ | with_reducible refine T5.i_rng2 ?_
  | ((with_reducible refine T5.setE_eq (e1 := ?e) ?he ?hk); (case he => (try simp only [T5.wipeD, List.set_cons_succ, List.set_cons_zero]); with_reducible exact rfl))
  | ((with_reducible refine T5.sd_mk ?hs ?hk); (case hs => k_caughtC0))
  | with_reducible refine T5.o_addI ?_ | with_reducible refine T5.o_subI ?_ | with_reducible refine T5.o_lt ?_ | with_reducible refine T5.o_le ?_ | with_reducible refine T5.o_gt ?_ | with_reducible refine T5.o_ge ?_ | with_reducible refine T5.o_eqI ?_ | with_reducible refine T5.o_neI ?_ | with_reducible refine T5.o_max ?_ | with_reducible refine T5.o_min ?_ | with_reducible refine T5.o_int ?_ | with_reducible refine T5.o_lenL ?_ | with_reducible refine T5.o_lenT ?_ | with_reducible refine T5.o_lenS ?_ | with_reducible refine T5.o_div ?_ | with_reducible refine T5.o_mod ?_ | with_reducible refine T5.o_mul ?_ | with_reducible refine T5.o_tuple ?_ | with_reducible refine T5.o_isNon ?_ | with_reducible refine T5.o_isBl ?_ | with_reducible refine T5.o_isnNon ?_ | with_reducible refine T5.o_isnBl ?_ | with_reducible refine T5.o_tbl ?_ | with_reducible refine T5.o_slL ?_ | with_reducible refine T5.o_slT ?_ | with_reducible refine T5.o_addT ?_ | with_reducible refine T5.o_addL ?_ | with_reducible refine T5.o_addI2 ?_
  | ((with_reducible refine T5.o_eqD ?h1 ?h2 ?hk); (case h1 => first | with_reducible assumption | rfl); (case h2 => first | with_reducible assumption | rfl)) | ((with_reducible refine T5.o_neD ?h1 ?h2 ?hk); (case h1 => first | with_reducible assumption | rfl); (case h2 => first | with_reducible assumption | rfl))
  | kts_caughtN
  | ((with_reducible refine T5.onB_t ?hb ?hk); (case hb => k_caughtCB)) | ((with_reducible refine T5.onB_f ?hb ?hk); (case hb => tb_rel)))
local macro_rules | `(tactic| tb_start) => `(tactic| repeat kts_caught)
local macro_rules | `(tactic| top_raiseIn) => `(tactic| first | with_reducible refine T5.onB_dec (fun _ => ?_) (fun _ => ?_) | with_reducible refine T5.onB_not ?_ | with_reducible refine T5.onB_any (fun _ => ?_) (fun _ => ?_))
local macro_rules | `(tactic| top_raiseIn0) => `(tactic| repeat' (first | kts_caught | top_raiseIn))
namespace T5.G
open PySem PySem.Spec PyProof.Rows L2
local macro_rules | `(tactic| kts_caughtN) => `(tactic| first
  | ((with_reducible refine T5.o_isTup (n := ?n) (b := ?b) ?h1 ?hk); (case h1 => with_reducible assumption)) | ((with_reducible refine T5.o_isStr (n := ?n) (b := ?b) ?h1 ?hk); (case h1 => with_reducible assumption))
  | ((with_reducible refine T5.o_isInt (n := ?n) (b := ?b) ?h1 ?hk); (case h1 => with_reducible assumption)) | ((with_reducible refine T5.o_isBool (n := ?n) (b := ?b) ?h1 ?hk); (case h1 => with_reducible assumption))
  | with_reducible refine T5.o_eqS ?_ | with_reducible refine T5.o_neS ?_ | with_reducible refine T5.s_raise ?_
  | with_reducible refine T5.o_ixT0 ?_ | with_reducible refine T5.o_ixT1 ?_ | with_reducible refine T5.o_ixT2 ?_ | with_reducible refine T5.o_ixL0 ?_ | with_reducible refine T5.o_ixL1 ?_ | with_reducible refine T5.o_ixL2 ?_)
/-! ### edits -/
def intB (d : D) (lo hi : Int) : Bool := match d with
  | .int i => decide (lo ≤ i ∧ i ≤ hi)
  | _ => false
def edB : D → Bool
  | .tup [.str s, x, y] => (decide (s = [105, 110]) || decide (s = [111, 117, 116])) && (intB x 0 999 && intB y 1 9)
  | _ => false
section
variable {st : Store} {n b : Nat} {d : D} {K : D → Store → Prop} {X : String → List String → List D → Store → Prop} {lo hi : Int}
theorem sp_isint (h : Rp n b d) (k : K (.bl (intB d lo hi)) st) : OnR (f_is_integer [d, .int lo, .int hi] st) K X := by
  refine f_runK rfl ?_
  show OnQ (b_is_integer [some d, some (.int lo), some (.int hi)] st) _
  unfold b_is_integer
  rcases rp_cases h with rfl | ⟨c, rfl⟩ | ⟨c, rfl⟩ | ⟨c, rfl⟩ | ⟨c, rfl⟩ | ⟨c, rfl⟩ | rfl
  all_goals tb_start
  all_goals try exact k
  refine onB_dec (fun c1 => ?_) (fun c1 => ?_)
  · tb_start
    have : intB (.int c) lo hi = decide (c ≤ hi) := by
      unfold intB
      simp [c1]
    rw [this] at k
    exact k
  · tb_start
    have : intB (.int c) lo hi = false := by
      unfold intB
      simp [c1]
    rw [this] at k
    exact k
local macro_rules | `(tactic| kts_caughtN) => `(tactic| first
  | ((with_reducible refine T5.o_isTup (n := ?n) (b := ?b) ?h1 ?hk); (case h1 => with_reducible assumption)) | ((with_reducible refine T5.o_isStr (n := ?n) (b := ?b) ?h1 ?hk); (case h1 => with_reducible assumption))
  | ((with_reducible refine T5.G.sp_isint (n := ?n) (b := ?b) ?h1 ?hk); (case h1 => with_reducible assumption))
  | with_reducible refine T5.o_neS ?_ | with_reducible refine T5.o_ixT0 ?_ | with_reducible refine T5.o_ixT1 ?_ | with_reducible refine T5.o_ixT2 ?_)
theorem edB_len {l : List D} (h : l.length ≠ 3) : edB (.tup l) = false := by
  unfold edB
  split
  · rename_i e
    cases e
    exact absurd rfl h
  · rfl
theorem three {α : Type} {l : List α} (h : l.length = 3) : ∃ x y z, l = [x, y, z] := by
  match l, h with
  | [x, y, z], _ => exact ⟨x, y, z, rfl⟩
theorem sp_isedit (h : Rp (n + 1) b d) (k : K (.bl (edB d)) st) : OnR (f_is_edit [d] st) K X := by
  refine f_runK rfl ?_
  show OnQ (b_is_edit [some d] st) _
  unfold b_is_edit
  rcases rp_cases h with rfl | ⟨c, rfl⟩ | ⟨c, rfl⟩ | ⟨c, rfl⟩ | ⟨l, rfl⟩ | ⟨c, rfl⟩ | rfl
  all_goals tb_start
  all_goals try exact k
  by_cases hl : l.length = 3
  · obtain ⟨x, y, z, rfl⟩ := three hl
    have hx : Rp n b x := rp_mem h (by simp)
    have hy : Rp n b y := rp_mem h (by simp)
    have hz : Rp n b z := rp_mem h (by simp)
    tb_start
    rcases rp_cases hx with rfl | ⟨c, rfl⟩ | ⟨c, rfl⟩ | ⟨c, rfl⟩ | ⟨c, rfl⟩ | ⟨c, rfl⟩ | rfl
    all_goals tb_start
    all_goals try exact k
    by_cases c1 : c = [105, 110]
    · subst c1
      tb_start
      have e : edB (.tup [.str [105, 110], y, z]) = (intB y 0 999 && intB z 1 9) := by simp [edB]
      rw [e] at k
      cases e1 : intB y 0 999
      · rw [e1] at k
        tb_start
        exact k
      · rw [e1] at k
        tb_start
        exact k
    · by_cases c2 : c = [111, 117, 116]
      · subst c2
        tb_start
        have e : edB (.tup [.str [111, 117, 116], y, z]) = (intB y 0 999 && intB z 1 9) := by simp [edB]
        rw [e] at k
        cases e1 : intB y 0 999
        · rw [e1] at k
          tb_start
          exact k
        · rw [e1] at k
          tb_start
          exact k
      · have e : edB (.tup [.str c, y, z]) = false := by simp [edB, c1, c2]
        rw [e] at k
        tb_start
        exact k
  · have hl' : ¬ (l.length : Int) = 3 := by omega
    tb_start
    rw [edB_len hl] at k
    exact k
end
local macro_rules | `(tactic| kts_caughtN) => `(tactic| first
  | ((with_reducible refine T5.o_isTup (n := ?n) (b := ?b) ?h1 ?hk); (case h1 => with_reducible assumption))
  | ((with_reducible refine T5.G.sp_isedit (n := ?n) (b := ?b) ?h1 ?hk); (case h1 => with_reducible assumption))
  | with_reducible refine T5.s_raise1 ?_ | with_reducible refine T5.w_one ?_ | with_reducible refine T5.o_ixT0 ?_ | with_reducible refine T5.o_ixT1 ?_ | with_reducible refine T5.o_ixT2 ?_)
section
variable {st : Store} {n b : Nat} {d y : D} {K : D → Store → Prop} {X : String → List String → List D → Store → Prop} {Q : SR → Prop} {l : List D}
/-! ### logs -/
/-- the first that is no edit -/
def badAt : List D → Option Nat
  | [] => none
  | x :: l => if edB x = true then (badAt l).map (· + 1) else some 0
/-- place to be told of what is no log -/
def due (d : D) : Option D := match d with
  | .tup l => if 40 < l.length then some .non else (badAt l).map fun i => .int (i : Nat)
  | _ => some .non
end
end T5.G
namespace T5.G
open PySem PySem.Spec PyProof.Rows L2
local macro_rules | `(tactic| kts_caughtN) => `(tactic| first
  | ((with_reducible refine T5.G.sp_isint (n := ?n) (b := ?b) ?h1 ?hk); (case h1 => with_reducible assumption))
  | with_reducible refine T5.o_eqS ?_ | with_reducible refine T5.s_raise1 ?_ | with_reducible refine T5.w_one ?_)
section
variable {st : Store} {n b : Nat} {d y : D} {K : D → Store → Prop} {X : String → List String → List D → Store → Prop} {Q : SR → Prop} {l : List Ed}
/-- the first edit that cannot be done -/
def outAt : List Ed → Int → Option Nat
  | [], _ => none
  | e :: l, n => if n < e.g + (if e.i = true then 0 else e.m) then some 0 else (outAt l (n + if e.i = true then e.m else -e.m)).map (· + 1)
local macro_rules | `(tactic| kts_caughtN) => `(tactic| first
  | ((with_reducible refine T5.G.sp_isint (n := ?n) (b := ?b) ?h1 ?hk); (case h1 => with_reducible assumption))
  | with_reducible refine T5.o_eqS ?_ | with_reducible refine T5.s_raise1 ?_ | with_reducible refine T5.w_one ?_)
end
section
variable {l : List Ed}
end
section
end
end T5.G
namespace T5.G
open PySem PySem.Spec PyProof.Rows L2
/-! ### stores with the law's own lists behind the draws -/
mutual
theorem clD_up {n : Nat} : ∀ {d : D}, clD 0 d = true → clD n d = true
  | .non, _ => rfl
  | .bl _, _ => rfl
  | .int _, _ => rfl
  | .str _, _ => rfl
  | .ty _, _ => rfl
  | .tup l, h => clL_up (l := l) h
  | .lst l, h => clL_up (l := l) h
  | .scr l, h => clL_up (l := l) h
  | .obj j, h => nomatch h
  | .dic _ _ vs, h => clL_up (l := vs) h
  | .ins _ _ vs, h => clL_up (l := vs) h
  | .exc _ _ vs, h => clL_up (l := vs) h
  | .cls _, _ => rfl
  | .fn _ _ _ vs _, h => clL_up (l := vs) h
theorem clL_up {n : Nat} : ∀ {l : List D}, clL 0 l = true → clL n l = true
  | [], _ => rfl
  | d :: ds, h => by
    have h' : clD 0 d = true ∧ clL 0 ds = true := by simpa [clL] using h
    simp [clL, clD_up h'.1, clL_up h'.2]
end
theorem clO_up {n : Nat} {o : Ob} (h : clO 0 o = true) : clO n o = true := by
  cases o with
  | lst l => exact clL_up (l := l) h
  | dic t ks vs => exact clL_up (l := vs) h
  | ins c ks vs => exact clL_up (l := vs) h
  | fdc ks vs => exact clL_up (l := vs) h
/-- no thing behind the draws names another -/
def CY (Y : Store) : Prop := Y.all (clO 0) = true
theorem cl_mks {s : LS} {Y : Store} (h : CY Y) : Cl (mks s Y) := by
  have h3 : ∀ n, Y.all (clO n) = true := fun n => by
    unfold CY at h
    rw [List.all_eq_true] at h ⊢
    exact fun x hx => clO_up (h x hx)
  have e : (mks s Y).length = Y.length + 2 := rfl
  show (mks s Y).all (clO (mks s Y).length) = true
  rw [e]
  show (clO (Y.length + 2) (.dic false kM [.obj 1, .int s.a, .int s.b]) && (clO (Y.length + 2) (.lst (s.G.map .int)) && Y.all (clO (Y.length + 2)))) = true
  rw [h3, show clO (Y.length + 2) (.lst (s.G.map D.int)) = true from cl_ints _ s.G, Bool.and_true, Bool.and_true]
  have : (1 : Nat) < Y.length + 2 := by omega
  simp [clO, clL, clD, this]
theorem getK {s : LS} {Y : Store} {o : Ob} : (mks s (Y ++ [o]))[2 + Y.length]? = some o := by
  show (Ob.dic _ _ _ :: Ob.lst _ :: (Y ++ [o]))[2 + Y.length]? = _
  rw [show 2 + Y.length = Y.length + 1 + 1 by omega, List.getElem?_cons_succ, List.getElem?_cons_succ]
  simp
theorem setK {s : LS} {Y : Store} {o o' : Ob} : (mks s (Y ++ [o])).set (2 + Y.length) o' = mks s (Y ++ [o']) := by
  show (Ob.dic _ _ _ :: Ob.lst _ :: (Y ++ [o])).set (2 + Y.length) _ = _
  rw [show 2 + Y.length = Y.length + 1 + 1 by omega, List.set_cons_succ, List.set_cons_succ, List.set_append_right _ _ (Nat.le_refl _), Nat.sub_self]
  rfl
theorem getK2 {s : LS} {Y : Store} {o p : Ob} : (mks s (Y ++ [o, p]))[2 + Y.length]? = some o := by
  show (Ob.dic _ _ _ :: Ob.lst _ :: (Y ++ [o, p]))[2 + Y.length]? = _
  rw [show 2 + Y.length = Y.length + 1 + 1 by omega, List.getElem?_cons_succ, List.getElem?_cons_succ]
  simp
theorem getK3 {s : LS} {Y : Store} {o p : Ob} : (mks s (Y ++ [o, p]))[3 + Y.length]? = some p := by
  show (Ob.dic _ _ _ :: Ob.lst _ :: (Y ++ [o, p]))[3 + Y.length]? = _
  rw [show 3 + Y.length = Y.length + 1 + 1 + 1 by omega, List.getElem?_cons_succ, List.getElem?_cons_succ]
  simp
theorem setK2 {s : LS} {Y : Store} {o p o' : Ob} : (mks s (Y ++ [o, p])).set (2 + Y.length) o' = mks s (Y ++ [o', p]) := by
  show (Ob.dic _ _ _ :: Ob.lst _ :: (Y ++ [o, p])).set (2 + Y.length) _ = _
  rw [show 2 + Y.length = Y.length + 1 + 1 by omega, List.set_cons_succ, List.set_cons_succ, List.set_append_right _ _ (Nat.le_refl _), Nat.sub_self]
  rfl
theorem setK3 {s : LS} {Y : Store} {o p o' : Ob} : (mks s (Y ++ [o, p])).set (3 + Y.length) o' = mks s (Y ++ [o, o']) := by
  show (Ob.dic _ _ _ :: Ob.lst _ :: (Y ++ [o, p])).set (3 + Y.length) _ = _
  rw [show 3 + Y.length = Y.length + 1 + 1 + 1 by omega, List.set_cons_succ, List.set_cons_succ, List.set_append_right _ _ (by omega), show Y.length + 1 - Y.length = 1 by omega]
  rfl
section
variable {s : LS} {Y : Store} {as : MA} {env : DEnv} {K : D → Store → Prop} {X : String → List String → List D → Store → Prop}
theorem w_lstMk (h : OnR (as env (mks s Y)) (fun ds st1 => ∃ s', st1 = mks s' Y ∧ Sd (ds.length ≤ 1000) (K (.obj (2 + Y.length)) (mks s' (Y ++ [.lst ds])))) X) : OnR (eLstM as env (mks s Y)) K X := by
  refine w_lstM (onR_imp h (fun ds st1 h => ?_) fun _ _ _ _ h => h)
  obtain ⟨s', rfl, h1, h2⟩ := h
  refine ⟨h1, ?_⟩
  have : (mks s' Y).length = 2 + Y.length := by
    show Y.length + 1 + 1 = _
    omega
  rw [this]
  exact h2
theorem w_mksI {P : LS → Prop} (h : P s) : ∃ s', mks s Y = mks s' Y ∧ P s' := ⟨s, rfl, h⟩
theorem o_appK {l : List D} {x : D} {K : D × Store → Prop} (h : Sd (l.length ≤ cap) (K (.non, mks s (Y ++ [.lst (l ++ [x])])))) : OnO (fApp (mks s (Y ++ [.lst l])) (.obj (2 + Y.length)) [x]) K := o_app getK h.1 (setS_eq setK h.2)
theorem o_appK2 {l : List D} {x : D} {o : Ob} {K : D × Store → Prop} (h : Sd (l.length ≤ cap) (K (.non, mks s (Y ++ [.lst (l ++ [x]), o])))) : OnO (fApp (mks s (Y ++ [.lst l, o])) (.obj (2 + Y.length)) [x]) K := o_app getK2 h.1 (setS_eq setK2 h.2)
theorem o_appK3 {l : List D} {x : D} {o : Ob} {K : D × Store → Prop} (h : Sd (l.length ≤ cap) (K (.non, mks s (Y ++ [o, .lst (l ++ [x])])))) : OnO (fApp (mks s (Y ++ [o, .lst l])) (.obj (3 + Y.length)) [x]) K := o_app getK3 h.1 (setS_eq setK3 h.2)
theorem isL {st : Store} {i : Nat} {l : List D} (h : st[i]? = some (.lst l)) : (lstOf st (.obj i)).isSome = true := by
  unfold lstOf
  simp [h]
theorem lst_isK {l : List D} : (lstOf (mks s (Y ++ [.lst l])) (.obj (2 + Y.length))).isSome = true := isL getK
theorem lst_isK2 {l : List D} {o : Ob} : (lstOf (mks s (Y ++ [.lst l, o])) (.obj (2 + Y.length))).isSome = true := isL getK2
theorem lst_isK3 {l : List D} {o : Ob} : (lstOf (mks s (Y ++ [o, .lst l])) (.obj (3 + Y.length))).isSome = true := isL getK3
theorem o_tupleS {st : Store} {i : Nat} {l : List D} {K : D → Prop} (hs : st[i]? = some (.lst l)) (h : K (.tup l)) : OnO (fTuple st [.obj i]) K := by
  refine ⟨_, ?_, h⟩
  unfold fTuple seqOf lstOf
  simp [hs]
theorem o_tupleK {l : List D} {K : D → Prop} (h : K (.tup l)) : OnO (fTuple (mks s (Y ++ [.lst l])) [.obj (2 + Y.length)]) K := o_tupleS getK h
theorem o_tupleK2 {l : List D} {o : Ob} {K : D → Prop} (h : K (.tup l)) : OnO (fTuple (mks s (Y ++ [.lst l, o])) [.obj (2 + Y.length)]) K := o_tupleS getK2 h
theorem o_tupleK3 {l : List D} {o : Ob} {K : D → Prop} (h : K (.tup l)) : OnO (fTuple (mks s (Y ++ [o, .lst l])) [.obj (3 + Y.length)]) K := o_tupleS getK3 h
end
/-! ### what is equal to itself -/
mutual
theorem eqD_refl : ∀ {k : Nat} {d : D}, shD k d = true → eqD d d = true
  | _, .non, _ => rfl
  | _, .bl a, _ => by simp [eqD]
  | _, .int i, _ => by simp [eqD]
  | _, .str s, _ => by simp [eqD]
  | k + 1, .tup l, h => by
    have := eqL_refl (k := k) (l := l) (by simpa [shD] using h)
    simpa [eqD] using this
  | k + 1, .lst l, h => by
    have := eqL_refl (k := k) (l := l) (by simpa [shD] using h)
    simpa [eqD] using this
  | 0, .tup _, h => by simp [shD] at h
  | 0, .lst _, h => by simp [shD] at h
  | 0, .ty _, h => by simp [shD] at h
  | 0, .scr _, h => by simp [shD] at h
  | 0, .obj _, h => by simp [shD] at h
  | 0, .dic _ _ _, h => by simp [shD] at h
  | 0, .ins _ _ _, h => by simp [shD] at h
  | 0, .exc _ _ _, h => by simp [shD] at h
  | 0, .cls _, h => by simp [shD] at h
  | 0, .fn _ _ _ _ _, h => by simp [shD] at h
  | _ + 1, .ty _, h => by simp [shD] at h
  | _ + 1, .scr _, h => by simp [shD] at h
  | _ + 1, .obj _, h => by simp [shD] at h
  | _ + 1, .dic _ _ _, h => by simp [shD] at h
  | _ + 1, .ins _ _ _, h => by simp [shD] at h
  | _ + 1, .exc _ _ _, h => by simp [shD] at h
  | _ + 1, .cls _, h => by simp [shD] at h
  | _ + 1, .fn _ _ _ _ _, h => by simp [shD] at h
theorem eqL_refl : ∀ {k : Nat} {l : List D}, shL k l = true → eqL l l = true
  | _, [], _ => rfl
  | k, d :: ds, h => by
    have h' : shD k d = true ∧ shL k ds = true := by simpa [shL] using h
    simp [eqL, eqD_refl h'.1, eqL_refl h'.2]
end
theorem o_neRf {st : Store} {a : D} {K : D → Prop} (h : shD 64 a = true) (k : K (.bl false)) : OnO (bNe st a a) K := o_neD h h (by rw [eqD_refl h]; exact k)
theorem o_eqRf {st : Store} {a : D} {K : D → Prop} (h : shD 64 a = true) (k : K (.bl true)) : OnO (bEq st a a) K := o_eqD h h (by rw [eqD_refl h]; exact k)
theorem o_lenTm {α : Type} {f : α → D} {l : List α} {st : Store} {K : D → Prop} (k : K (.int (l.length : Int))) : OnO (fLen st [.tup (l.map f)]) K := ⟨_, by show some (D.int ((l.map f).length : Int)) = _; rw [List.length_map], k⟩
theorem o_lenLm {α : Type} {f : α → D} {l : List α} {st : Store} {K : D → Prop} (k : K (.int (l.length : Int))) : OnO (fLen st [.lst (l.map f)]) K := ⟨_, by show some (D.int ((l.map f).length : Int)) = _; rw [List.length_map], k⟩
theorem o_lenLog {l : List Ed} {st : Store} {K : D → Prop} (k : K (.int (l.length : Int))) : OnO (fLen st [dLog l]) K := o_lenTm k
/-! ### the law's beginning -/
theorem law_of {ns : List Int} {d : D} {N : Nat} {rest : MS} {f : MF} (hl : ns.length ≤ 63) (hd : isScr ns d) (hf : f = runF (N + 2) 1 (sSeq (sAsg (eCall f__law_begun (aCons (eVar 0) aNil)) (gN 1)) rest)) (go : ∀ s : LS, OnQ (rest (some d :: some (.obj 0) :: List.replicate N none) (mks s [])) (EndK (fun x _ => x = .bl true) fun _ _ _ _ => False)) : ∃ st', f [d] [] = .ok (.bl true) st' := by
  obtain ⟨G, a, hG, e⟩ := p_begunS hl hd
  have go2 : OnR (f [d] []) (fun x _ => x = .bl true) fun _ _ _ _ => False := by
    subst hf
    refine f_runK rfl ?_
    refine s_seq (s_asg (w_call (w_cons (w_var (d := d) rfl (w_nil (onR_eq e (setE_eq (e1 := some d :: some (.obj 0) :: List.replicate N none) ?_ (seqK_nx (go ⟨G, a, 0, hG⟩)))))))))
    show List.set (some d :: List.replicate (N + 1) none) 1 _ = _
    rw [List.replicate_succ]
    rfl
  revert go2
  generalize f [d] [] = r
  intro go
  cases r with
  | ok x s => exact ⟨s, by rw [show x = .bl true from go]⟩
  | ex => exact go.elim
  | bad => exact go.elim
/-! ### draws told forwards -/
theorem o_ixAny {st : Store} {l : List D} {v : Int} {K : D → Prop} (h0 : 0 ≤ v) (h1 : v < (l.length : Int)) (k : ∀ d ∈ l, K d) : OnO (bIx st (.lst l) (.int v)) K := by
  obtain ⟨j, rfl⟩ := Int.eq_ofNat_of_zero_le h0
  have hj : j < l.length := by omega
  exact o_ixL (d := l[j]) (List.getElem?_eq_getElem hj) (k _ (List.getElem_mem hj))
theorem o_ixT139 {st : Store} {v : Int} {K : D → Prop} (h0 : 0 ≤ v) (h1 : v < 3) (k : ∀ m : Int, 1 ≤ m → m ≤ 9 → K (.int m)) : OnO (bIx st (.lst [.int 1, .int 3, .int 9]) (.int v)) K := o_ixAny h0 h1 fun d hd => by
  simp only [List.mem_cons, List.not_mem_nil, or_false] at hd
  rcases hd with rfl | rfl | rfl
  · exact k 1 (by decide) (by decide)
  · exact k 3 (by decide) (by decide)
  · exact k 9 (by decide) (by decide)
local macro_rules | `(tactic| kts_caughtN) => `(tactic| first
  | ((with_reducible refine T5.G.sp_draw ?h1 ?h2 ?hk); (case h1 => k_caughtC0); (case h2 => k_caughtC0))
  | ((with_reducible refine T5.G.o_ixT139 ?h1 ?h2 ?hk); (case h1 => k_caughtC0); (case h2 => k_caughtC0))
  | with_reducible refine T5.o_eqS ?_ | with_reducible refine T5.G.o_appK ?_)
local macro_rules | `(tactic| k_caughtC0) => `(tactic| first | with_reducible assumption | exact Nat.le_of_ble_eq_true rfl | with_reducible rfl | omega | with_reducible exact T5.G.lst_isK | (simp only [T5.cap, List.length_map, List.length_append, List.length_cons, List.length_nil, List.length_take, List.length_drop]; omega) | (refine And.intro ?_ ?_ <;> first | omega | decide) | decide)
section
variable {Y : Store} {K : D → Store → Prop} {X : String → List String → List D → Store → Prop} {Q : SR → Prop} {n many : Int}
end
end T5.G
namespace T5.G
open PySem PySem.Spec PyProof.Rows L2
def OkL (l : List Ed) : Prop := l.length ≤ 40 ∧ ∀ e ∈ l, e.ok
/-- how much comes and goes -/
def smM : List Ed → Nat
  | [] => 0
  | e :: l => e.m.toNat + smM l
theorem smM_le : ∀ {l : List Ed}, (∀ e ∈ l, e.ok) → smM l ≤ 9 * l.length
  | [], _ => Nat.le_refl _
  | e :: l, h => by
    have a := h e (List.mem_cons_self ..)
    have b := smM_le (l := l) fun x hx => h x (List.mem_cons_of_mem _ hx)
    have c := a.2.2
    show e.m.toNat + smM l ≤ 9 * (l.length + 1)
    omega
/-- a log of any length that is not great -/
def OkG (n : Nat) (l : List Ed) : Prop := (∀ e ∈ l, e.ok) ∧ n + smM l ≤ 880
theorem OkL.g {n : Nat} {l : List Ed} (h : OkL l) (hn : n ≤ 100) : OkG n l := ⟨h.2, by have a := smM_le h.2; have b := h.1; omega⟩
def Same (a b : List Ed) (n : Int) : Prop := ∀ (x : Int) (lf : Bool), 0 ≤ x → x ≤ n → car a x lf = car b x lf
/-! ### logs that do the same -/
def Alike (l l' : List Ed) : Prop := (∀ x lf, car l x lf = car l' x lf) ∧ ∀ n, grow l n = grow l' n
theorem Alike.refl {l : List Ed} : Alike l l := ⟨fun _ _ => rfl, fun _ => rfl⟩
theorem Alike.trans {a b c : List Ed} (h : Alike a b) (h' : Alike b c) : Alike a c := ⟨fun x lf => (h.1 x lf).trans (h'.1 x lf), fun n => (h.2 n).trans (h'.2 n)⟩
end T5.G
namespace T5.G
open PySem PySem.Spec PyProof.Rows L2
section
abbrev Rw := List (List Int) × List (List Int)
structure Row where
  a : List Int
  b : List Int
def Row.d (r : Row) : D := .lst [.lst (r.a.map .int), .lst (r.b.map .int)]
/-- the rows say where each of the gaps 0 .. n stands -/
def Says (n : Nat) (rows : List Row) (L R : Nat → Int) : Prop :=
  (∀ (p : Nat) (r : Row), rows[p]? = some r → (∀ x ∈ r.a, ∃ g : Nat, g ≤ n ∧ x = (g : Int) ∧ L g = (p : Int)) ∧ (∀ x ∈ r.b, ∃ g : Nat, g ≤ n ∧ x = (g : Int) ∧ R g = (p : Int))) ∧
  (∀ g : Nat, g ≤ n → (∃ (p : Nat) (r : Row), rows[p]? = some r ∧ L g = (p : Int) ∧ (g : Int) ∈ r.a) ∧ ∃ (p : Nat) (r : Row), rows[p]? = some r ∧ R g = (p : Int) ∧ (g : Int) ∈ r.b)
/-- signs come in at a place -/
def rowsIn (rows : List Row) (at_ m : Nat) (r : Row) : List Row := rows.take at_ ++ ([⟨r.a, []⟩] ++ (List.replicate (m - 1) ⟨[], []⟩ ++ ([⟨[], r.b⟩] ++ rows.drop (at_ + 1))))
/-- signs go at a place -/
def rowsOut (rows : List Row) (at_ m : Nat) : List Row := rows.take at_ ++ ([⟨((rows.drop at_).take (m + 1)).flatMap Row.a, ((rows.drop at_).take (m + 1)).flatMap Row.b⟩] ++ rows.drop (at_ + m + 1))
end
section
end
section
variable {st : Store}
def rowsD (rows : List Row) : D := .lst (rows.map Row.d)
abbrev eRw (n : Int) (l : D) (rows : List Row) (d3 : Option D) (e4 e5 e6 : Option D) (d7 d8 d9 d10 d11 : Option D) : DEnv := [some (.int n), some l, some (rowsD rows), d3, e4, e5, e6, d7, d8, d9, d10, d11]
abbrev mBare : ME := eLc (iRng1 (aCons (eBin bSub (eVar 6) (eC (.int 1))) aNil)) (gN 8) cYes (eLst (aCons (eLst aNil) (aCons (eLst aNil) aNil))) [8]
abbrev mIn : ME := eBin bAdd (eBin bAdd (eBin bAdd (eBin bAdd (eSl (eVar 2) oNone (oSome (eVar 5))) (eLst (aCons (eLst (aCons (eBin bIx (eBin bIx (eVar 2) (eVar 5)) (eC (.int 0))) (aCons (eLst aNil) aNil))) aNil))) (eVar 7)) (eLst (aCons (eLst (aCons (eLst aNil) (aCons (eBin bIx (eBin bIx (eVar 2) (eVar 5)) (eC (.int 1))) aNil))) aNil))) (eSl (eVar 2) (oSome (eBin bAdd (eVar 5) (eC (.int 1)))) oNone)
end
section
variable {st : Store}
abbrev bMrg : MS := sPar2 9 10 (aCons (eBin bAdd (eVar 9) (eBin bIx (eVar 11) (eC (.int 0)))) (aCons (eBin bAdd (eVar 10) (eBin bIx (eVar 11) (eC (.int 1)))) aNil))
abbrev eMg (v : List (Option D)) (a b : List Int) (d11 : Option D) : DEnv := v ++ [some (.lst (a.map .int)), some (.lst (b.map .int)), d11]
abbrev mOut : ME := eBin bAdd (eBin bAdd (eSl (eVar 2) oNone (oSome (eVar 5))) (eLst (aCons (eLst (aCons (eVar 9) (aCons (eVar 10) aNil))) aNil))) (eSl (eVar 2) (oSome (eBin bAdd (eBin bAdd (eVar 5) (eVar 6)) (eC (.int 1)))) oNone)
abbrev mMid : ME := eSl (eVar 2) (oSome (eVar 5)) (oSome (eBin bAdd (eBin bAdd (eVar 5) (eVar 6)) (eC (.int 1))))
section
variable {env : DEnv} {rows : List Row} {at_ m : Nat} (h2 : env[2]? = some (some (.lst (rows.map Row.d)))) (h5 : env[5]? = some (some (.int (at_ : Int)))) (h6 : env[6]? = some (some (.int (m : Int)))) (hl : at_ + m < rows.length)
include h2 h5 h6 hl
end
abbrev bRow : MS := sIf (cBool (eBin bEq (eVar 4) (eC (.str [105, 110])))) (sSeq (sAsg mBare (gN 7)) (sAsg mIn (gN 2)))
  (sSeq (sPar2 9 10 (aCons (eLst aNil) (aCons (eLst aNil) aNil))) (sSeq (sFor (iSeq mMid) (gN 11) bMrg) (sAsg mOut (gN 2))))
end
section
variable {st : Store}
def Tot (n : Nat) (rows : List Row) : Prop := (rows.flatMap Row.a).length ≤ n + 1 ∧ (rows.flatMap Row.b).length ≤ n + 1
end
section
variable {st : Store}
end
end T5.G
namespace T5.G
open PySem PySem.Spec PyProof.Rows L2
variable {st : Store}
def dRow (l : List Int) : D := .tup (l.map .int)
def rowOf (l : List Ed) (n : Nat) (lf : Bool) : List Int := (List.range (n + 1)).map fun (i : Nat) => car l (i : Int) lf
section
variable {st : Store}
/-! ### a dict of ints -/
structure DI (ks vs : List D) : Prop where
  isI : ∀ k ∈ ks, ∃ i : Int, k = .int i
  len : ks.length = vs.length
end
section
/-- the store of _law_chart: two dicts behind what stood -/
abbrev stD (st : Store) (ks vs ks' vs' : List D) : Store := st ++ [.dic false ks vs, .dic false ks' vs']
variable {st : Store} {ks vs ks' vs' : List D}
abbrev eCt (st : Store) (n lD rD p row : D) (d7 d8 : Option D) : DEnv := [some n, some lD, some rD, some (.obj st.length), some (.obj (st.length + 1)), some p, some row, d7, d8]
end
section
variable {st : Store}
abbrev bCt : MS := sSeq (sFor (iSeq (eBin bIx (eVar 6) (eC (.int 0)))) (gN 7) (sSet (eVar 5) (eVar 3) (eVar 7))) (sFor (iSeq (eBin bIx (eVar 6) (eC (.int 1)))) (gN 7) (sSet (eVar 5) (eVar 4) (eVar 7)))
/-- the places found so far agree with v at x -/
def Holds1 (f : Row → List Int) (rs : List Row) (k : Nat) (ks vs k2 v2 : List D) : Prop := ∀ x v : Int, (∀ (i : Nat) (r : Row), rs[i]? = some r → x ∈ f r → ((k + i : Nat) : Int) = v) →
  (lookD false (.int x) ks vs = some (.int v) ∨ ∃ (i : Nat) (r : Row), rs[i]? = some r ∧ x ∈ f r) → lookD false (.int x) k2 v2 = some (.int v)
end
section
variable {st : Store}
def dOwn (l : List Ed) (n : Nat) : D := .tup [.int (grow l n), dRow (rowOf l n true), dRow (rowOf l n false)]
end
section
variable {K : D → Store → Prop} {X : String → List String → List D → Store → Prop}
end
end T5.G
namespace T5.G
open PySem PySem.Spec PyProof.Rows L2
def chk : Nat → D → Bool
  | 0, _ => false
  | n + 1, d => match d with
    | .non => true
    | .bl _ => true
    | .int i => decide (-10 ^ 30 < i ∧ i < 10 ^ 30)
    | .str s => okS s && decide (s.length ≤ 8)
    | .tup l => l.all (chk n) && decide (l.length ≤ 4)
    | .lst l => l.all (chk n) && decide (l.length ≤ 4)
    | .dic false [] [] => true
    | _ => false
def bnd : Nat → Nat
  | 0 => 8
  | n + 1 => 4 * (bnd n + 1)
theorem o_list {st : Store} {l : List D} {K : D → Prop} (k : K (.lst l)) : OnO (fList st [.tup l]) K := ⟨_, rfl, k⟩
theorem o_pow29 {st : Store} {K : D → Prop} (k : K (.int (10 ^ 29))) : OnO (bPow st (.int 10) (.int 29)) K := by
  refine ⟨_, ?_, k⟩
  show (if CPow 10 29 then some (D.int (10 ^ (29 : Int).toNat)) else none) = _
  rw [if_pos (by unfold CPow; decide)]
  rfl
local macro_rules | `(tactic| kts_caughtN) => `(tactic| first
  | with_reducible refine T5.o_ixT0 ?_ | with_reducible refine T5.o_ixT1 ?_ | with_reducible refine T5.o_ixT2 ?_)
section
variable {st : Store} {n b : Nat} {d y : D} {K : D → Store → Prop} {X : String → List String → List D → Store → Prop} {Q : SR → Prop} {l : List D}
def thr : D → Int
  | .tup [_, _, .int j] => j
  | _ => 0
end
end T5.G
namespace T5.G
open PySem PySem.Spec PyProof.Rows L2
local macro_rules | `(tactic| kts_caughtN) => `(tactic| first
  | ((with_reducible refine T5.o_isTup (n := ?n) (b := ?b) ?h1 ?hk); (case h1 => with_reducible assumption)) | ((with_reducible refine T5.o_isStr (n := ?n) (b := ?b) ?h1 ?hk); (case h1 => with_reducible assumption))
  | ((with_reducible refine T5.G.sp_isint (n := ?n) (b := ?b) ?h1 ?hk); (case h1 => with_reducible assumption))
  | with_reducible refine T5.o_eqS ?_ | with_reducible refine T5.o_neS ?_ | with_reducible refine T5.s_raise1 ?_ | with_reducible refine T5.w_one ?_ | with_reducible refine T5.o_ixT0 ?_ | with_reducible refine T5.o_ixT1 ?_ | with_reducible refine T5.o_ixT2 ?_)
/-! ### marks -/
def markB (n : Int) : D → Bool
  | .tup [x, .str s] => intB x 0 n && (decide (s = [108, 101, 102, 116]) || decide (s = [114, 105, 103, 104, 116]))
  | _ => false
section
variable {st : Store} {n b : Nat} {d : D} {K : D → Store → Prop} {X : String → List String → List D → Store → Prop} {m : Int}
end
section
variable {st : Store} {l : List Ed} {K : D → Prop}
end
section
variable {st : Store} {l : List Ed} {K : D → Store → Prop} {X : String → List String → List D → Store → Prop} {n : Int} {k b : Nat} {x d : D}
end
end T5.G
namespace T5.G
open PySem PySem.Spec PyProof.Rows L2
local macro_rules | `(tactic| kts_caughtN) => `(tactic| first
  | ((with_reducible refine T5.G.sp_draw ?h1 ?h2 ?hk); (case h1 => k_caughtC0); (case h2 => k_caughtC0))
  | ((with_reducible refine T5.o_repr (b := ?b) ?h1 ?h2 ?hk); (case h1 => with_reducible assumption); (case h2 => decide))
  | ((with_reducible refine T5.o_isLst (n := ?n) (b := ?b) ?h1 ?hk); (case h1 => with_reducible assumption))
  | ((with_reducible refine T5.o_isTup (n := ?n) (b := ?b) ?h1 ?hk); (case h1 => with_reducible assumption)) | ((with_reducible refine T5.o_isStr (n := ?n) (b := ?b) ?h1 ?hk); (case h1 => with_reducible assumption))
  | ((with_reducible refine T5.o_isInt (n := ?n) (b := ?b) ?h1 ?hk); (case h1 => with_reducible assumption)) | ((with_reducible refine T5.o_isBool (n := ?n) (b := ?b) ?h1 ?hk); (case h1 => with_reducible assumption))
  | with_reducible refine T5.o_eqS ?_ | with_reducible refine T5.o_neS ?_ | with_reducible refine T5.G.o_appK ?_ | with_reducible refine T5.G.o_tupleK ?_ | with_reducible refine T5.G.o_appK2 ?_ | with_reducible refine T5.G.o_tupleK2 ?_ | with_reducible refine T5.G.o_appK3 ?_ | with_reducible refine T5.G.o_tupleK3 ?_ | with_reducible refine T5.G.o_pow29 ?_ | with_reducible refine T5.G.o_list ?_ | with_reducible refine T5.s_raise1 ?_ | with_reducible refine T5.w_one ?_
  | with_reducible refine T5.o_ixT0 ?_ | with_reducible refine T5.o_ixT1 ?_ | with_reducible refine T5.o_ixT2 ?_ | with_reducible refine T5.o_ixL0 ?_ | with_reducible refine T5.o_ixL1 ?_ | with_reducible refine T5.o_ixL2 ?_)
local macro_rules | `(tactic| k_caughtC0) => `(tactic| first | with_reducible assumption | exact Nat.le_of_ble_eq_true rfl | with_reducible rfl | omega | with_reducible exact T5.G.lst_isK | with_reducible exact T5.G.lst_isK2 | with_reducible exact T5.G.lst_isK3 | (simp only [T5.cap, List.length_map, List.length_append, List.length_cons, List.length_nil, List.length_take, List.length_drop]; omega) | (refine And.intro ?_ ?_ <;> first | omega | decide) | decide)
local macro_rules | `(tactic| kts_caught) => `(tactic| first | with_reducible refine T5.o_eqI ?_ | with_reducible refine T5.o_neI ?_ | ((with_reducible refine T5.G.o_neRf ?h1 ?hk); (case h1 => first | with_reducible assumption | rfl)) | ((with_reducible refine T5.G.o_eqRf ?h1 ?hk); (case h1 => first | with_reducible assumption | rfl)) | with_reducible refine T5.G.o_lenTm ?_ | with_reducible refine T5.G.o_lenLm ?_ | with_reducible refine T5.G.o_lenLog ?_ | with_reducible refine T5.G.w_lstMk ?_ | with_reducible refine T5.G.w_mksI ?_)
section
variable {st : Store}
/-- a chart's rows as Chart wants them -/
structure RowsOk (m : Int) (Ls Rs : List Int) : Prop where
  m0 : 0 ≤ m
  m1 : m ≤ 500
  len : Ls.length = Rs.length
  l1 : 1 ≤ Ls.length
  l2 : Ls.length ≤ 101
  first : Ls[0]? = some 0
  at_ : ∀ i, i < Ls.length → ∃ a b, Ls[i]? = some a ∧ Rs[i]? = some b ∧ a ≤ b ∧ (0 < i → ∃ a' b', Ls[i-1]? = some a' ∧ Rs[i-1]? = some b' ∧ a' ≤ a ∧ b' ≤ b ∧ a ≤ b' + 1) ∧ (i + 1 < Ls.length ∨ b = m)
def chK : List String := ["own_many", "own_lefts", "own_rights", "own_signs"]
def chV (m : Int) (Ls Rs : List Int) : List D := [.int m, dRow Ls, dRow Rs, .tup (cutD (Ls.map D.int) (some 1) none)]
def dChart (m : Int) (Ls Rs : List Int) : D := .ins "Chart" chK (chV m Ls Rs)
end
/-! ### rows of numbers -/
def rg (l : List Int) (x : Int) : Int := l.getD x.toNat 0
theorem o_ixRow {st : Store} {l : List Int} {x : Int} {K : D → Prop} (h0 : 0 ≤ x) (h1 : x < l.length) (k : K (.int (rg l x))) : OnO (bIx st (dRow l) (.int x)) K := by
  obtain ⟨j, rfl⟩ := Int.eq_ofNat_of_zero_le h0
  unfold dRow
  have hj : j < l.length := by omega
  have e : (l.map D.int)[j]? = some (.int (rg l (j : Int))) := by
    rw [List.getElem?_map]
    show Option.map D.int l[j]? = some (.int (l.getD j 0))
    rw [List.getD_eq_getElem?_getD, List.getElem?_eq_getElem hj]
    rfl
  with_reducible exact o_ixT e k
theorem o_lenRow {st : Store} {l : List Int} {K : D → Prop} (k : K (.int (l.length : Int))) : OnO (fLen st [dRow l]) K := o_lenTm k
theorem k_of {b c : Bool} {st : Store} {K : D → Store → Prop} (k : K (.bl b) st) (e : b = c) : K (.bl c) st := e ▸ k
def isI : D → Bool
  | .int _ => true
  | _ => false
def rowB : D → Bool
  | .tup l => decide (1 ≤ l.length ∧ l.length ≤ 101) && l.all isI
  | _ => false
theorem o_allB {α : Type} {f : α → Bool} {l : List α} {st : Store} {K : D → Prop} (k : K (.bl (l.all f))) : OnO (fAll st [.lst (l.map fun x => D.bl (f x))]) K := by
  refine ⟨_, ?_, k⟩
  unfold fAll
  show Option.map _ (blsD (l.map fun x => D.bl (f x))) = _
  rw [blsD_map]
  simp
section
variable {st : Store} {n b : Nat} {d : D} {K : D → Store → Prop} {X : String → List String → List D → Store → Prop} {m x : Int} {Ls Rs : List Int} {Q : SR → Prop}
local macro_rules | `(tactic| kts_caught) => `(tactic| with_reducible refine T5.stp (p := OnQ (T5.G.z_is_row_0 _ _) _) ?_)
theorem sp_isrow (h : Rp (n + 1) b d) (k : K (.bl (rowB d)) st) : OnR (f_is_row [d] st) K X := by
  refine f_runK rfl ?_
  show OnQ (b_is_row [some d, none] st) _
  unfold b_is_row
  rcases rp_cases h with rfl | ⟨c, rfl⟩ | ⟨c, rfl⟩ | ⟨c, rfl⟩ | ⟨l, rfl⟩ | ⟨c, rfl⟩ | rfl
  all_goals tb_start
  all_goals try exact k
  have fin : (1 ≤ (l.length : Int) ∧ (l.length : Int) ≤ 101) → OnQ (z_is_row_0 [some (.tup l), none] st) (EndK K X) := fun hl => by
    have e := lc_mapP (enc := id) (env := wipeD [some (.tup l), none] [1]) (st := st) (g := gN 1) (ct := cYes) (me := (eAnd (eCB fIsi (aCons (eVar 1) (aCons (eC (.ty "int")) aNil))) (eNot (eCB fIsi (aCons (eVar 1) (aCons (eC (.ty "bool")) aNil)))))) (fun _ => true) (fun x => D.bl (isI x)) (xs := l) (acc := []) (fun y hy => by
      have hr : Rp n b y := rp_mem h hy
      refine tg_n (setE_eq rfl (w_yes ⟨rfl, rfl, fun _ => ?_⟩))
      rcases rp_cases hr with rfl | ⟨c, rfl⟩ | ⟨c, rfl⟩ | ⟨c, rfl⟩ | ⟨l, rfl⟩ | ⟨c, rfl⟩ | rfl
      all_goals (simp only [wipeD, id, List.set_cons_succ, List.set_cons_zero]; tb_start; exact ⟨rfl, rfl⟩)) (by simp [cap]; omega)
    rw [List.map_id, List.filter_eq_self.mpr (fun _ _ => rfl), List.nil_append] at e
    refine s_ret ?_
    tb_start
    refine w_lc ?_
    tb_start
    refine ⟨_, _, e, ?_⟩
    tb_start
    refine o_allB ?_
    tb_start
    refine k_of k ?_
    show (decide (1 ≤ l.length ∧ l.length ≤ 101) && l.all isI) = _
    rw [decide_eq_true (by omega), Bool.true_and]
  refine onB_dec (fun z => ?_) fun z => ?_
  · tb_start
    refine onB_not (onB_dec (fun z2 => ?_) fun z2 => ?_)
    · tb_start
      exact fin ⟨by omega, by omega⟩
    · tb_start
      refine k_of k ?_
      show (decide (1 ≤ l.length ∧ l.length ≤ 101) && l.all isI) = _
      rw [decide_eq_false (by omega), Bool.false_and]
  · tb_start
    refine k_of k ?_
    show (decide (1 ≤ l.length ∧ l.length ≤ 101) && l.all isI) = _
    rw [decide_eq_false (by omega), Bool.false_and]
local macro_rules | `(tactic| kts_caughtN) => `(tactic| first
  | ((with_reducible refine T5.G.o_ixRow ?h0 ?h1 ?hk); (case h0 => k_caughtC0); (case h1 => k_caughtC0)) | with_reducible refine T5.G.o_lenRow ?_ | with_reducible refine T5.s_raise1 ?_ | with_reducible refine T5.w_one ?_)
/-- all that a chart keeps at a gap -/
def gapOk (m : Int) (Ls Rs : List Int) (x : Int) : Bool :=
  !(decide (rg Rs x < rg Ls x) || (decide (x = 0) && !decide (rg Ls 0 = 0))) && !(decide (0 < x) && (decide (rg Ls x < rg Ls (x - 1)) || decide (rg Rs x < rg Rs (x - 1)))) && !(decide (0 < x) && decide (rg Rs (x - 1) + 1 < rg Ls x)) && (decide (x < (Ls.length : Int) - 1) || decide (rg Rs x = m))
theorem sp_gapright (h0 : 0 ≤ x) (h1 : x < Ls.length) (hl : Ls.length = Rs.length) (k : K (.bl (gapOk m Ls Rs x)) st) : OnR (f_is_gap_right [.int m, dRow Ls, dRow Rs, .int x] st) K X := by
  have h2 : x < Rs.length := by omega
  refine f_runK rfl ?_
  show OnQ (b_is_gap_right [some (.int m), some (dRow Ls), some (dRow Rs), some (.int x)] st) _
  unfold b_is_gap_right
  by_cases hx : x = 0
  · subst hx
    top_raiseIn0
    all_goals (refine k_of k ?_; clear hl h2 k; simp only [gapOk, *, Int.lt_irrefl, decide_true, decide_false, Bool.not_true, Bool.not_false, Bool.true_and, Bool.false_and, Bool.and_true, Bool.and_false, Bool.or_false, Bool.false_or, Bool.true_or, Bool.or_true])
    all_goals simp_all
    all_goals omega
  · have h3 : 0 < x := by omega
    top_raiseIn0
    all_goals (refine k_of k ?_; clear hl h2 k; simp only [gapOk, *, Int.lt_irrefl, decide_true, decide_false, Bool.not_true, Bool.not_false, Bool.true_and, Bool.false_and, Bool.and_true, Bool.and_false, Bool.or_false, Bool.false_or, Bool.true_or, Bool.or_true])
/-! ### charts made -/
theorem RowsOk.gaps (h : RowsOk m Ls Rs) : ∀ i : Nat, i < Ls.length → gapOk m Ls Rs i = true := fun i hi => by
  obtain ⟨a, b, e1, e2, hab, hp, hm⟩ := h.at_ i hi
  have g1 : rg Ls i = a := by
    show Ls.getD i 0 = a
    rw [List.getD_eq_getElem?_getD, e1]; rfl
  have g2 : rg Rs i = b := by
    show Rs.getD i 0 = b
    rw [List.getD_eq_getElem?_getD, e2]; rfl
  have g0 : rg Ls 0 = 0 := by
    show Ls.getD 0 0 = 0
    rw [List.getD_eq_getElem?_getD, h.first]; rfl
  unfold gapOk
  rw [g1, g2, g0]
  by_cases z : i = 0
  · subst z
    have : b = m ∨ (0 : Int) < (Ls.length : Int) - 1 := by omega
    have e1 : a = 0 := by rw [← g1, ← g0]; rfl
    rcases this with e | e <;> simp [e1] <;> omega
  · obtain ⟨a', b', e3, e4, h3, h4, h5⟩ := hp (by omega)
    have g3 : rg Ls ((i : Int) - 1) = a' := by
      show Ls.getD ((i : Int) - 1).toNat 0 = a'
      rw [show ((i : Int) - 1).toNat = i - 1 by omega, List.getD_eq_getElem?_getD, e3]; rfl
    have g4 : rg Rs ((i : Int) - 1) = b' := by
      show Rs.getD ((i : Int) - 1).toNat 0 = b'
      rw [show ((i : Int) - 1).toNat = i - 1 by omega, List.getD_eq_getElem?_getD, e4]; rfl
    rw [g3, g4]
    simp only [Bool.and_eq_true, Bool.not_eq_true', Bool.or_eq_false_iff, Bool.and_eq_false_iff, Bool.or_eq_true, decide_eq_true_eq, decide_eq_false_iff_not]
    refine ⟨⟨⟨⟨by omega, .inl (by omega)⟩, .inr ⟨by omega, by omega⟩⟩, .inr (by omega)⟩, by omega⟩
theorem l_upToE {g : MG0} {b : MS} {env : DEnv} {st : Store} {k : Nat} (I : Nat → DEnv → Store → Prop) (h : I 0 env st) (hb : ∀ i : Nat, i < k → ∀ env st, I i env st → TgE g (.int (i : Int)) env fun e => OnQ (b e st) (TurnK (I (i + 1)) Q)) (f : ∀ env st, I k env st → Q (.nx env st)) : OnQ (loopS g b (upTo 0 k) env st) Q := by
  refine l_num I (k := 0) h (fun i d env st hi hI => ?_) fun env st h => f env st (by rw [Nat.zero_add] at h; unfold upTo at h; rw [List.length_map, List.length_range] at h; exact h)
  unfold upTo at hi
  rw [List.getElem?_map] at hi
  obtain ⟨j, hj, rfl⟩ := Option.map_eq_some_iff.mp hi
  obtain ⟨h1, h2⟩ := List.getElem?_eq_some_iff.mp hj
  simp at h1 h2
  subst h2
  rw [Nat.zero_add] at hI ⊢
  have := hb i h1 env st hI
  rw [show (0 : Int) + (i : Int) = i by omega]
  exact this
theorem s_fld {c f : String} {mo mv : ME} {env : DEnv} (h : OnR (mv env st) (fun v st1 => OnR (mo env st1) (fun d st2 => ∃ n ks ds, d = .obj n ∧ st2[n]? = some (.ins c ks ds) ∧ ks.length ≤ 100 ∧ Q (.nx env (st2.set n (.ins c (putFd f v ks ds).1 (putFd f v ks ds).2)))) (fun c ks vs st2 => Q (.ex c ks vs env st2))) (fun c ks vs st1 => Q (.ex c ks vs env st1))) : OnQ (sFldD c f mo mv env st) Q := by
  unfold sFldD
  refine onR_toS (onR_imp h (fun v st1 h => ?_) fun _ _ _ _ h => h)
  refine onR_toS (onR_imp h (fun d st2 h => ?_) fun _ _ _ _ h => h)
  obtain ⟨n, ks, ds, rfl, e, hl, q⟩ := h
  simp only [e, true_and, if_pos hl]
  exact q
/-- what Chart says of three things: None of a chart, else the place -/
def chBad (c l r : D) : Prop := intB c 0 500 = false ∨ rowB l = false ∨ rowB r = false ∨ ∃ a b, l = .tup a ∧ r = .tup b ∧ a.length ≠ b.length
theorem rowB_ints {d : D} (h : rowB d = true) : ∃ l : List Int, d = dRow l ∧ 1 ≤ l.length ∧ l.length ≤ 101 := by
  unfold rowB at h
  split at h
  · rename_i l
    rw [Bool.and_eq_true, decide_eq_true_eq] at h
    obtain ⟨⟨h1, h2⟩, h3⟩ := h
    have go : ∀ l : List D, l.all isI = true → ∃ z : List Int, l = z.map D.int := fun l => by
      induction l with
      | nil => intro _; exact ⟨[], rfl⟩
      | cons x l ih =>
        intro h
        rw [List.all_cons, Bool.and_eq_true] at h
        obtain ⟨z, rfl⟩ := ih h.2
        cases x with
        | int i => exact ⟨i :: z, rfl⟩
        | _ => cases h.1
    obtain ⟨z, rfl⟩ := go l h3
    rw [List.length_map] at h1 h2
    exact ⟨z, rfl, h1, h2⟩
  · cases h
theorem intB_int {d : D} {lo hi : Int} (h : intB d lo hi = true) : ∃ i, d = .int i ∧ lo ≤ i ∧ i ≤ hi := by
  cases d with
  | int i => simp only [intB, decide_eq_true_eq] at h; exact ⟨i, rfl, h⟩
  | _ => cases h
end
end T5.G
namespace T5.G
open PySem PySem.Spec PyProof.Rows L2
local macro_rules | `(tactic| kts_caughtN) => `(tactic| first
  | ((with_reducible refine T5.G.sp_draw ?h1 ?h2 ?hk); (case h1 => k_caughtC0); (case h2 => k_caughtC0))
  | ((with_reducible refine T5.o_repr (b := ?b) ?h1 ?h2 ?hk); (case h1 => with_reducible assumption); (case h2 => decide))
  | ((with_reducible refine T5.o_isLst (n := ?n) (b := ?b) ?h1 ?hk); (case h1 => with_reducible assumption))
  | ((with_reducible refine T5.o_isTup (n := ?n) (b := ?b) ?h1 ?hk); (case h1 => with_reducible assumption)) | ((with_reducible refine T5.o_isStr (n := ?n) (b := ?b) ?h1 ?hk); (case h1 => with_reducible assumption))
  | ((with_reducible refine T5.o_isInt (n := ?n) (b := ?b) ?h1 ?hk); (case h1 => with_reducible assumption)) | ((with_reducible refine T5.o_isBool (n := ?n) (b := ?b) ?h1 ?hk); (case h1 => with_reducible assumption))
  | with_reducible refine T5.o_eqS ?_ | with_reducible refine T5.o_neS ?_ | with_reducible refine T5.G.o_appK ?_ | with_reducible refine T5.G.o_tupleK ?_ | with_reducible refine T5.G.o_appK2 ?_ | with_reducible refine T5.G.o_tupleK2 ?_ | with_reducible refine T5.G.o_appK3 ?_ | with_reducible refine T5.G.o_tupleK3 ?_ | with_reducible refine T5.G.o_pow29 ?_ | with_reducible refine T5.G.o_list ?_ | with_reducible refine T5.s_raise1 ?_ | with_reducible refine T5.w_one ?_
  | with_reducible refine T5.o_ixT0 ?_ | with_reducible refine T5.o_ixT1 ?_ | with_reducible refine T5.o_ixT2 ?_ | with_reducible refine T5.o_ixL0 ?_ | with_reducible refine T5.o_ixL1 ?_ | with_reducible refine T5.o_ixL2 ?_)
local macro_rules | `(tactic| k_caughtC0) => `(tactic| first | with_reducible assumption | exact Nat.le_of_ble_eq_true rfl | with_reducible rfl | omega | with_reducible exact T5.G.lst_isK | with_reducible exact T5.G.lst_isK2 | with_reducible exact T5.G.lst_isK3 | (simp only [T5.cap, List.length_map, List.length_append, List.length_cons, List.length_nil, List.length_take, List.length_drop]; omega) | (refine And.intro ?_ ?_ <;> first | omega | decide) | decide)
local macro_rules | `(tactic| kts_caught) => `(tactic| first | with_reducible refine T5.o_eqI ?_ | with_reducible refine T5.o_neI ?_ | ((with_reducible refine T5.G.o_neRf ?h1 ?hk); (case h1 => first | with_reducible assumption | rfl)) | ((with_reducible refine T5.G.o_eqRf ?h1 ?hk); (case h1 => first | with_reducible assumption | rfl)) | with_reducible refine T5.G.o_lenTm ?_ | with_reducible refine T5.G.o_lenLm ?_ | with_reducible refine T5.G.o_lenLog ?_ | with_reducible refine T5.G.w_lstMk ?_ | with_reducible refine T5.G.w_mksI ?_)
section
variable {st : Store} {n b : Nat} {d : D} {K : D → Store → Prop} {X : String → List String → List D → Store → Prop} {m x : Int} {Ls Rs : List Int} {Q : SR → Prop}
theorem f_finI {f : MF} {ds : List D} (h : OnR (f ds st) (fun d st1 => ∃ c ks vs, d = .obj st.length ∧ st1[st.length]? = some (.ins c ks vs) ∧ st.length ≤ st1.length ∧ (st1.take st.length).all (clO st.length) = true ∧ clL st.length vs = true ∧ K (.ins c ks vs) (st1.take st.length)) (fun c ks vs st1 => st.length ≤ st1.length ∧ (st1.take st.length).all (clO st.length) = true ∧ clL st.length vs = true ∧ X c ks vs (st1.take st.length))) : OnR (fin f ds st) K X := by
  unfold fin
  revert h
  generalize f ds st = r
  intro h
  cases r with
  | ok d st1 =>
    obtain ⟨c, ks, vs, rfl, e, h1, h2, h3, k⟩ := h
    have c2 : ¬ clD st.length (.obj st.length) = true := by simp [clD]
    simp only [if_pos (And.intro h1 h2), if_neg c2, e, if_pos h3]
    exact k
  | ex c ks vs st1 =>
    obtain ⟨h1, h2, h3, h4⟩ := h
    simp only [if_pos (And.intro h1 (And.intro h2 h3))]
    exact h4
  | bad => exact h.elim
theorem w_mkF {c : String} {f : MF} {ds : List D} (h : OnR (f (.obj st.length :: ds) (st ++ [.ins c [] []])) (fun d st2 => d = .non ∧ K (.obj st.length) st2) X) : OnR (mkF c f ds st) K X := by
  unfold mkF
  refine onR_bind (onR_imp h (fun d st2 h => ?_) fun _ _ _ _ h => h)
  obtain ⟨rfl, k⟩ := h
  exact k
theorem f_runE {N n : Nat} {b : MS} {ds : List D} {env : DEnv} (hl : ds.length = n) (he : ds.map some ++ List.replicate (N - n) none = env) (h : OnQ (b env st) (EndK K X)) : OnR (runF N n b ds st) K X := by
  subst he
  exact f_runK hl h
theorem get_lastO {x : Ob} : (st ++ [x])[st.length]? = some x := by simp
theorem set_lastO {x y : Ob} : (st ++ [x]).set st.length y = st ++ [y] := by simp
theorem clL_chV (k : Nat) : clL k (chV m Ls Rs) = true := by
  have : cutD (Ls.map D.int) (some 1) none = ((Ls.drop (HT.sIx Ls.length 0 (some 1))).take (HT.sIx Ls.length Ls.length none - HT.sIx Ls.length 0 (some 1))).map D.int := by
    unfold cutD
    simp
  unfold chV
  rw [this]
  simp only [clL, clD, dRow, cl_ints, Bool.and_self, Bool.and_true, Bool.true_and]
local macro_rules | `(tactic| kts_caughtN) => `(tactic| first
  | ((with_reducible refine T5.G.sp_isint (n := ?n) (b := ?b) ?h1 ?hk); (case h1 => with_reducible assumption))
  | ((with_reducible refine T5.G.sp_isrow (n := ?n) (b := ?b) ?h1 ?hk); (case h1 => with_reducible assumption))
  | with_reducible refine T5.G.o_lenRow ?_ | with_reducible refine T5.s_raise1 ?_ | with_reducible refine T5.w_one ?_)
theorem sp_mk {c l r : D} {n1 b1 n2 b2 n3 b3 : Nat} (hc : Rp (n1 + 1) b1 c) (hl : Rp (n2 + 1) b2 l) (hr : Rp (n3 + 1) b3 r) (hC : Cl st) (k0 : chBad c l r → X "BadChart" ["place"] [.non] st)
    (k1 : ∀ M Ls Rs (i : Nat), c = .int M → 0 ≤ M → M ≤ 500 → l = dRow Ls → r = dRow Rs → 1 ≤ Ls.length → Ls.length ≤ 101 → Ls.length = Rs.length → i < Ls.length → gapOk M Ls Rs i = false → (∀ j : Nat, j < i → gapOk M Ls Rs j = true) → X "BadChart" ["place"] [.int (i : Int)] st)
    (k2 : ∀ M Ls Rs, c = .int M → 0 ≤ M → M ≤ 500 → l = dRow Ls → r = dRow Rs → 1 ≤ Ls.length → Ls.length ≤ 101 → Ls.length = Rs.length → (∀ j : Nat, j < Ls.length → gapOk M Ls Rs j = true) → K (dChart M Ls Rs) st) : OnR (fin (mkF "Chart" f_Chart_init) [c, l, r] st) K X := by
  have tk : ∀ {o : Ob}, (st ++ [o]).take st.length = st := List.take_left' rfl
  have le : ∀ {o : Ob}, st.length ≤ (st ++ [o]).length := by simp
  have bad : ∀ {p : D} {o : Ob}, clD st.length p = true → X "BadChart" ["place"] [p] st → (st.length ≤ (st ++ [o]).length ∧ ((st ++ [o]).take st.length).all (clO st.length) = true ∧ clL st.length [p] = true ∧ X "BadChart" ["place"] [p] ((st ++ [o]).take st.length)) := fun hp x => by
    rw [tk]
    exact ⟨le, hC, by simp [clL, hp], x⟩
  refine f_finI (w_mkF ?_)
  unfold f_Chart_init
  refine f_runE (env := [some (.obj st.length), some c, some l, some r, none]) rfl rfl ?_
  unfold b_Chart_init
  tb_start
  cases e0 : intB c 0 500
  · tb_start
    exact bad rfl (k0 (.inl e0))
  · obtain ⟨M, rfl, m0, m1⟩ := intB_int e0
    tb_start
    cases e1 : rowB l
    · tb_start
      exact bad rfl (k0 (.inr (.inl e1)))
    · obtain ⟨Ls, rfl, l0, l1⟩ := rowB_ints e1
      tb_start
      cases e2 : rowB r
      · tb_start
        exact bad rfl (k0 (.inr (.inr (.inl e2))))
      · obtain ⟨Rs, rfl, r0, r1⟩ := rowB_ints e2
        tb_start
        refine onB_not (onB_dec (fun z => ?_) fun z => ?_)
        · have hl : Ls.length = Rs.length := by omega
          tb_start
          refine l_upToE (fun i env s => s = st ++ [.ins "Chart" [] []] ∧ (∃ o4, env = [some (.obj st.length), some (.int M), some (dRow Ls), some (dRow Rs), o4]) ∧ ∀ j : Nat, j < i → gapOk M Ls Rs j = true) ⟨rfl, ⟨_, rfl⟩, fun j h => nomatch h⟩ (fun i hi env s h => ?_) fun env s h => ?_
          · obtain ⟨rfl, ⟨o4, rfl⟩, hj⟩ := h
            tb_start
            refine sp_gapright (by omega) (by omega) hl ?_
            cases e3 : gapOk M Ls Rs i
            · tb_start
              exact bad rfl (k1 M Ls Rs i rfl m0 m1 rfl rfl l0 l1 hl (by simpa using hi) e3 hj)
            · tb_start
              refine ⟨rfl, ⟨_, rfl⟩, fun j h => ?_⟩
              by_cases z : j = i
              · subst z; exact e3
              · exact hj j (by omega)
          · obtain ⟨rfl, ⟨o4, rfl⟩, hj⟩ := h
            tb_start
            refine s_fld ?_
            tb_start
            refine ⟨_, _, _, rfl, get_lastO, Nat.le_of_ble_eq_true rfl, ?_⟩
            rw [set_lastO]
            tb_start
            refine s_fld ?_
            tb_start
            refine ⟨_, _, _, rfl, get_lastO, Nat.le_of_ble_eq_true rfl, ?_⟩
            rw [set_lastO]
            tb_start
            refine s_fld ?_
            tb_start
            refine ⟨_, _, _, rfl, get_lastO, Nat.le_of_ble_eq_true rfl, ?_⟩
            rw [set_lastO]
            tb_start
            refine s_fld ?_
            unfold dRow
            tb_start
            refine ⟨_, _, _, rfl, get_lastO, Nat.le_of_ble_eq_true rfl, ?_⟩
            rw [set_lastO]
            tb_start
            refine ⟨rfl, _, _, _, rfl, get_lastO, le, by rw [tk]; exact hC, clL_chV (m := M) (Ls := Ls) (Rs := Rs) _, ?_⟩
            rw [tk]
            exact k2 M Ls Rs rfl m0 m1 rfl rfl l0 l1 hl (fun j h => hj j (by simpa using h))
        · tb_start
          refine bad rfl (k0 (.inr (.inr (.inr ⟨_, _, rfl, rfl, ?_⟩))))
          rw [List.length_map, List.length_map]
          omega
end
end T5.G
namespace T5.G
open PySem PySem.Spec PyProof.Rows L2
local macro_rules | `(tactic| kts_caughtN) => `(tactic| first
  | ((with_reducible refine T5.G.sp_draw ?h1 ?h2 ?hk); (case h1 => k_caughtC0); (case h2 => k_caughtC0))
  | ((with_reducible refine T5.o_repr (b := ?b) ?h1 ?h2 ?hk); (case h1 => with_reducible assumption); (case h2 => decide))
  | ((with_reducible refine T5.o_isLst (n := ?n) (b := ?b) ?h1 ?hk); (case h1 => with_reducible assumption))
  | ((with_reducible refine T5.o_isTup (n := ?n) (b := ?b) ?h1 ?hk); (case h1 => with_reducible assumption)) | ((with_reducible refine T5.o_isStr (n := ?n) (b := ?b) ?h1 ?hk); (case h1 => with_reducible assumption))
  | ((with_reducible refine T5.o_isInt (n := ?n) (b := ?b) ?h1 ?hk); (case h1 => with_reducible assumption)) | ((with_reducible refine T5.o_isBool (n := ?n) (b := ?b) ?h1 ?hk); (case h1 => with_reducible assumption))
  | with_reducible refine T5.o_eqS ?_ | with_reducible refine T5.o_neS ?_ | with_reducible refine T5.G.o_appK ?_ | with_reducible refine T5.G.o_tupleK ?_ | with_reducible refine T5.G.o_appK2 ?_ | with_reducible refine T5.G.o_tupleK2 ?_ | with_reducible refine T5.G.o_appK3 ?_ | with_reducible refine T5.G.o_tupleK3 ?_ | with_reducible refine T5.G.o_pow29 ?_ | with_reducible refine T5.G.o_list ?_ | with_reducible refine T5.s_raise1 ?_ | with_reducible refine T5.w_one ?_
  | with_reducible refine T5.o_ixT0 ?_ | with_reducible refine T5.o_ixT1 ?_ | with_reducible refine T5.o_ixT2 ?_ | with_reducible refine T5.o_ixL0 ?_ | with_reducible refine T5.o_ixL1 ?_ | with_reducible refine T5.o_ixL2 ?_)
local macro_rules | `(tactic| k_caughtC0) => `(tactic| first | with_reducible assumption | exact Nat.le_of_ble_eq_true rfl | with_reducible rfl | omega | with_reducible exact T5.G.lst_isK | with_reducible exact T5.G.lst_isK2 | with_reducible exact T5.G.lst_isK3 | (simp only [T5.cap, List.length_map, List.length_append, List.length_cons, List.length_nil, List.length_take, List.length_drop]; omega) | (refine And.intro ?_ ?_ <;> first | omega | decide) | decide)
local macro_rules | `(tactic| kts_caught) => `(tactic| first | with_reducible refine T5.o_eqI ?_ | with_reducible refine T5.o_neI ?_ | ((with_reducible refine T5.G.o_neRf ?h1 ?hk); (case h1 => first | with_reducible assumption | rfl)) | ((with_reducible refine T5.G.o_eqRf ?h1 ?hk); (case h1 => first | with_reducible assumption | rfl)) | with_reducible refine T5.G.o_lenTm ?_ | with_reducible refine T5.G.o_lenLm ?_ | with_reducible refine T5.G.o_lenLog ?_ | with_reducible refine T5.G.w_lstMk ?_ | with_reducible refine T5.G.w_mksI ?_)
section
variable {st : Store} {n : Int} {d : D} {l : List Ed} {K : D → Store → Prop} {X : String → List String → List D → Store → Prop} {m x : Int} {Ls Rs : List Int} {Q : SR → Prop}
theorem rp_row {l : List Int} (h : ∀ x ∈ l, -10 ≤ x ∧ x ≤ 3000) : Rp 2 l.length (dRow l) := by
  have := rp_tup (n := 1) (b := 0) (l := l.map D.int) fun y hy => by
    obtain ⟨x, hx, rfl⟩ := List.mem_map.mp hy
    have := h x hx
    exact rp_int ⟨by omega, by omega⟩
  rw [List.length_map, Nat.zero_add, Nat.mul_one] at this
  exact this
theorem dRow_inj {a b : List Int} (h : dRow a = dRow b) : a = b := by
  have h : a.map D.int = b.map D.int := D.tup.inj h
  exact (List.map_inj_right fun x y e => D.int.inj e).mp h
local macro_rules | `(tactic| kts_caught) => `(tactic| with_reducible refine T5.stp (p := OnR (eLc _ _ _ _ _ _ _) _ _) ?_)
end
end T5.G
namespace T5.G
open PySem PySem.Spec PyProof.Rows L2
/-! ### k14: all_charts as a closed formula -/
def rowsN (M : Nat) : Nat → List (List Int)
  | 0 => [[]]
  | n + 1 => (rowsN M n).flatMap fun r => (List.range (M + 1)).map fun (x : Nat) => r ++ [Int.ofNat x]
def rowsR (M : Nat) : Nat → List (List Int)
  | 0 => [[]]
  | n + 1 => (rowsR M n).flatMap fun r => ((List.range (M + 1)).filter fun (x : Nat) => decide (r.getLastD 0 ≤ Int.ofNat x)).map fun (x : Nat) => r ++ [Int.ofNat x]
def okC (M : Int) (l r : List Int) : Bool := (List.range l.length).all fun (g : Nat) => gapOk M l r (Int.ofNat g)
abbrev bTest : MT := cTru (eCB fAll (aCons (eLc (iRng1 (aCons (eBin bAdd (eVar 0) (eC (.int 1))) aNil)) (gN 6) cYes (eCall f_is_gap_right (aCons (eVar 1) (aCons (eVar 3) (aCons (eVar 5) (aCons (eVar 6) aNil))))) [6]) aNil))
abbrev eLl : ME := eLc (iSeq (eVar 2)) (gN 4) cYes (eTup (aCons (eC (.int 0)) (aStar (eVar 4) aNil))) [4]
abbrev eRl : ME := eLc (iSeq (eVar 2)) (gN 4) cYes (eTup (aStar (eVar 4) (aCons (eVar 1) aNil))) [4]
abbrev ev (L M : Int) (rows : List D) (x3 x4 x5 x6 : Option D) : DEnv := [some (.int L), some (.int M), some (.lst rows), x3, x4, x5, x6]
abbrev RR (M L : Nat) : List D := (rowsR M L).map dRow
/-- what evaluation shows for one pair of numbers -/
structure Cs (L M : Nat) : Prop where
  nl : ∀ st, f_need_listed [.int (Int.ofNat L)] st = .ok .non st
  nm : ∀ st, f_need_listed [.int (Int.ofNat M)] st = .ok .non st
  ri : ∀ st, f_rising [.int (Int.ofNat L), .int (Int.ofNat M)] st = .ok (.lst (RR M L)) st
  el : ∀ st x3 x4 x5 x6, eLl (ev (Int.ofNat L) (Int.ofNat M) (RR M L) x3 x4 x5 x6) st = .ok (.lst ((rowsR M L).map fun r => dRow (0 :: r))) st
  er : ∀ st x3 x4 x5 x6, eRl (ev (Int.ofNat L) (Int.ofNat M) (RR M L) x3 x4 x5 x6) st = .ok (.lst ((rowsR M L).map fun r => dRow (r ++ [Int.ofNat M]))) st
  te : ∀ st x4 x6, (rowsR M L).map (fun l => (rowsR M L).map fun r => bTest (ev (Int.ofNat L) (Int.ofNat M) (RR M L) (some (dRow (0 :: l))) x4 (some (dRow (r ++ [Int.ofNat M]))) x6) st) = (rowsR M L).map fun l => (rowsR M L).map fun r => .ok (okC (Int.ofNat M) (0 :: l) (r ++ [Int.ofNat M])) st
  le : (rowsR M L).length ≤ 20
  m : M ≤ 3
  l : L ≤ 3
theorem rowsR_len {M : Nat} : ∀ {n : Nat} {r : List Int}, r ∈ rowsR M n → r.length = n ∧ ∀ x ∈ r, -10 ≤ x ∧ x ≤ M
  | 0, r, h => by
    simp only [rowsR, List.mem_singleton] at h
    subst h
    exact ⟨rfl, fun x hx => by cases hx⟩
  | n + 1, r, h => by
    simp only [rowsR, List.mem_flatMap, List.mem_map, List.mem_filter, List.mem_range] at h
    obtain ⟨q, hq, x, ⟨hx, _⟩, rfl⟩ := h
    obtain ⟨e, b⟩ := rowsR_len hq
    refine ⟨by simp [e], fun y hy => ?_⟩
    rcases List.mem_append.mp hy with hy | hy
    · exact b y hy
    · obtain rfl := List.mem_singleton.mp hy
      have : Int.ofNat x = (x : Int) := rfl
      omega
theorem onR_ok {α : Type} {r : T5.R α} {a : α} {st : Store} (h : OnR r (fun d s => d = a ∧ s = st) fun _ _ _ _ => False) : r = .ok a st := by
  cases r with
  | ok b s => obtain ⟨rfl, rfl⟩ := h; rfl
  | ex => exact h.elim
  | bad => exact h.elim
theorem mk_eq {M : Int} {l r : List Int} {st : Store} (hM : 0 ≤ M ∧ M ≤ 500) (hl : 1 ≤ l.length ∧ l.length ≤ 101) (hlr : l.length = r.length) (hL : ∀ x ∈ l, -10 ≤ x ∧ x ≤ 3000) (hR : ∀ x ∈ r, -10 ≤ x ∧ x ≤ 3000) (ok : okC M l r = true) (hC : Cl st) :
    fin (mkF "Chart" f_Chart_init) [.int M, dRow l, dRow r] st = .ok (dChart M l r) st := by
  have rb : ∀ {l : List Int}, 1 ≤ l.length → l.length ≤ 101 → rowB (dRow l) = true := fun {l} h1 h2 => by
    show (decide (1 ≤ (l.map D.int).length ∧ (l.map D.int).length ≤ 101) && (l.map D.int).all isI) = true
    rw [List.length_map, decide_eq_true ⟨h1, h2⟩, Bool.true_and, List.all_eq_true]
    intro y hy
    obtain ⟨x, _, rfl⟩ := List.mem_map.mp hy
    rfl
  have gaps : ∀ i : Nat, i < l.length → gapOk M l r i = true := fun i hi => by
    have := List.all_eq_true.mp ok i (List.mem_range.mpr hi)
    exact this
  obtain ⟨h1, h2⟩ := hl
  obtain ⟨m0, m1⟩ := hM
  refine onR_ok (sp_mk (n1 := 0) (b1 := 0) (rp_int ⟨by omega, by omega⟩) (rp_row hL) (rp_row hR) hC (fun hb => ?_) (fun M Ls' Rs' i e1 _ _ e2 e3 _ _ _ hi hg _ => ?_) (fun M Ls' Rs' e1 _ _ e2 e3 _ _ _ _ => ?_))
  · rcases hb with hb | hb | hb | ⟨a, b, e1, e2, hb⟩
    · rw [show intB (.int M) 0 500 = true by simp [intB, m0, m1]] at hb
      cases hb
    · rw [rb h1 h2] at hb
      cases hb
    · rw [rb (by omega) (by omega)] at hb
      cases hb
    · cases e1
      cases e2
      rw [List.length_map, List.length_map] at hb
      exact absurd hlr hb
  · cases e1
    cases dRow_inj e2
    cases dRow_inj e3
    rw [gaps i hi] at hg
    cases hg
  · cases e1
    cases dRow_inj e2
    cases dRow_inj e3
    exact ⟨rfl, rfl⟩
abbrev bY : MN := nYield "own_many" "own_lefts" "own_rights" (eCall (fin (mkF "Chart" f_Chart_init)) (aCons (eVar 1) (aCons (eVar 3) (aCons (eVar 5) aNil))))
abbrev bI : MN := nSeq (nIf bTest (nSeq bY nPass)) nPass
abbrev bO : MN := nSeq (nFor eRl (gN 5) bI) nPass
def tri (M : Int) (l r : List Int) : List D := [.int M, dRow l, dRow r]
theorem flds_chart {M : Int} {l r : List Int} : flds "own_many" "own_lefts" "own_rights" (dChart M l r) = some (tri M l r) := by rfl
def outR (M : Int) (l r : List Int) : Came := if okC M l r = true then [tri M l r] else []
def chs (L M : Nat) : Came := (rowsR M L).flatMap fun l => (rowsR M L).flatMap fun r => outR (Int.ofNat M) (0 :: l) (r ++ [Int.ofNat M])
theorem nloop_gen {α S : Type} {b : MN} {g : MG0} {st : Store} (E : S → DEnv) (f : α → D) (up : α → S → S) (out : α → Came) (hg : ∀ r x, g (f r) (E x) = some (E (up r x))) : ∀ (rs : List α) (zs : Came) (x : S), (∀ r ∈ rs, ∀ (x : S) (zs : Came), List.length zs + (out r).length ≤ cap → ∃ x', b (E (up r x)) st zs = .nx (E x') st (zs ++ out r)) →
    List.length zs + (rs.flatMap out).length ≤ cap → ∃ y, nLoop g b (rs.map f) (E x) st zs = .nx (E y) st (zs ++ rs.flatMap out)
  | [], zs, x, _, _ => ⟨x, by rw [List.flatMap_nil, List.append_nil]; rfl⟩
  | r :: rs, zs, x, hb, hz => by
    rw [List.flatMap_cons, List.length_append] at hz
    obtain ⟨x', e⟩ := hb r (List.mem_cons_self ..) x zs (by omega)
    obtain ⟨y, ih⟩ := nloop_gen E f up out hg rs (zs ++ out r) x' (fun q hq => hb q (List.mem_cons_of_mem _ hq)) (by
      have : List.length (zs ++ out r) = List.length zs + (out r).length := List.length_append
      omega)
    refine ⟨y, ?_⟩
    rw [List.map_cons]
    unfold nLoop
    rw [hg]
    show (b (E (up r x)) st zs).seq _ = _
    rw [e, List.flatMap_cons, ← List.append_assoc, ← ih]
    rfl
theorem eCall_ok {m : MF} {ma : MA} {env : DEnv} {st st1 : Store} {ds : List D} (h : ma env st = .ok ds st1) : eCall m ma env st = m ds st1 := by
  unfold eCall
  rw [h]
  rfl
theorem bI_gen {bt : MT} {b : MN} {env : DEnv} {st : Store} {zs o : Came} {c : Bool} (ht : bt env st = .ok c st) (hy : c = true → b env st zs = .nx env st (zs ++ o)) : nSeq (nIf bt (nSeq b nPass)) nPass env st zs = .nx env st (zs ++ if c = true then o else []) := by
  unfold nSeq nIf
  rw [ht]
  cases c with
  | false =>
    rw [if_neg Bool.false_ne_true, List.append_nil]
    rfl
  | true =>
    show NRes.seq (NRes.seq (b env st zs) nPass) nPass = _
    rw [hy rfl]
    rfl
theorem nYield_ok {f1 f2 f3 : String} {m : ME} {env : DEnv} {st : Store} {zs : Came} {d : D} {l : List D} (hz : List.length zs ≤ cap) (hm : m env st = .ok d st) (hf : flds f1 f2 f3 d = some l) : nYield f1 f2 f3 m env st zs = .nx env st (zs ++ [l]) := by
  unfold nYield
  rw [if_pos hz, hm]
  show (match flds f1 f2 f3 d with
    | some l => NRes.nx env st (zs ++ [l])
    | none => NRes.bad) = _
  rw [hf]
theorem args_eq {L M : Int} {rows : List D} {x3 x5 : D} {x4 x6 : Option D} {st : Store} : aCons (eVar 1) (aCons (eVar 3) (aCons (eVar 5) aNil)) (ev L M rows (some x3) x4 (some x5) x6) st = .ok [.int M, x3, x5] st := rfl
theorem bI_eq {L M : Nat} {l r : List Int} {st : Store} {x4 x6 : Option D} {rows : List D} {zs : Came} (hC : Cl st) (hm : M ≤ 3) (hL : L ≤ 3) (hl : l.length = L + 1) (bl : ∀ x ∈ l, -10 ≤ x ∧ x ≤ 3000) (hr : r.length = L + 1) (br : ∀ x ∈ r, -10 ≤ x ∧ x ≤ 3000)
    (ht : bTest (ev (Int.ofNat L) (Int.ofNat M) rows (some (dRow l)) x4 (some (dRow r)) x6) st = .ok (okC (Int.ofNat M) l r) st) (hz : List.length zs + (outR (Int.ofNat M) l r).length ≤ cap) :
    bI (ev (Int.ofNat L) (Int.ofNat M) rows (some (dRow l)) x4 (some (dRow r)) x6) st zs = .nx (ev (Int.ofNat L) (Int.ofNat M) rows (some (dRow l)) x4 (some (dRow r)) x6) st (zs ++ outR (Int.ofNat M) l r) := by
  have i0 : Int.ofNat M = (M : Int) := rfl
  exact bI_gen ht fun ok => nYield_ok (by omega) ((eCall_ok args_eq).trans (mk_eq (st := st) (M := Int.ofNat M) (l := l) (r := r) ⟨by omega, by omega⟩ ⟨by omega, by omega⟩ (by omega) bl br ok hC)) flds_chart
theorem tab_at {α β γ : Type} {f g : α → β → γ} {xs : List α} {ys : List β} (h : (xs.map fun x => ys.map fun y => f x y) = xs.map fun x => ys.map fun y => g x y) {x : α} {y : β} (hx : x ∈ xs) (hy : y ∈ ys) : f x y = g x y :=
  List.map_inj_left.mp (List.map_inj_left.mp h x hx) y hy
theorem nFor_ok {m : ME} {g : MG0} {b : MN} {env : DEnv} {st : Store} {zs : Came} {l : List D} (h : m env st = .ok (.lst l) st) : nFor m g b env st zs = nLoop g b l env st zs := by
  unfold nFor
  rw [h]
theorem runN_ok {N n : Nat} {m : MN} {ds : List D} {st st1 : Store} {e : DEnv} {zs : Came} (hl : ds.length = n) (h : m (ds.map some ++ List.replicate (N - n) none) st [] = .nx e st1 zs) : runN N n m ds st = .ok zs st1 := by
  unfold runN
  rw [if_pos hl, h]
theorem plain_exp {m : ME} {env : DEnv} {st st1 : Store} {zs : Came} {d : D} (h : m env st = .ok d st1) : nPlain (sExp m) env st zs = .nx env st1 zs := by
  unfold nPlain sExp
  rw [h]
  rfl
theorem plain_asg {m : ME} {i : Nat} {env : DEnv} {st st1 : Store} {zs : Came} {d : D} (h : m env st = .ok d st1) : nPlain (sAsg m (gN i)) env st zs = .nx (env.set i (some d)) st1 zs := by
  unfold nPlain sAsg
  rw [h]
  rfl
theorem nSeq_nx {a b : MN} {env e1 : DEnv} {st st1 : Store} {zs ys : Came} {r : NRes} (h : a env st zs = .nx e1 st1 ys) (k : b e1 st1 ys = r) : nSeq a b env st zs = r := by
  unfold nSeq
  rw [h]
  exact k
section
variable {L M : Nat} (C : Cs L M) {st : Store} (hC : Cl st)
include C hC
theorem bO_eq {l : List Int} (hl : l ∈ rowsR M L) {x4 x5 x6 : Option D} {zs : Came} (hz : List.length zs + ((rowsR M L).flatMap fun r => outR (Int.ofNat M) (0 :: l) (r ++ [Int.ofNat M])).length ≤ cap) :
    ∃ y5, bO (ev (Int.ofNat L) (Int.ofNat M) (RR M L) (some (dRow (0 :: l))) x4 x5 x6) st zs = .nx (ev (Int.ofNat L) (Int.ofNat M) (RR M L) (some (dRow (0 :: l))) x4 y5 x6) st (zs ++ (rowsR M L).flatMap fun r => outR (Int.ofNat M) (0 :: l) (r ++ [Int.ofNat M])) := by
  have i0 : Int.ofNat M = (M : Int) := rfl
  have hm := C.m
  obtain ⟨l1, l2⟩ := rowsR_len hl
  obtain ⟨y, e⟩ := nloop_gen (b := bI) (g := gN 5) (st := st) (fun x => ev (Int.ofNat L) (Int.ofNat M) (RR M L) (some (dRow (0 :: l))) x4 x x6) (fun r : List Int => dRow (r ++ [Int.ofNat M])) (fun r _ => some (dRow (r ++ [Int.ofNat M]))) (fun r => outR (Int.ofNat M) (0 :: l) (r ++ [Int.ofNat M])) (fun r x => rfl) (rowsR M L) zs x5 (fun r hr x zs hz => by
    obtain ⟨r1, r2⟩ := rowsR_len hr
    exact ⟨_, bI_eq hC C.m C.l (by simp [l1]) (fun z hzz => by
      rcases List.mem_cons.mp hzz with rfl | hzz
      · omega
      · have := l2 z hzz; omega) (by simp [r1]) (fun z hzz => by
      rcases List.mem_append.mp hzz with hzz | hzz
      · have := r2 z hzz; omega
      · obtain rfl := List.mem_singleton.mp hzz
        omega) (tab_at (C.te st x4 x6) hl hr) hz⟩) hz
  refine ⟨y, ?_⟩
  show NRes.seq (nFor eRl (gN 5) bI _ st zs) nPass = _
  rw [nFor_ok (C.er st _ _ _ _), e]
  rfl
theorem loop_eq (hc : (chs L M).length ≤ cap) {x3 x4 x5 x6 : Option D} : ∃ e, nFor eLl (gN 3) bO (ev (Int.ofNat L) (Int.ofNat M) (RR M L) x3 x4 x5 x6) st [] = .nx e st (chs L M) := by
  rw [nFor_ok (C.el st _ _ _ _)]
  obtain ⟨y, e⟩ := nloop_gen (b := bO) (g := gN 3) (st := st) (fun x : Option D × Option D => ev (Int.ofNat L) (Int.ofNat M) (RR M L) x.1 x4 x.2 x6) (fun l : List Int => dRow (0 :: l)) (fun l x => (some (dRow (0 :: l)), x.2)) (fun l => (rowsR M L).flatMap fun r => outR (Int.ofNat M) (0 :: l) (r ++ [Int.ofNat M])) (fun r x => rfl) (rowsR M L) [] (x3, x5) (fun l hl x zs hz => by
    obtain ⟨y5, e⟩ := bO_eq C hC hl (x4 := x4) (x5 := x.2) (x6 := x6) hz
    exact ⟨(some (dRow (0 :: l)), y5), e⟩) (by rw [show List.length ([] : Came) = 0 from rfl, Nat.zero_add]; exact hc)
  exact ⟨_, e⟩
theorem p_all (hc : (chs L M).length ≤ cap) : f_all_charts [.int (Int.ofNat L), .int (Int.ofNat M)] st = .ok (chs L M) st := by
  have h1 : nPlain (sExp (eCall f_need_listed (aCons (eVar 0) aNil))) [some (.int (Int.ofNat L)), some (.int (Int.ofNat M)), none, none, none, none, none] st [] = .nx [some (.int (Int.ofNat L)), some (.int (Int.ofNat M)), none, none, none, none, none] st [] := plain_exp ((eCall_ok (ds := [.int (Int.ofNat L)]) rfl).trans (C.nl st))
  have h2 : nPlain (sExp (eCall f_need_listed (aCons (eVar 1) aNil))) [some (.int (Int.ofNat L)), some (.int (Int.ofNat M)), none, none, none, none, none] st [] = .nx [some (.int (Int.ofNat L)), some (.int (Int.ofNat M)), none, none, none, none, none] st [] := plain_exp ((eCall_ok (ds := [.int (Int.ofNat M)]) rfl).trans (C.nm st))
  have h3 : nPlain (sAsg (eCall f_rising (aCons (eVar 0) (aCons (eVar 1) aNil))) (gN 2)) [some (.int (Int.ofNat L)), some (.int (Int.ofNat M)), none, none, none, none, none] st [] = .nx (ev (Int.ofNat L) (Int.ofNat M) (RR M L) none none none none) st [] := plain_asg ((eCall_ok (ds := [.int (Int.ofNat L), .int (Int.ofNat M)]) rfl).trans (C.ri st))
  obtain ⟨e, h4⟩ := loop_eq C hC hc (x3 := none) (x4 := none) (x5 := none) (x6 := none)
  have h : y_all_charts [some (.int (Int.ofNat L)), some (.int (Int.ofNat M)), none, none, none, none, none] st [] = .nx e st (chs L M) := by
    unfold y_all_charts
    exact nSeq_nx h1 (nSeq_nx h2 (nSeq_nx h3 (nSeq_nx h4 rfl)))
  exact runN_ok rfl h
end
end T5.G
namespace T5.G
open PySem PySem.Spec PyProof.Rows L2
/-! ### k14: the law's own charts, and the whole behind the draws -/
abbrev e14 (x0 x1 x2 x3 x4 x5 x6 x7 x8 x9 x10 x11 x12 : Option D) : DEnv := [x0, x1, x2, x3, x4, x5, x6, x7, x8, x9, x10, x11, x12]
abbrev eOwn : ME := eTup (aCons (eVar 3) (aCons (eBin bAdd (eTup (aCons (eC (.int 0)) aNil)) (eVar 6)) (aCons (eBin bAdd (eVar 7) (eTup (aCons (eVar 3) aNil))) aNil)))
abbrev cIs : MT := cTru (eCall f__law_is_chart (aCons (eVar 3) (aCons (eBin bIx (eVar 8) (eC (.int 1))) (aCons (eBin bIx (eVar 8) (eC (.int 2))) aNil))))
abbrev CH (L M : Nat) : List D := (chs L M).map D.tup
structure Lw (L M : Nat) : Prop where
  ro : ∀ st, f__law_rows_of [.int (Int.ofNat L), .int (Int.ofNat M)] st = .ok (.lst ((rowsN M L).map dRow)) st
  tu : ∀ st x0 x1 x2 x4 x5 x8 x9 x10 x11 x12, (rowsN M L).map (fun l => (rowsN M L).map fun r => eOwn (e14 x0 x1 x2 (some (.int (Int.ofNat M))) x4 x5 (some (dRow l)) (some (dRow r)) x8 x9 x10 x11 x12) st) = (rowsN M L).map fun l => (rowsN M L).map fun r => .ok (.tup (tri (Int.ofNat M) (0 :: l) (r ++ [Int.ofNat M]))) st
  ch : ∀ st x0 x1 x2 x4 x5 x6 x7 x9 x10 x11 x12, (rowsN M L).map (fun l => (rowsN M L).map fun r => cIs (e14 x0 x1 x2 (some (.int (Int.ofNat M))) x4 x5 x6 x7 (some (.tup (tri (Int.ofNat M) (0 :: l) (r ++ [Int.ofNat M])))) x9 x10 x11 x12) st) = (rowsN M L).map fun l => (rowsN M L).map fun r => .ok (okC (Int.ofNat M) (0 :: l) (r ++ [Int.ofNat M])) st
  eq : ((rowsN M L).flatMap fun l => (rowsN M L).flatMap fun r => outR (Int.ofNat M) (0 :: l) (r ++ [Int.ofNat M])) = chs L M
  le : List.length (chs L M) ≤ 400
theorem toPy_objQ {st : Store} {i k : Nat} {l : List D} (h : st[i]? = some (.lst l)) : toPy st k (.obj i) = toPy st k (.lst l) := by
  cases k with
  | zero => rfl
  | succ k =>
    unfold toPy
    simp [lstOf, h]
theorem repr_obj {st : Store} {i b : Nat} {l : List D} (hs : st[i]? = some (.lst l)) (h : Rp 12 b (.lst l)) (hb : b ≤ 2 ^ 18) : fRepr st [.obj i] = some (.str (rs (.lst l))) := by
  have := f_repr (st := st) h hb
  show (toPy st 12 (.obj i)).bind _ = _
  rw [toPy_objQ hs]
  exact this
theorem eCB_ok {f : BF} {ma : MA} {env : DEnv} {st st1 : Store} {ds : List D} {d : D} (h : ma env st = .ok ds st1) (k : f st1 ds = some d) : eCB f ma env st = .ok d st1 := by
  unfold eCB
  rw [h]
  show ofO (f st1 ds) st1 = _
  rw [k]
  rfl
theorem ne_same {a b : ME} {env : DEnv} {st : Store} {w : List Nat} (ha : a env st = .ok (.str w) st) (hb : b env st = .ok (.str w) st) : cBool (eBin bNe a b) env st = .ok false st := by
  unfold cBool eBin
  rw [ha]
  show T5.R.bind (T5.R.bind (b env st) fun y st2 => ofO (bNe st2 (.str w) y) st2) _ = _
  rw [hb]
  show T5.R.bind (ofO ((dEq st (.str w) (.str w)).map fun b => D.bl (!b)) st) _ = _
  rw [show dEq st (.str w) (.str w) = some (decide (w = w)) from rfl, decide_eq_true rfl]
  rfl
theorem chs_rp {L M : Nat} (hL : L ≤ 3) (hM : M ≤ 3) (hc : List.length (chs L M) ≤ 400) : Rp 12 6400 (.lst (CH L M)) := by
  have row : ∀ {l : List Int}, l.length ≤ 4 → (∀ x ∈ l, -10 ≤ x ∧ x ≤ 3000) → Rp 2 4 (dRow l) := fun h1 h2 => (rp_row h2).mono h1
  have hl : (CH L M).length ≤ 400 := by
    show ((chs L M).map D.tup).length ≤ 400
    rw [List.length_map]
    exact hc
  refine ((rp_lst (n := 3) (b := 15) (l := CH L M) fun y hy => ?_).mono (show (CH L M).length * (15 + 1) ≤ 6400 by omega)).up (by decide)
  obtain ⟨z, hz, rfl⟩ := List.mem_map.mp hy
  unfold chs at hz
  obtain ⟨l, hl, hz⟩ := List.mem_flatMap.mp hz
  obtain ⟨r, hr, hz⟩ := List.mem_flatMap.mp hz
  unfold outR at hz
  obtain ⟨l1, l2⟩ := rowsR_len hl
  obtain ⟨r1, r2⟩ := rowsR_len hr
  have i0 : Int.ofNat M = (M : Int) := rfl
  have z2 : z = tri (Int.ofNat M) (0 :: l) (r ++ [Int.ofNat M]) := by
    split at hz
    · exact List.mem_singleton.mp hz
    · cases hz
  subst z2
  refine (rp_tup (n := 2) (b := 4) (l := tri (Int.ofNat M) (0 :: l) (r ++ [Int.ofNat M])) fun y hy => ?_).mono (show 3 * (4 + 1) ≤ 15 by decide)
  unfold tri at hy
  simp only [List.mem_cons, List.not_mem_nil, or_false] at hy
  rcases hy with rfl | rfl | rfl
  · exact (rp_int (n := 1) ⟨by omega, by omega⟩).mono (by decide)
  · refine row (by simp; omega) fun x hx => ?_
    rcases List.mem_cons.mp hx with rfl | hx
    · omega
    · have := l2 x hx
      omega
  · refine row (by simp; omega) fun x hx => ?_
    rcases List.mem_append.mp hx with hx | hx
    · have := r2 x hx
      omega
    · obtain rfl := List.mem_singleton.mp hx
      omega
theorem sSeq_nx {a b : MS} {env e1 : DEnv} {st st1 : Store} {r : SR} (h : a env st = .nx e1 st1) (k : b e1 st1 = r) : sSeq a b env st = r := by
  unfold sSeq
  rw [h]
  exact k
theorem sAsg_ok {m : ME} {i : Nat} {env : DEnv} {st st1 : Store} {d : D} (h : m env st = .ok d st1) : sAsg m (gN i) env st = .nx (env.set i (some d)) st1 := by
  unfold sAsg
  rw [h]
  rfl
theorem sExp_ok {m : ME} {env : DEnv} {st st1 : Store} {d : D} (h : m env st = .ok d st1) : sExp m env st = .nx env st1 := by
  unfold sExp
  rw [h]
  rfl
theorem sIf_ok {c : MT} {a b : MS} {env : DEnv} {st st1 : Store} {t : Bool} (h : c env st = .ok t st1) : sIf c a b env st = if t = true then a env st1 else b env st1 := by
  unfold sIf
  rw [h]
  rfl
theorem eLcF_ok {m : MGn} {ma : MA} {env : DEnv} {st st1 st2 : Store} {ds : List D} {zs : Came} (h : ma env st = .ok ds st1) (k : m ds st1 = .ok zs st2) (hz : List.length zs ≤ cap) : eLcF m ma env st = .ok (.lst (zs.map D.tup)) st2 := by
  unfold eLcF
  rw [h]
  show T5.R.bind (noEx (m ds st1)) _ = _
  rw [k]
  show (if List.length zs ≤ cap then (T5.R.ok (.lst (zs.map D.tup)) st2 : T5.R D) else .bad) = _
  rw [if_pos hz]
theorem app_eq {s : LS} {acc : List D} {x0 x1 x2 x3 x5 x6 x7 x9 x10 x11 x12 : Option D} {d : D} (h : acc.length ≤ cap) : eMthL fApp (eVar 4) (aCons (eVar 8) aNil) (e14 x0 x1 x2 x3 (some (.obj 2)) x5 x6 x7 (some d) x9 x10 x11 x12) (mks s [.lst acc]) = .ok .non (mks s [.lst (acc ++ [d])]) := by
  have hf : fApp (mks s [.lst acc]) (.obj 2) [d] = some (.non, mks s [.lst (acc ++ [d])]) := by
    show (if acc.length ≤ cap then some (D.non, List.set (mks s [.lst acc]) 2 (.lst (acc ++ [d]))) else none) = _
    rw [if_pos h]
    rfl
  show (match fApp (mks s [.lst acc]) (.obj 2) [d] with
    | some (d', st3) => T5.R.ok d' st3
    | none => .bad) = _
  rw [hf]
theorem sloop_gen {α S : Type} {b : MS} {g : MG0} {s : LS} (E : S → DEnv) (f : α → D) (up : α → S → S) (out : α → List D) (hg : ∀ r x, g (f r) (E x) = some (E (up r x))) : ∀ (rs : List α) (zs : List D) (x : S), (∀ r ∈ rs, ∀ (x : S) (zs : List D), zs.length + (out r).length ≤ cap → ∃ x', b (E (up r x)) (mks s [.lst zs]) = .nx (E x') (mks s [.lst (zs ++ out r)])) →
    zs.length + (rs.flatMap out).length ≤ cap → ∃ y, loopS g b (rs.map f) (E x) (mks s [.lst zs]) = .nx (E y) (mks s [.lst (zs ++ rs.flatMap out)])
  | [], zs, x, _, _ => ⟨x, by rw [List.flatMap_nil, List.append_nil]; rfl⟩
  | r :: rs, zs, x, hb, hz => by
    rw [List.flatMap_cons, List.length_append] at hz
    obtain ⟨x', e⟩ := hb r (List.mem_cons_self ..) x zs (by omega)
    obtain ⟨y, ih⟩ := sloop_gen E f up out hg rs (zs ++ out r) x' (fun q hq => hb q (List.mem_cons_of_mem _ hq)) (by rw [List.length_append]; omega)
    refine ⟨y, ?_⟩
    rw [List.map_cons]
    unfold loopS
    rw [hg]
    show (b (E (up r x)) (mks s [.lst zs])).loop _ = _
    rw [e, List.flatMap_cons, ← List.append_assoc, ← ih]
    rfl
section
variable {L M : Nat} (W : Lw L M) {s : LS}
include W
def outD (M : Int) (l r : List Int) : List D := (outR M l r).map D.tup
theorem pair_eq {l r : List Int} (hl : l ∈ rowsN M L) (hr : r ∈ rowsN M L) {x0 x1 x2 x5 x8 x9 x10 x11 x12 : Option D} {zs : List D} (hz : zs.length + (outD (Int.ofNat M) (0 :: l) (r ++ [Int.ofNat M])).length ≤ cap) :
    z_law_1 (e14 x0 x1 x2 (some (.int (Int.ofNat M))) (some (.obj 2)) x5 (some (dRow l)) (some (dRow r)) x8 x9 x10 x11 x12) (mks s [.lst zs]) = .nx (e14 x0 x1 x2 (some (.int (Int.ofNat M))) (some (.obj 2)) x5 (some (dRow l)) (some (dRow r)) (some (.tup (tri (Int.ofNat M) (0 :: l) (r ++ [Int.ofNat M])))) x9 x10 x11 x12) (mks s [.lst (zs ++ outD (Int.ofNat M) (0 :: l) (r ++ [Int.ofNat M]))]) := by
  refine sSeq_nx (sAsg_ok (tab_at (W.tu (mks s [.lst zs]) x0 x1 x2 (some (.obj 2)) x5 x8 x9 x10 x11 x12) hl hr)) ?_
  refine (sIf_ok (tab_at (W.ch (mks s [.lst zs]) x0 x1 x2 (some (.obj 2)) x5 (some (dRow l)) (some (dRow r)) x9 x10 x11 x12) hl hr)).trans ?_
  unfold outD outR
  cases ok : okC (Int.ofNat M) (0 :: l) (r ++ [Int.ofNat M]) with
  | false =>
    rw [if_neg Bool.false_ne_true, if_neg Bool.false_ne_true, List.map_nil, List.append_nil]
    rfl
  | true =>
    rw [if_pos rfl, if_pos rfl, List.map_cons, List.map_nil]
    exact sExp_ok (app_eq (by omega))
theorem row_eq {l : List Int} (hl : l ∈ rowsN M L) {x0 x1 x2 x7 x8 x9 x10 x11 x12 : Option D} {zs : List D} (hz : zs.length + ((rowsN M L).flatMap fun r => outD (Int.ofNat M) (0 :: l) (r ++ [Int.ofNat M])).length ≤ cap) :
    ∃ y7 y8, sFor (iSeq (eVar 5)) (gN 7) z_law_1 (e14 x0 x1 x2 (some (.int (Int.ofNat M))) (some (.obj 2)) (some (.lst ((rowsN M L).map dRow))) (some (dRow l)) x7 x8 x9 x10 x11 x12) (mks s [.lst zs]) = .nx (e14 x0 x1 x2 (some (.int (Int.ofNat M))) (some (.obj 2)) (some (.lst ((rowsN M L).map dRow))) (some (dRow l)) y7 y8 x9 x10 x11 x12) (mks s [.lst (zs ++ (rowsN M L).flatMap fun r => outD (Int.ofNat M) (0 :: l) (r ++ [Int.ofNat M]))]) := by
  obtain ⟨y, e⟩ := sloop_gen (b := z_law_1) (g := gN 7) (s := s) (fun x : Option D × Option D => e14 x0 x1 x2 (some (.int (Int.ofNat M))) (some (.obj 2)) (some (.lst ((rowsN M L).map dRow))) (some (dRow l)) x.1 x.2 x9 x10 x11 x12) dRow (fun r x => (some (dRow r), x.2)) (fun r => outD (Int.ofNat M) (0 :: l) (r ++ [Int.ofNat M])) (fun r x => rfl) (rowsN M L) zs (x7, x8)
    (fun r hr x zs hz => ⟨(some (dRow r), some (.tup (tri (Int.ofNat M) (0 :: l) (r ++ [Int.ofNat M])))), pair_eq W hl hr hz⟩) hz
  exact ⟨y.1, y.2, e⟩
theorem both_eq {x0 x1 x2 x6 x7 x8 x9 x10 x11 x12 : Option D} : ∃ y6 y7 y8, sFor (iSeq (eVar 5)) (gN 6) (sFor (iSeq (eVar 5)) (gN 7) z_law_1) (e14 x0 x1 x2 (some (.int (Int.ofNat M))) (some (.obj 2)) (some (.lst ((rowsN M L).map dRow))) x6 x7 x8 x9 x10 x11 x12) (mks s [.lst []]) = .nx (e14 x0 x1 x2 (some (.int (Int.ofNat M))) (some (.obj 2)) (some (.lst ((rowsN M L).map dRow))) y6 y7 y8 x9 x10 x11 x12) (mks s [.lst (CH L M)]) := by
  have he : ((rowsN M L).flatMap fun l => (rowsN M L).flatMap fun r => outD (Int.ofNat M) (0 :: l) (r ++ [Int.ofNat M])) = CH L M := by
    unfold CH
    rw [← W.eq]
    simp only [List.map_flatMap, outD]
  have hc : (CH L M).length ≤ cap := by
    have : (CH L M).length = List.length (chs L M) := List.length_map ..
    have := W.le
    have : 400 ≤ cap := by decide
    omega
  obtain ⟨y, e⟩ := sloop_gen (b := sFor (iSeq (eVar 5)) (gN 7) z_law_1) (g := gN 6) (s := s) (fun x : Option D × Option D × Option D => e14 x0 x1 x2 (some (.int (Int.ofNat M))) (some (.obj 2)) (some (.lst ((rowsN M L).map dRow))) x.1 x.2.1 x.2.2 x9 x10 x11 x12) dRow (fun r x => (some (dRow r), x.2)) (fun l => (rowsN M L).flatMap fun r => outD (Int.ofNat M) (0 :: l) (r ++ [Int.ofNat M])) (fun r x => rfl) (rowsN M L) [] (x6, x7, x8)
    (fun l hl x zs hz => by
      obtain ⟨y7, y8, e⟩ := row_eq W (s := s) hl (x0 := x0) (x1 := x1) (x2 := x2) (x7 := x.2.1) (x8 := x.2.2) (x9 := x9) (x10 := x10) (x11 := x11) (x12 := x12) hz
      exact ⟨(some (dRow l), y7, y8), e⟩) (by rw [he, List.length_nil, Nat.zero_add]; exact hc)
  rw [he, List.nil_append] at e
  exact ⟨y.1, y.2.1, y.2.2, e⟩
variable (C : Cs L M)
include C
theorem told_eq {x0 x1 x5 x6 x7 x8 x9 x10 x11 x12 : Option D} (hC : Cl (mks s [.lst (CH L M)])) :
    z_law_3 (e14 x0 x1 (some (.int (Int.ofNat L))) (some (.int (Int.ofNat M))) (some (.obj 2)) x5 x6 x7 x8 x9 x10 x11 x12) (mks s [.lst (CH L M)]) = .nx (e14 x0 x1 (some (.int (Int.ofNat L))) (some (.int (Int.ofNat M))) (some (.obj 2)) x5 x6 x7 x8 x9 (some (.lst (CH L M))) x11 x12) (mks s [.lst (CH L M)]) := by
  have hc : List.length (chs L M) ≤ cap := Nat.le_trans W.le (by decide)
  refine sSeq_nx (st1 := mks s [.lst (CH L M)]) (sAsg_ok (st1 := mks s [.lst (CH L M)]) (d := .lst (CH L M)) ?_) ?_
  · exact eLcF_ok (ds := [D.int (Int.ofNat L), D.int (Int.ofNat M)]) rfl (p_all C hC hc) hc
  · have rp := chs_rp C.l C.m W.le
    exact (sIf_ok (ne_same (eCB_ok (ds := [.lst (CH L M)]) rfl (f_repr rp (by decide))) (eCB_ok (ds := [.obj 2]) rfl (repr_obj rfl rp (by decide))))).trans rfl
end
theorem end_eq {st : Store} {x0 x1 x2 x3 x4 x5 x6 x7 x8 x9 x10 x11 x12 : Option D} : z_law_8 (e14 x0 x1 x2 x3 x4 x5 x6 x7 x8 x9 x10 x11 x12) st = .rt (.bl true) st := by kernel_rfl
theorem sFor_ok {mi : MI} {g : MG0} {b : MS} {env : DEnv} {st st1 : Store} {ds : List D} (h : mi env st = .ok ds st1) : sFor mi g b env st = loopS g b ds env st1 := by
  unfold sFor
  rw [h]
  rfl
theorem loopS_cons {g : MG0} {b : MS} {env e1 e2 : DEnv} {st st2 : Store} {d : D} {ds : List D} {r : SR} (hg : g d env = some e1) (hb : b e1 st = .nx e2 st2) (hk : loopS g b ds e2 st2 = r) : loopS g b (d :: ds) env st = r := by
  unfold loopS
  rw [hg]
  show (b e1 st).loop _ = _
  rw [hb]
  exact hk
theorem rest_eq {L M : Nat} (W : Lw L M) (C : Cs L M) {s : LS} (hC : Cl (mks s [.lst (CH L M)])) {x0 x1 x5 x6 x7 x8 x9 x10 x11 x12 : Option D} :
    z_law_11 (e14 x0 x1 (some (.int (Int.ofNat L))) (some (.int (Int.ofNat M))) (some (.obj 2)) x5 x6 x7 x8 x9 x10 x11 x12) (mks s [.lst []]) = .rt (.bl true) (mks s [.lst (CH L M)]) := by
  refine sSeq_nx (sAsg_ok ((eCall_ok (ds := [D.int (Int.ofNat L), D.int (Int.ofNat M)]) rfl).trans (W.ro _))) ?_
  obtain ⟨y6, y7, y8, e⟩ := both_eq W (s := s) (x0 := x0) (x1 := x1) (x2 := some (.int (Int.ofNat L))) (x6 := x6) (x7 := x7) (x8 := x8) (x9 := x9) (x10 := x10) (x11 := x11) (x12 := x12)
  refine sSeq_nx e ?_
  refine sSeq_nx ((sFor_ok (ds := [D.int 0, D.int 1]) (by kernel_rfl)).trans (loopS_cons rfl (told_eq W C hC) (loopS_cons rfl (told_eq W C hC) rfl))) end_eq
end T5.G
namespace T5.G
open PySem PySem.Spec PyProof.Rows L2
/-! ### k14: the pairs of numbers -/
theorem tab_split {α β : Type} {f g : α → β} {xs : List α} (n : Nat) (h1 : (xs.take n).map f = (xs.take n).map g) (h2 : (xs.drop n).map f = (xs.drop n).map g) : xs.map f = xs.map g := by
  have e : ∀ k : α → β, xs.map k = (xs.take n).map k ++ (xs.drop n).map k := fun k => by rw [← List.map_append, List.take_append_drop]
  rw [e f, e g, h1, h2]
theorem cte_00 (st : Store) (x4 x6 : Option D) : (rowsR 0 0).map (fun l => (rowsR 0 0).map fun r => bTest (ev (Int.ofNat 0) (Int.ofNat 0) (RR 0 0) (some (dRow (0 :: l))) x4 (some (dRow (r ++ [Int.ofNat 0]))) x6) st) = (rowsR 0 0).map fun l => (rowsR 0 0).map fun r => .ok (okC (Int.ofNat 0) (0 :: l) (r ++ [Int.ofNat 0])) st := by kernel_rfl
theorem cs_00 : Cs 0 0 := ⟨fun st => by kernel_rfl, fun st => by kernel_rfl, fun st => by kernel_rfl, fun st x3 x4 x5 x6 => by kernel_rfl, fun st x3 x4 x5 x6 => by kernel_rfl, cte_00, Nat.le_of_ble_eq_true (by kernel_rfl), by decide, by decide⟩
theorem ltu_00 (st : Store) (x0 x1 x2 x4 x5 x8 x9 x10 x11 x12 : Option D) : (rowsN 0 0).map (fun l => (rowsN 0 0).map fun r => eOwn (e14 x0 x1 x2 (some (.int (Int.ofNat 0))) x4 x5 (some (dRow l)) (some (dRow r)) x8 x9 x10 x11 x12) st) = (rowsN 0 0).map fun l => (rowsN 0 0).map fun r => .ok (.tup (tri (Int.ofNat 0) (0 :: l) (r ++ [Int.ofNat 0]))) st := by kernel_rfl
theorem lch_00 (st : Store) (x0 x1 x2 x4 x5 x6 x7 x9 x10 x11 x12 : Option D) : (rowsN 0 0).map (fun l => (rowsN 0 0).map fun r => cIs (e14 x0 x1 x2 (some (.int (Int.ofNat 0))) x4 x5 x6 x7 (some (.tup (tri (Int.ofNat 0) (0 :: l) (r ++ [Int.ofNat 0])))) x9 x10 x11 x12) st) = (rowsN 0 0).map fun l => (rowsN 0 0).map fun r => .ok (okC (Int.ofNat 0) (0 :: l) (r ++ [Int.ofNat 0])) st := by kernel_rfl
theorem leq_00 : ((rowsN 0 0).flatMap fun l => (rowsN 0 0).flatMap fun r => outR (Int.ofNat 0) (0 :: l) (r ++ [Int.ofNat 0])) = chs 0 0 := by kernel_rfl
theorem lw_00 : Lw 0 0 := ⟨fun st => by kernel_rfl, ltu_00, lch_00, leq_00, Nat.le_of_ble_eq_true (by kernel_rfl)⟩
theorem cy_00 : CY [.lst (CH 0 0)] := by
  unfold CY
  kernel_rfl
theorem cte_01 (st : Store) (x4 x6 : Option D) : (rowsR 1 0).map (fun l => (rowsR 1 0).map fun r => bTest (ev (Int.ofNat 0) (Int.ofNat 1) (RR 1 0) (some (dRow (0 :: l))) x4 (some (dRow (r ++ [Int.ofNat 1]))) x6) st) = (rowsR 1 0).map fun l => (rowsR 1 0).map fun r => .ok (okC (Int.ofNat 1) (0 :: l) (r ++ [Int.ofNat 1])) st := by kernel_rfl
theorem cs_01 : Cs 0 1 := ⟨fun st => by kernel_rfl, fun st => by kernel_rfl, fun st => by kernel_rfl, fun st x3 x4 x5 x6 => by kernel_rfl, fun st x3 x4 x5 x6 => by kernel_rfl, cte_01, Nat.le_of_ble_eq_true (by kernel_rfl), by decide, by decide⟩
theorem ltu_01 (st : Store) (x0 x1 x2 x4 x5 x8 x9 x10 x11 x12 : Option D) : (rowsN 1 0).map (fun l => (rowsN 1 0).map fun r => eOwn (e14 x0 x1 x2 (some (.int (Int.ofNat 1))) x4 x5 (some (dRow l)) (some (dRow r)) x8 x9 x10 x11 x12) st) = (rowsN 1 0).map fun l => (rowsN 1 0).map fun r => .ok (.tup (tri (Int.ofNat 1) (0 :: l) (r ++ [Int.ofNat 1]))) st := by kernel_rfl
theorem lch_01 (st : Store) (x0 x1 x2 x4 x5 x6 x7 x9 x10 x11 x12 : Option D) : (rowsN 1 0).map (fun l => (rowsN 1 0).map fun r => cIs (e14 x0 x1 x2 (some (.int (Int.ofNat 1))) x4 x5 x6 x7 (some (.tup (tri (Int.ofNat 1) (0 :: l) (r ++ [Int.ofNat 1])))) x9 x10 x11 x12) st) = (rowsN 1 0).map fun l => (rowsN 1 0).map fun r => .ok (okC (Int.ofNat 1) (0 :: l) (r ++ [Int.ofNat 1])) st := by kernel_rfl
theorem leq_01 : ((rowsN 1 0).flatMap fun l => (rowsN 1 0).flatMap fun r => outR (Int.ofNat 1) (0 :: l) (r ++ [Int.ofNat 1])) = chs 0 1 := by kernel_rfl
theorem lw_01 : Lw 0 1 := ⟨fun st => by kernel_rfl, ltu_01, lch_01, leq_01, Nat.le_of_ble_eq_true (by kernel_rfl)⟩
theorem cy_01 : CY [.lst (CH 0 1)] := by
  unfold CY
  kernel_rfl
theorem cte_02 (st : Store) (x4 x6 : Option D) : (rowsR 2 0).map (fun l => (rowsR 2 0).map fun r => bTest (ev (Int.ofNat 0) (Int.ofNat 2) (RR 2 0) (some (dRow (0 :: l))) x4 (some (dRow (r ++ [Int.ofNat 2]))) x6) st) = (rowsR 2 0).map fun l => (rowsR 2 0).map fun r => .ok (okC (Int.ofNat 2) (0 :: l) (r ++ [Int.ofNat 2])) st := by kernel_rfl
theorem cs_02 : Cs 0 2 := ⟨fun st => by kernel_rfl, fun st => by kernel_rfl, fun st => by kernel_rfl, fun st x3 x4 x5 x6 => by kernel_rfl, fun st x3 x4 x5 x6 => by kernel_rfl, cte_02, Nat.le_of_ble_eq_true (by kernel_rfl), by decide, by decide⟩
theorem ltu_02 (st : Store) (x0 x1 x2 x4 x5 x8 x9 x10 x11 x12 : Option D) : (rowsN 2 0).map (fun l => (rowsN 2 0).map fun r => eOwn (e14 x0 x1 x2 (some (.int (Int.ofNat 2))) x4 x5 (some (dRow l)) (some (dRow r)) x8 x9 x10 x11 x12) st) = (rowsN 2 0).map fun l => (rowsN 2 0).map fun r => .ok (.tup (tri (Int.ofNat 2) (0 :: l) (r ++ [Int.ofNat 2]))) st := by kernel_rfl
theorem lch_02 (st : Store) (x0 x1 x2 x4 x5 x6 x7 x9 x10 x11 x12 : Option D) : (rowsN 2 0).map (fun l => (rowsN 2 0).map fun r => cIs (e14 x0 x1 x2 (some (.int (Int.ofNat 2))) x4 x5 x6 x7 (some (.tup (tri (Int.ofNat 2) (0 :: l) (r ++ [Int.ofNat 2])))) x9 x10 x11 x12) st) = (rowsN 2 0).map fun l => (rowsN 2 0).map fun r => .ok (okC (Int.ofNat 2) (0 :: l) (r ++ [Int.ofNat 2])) st := by kernel_rfl
theorem leq_02 : ((rowsN 2 0).flatMap fun l => (rowsN 2 0).flatMap fun r => outR (Int.ofNat 2) (0 :: l) (r ++ [Int.ofNat 2])) = chs 0 2 := by kernel_rfl
theorem lw_02 : Lw 0 2 := ⟨fun st => by kernel_rfl, ltu_02, lch_02, leq_02, Nat.le_of_ble_eq_true (by kernel_rfl)⟩
theorem cy_02 : CY [.lst (CH 0 2)] := by
  unfold CY
  kernel_rfl
theorem cte_03 (st : Store) (x4 x6 : Option D) : (rowsR 3 0).map (fun l => (rowsR 3 0).map fun r => bTest (ev (Int.ofNat 0) (Int.ofNat 3) (RR 3 0) (some (dRow (0 :: l))) x4 (some (dRow (r ++ [Int.ofNat 3]))) x6) st) = (rowsR 3 0).map fun l => (rowsR 3 0).map fun r => .ok (okC (Int.ofNat 3) (0 :: l) (r ++ [Int.ofNat 3])) st := by kernel_rfl
theorem cs_03 : Cs 0 3 := ⟨fun st => by kernel_rfl, fun st => by kernel_rfl, fun st => by kernel_rfl, fun st x3 x4 x5 x6 => by kernel_rfl, fun st x3 x4 x5 x6 => by kernel_rfl, cte_03, Nat.le_of_ble_eq_true (by kernel_rfl), by decide, by decide⟩
theorem ltu_03 (st : Store) (x0 x1 x2 x4 x5 x8 x9 x10 x11 x12 : Option D) : (rowsN 3 0).map (fun l => (rowsN 3 0).map fun r => eOwn (e14 x0 x1 x2 (some (.int (Int.ofNat 3))) x4 x5 (some (dRow l)) (some (dRow r)) x8 x9 x10 x11 x12) st) = (rowsN 3 0).map fun l => (rowsN 3 0).map fun r => .ok (.tup (tri (Int.ofNat 3) (0 :: l) (r ++ [Int.ofNat 3]))) st := by kernel_rfl
theorem lch_03 (st : Store) (x0 x1 x2 x4 x5 x6 x7 x9 x10 x11 x12 : Option D) : (rowsN 3 0).map (fun l => (rowsN 3 0).map fun r => cIs (e14 x0 x1 x2 (some (.int (Int.ofNat 3))) x4 x5 x6 x7 (some (.tup (tri (Int.ofNat 3) (0 :: l) (r ++ [Int.ofNat 3])))) x9 x10 x11 x12) st) = (rowsN 3 0).map fun l => (rowsN 3 0).map fun r => .ok (okC (Int.ofNat 3) (0 :: l) (r ++ [Int.ofNat 3])) st := by kernel_rfl
theorem leq_03 : ((rowsN 3 0).flatMap fun l => (rowsN 3 0).flatMap fun r => outR (Int.ofNat 3) (0 :: l) (r ++ [Int.ofNat 3])) = chs 0 3 := by kernel_rfl
theorem lw_03 : Lw 0 3 := ⟨fun st => by kernel_rfl, ltu_03, lch_03, leq_03, Nat.le_of_ble_eq_true (by kernel_rfl)⟩
theorem cy_03 : CY [.lst (CH 0 3)] := by
  unfold CY
  kernel_rfl
theorem cte_10 (st : Store) (x4 x6 : Option D) : (rowsR 0 1).map (fun l => (rowsR 0 1).map fun r => bTest (ev (Int.ofNat 1) (Int.ofNat 0) (RR 0 1) (some (dRow (0 :: l))) x4 (some (dRow (r ++ [Int.ofNat 0]))) x6) st) = (rowsR 0 1).map fun l => (rowsR 0 1).map fun r => .ok (okC (Int.ofNat 0) (0 :: l) (r ++ [Int.ofNat 0])) st := by kernel_rfl
theorem cs_10 : Cs 1 0 := ⟨fun st => by kernel_rfl, fun st => by kernel_rfl, fun st => by kernel_rfl, fun st x3 x4 x5 x6 => by kernel_rfl, fun st x3 x4 x5 x6 => by kernel_rfl, cte_10, Nat.le_of_ble_eq_true (by kernel_rfl), by decide, by decide⟩
theorem ltu_10 (st : Store) (x0 x1 x2 x4 x5 x8 x9 x10 x11 x12 : Option D) : (rowsN 0 1).map (fun l => (rowsN 0 1).map fun r => eOwn (e14 x0 x1 x2 (some (.int (Int.ofNat 0))) x4 x5 (some (dRow l)) (some (dRow r)) x8 x9 x10 x11 x12) st) = (rowsN 0 1).map fun l => (rowsN 0 1).map fun r => .ok (.tup (tri (Int.ofNat 0) (0 :: l) (r ++ [Int.ofNat 0]))) st := by kernel_rfl
theorem lch_10 (st : Store) (x0 x1 x2 x4 x5 x6 x7 x9 x10 x11 x12 : Option D) : (rowsN 0 1).map (fun l => (rowsN 0 1).map fun r => cIs (e14 x0 x1 x2 (some (.int (Int.ofNat 0))) x4 x5 x6 x7 (some (.tup (tri (Int.ofNat 0) (0 :: l) (r ++ [Int.ofNat 0])))) x9 x10 x11 x12) st) = (rowsN 0 1).map fun l => (rowsN 0 1).map fun r => .ok (okC (Int.ofNat 0) (0 :: l) (r ++ [Int.ofNat 0])) st := by kernel_rfl
theorem leq_10 : ((rowsN 0 1).flatMap fun l => (rowsN 0 1).flatMap fun r => outR (Int.ofNat 0) (0 :: l) (r ++ [Int.ofNat 0])) = chs 1 0 := by kernel_rfl
theorem lw_10 : Lw 1 0 := ⟨fun st => by kernel_rfl, ltu_10, lch_10, leq_10, Nat.le_of_ble_eq_true (by kernel_rfl)⟩
theorem cy_10 : CY [.lst (CH 1 0)] := by
  unfold CY
  kernel_rfl
theorem cte_11 (st : Store) (x4 x6 : Option D) : (rowsR 1 1).map (fun l => (rowsR 1 1).map fun r => bTest (ev (Int.ofNat 1) (Int.ofNat 1) (RR 1 1) (some (dRow (0 :: l))) x4 (some (dRow (r ++ [Int.ofNat 1]))) x6) st) = (rowsR 1 1).map fun l => (rowsR 1 1).map fun r => .ok (okC (Int.ofNat 1) (0 :: l) (r ++ [Int.ofNat 1])) st := by kernel_rfl
theorem cs_11 : Cs 1 1 := ⟨fun st => by kernel_rfl, fun st => by kernel_rfl, fun st => by kernel_rfl, fun st x3 x4 x5 x6 => by kernel_rfl, fun st x3 x4 x5 x6 => by kernel_rfl, cte_11, Nat.le_of_ble_eq_true (by kernel_rfl), by decide, by decide⟩
theorem ltu_11 (st : Store) (x0 x1 x2 x4 x5 x8 x9 x10 x11 x12 : Option D) : (rowsN 1 1).map (fun l => (rowsN 1 1).map fun r => eOwn (e14 x0 x1 x2 (some (.int (Int.ofNat 1))) x4 x5 (some (dRow l)) (some (dRow r)) x8 x9 x10 x11 x12) st) = (rowsN 1 1).map fun l => (rowsN 1 1).map fun r => .ok (.tup (tri (Int.ofNat 1) (0 :: l) (r ++ [Int.ofNat 1]))) st := by kernel_rfl
theorem lch_11 (st : Store) (x0 x1 x2 x4 x5 x6 x7 x9 x10 x11 x12 : Option D) : (rowsN 1 1).map (fun l => (rowsN 1 1).map fun r => cIs (e14 x0 x1 x2 (some (.int (Int.ofNat 1))) x4 x5 x6 x7 (some (.tup (tri (Int.ofNat 1) (0 :: l) (r ++ [Int.ofNat 1])))) x9 x10 x11 x12) st) = (rowsN 1 1).map fun l => (rowsN 1 1).map fun r => .ok (okC (Int.ofNat 1) (0 :: l) (r ++ [Int.ofNat 1])) st := by kernel_rfl
theorem leq_11 : ((rowsN 1 1).flatMap fun l => (rowsN 1 1).flatMap fun r => outR (Int.ofNat 1) (0 :: l) (r ++ [Int.ofNat 1])) = chs 1 1 := by kernel_rfl
theorem lw_11 : Lw 1 1 := ⟨fun st => by kernel_rfl, ltu_11, lch_11, leq_11, Nat.le_of_ble_eq_true (by kernel_rfl)⟩
theorem cy_11 : CY [.lst (CH 1 1)] := by
  unfold CY
  kernel_rfl
theorem cte_12 (st : Store) (x4 x6 : Option D) : (rowsR 2 1).map (fun l => (rowsR 2 1).map fun r => bTest (ev (Int.ofNat 1) (Int.ofNat 2) (RR 2 1) (some (dRow (0 :: l))) x4 (some (dRow (r ++ [Int.ofNat 2]))) x6) st) = (rowsR 2 1).map fun l => (rowsR 2 1).map fun r => .ok (okC (Int.ofNat 2) (0 :: l) (r ++ [Int.ofNat 2])) st := by kernel_rfl
theorem cs_12 : Cs 1 2 := ⟨fun st => by kernel_rfl, fun st => by kernel_rfl, fun st => by kernel_rfl, fun st x3 x4 x5 x6 => by kernel_rfl, fun st x3 x4 x5 x6 => by kernel_rfl, cte_12, Nat.le_of_ble_eq_true (by kernel_rfl), by decide, by decide⟩
theorem ltu_12 (st : Store) (x0 x1 x2 x4 x5 x8 x9 x10 x11 x12 : Option D) : (rowsN 2 1).map (fun l => (rowsN 2 1).map fun r => eOwn (e14 x0 x1 x2 (some (.int (Int.ofNat 2))) x4 x5 (some (dRow l)) (some (dRow r)) x8 x9 x10 x11 x12) st) = (rowsN 2 1).map fun l => (rowsN 2 1).map fun r => .ok (.tup (tri (Int.ofNat 2) (0 :: l) (r ++ [Int.ofNat 2]))) st := by kernel_rfl
theorem lch_12 (st : Store) (x0 x1 x2 x4 x5 x6 x7 x9 x10 x11 x12 : Option D) : (rowsN 2 1).map (fun l => (rowsN 2 1).map fun r => cIs (e14 x0 x1 x2 (some (.int (Int.ofNat 2))) x4 x5 x6 x7 (some (.tup (tri (Int.ofNat 2) (0 :: l) (r ++ [Int.ofNat 2])))) x9 x10 x11 x12) st) = (rowsN 2 1).map fun l => (rowsN 2 1).map fun r => .ok (okC (Int.ofNat 2) (0 :: l) (r ++ [Int.ofNat 2])) st := by kernel_rfl
theorem leq_12 : ((rowsN 2 1).flatMap fun l => (rowsN 2 1).flatMap fun r => outR (Int.ofNat 2) (0 :: l) (r ++ [Int.ofNat 2])) = chs 1 2 := by kernel_rfl
theorem lw_12 : Lw 1 2 := ⟨fun st => by kernel_rfl, ltu_12, lch_12, leq_12, Nat.le_of_ble_eq_true (by kernel_rfl)⟩
theorem cy_12 : CY [.lst (CH 1 2)] := by
  unfold CY
  kernel_rfl
theorem cte_13 (st : Store) (x4 x6 : Option D) : (rowsR 3 1).map (fun l => (rowsR 3 1).map fun r => bTest (ev (Int.ofNat 1) (Int.ofNat 3) (RR 3 1) (some (dRow (0 :: l))) x4 (some (dRow (r ++ [Int.ofNat 3]))) x6) st) = (rowsR 3 1).map fun l => (rowsR 3 1).map fun r => .ok (okC (Int.ofNat 3) (0 :: l) (r ++ [Int.ofNat 3])) st := by kernel_rfl
theorem cs_13 : Cs 1 3 := ⟨fun st => by kernel_rfl, fun st => by kernel_rfl, fun st => by kernel_rfl, fun st x3 x4 x5 x6 => by kernel_rfl, fun st x3 x4 x5 x6 => by kernel_rfl, cte_13, Nat.le_of_ble_eq_true (by kernel_rfl), by decide, by decide⟩
theorem ltu_13 (st : Store) (x0 x1 x2 x4 x5 x8 x9 x10 x11 x12 : Option D) : (rowsN 3 1).map (fun l => (rowsN 3 1).map fun r => eOwn (e14 x0 x1 x2 (some (.int (Int.ofNat 3))) x4 x5 (some (dRow l)) (some (dRow r)) x8 x9 x10 x11 x12) st) = (rowsN 3 1).map fun l => (rowsN 3 1).map fun r => .ok (.tup (tri (Int.ofNat 3) (0 :: l) (r ++ [Int.ofNat 3]))) st := by kernel_rfl
theorem lch_13 (st : Store) (x0 x1 x2 x4 x5 x6 x7 x9 x10 x11 x12 : Option D) : (rowsN 3 1).map (fun l => (rowsN 3 1).map fun r => cIs (e14 x0 x1 x2 (some (.int (Int.ofNat 3))) x4 x5 x6 x7 (some (.tup (tri (Int.ofNat 3) (0 :: l) (r ++ [Int.ofNat 3])))) x9 x10 x11 x12) st) = (rowsN 3 1).map fun l => (rowsN 3 1).map fun r => .ok (okC (Int.ofNat 3) (0 :: l) (r ++ [Int.ofNat 3])) st := by kernel_rfl
theorem leq_13 : ((rowsN 3 1).flatMap fun l => (rowsN 3 1).flatMap fun r => outR (Int.ofNat 3) (0 :: l) (r ++ [Int.ofNat 3])) = chs 1 3 := by kernel_rfl
theorem lw_13 : Lw 1 3 := ⟨fun st => by kernel_rfl, ltu_13, lch_13, leq_13, Nat.le_of_ble_eq_true (by kernel_rfl)⟩
theorem cy_13 : CY [.lst (CH 1 3)] := by
  unfold CY
  kernel_rfl
theorem cte_20 (st : Store) (x4 x6 : Option D) : (rowsR 0 2).map (fun l => (rowsR 0 2).map fun r => bTest (ev (Int.ofNat 2) (Int.ofNat 0) (RR 0 2) (some (dRow (0 :: l))) x4 (some (dRow (r ++ [Int.ofNat 0]))) x6) st) = (rowsR 0 2).map fun l => (rowsR 0 2).map fun r => .ok (okC (Int.ofNat 0) (0 :: l) (r ++ [Int.ofNat 0])) st := by kernel_rfl
theorem cs_20 : Cs 2 0 := ⟨fun st => by kernel_rfl, fun st => by kernel_rfl, fun st => by kernel_rfl, fun st x3 x4 x5 x6 => by kernel_rfl, fun st x3 x4 x5 x6 => by kernel_rfl, cte_20, Nat.le_of_ble_eq_true (by kernel_rfl), by decide, by decide⟩
theorem ltu_20 (st : Store) (x0 x1 x2 x4 x5 x8 x9 x10 x11 x12 : Option D) : (rowsN 0 2).map (fun l => (rowsN 0 2).map fun r => eOwn (e14 x0 x1 x2 (some (.int (Int.ofNat 0))) x4 x5 (some (dRow l)) (some (dRow r)) x8 x9 x10 x11 x12) st) = (rowsN 0 2).map fun l => (rowsN 0 2).map fun r => .ok (.tup (tri (Int.ofNat 0) (0 :: l) (r ++ [Int.ofNat 0]))) st := by kernel_rfl
theorem lch_20 (st : Store) (x0 x1 x2 x4 x5 x6 x7 x9 x10 x11 x12 : Option D) : (rowsN 0 2).map (fun l => (rowsN 0 2).map fun r => cIs (e14 x0 x1 x2 (some (.int (Int.ofNat 0))) x4 x5 x6 x7 (some (.tup (tri (Int.ofNat 0) (0 :: l) (r ++ [Int.ofNat 0])))) x9 x10 x11 x12) st) = (rowsN 0 2).map fun l => (rowsN 0 2).map fun r => .ok (okC (Int.ofNat 0) (0 :: l) (r ++ [Int.ofNat 0])) st := by kernel_rfl
theorem leq_20 : ((rowsN 0 2).flatMap fun l => (rowsN 0 2).flatMap fun r => outR (Int.ofNat 0) (0 :: l) (r ++ [Int.ofNat 0])) = chs 2 0 := by kernel_rfl
theorem lw_20 : Lw 2 0 := ⟨fun st => by kernel_rfl, ltu_20, lch_20, leq_20, Nat.le_of_ble_eq_true (by kernel_rfl)⟩
theorem cy_20 : CY [.lst (CH 2 0)] := by
  unfold CY
  kernel_rfl
theorem cte_21 (st : Store) (x4 x6 : Option D) : (rowsR 1 2).map (fun l => (rowsR 1 2).map fun r => bTest (ev (Int.ofNat 2) (Int.ofNat 1) (RR 1 2) (some (dRow (0 :: l))) x4 (some (dRow (r ++ [Int.ofNat 1]))) x6) st) = (rowsR 1 2).map fun l => (rowsR 1 2).map fun r => .ok (okC (Int.ofNat 1) (0 :: l) (r ++ [Int.ofNat 1])) st := by kernel_rfl
theorem cs_21 : Cs 2 1 := ⟨fun st => by kernel_rfl, fun st => by kernel_rfl, fun st => by kernel_rfl, fun st x3 x4 x5 x6 => by kernel_rfl, fun st x3 x4 x5 x6 => by kernel_rfl, cte_21, Nat.le_of_ble_eq_true (by kernel_rfl), by decide, by decide⟩
theorem ltu_21 (st : Store) (x0 x1 x2 x4 x5 x8 x9 x10 x11 x12 : Option D) : (rowsN 1 2).map (fun l => (rowsN 1 2).map fun r => eOwn (e14 x0 x1 x2 (some (.int (Int.ofNat 1))) x4 x5 (some (dRow l)) (some (dRow r)) x8 x9 x10 x11 x12) st) = (rowsN 1 2).map fun l => (rowsN 1 2).map fun r => .ok (.tup (tri (Int.ofNat 1) (0 :: l) (r ++ [Int.ofNat 1]))) st := by kernel_rfl
theorem lch_21 (st : Store) (x0 x1 x2 x4 x5 x6 x7 x9 x10 x11 x12 : Option D) : (rowsN 1 2).map (fun l => (rowsN 1 2).map fun r => cIs (e14 x0 x1 x2 (some (.int (Int.ofNat 1))) x4 x5 x6 x7 (some (.tup (tri (Int.ofNat 1) (0 :: l) (r ++ [Int.ofNat 1])))) x9 x10 x11 x12) st) = (rowsN 1 2).map fun l => (rowsN 1 2).map fun r => .ok (okC (Int.ofNat 1) (0 :: l) (r ++ [Int.ofNat 1])) st := by kernel_rfl
theorem leq_21 : ((rowsN 1 2).flatMap fun l => (rowsN 1 2).flatMap fun r => outR (Int.ofNat 1) (0 :: l) (r ++ [Int.ofNat 1])) = chs 2 1 := by kernel_rfl
theorem lw_21 : Lw 2 1 := ⟨fun st => by kernel_rfl, ltu_21, lch_21, leq_21, Nat.le_of_ble_eq_true (by kernel_rfl)⟩
theorem cy_21 : CY [.lst (CH 2 1)] := by
  unfold CY
  kernel_rfl
theorem cte_22 (st : Store) (x4 x6 : Option D) : (rowsR 2 2).map (fun l => (rowsR 2 2).map fun r => bTest (ev (Int.ofNat 2) (Int.ofNat 2) (RR 2 2) (some (dRow (0 :: l))) x4 (some (dRow (r ++ [Int.ofNat 2]))) x6) st) = (rowsR 2 2).map fun l => (rowsR 2 2).map fun r => .ok (okC (Int.ofNat 2) (0 :: l) (r ++ [Int.ofNat 2])) st := by kernel_rfl
theorem cs_22 : Cs 2 2 := ⟨fun st => by kernel_rfl, fun st => by kernel_rfl, fun st => by kernel_rfl, fun st x3 x4 x5 x6 => by kernel_rfl, fun st x3 x4 x5 x6 => by kernel_rfl, cte_22, Nat.le_of_ble_eq_true (by kernel_rfl), by decide, by decide⟩
theorem ltu_22 (st : Store) (x0 x1 x2 x4 x5 x8 x9 x10 x11 x12 : Option D) : (rowsN 2 2).map (fun l => (rowsN 2 2).map fun r => eOwn (e14 x0 x1 x2 (some (.int (Int.ofNat 2))) x4 x5 (some (dRow l)) (some (dRow r)) x8 x9 x10 x11 x12) st) = (rowsN 2 2).map fun l => (rowsN 2 2).map fun r => .ok (.tup (tri (Int.ofNat 2) (0 :: l) (r ++ [Int.ofNat 2]))) st := by kernel_rfl
theorem lch_22 (st : Store) (x0 x1 x2 x4 x5 x6 x7 x9 x10 x11 x12 : Option D) : (rowsN 2 2).map (fun l => (rowsN 2 2).map fun r => cIs (e14 x0 x1 x2 (some (.int (Int.ofNat 2))) x4 x5 x6 x7 (some (.tup (tri (Int.ofNat 2) (0 :: l) (r ++ [Int.ofNat 2])))) x9 x10 x11 x12) st) = (rowsN 2 2).map fun l => (rowsN 2 2).map fun r => .ok (okC (Int.ofNat 2) (0 :: l) (r ++ [Int.ofNat 2])) st := by kernel_rfl
theorem leq_22 : ((rowsN 2 2).flatMap fun l => (rowsN 2 2).flatMap fun r => outR (Int.ofNat 2) (0 :: l) (r ++ [Int.ofNat 2])) = chs 2 2 := by kernel_rfl
theorem lw_22 : Lw 2 2 := ⟨fun st => by kernel_rfl, ltu_22, lch_22, leq_22, Nat.le_of_ble_eq_true (by kernel_rfl)⟩
theorem cy_22 : CY [.lst (CH 2 2)] := by
  unfold CY
  kernel_rfl
theorem cte_23 (st : Store) (x4 x6 : Option D) : (rowsR 3 2).map (fun l => (rowsR 3 2).map fun r => bTest (ev (Int.ofNat 2) (Int.ofNat 3) (RR 3 2) (some (dRow (0 :: l))) x4 (some (dRow (r ++ [Int.ofNat 3]))) x6) st) = (rowsR 3 2).map fun l => (rowsR 3 2).map fun r => .ok (okC (Int.ofNat 3) (0 :: l) (r ++ [Int.ofNat 3])) st := by kernel_rfl
theorem cs_23 : Cs 2 3 := ⟨fun st => by kernel_rfl, fun st => by kernel_rfl, fun st => by kernel_rfl, fun st x3 x4 x5 x6 => by kernel_rfl, fun st x3 x4 x5 x6 => by kernel_rfl, cte_23, Nat.le_of_ble_eq_true (by kernel_rfl), by decide, by decide⟩
theorem ltu_23 (st : Store) (x0 x1 x2 x4 x5 x8 x9 x10 x11 x12 : Option D) : (rowsN 3 2).map (fun l => (rowsN 3 2).map fun r => eOwn (e14 x0 x1 x2 (some (.int (Int.ofNat 3))) x4 x5 (some (dRow l)) (some (dRow r)) x8 x9 x10 x11 x12) st) = (rowsN 3 2).map fun l => (rowsN 3 2).map fun r => .ok (.tup (tri (Int.ofNat 3) (0 :: l) (r ++ [Int.ofNat 3]))) st := by kernel_rfl
theorem lch_23 (st : Store) (x0 x1 x2 x4 x5 x6 x7 x9 x10 x11 x12 : Option D) : (rowsN 3 2).map (fun l => (rowsN 3 2).map fun r => cIs (e14 x0 x1 x2 (some (.int (Int.ofNat 3))) x4 x5 x6 x7 (some (.tup (tri (Int.ofNat 3) (0 :: l) (r ++ [Int.ofNat 3])))) x9 x10 x11 x12) st) = (rowsN 3 2).map fun l => (rowsN 3 2).map fun r => .ok (okC (Int.ofNat 3) (0 :: l) (r ++ [Int.ofNat 3])) st := by kernel_rfl
theorem leq_23 : ((rowsN 3 2).flatMap fun l => (rowsN 3 2).flatMap fun r => outR (Int.ofNat 3) (0 :: l) (r ++ [Int.ofNat 3])) = chs 2 3 := by kernel_rfl
theorem lw_23 : Lw 2 3 := ⟨fun st => by kernel_rfl, ltu_23, lch_23, leq_23, Nat.le_of_ble_eq_true (by kernel_rfl)⟩
theorem cy_23 : CY [.lst (CH 2 3)] := by
  unfold CY
  kernel_rfl
theorem cte_30 (st : Store) (x4 x6 : Option D) : (rowsR 0 3).map (fun l => (rowsR 0 3).map fun r => bTest (ev (Int.ofNat 3) (Int.ofNat 0) (RR 0 3) (some (dRow (0 :: l))) x4 (some (dRow (r ++ [Int.ofNat 0]))) x6) st) = (rowsR 0 3).map fun l => (rowsR 0 3).map fun r => .ok (okC (Int.ofNat 0) (0 :: l) (r ++ [Int.ofNat 0])) st := by kernel_rfl
theorem cs_30 : Cs 3 0 := ⟨fun st => by kernel_rfl, fun st => by kernel_rfl, fun st => by kernel_rfl, fun st x3 x4 x5 x6 => by kernel_rfl, fun st x3 x4 x5 x6 => by kernel_rfl, cte_30, Nat.le_of_ble_eq_true (by kernel_rfl), by decide, by decide⟩
theorem ltu_30 (st : Store) (x0 x1 x2 x4 x5 x8 x9 x10 x11 x12 : Option D) : (rowsN 0 3).map (fun l => (rowsN 0 3).map fun r => eOwn (e14 x0 x1 x2 (some (.int (Int.ofNat 0))) x4 x5 (some (dRow l)) (some (dRow r)) x8 x9 x10 x11 x12) st) = (rowsN 0 3).map fun l => (rowsN 0 3).map fun r => .ok (.tup (tri (Int.ofNat 0) (0 :: l) (r ++ [Int.ofNat 0]))) st := by kernel_rfl
theorem lch_30 (st : Store) (x0 x1 x2 x4 x5 x6 x7 x9 x10 x11 x12 : Option D) : (rowsN 0 3).map (fun l => (rowsN 0 3).map fun r => cIs (e14 x0 x1 x2 (some (.int (Int.ofNat 0))) x4 x5 x6 x7 (some (.tup (tri (Int.ofNat 0) (0 :: l) (r ++ [Int.ofNat 0])))) x9 x10 x11 x12) st) = (rowsN 0 3).map fun l => (rowsN 0 3).map fun r => .ok (okC (Int.ofNat 0) (0 :: l) (r ++ [Int.ofNat 0])) st := by kernel_rfl
theorem leq_30 : ((rowsN 0 3).flatMap fun l => (rowsN 0 3).flatMap fun r => outR (Int.ofNat 0) (0 :: l) (r ++ [Int.ofNat 0])) = chs 3 0 := by kernel_rfl
theorem lw_30 : Lw 3 0 := ⟨fun st => by kernel_rfl, ltu_30, lch_30, leq_30, Nat.le_of_ble_eq_true (by kernel_rfl)⟩
theorem cy_30 : CY [.lst (CH 3 0)] := by
  unfold CY
  kernel_rfl
theorem cte_31 (st : Store) (x4 x6 : Option D) : (rowsR 1 3).map (fun l => (rowsR 1 3).map fun r => bTest (ev (Int.ofNat 3) (Int.ofNat 1) (RR 1 3) (some (dRow (0 :: l))) x4 (some (dRow (r ++ [Int.ofNat 1]))) x6) st) = (rowsR 1 3).map fun l => (rowsR 1 3).map fun r => .ok (okC (Int.ofNat 1) (0 :: l) (r ++ [Int.ofNat 1])) st := by kernel_rfl
theorem cs_31 : Cs 3 1 := ⟨fun st => by kernel_rfl, fun st => by kernel_rfl, fun st => by kernel_rfl, fun st x3 x4 x5 x6 => by kernel_rfl, fun st x3 x4 x5 x6 => by kernel_rfl, cte_31, Nat.le_of_ble_eq_true (by kernel_rfl), by decide, by decide⟩
theorem ltu_31 (st : Store) (x0 x1 x2 x4 x5 x8 x9 x10 x11 x12 : Option D) : (rowsN 1 3).map (fun l => (rowsN 1 3).map fun r => eOwn (e14 x0 x1 x2 (some (.int (Int.ofNat 1))) x4 x5 (some (dRow l)) (some (dRow r)) x8 x9 x10 x11 x12) st) = (rowsN 1 3).map fun l => (rowsN 1 3).map fun r => .ok (.tup (tri (Int.ofNat 1) (0 :: l) (r ++ [Int.ofNat 1]))) st := by kernel_rfl
theorem lch_31 (st : Store) (x0 x1 x2 x4 x5 x6 x7 x9 x10 x11 x12 : Option D) : (rowsN 1 3).map (fun l => (rowsN 1 3).map fun r => cIs (e14 x0 x1 x2 (some (.int (Int.ofNat 1))) x4 x5 x6 x7 (some (.tup (tri (Int.ofNat 1) (0 :: l) (r ++ [Int.ofNat 1])))) x9 x10 x11 x12) st) = (rowsN 1 3).map fun l => (rowsN 1 3).map fun r => .ok (okC (Int.ofNat 1) (0 :: l) (r ++ [Int.ofNat 1])) st := by kernel_rfl
theorem leq_31 : ((rowsN 1 3).flatMap fun l => (rowsN 1 3).flatMap fun r => outR (Int.ofNat 1) (0 :: l) (r ++ [Int.ofNat 1])) = chs 3 1 := by kernel_rfl
theorem lw_31 : Lw 3 1 := ⟨fun st => by kernel_rfl, ltu_31, lch_31, leq_31, Nat.le_of_ble_eq_true (by kernel_rfl)⟩
theorem cy_31 : CY [.lst (CH 3 1)] := by
  unfold CY
  kernel_rfl
theorem cte_32 (st : Store) (x4 x6 : Option D) : (rowsR 2 3).map (fun l => (rowsR 2 3).map fun r => bTest (ev (Int.ofNat 3) (Int.ofNat 2) (RR 2 3) (some (dRow (0 :: l))) x4 (some (dRow (r ++ [Int.ofNat 2]))) x6) st) = (rowsR 2 3).map fun l => (rowsR 2 3).map fun r => .ok (okC (Int.ofNat 2) (0 :: l) (r ++ [Int.ofNat 2])) st := by kernel_rfl
theorem cs_32 : Cs 3 2 := ⟨fun st => by kernel_rfl, fun st => by kernel_rfl, fun st => by kernel_rfl, fun st x3 x4 x5 x6 => by kernel_rfl, fun st x3 x4 x5 x6 => by kernel_rfl, cte_32, Nat.le_of_ble_eq_true (by kernel_rfl), by decide, by decide⟩
theorem ltu_32 (st : Store) (x0 x1 x2 x4 x5 x8 x9 x10 x11 x12 : Option D) : (rowsN 2 3).map (fun l => (rowsN 2 3).map fun r => eOwn (e14 x0 x1 x2 (some (.int (Int.ofNat 2))) x4 x5 (some (dRow l)) (some (dRow r)) x8 x9 x10 x11 x12) st) = (rowsN 2 3).map fun l => (rowsN 2 3).map fun r => .ok (.tup (tri (Int.ofNat 2) (0 :: l) (r ++ [Int.ofNat 2]))) st := by kernel_rfl
theorem lch_32_0 (st : Store) (x0 x1 x2 x4 x5 x6 x7 x9 x10 x11 x12 : Option D) : ((rowsN 2 3).take 4).map (fun l => (rowsN 2 3).map fun r => cIs (e14 x0 x1 x2 (some (.int (Int.ofNat 2))) x4 x5 x6 x7 (some (.tup (tri (Int.ofNat 2) (0 :: l) (r ++ [Int.ofNat 2])))) x9 x10 x11 x12) st) = ((rowsN 2 3).take 4).map (fun l => (rowsN 2 3).map fun r => .ok (okC (Int.ofNat 2) (0 :: l) (r ++ [Int.ofNat 2])) st) := by kernel_rfl
theorem lch_32_1 (st : Store) (x0 x1 x2 x4 x5 x6 x7 x9 x10 x11 x12 : Option D) : (((rowsN 2 3).drop 4).take 4).map (fun l => (rowsN 2 3).map fun r => cIs (e14 x0 x1 x2 (some (.int (Int.ofNat 2))) x4 x5 x6 x7 (some (.tup (tri (Int.ofNat 2) (0 :: l) (r ++ [Int.ofNat 2])))) x9 x10 x11 x12) st) = (((rowsN 2 3).drop 4).take 4).map (fun l => (rowsN 2 3).map fun r => .ok (okC (Int.ofNat 2) (0 :: l) (r ++ [Int.ofNat 2])) st) := by kernel_rfl
theorem lch_32_2 (st : Store) (x0 x1 x2 x4 x5 x6 x7 x9 x10 x11 x12 : Option D) : ((((rowsN 2 3).drop 4).drop 4).take 4).map (fun l => (rowsN 2 3).map fun r => cIs (e14 x0 x1 x2 (some (.int (Int.ofNat 2))) x4 x5 x6 x7 (some (.tup (tri (Int.ofNat 2) (0 :: l) (r ++ [Int.ofNat 2])))) x9 x10 x11 x12) st) = ((((rowsN 2 3).drop 4).drop 4).take 4).map (fun l => (rowsN 2 3).map fun r => .ok (okC (Int.ofNat 2) (0 :: l) (r ++ [Int.ofNat 2])) st) := by kernel_rfl
theorem lch_32_3 (st : Store) (x0 x1 x2 x4 x5 x6 x7 x9 x10 x11 x12 : Option D) : (((((rowsN 2 3).drop 4).drop 4).drop 4).take 4).map (fun l => (rowsN 2 3).map fun r => cIs (e14 x0 x1 x2 (some (.int (Int.ofNat 2))) x4 x5 x6 x7 (some (.tup (tri (Int.ofNat 2) (0 :: l) (r ++ [Int.ofNat 2])))) x9 x10 x11 x12) st) = (((((rowsN 2 3).drop 4).drop 4).drop 4).take 4).map (fun l => (rowsN 2 3).map fun r => .ok (okC (Int.ofNat 2) (0 :: l) (r ++ [Int.ofNat 2])) st) := by kernel_rfl
theorem lch_32_4 (st : Store) (x0 x1 x2 x4 x5 x6 x7 x9 x10 x11 x12 : Option D) : ((((((rowsN 2 3).drop 4).drop 4).drop 4).drop 4).take 4).map (fun l => (rowsN 2 3).map fun r => cIs (e14 x0 x1 x2 (some (.int (Int.ofNat 2))) x4 x5 x6 x7 (some (.tup (tri (Int.ofNat 2) (0 :: l) (r ++ [Int.ofNat 2])))) x9 x10 x11 x12) st) = ((((((rowsN 2 3).drop 4).drop 4).drop 4).drop 4).take 4).map (fun l => (rowsN 2 3).map fun r => .ok (okC (Int.ofNat 2) (0 :: l) (r ++ [Int.ofNat 2])) st) := by kernel_rfl
theorem lch_32_5 (st : Store) (x0 x1 x2 x4 x5 x6 x7 x9 x10 x11 x12 : Option D) : (((((((rowsN 2 3).drop 4).drop 4).drop 4).drop 4).drop 4).take 4).map (fun l => (rowsN 2 3).map fun r => cIs (e14 x0 x1 x2 (some (.int (Int.ofNat 2))) x4 x5 x6 x7 (some (.tup (tri (Int.ofNat 2) (0 :: l) (r ++ [Int.ofNat 2])))) x9 x10 x11 x12) st) = (((((((rowsN 2 3).drop 4).drop 4).drop 4).drop 4).drop 4).take 4).map (fun l => (rowsN 2 3).map fun r => .ok (okC (Int.ofNat 2) (0 :: l) (r ++ [Int.ofNat 2])) st) := by kernel_rfl
theorem lch_32_6 (st : Store) (x0 x1 x2 x4 x5 x6 x7 x9 x10 x11 x12 : Option D) : ((((((((rowsN 2 3).drop 4).drop 4).drop 4).drop 4).drop 4).drop 4).take 4).map (fun l => (rowsN 2 3).map fun r => cIs (e14 x0 x1 x2 (some (.int (Int.ofNat 2))) x4 x5 x6 x7 (some (.tup (tri (Int.ofNat 2) (0 :: l) (r ++ [Int.ofNat 2])))) x9 x10 x11 x12) st) = ((((((((rowsN 2 3).drop 4).drop 4).drop 4).drop 4).drop 4).drop 4).take 4).map (fun l => (rowsN 2 3).map fun r => .ok (okC (Int.ofNat 2) (0 :: l) (r ++ [Int.ofNat 2])) st) := by kernel_rfl
theorem lch_32 (st : Store) (x0 x1 x2 x4 x5 x6 x7 x9 x10 x11 x12 : Option D) : (rowsN 2 3).map (fun l => (rowsN 2 3).map fun r => cIs (e14 x0 x1 x2 (some (.int (Int.ofNat 2))) x4 x5 x6 x7 (some (.tup (tri (Int.ofNat 2) (0 :: l) (r ++ [Int.ofNat 2])))) x9 x10 x11 x12) st) = (rowsN 2 3).map (fun l => (rowsN 2 3).map fun r => .ok (okC (Int.ofNat 2) (0 :: l) (r ++ [Int.ofNat 2])) st) := (tab_split 4 (lch_32_0 st x0 x1 x2 x4 x5 x6 x7 x9 x10 x11 x12) (tab_split 4 (lch_32_1 st x0 x1 x2 x4 x5 x6 x7 x9 x10 x11 x12) (tab_split 4 (lch_32_2 st x0 x1 x2 x4 x5 x6 x7 x9 x10 x11 x12) (tab_split 4 (lch_32_3 st x0 x1 x2 x4 x5 x6 x7 x9 x10 x11 x12) (tab_split 4 (lch_32_4 st x0 x1 x2 x4 x5 x6 x7 x9 x10 x11 x12) (tab_split 4 (lch_32_5 st x0 x1 x2 x4 x5 x6 x7 x9 x10 x11 x12) (tab_split 4 (lch_32_6 st x0 x1 x2 x4 x5 x6 x7 x9 x10 x11 x12) (show ((((((((rowsN 2 3).drop 4).drop 4).drop 4).drop 4).drop 4).drop 4).drop 4).map (fun l => (rowsN 2 3).map fun r => cIs (e14 x0 x1 x2 (some (.int (Int.ofNat 2))) x4 x5 x6 x7 (some (.tup (tri (Int.ofNat 2) (0 :: l) (r ++ [Int.ofNat 2])))) x9 x10 x11 x12) st) = ((((((((rowsN 2 3).drop 4).drop 4).drop 4).drop 4).drop 4).drop 4).drop 4).map (fun l => (rowsN 2 3).map fun r => .ok (okC (Int.ofNat 2) (0 :: l) (r ++ [Int.ofNat 2])) st) by kernel_rfl))))))))
theorem leq_32 : ((rowsN 2 3).flatMap fun l => (rowsN 2 3).flatMap fun r => outR (Int.ofNat 2) (0 :: l) (r ++ [Int.ofNat 2])) = chs 3 2 := by kernel_rfl
theorem lw_32 : Lw 3 2 := ⟨fun st => by kernel_rfl, ltu_32, lch_32, leq_32, Nat.le_of_ble_eq_true (by kernel_rfl)⟩
theorem cy_32 : CY [.lst (CH 3 2)] := by
  unfold CY
  kernel_rfl
theorem cte_33 (st : Store) (x4 x6 : Option D) : (rowsR 3 3).map (fun l => (rowsR 3 3).map fun r => bTest (ev (Int.ofNat 3) (Int.ofNat 3) (RR 3 3) (some (dRow (0 :: l))) x4 (some (dRow (r ++ [Int.ofNat 3]))) x6) st) = (rowsR 3 3).map fun l => (rowsR 3 3).map fun r => .ok (okC (Int.ofNat 3) (0 :: l) (r ++ [Int.ofNat 3])) st := by kernel_rfl
theorem cs_33 : Cs 3 3 := ⟨fun st => by kernel_rfl, fun st => by kernel_rfl, fun st => by kernel_rfl, fun st x3 x4 x5 x6 => by kernel_rfl, fun st x3 x4 x5 x6 => by kernel_rfl, cte_33, Nat.le_of_ble_eq_true (by kernel_rfl), by decide, by decide⟩
theorem ltu_33 (st : Store) (x0 x1 x2 x4 x5 x8 x9 x10 x11 x12 : Option D) : (rowsN 3 3).map (fun l => (rowsN 3 3).map fun r => eOwn (e14 x0 x1 x2 (some (.int (Int.ofNat 3))) x4 x5 (some (dRow l)) (some (dRow r)) x8 x9 x10 x11 x12) st) = (rowsN 3 3).map fun l => (rowsN 3 3).map fun r => .ok (.tup (tri (Int.ofNat 3) (0 :: l) (r ++ [Int.ofNat 3]))) st := by kernel_rfl
theorem lch_33_0 (st : Store) (x0 x1 x2 x4 x5 x6 x7 x9 x10 x11 x12 : Option D) : ((rowsN 3 3).take 4).map (fun l => (rowsN 3 3).map fun r => cIs (e14 x0 x1 x2 (some (.int (Int.ofNat 3))) x4 x5 x6 x7 (some (.tup (tri (Int.ofNat 3) (0 :: l) (r ++ [Int.ofNat 3])))) x9 x10 x11 x12) st) = ((rowsN 3 3).take 4).map (fun l => (rowsN 3 3).map fun r => .ok (okC (Int.ofNat 3) (0 :: l) (r ++ [Int.ofNat 3])) st) := by kernel_rfl
theorem lch_33_1 (st : Store) (x0 x1 x2 x4 x5 x6 x7 x9 x10 x11 x12 : Option D) : (((rowsN 3 3).drop 4).take 4).map (fun l => (rowsN 3 3).map fun r => cIs (e14 x0 x1 x2 (some (.int (Int.ofNat 3))) x4 x5 x6 x7 (some (.tup (tri (Int.ofNat 3) (0 :: l) (r ++ [Int.ofNat 3])))) x9 x10 x11 x12) st) = (((rowsN 3 3).drop 4).take 4).map (fun l => (rowsN 3 3).map fun r => .ok (okC (Int.ofNat 3) (0 :: l) (r ++ [Int.ofNat 3])) st) := by kernel_rfl
theorem lch_33_2 (st : Store) (x0 x1 x2 x4 x5 x6 x7 x9 x10 x11 x12 : Option D) : ((((rowsN 3 3).drop 4).drop 4).take 4).map (fun l => (rowsN 3 3).map fun r => cIs (e14 x0 x1 x2 (some (.int (Int.ofNat 3))) x4 x5 x6 x7 (some (.tup (tri (Int.ofNat 3) (0 :: l) (r ++ [Int.ofNat 3])))) x9 x10 x11 x12) st) = ((((rowsN 3 3).drop 4).drop 4).take 4).map (fun l => (rowsN 3 3).map fun r => .ok (okC (Int.ofNat 3) (0 :: l) (r ++ [Int.ofNat 3])) st) := by kernel_rfl
theorem lch_33_3 (st : Store) (x0 x1 x2 x4 x5 x6 x7 x9 x10 x11 x12 : Option D) : (((((rowsN 3 3).drop 4).drop 4).drop 4).take 4).map (fun l => (rowsN 3 3).map fun r => cIs (e14 x0 x1 x2 (some (.int (Int.ofNat 3))) x4 x5 x6 x7 (some (.tup (tri (Int.ofNat 3) (0 :: l) (r ++ [Int.ofNat 3])))) x9 x10 x11 x12) st) = (((((rowsN 3 3).drop 4).drop 4).drop 4).take 4).map (fun l => (rowsN 3 3).map fun r => .ok (okC (Int.ofNat 3) (0 :: l) (r ++ [Int.ofNat 3])) st) := by kernel_rfl
theorem lch_33_4 (st : Store) (x0 x1 x2 x4 x5 x6 x7 x9 x10 x11 x12 : Option D) : ((((((rowsN 3 3).drop 4).drop 4).drop 4).drop 4).take 4).map (fun l => (rowsN 3 3).map fun r => cIs (e14 x0 x1 x2 (some (.int (Int.ofNat 3))) x4 x5 x6 x7 (some (.tup (tri (Int.ofNat 3) (0 :: l) (r ++ [Int.ofNat 3])))) x9 x10 x11 x12) st) = ((((((rowsN 3 3).drop 4).drop 4).drop 4).drop 4).take 4).map (fun l => (rowsN 3 3).map fun r => .ok (okC (Int.ofNat 3) (0 :: l) (r ++ [Int.ofNat 3])) st) := by kernel_rfl
theorem lch_33_5 (st : Store) (x0 x1 x2 x4 x5 x6 x7 x9 x10 x11 x12 : Option D) : (((((((rowsN 3 3).drop 4).drop 4).drop 4).drop 4).drop 4).take 4).map (fun l => (rowsN 3 3).map fun r => cIs (e14 x0 x1 x2 (some (.int (Int.ofNat 3))) x4 x5 x6 x7 (some (.tup (tri (Int.ofNat 3) (0 :: l) (r ++ [Int.ofNat 3])))) x9 x10 x11 x12) st) = (((((((rowsN 3 3).drop 4).drop 4).drop 4).drop 4).drop 4).take 4).map (fun l => (rowsN 3 3).map fun r => .ok (okC (Int.ofNat 3) (0 :: l) (r ++ [Int.ofNat 3])) st) := by kernel_rfl
theorem lch_33_6 (st : Store) (x0 x1 x2 x4 x5 x6 x7 x9 x10 x11 x12 : Option D) : ((((((((rowsN 3 3).drop 4).drop 4).drop 4).drop 4).drop 4).drop 4).take 4).map (fun l => (rowsN 3 3).map fun r => cIs (e14 x0 x1 x2 (some (.int (Int.ofNat 3))) x4 x5 x6 x7 (some (.tup (tri (Int.ofNat 3) (0 :: l) (r ++ [Int.ofNat 3])))) x9 x10 x11 x12) st) = ((((((((rowsN 3 3).drop 4).drop 4).drop 4).drop 4).drop 4).drop 4).take 4).map (fun l => (rowsN 3 3).map fun r => .ok (okC (Int.ofNat 3) (0 :: l) (r ++ [Int.ofNat 3])) st) := by kernel_rfl
theorem lch_33_7 (st : Store) (x0 x1 x2 x4 x5 x6 x7 x9 x10 x11 x12 : Option D) : (((((((((rowsN 3 3).drop 4).drop 4).drop 4).drop 4).drop 4).drop 4).drop 4).take 4).map (fun l => (rowsN 3 3).map fun r => cIs (e14 x0 x1 x2 (some (.int (Int.ofNat 3))) x4 x5 x6 x7 (some (.tup (tri (Int.ofNat 3) (0 :: l) (r ++ [Int.ofNat 3])))) x9 x10 x11 x12) st) = (((((((((rowsN 3 3).drop 4).drop 4).drop 4).drop 4).drop 4).drop 4).drop 4).take 4).map (fun l => (rowsN 3 3).map fun r => .ok (okC (Int.ofNat 3) (0 :: l) (r ++ [Int.ofNat 3])) st) := by kernel_rfl
theorem lch_33_8 (st : Store) (x0 x1 x2 x4 x5 x6 x7 x9 x10 x11 x12 : Option D) : ((((((((((rowsN 3 3).drop 4).drop 4).drop 4).drop 4).drop 4).drop 4).drop 4).drop 4).take 4).map (fun l => (rowsN 3 3).map fun r => cIs (e14 x0 x1 x2 (some (.int (Int.ofNat 3))) x4 x5 x6 x7 (some (.tup (tri (Int.ofNat 3) (0 :: l) (r ++ [Int.ofNat 3])))) x9 x10 x11 x12) st) = ((((((((((rowsN 3 3).drop 4).drop 4).drop 4).drop 4).drop 4).drop 4).drop 4).drop 4).take 4).map (fun l => (rowsN 3 3).map fun r => .ok (okC (Int.ofNat 3) (0 :: l) (r ++ [Int.ofNat 3])) st) := by kernel_rfl
theorem lch_33_9 (st : Store) (x0 x1 x2 x4 x5 x6 x7 x9 x10 x11 x12 : Option D) : (((((((((((rowsN 3 3).drop 4).drop 4).drop 4).drop 4).drop 4).drop 4).drop 4).drop 4).drop 4).take 4).map (fun l => (rowsN 3 3).map fun r => cIs (e14 x0 x1 x2 (some (.int (Int.ofNat 3))) x4 x5 x6 x7 (some (.tup (tri (Int.ofNat 3) (0 :: l) (r ++ [Int.ofNat 3])))) x9 x10 x11 x12) st) = (((((((((((rowsN 3 3).drop 4).drop 4).drop 4).drop 4).drop 4).drop 4).drop 4).drop 4).drop 4).take 4).map (fun l => (rowsN 3 3).map fun r => .ok (okC (Int.ofNat 3) (0 :: l) (r ++ [Int.ofNat 3])) st) := by kernel_rfl
theorem lch_33_10 (st : Store) (x0 x1 x2 x4 x5 x6 x7 x9 x10 x11 x12 : Option D) : ((((((((((((rowsN 3 3).drop 4).drop 4).drop 4).drop 4).drop 4).drop 4).drop 4).drop 4).drop 4).drop 4).take 4).map (fun l => (rowsN 3 3).map fun r => cIs (e14 x0 x1 x2 (some (.int (Int.ofNat 3))) x4 x5 x6 x7 (some (.tup (tri (Int.ofNat 3) (0 :: l) (r ++ [Int.ofNat 3])))) x9 x10 x11 x12) st) = ((((((((((((rowsN 3 3).drop 4).drop 4).drop 4).drop 4).drop 4).drop 4).drop 4).drop 4).drop 4).drop 4).take 4).map (fun l => (rowsN 3 3).map fun r => .ok (okC (Int.ofNat 3) (0 :: l) (r ++ [Int.ofNat 3])) st) := by kernel_rfl
theorem lch_33_11 (st : Store) (x0 x1 x2 x4 x5 x6 x7 x9 x10 x11 x12 : Option D) : (((((((((((((rowsN 3 3).drop 4).drop 4).drop 4).drop 4).drop 4).drop 4).drop 4).drop 4).drop 4).drop 4).drop 4).take 4).map (fun l => (rowsN 3 3).map fun r => cIs (e14 x0 x1 x2 (some (.int (Int.ofNat 3))) x4 x5 x6 x7 (some (.tup (tri (Int.ofNat 3) (0 :: l) (r ++ [Int.ofNat 3])))) x9 x10 x11 x12) st) = (((((((((((((rowsN 3 3).drop 4).drop 4).drop 4).drop 4).drop 4).drop 4).drop 4).drop 4).drop 4).drop 4).drop 4).take 4).map (fun l => (rowsN 3 3).map fun r => .ok (okC (Int.ofNat 3) (0 :: l) (r ++ [Int.ofNat 3])) st) := by kernel_rfl
theorem lch_33_12 (st : Store) (x0 x1 x2 x4 x5 x6 x7 x9 x10 x11 x12 : Option D) : ((((((((((((((rowsN 3 3).drop 4).drop 4).drop 4).drop 4).drop 4).drop 4).drop 4).drop 4).drop 4).drop 4).drop 4).drop 4).take 4).map (fun l => (rowsN 3 3).map fun r => cIs (e14 x0 x1 x2 (some (.int (Int.ofNat 3))) x4 x5 x6 x7 (some (.tup (tri (Int.ofNat 3) (0 :: l) (r ++ [Int.ofNat 3])))) x9 x10 x11 x12) st) = ((((((((((((((rowsN 3 3).drop 4).drop 4).drop 4).drop 4).drop 4).drop 4).drop 4).drop 4).drop 4).drop 4).drop 4).drop 4).take 4).map (fun l => (rowsN 3 3).map fun r => .ok (okC (Int.ofNat 3) (0 :: l) (r ++ [Int.ofNat 3])) st) := by kernel_rfl
theorem lch_33_13 (st : Store) (x0 x1 x2 x4 x5 x6 x7 x9 x10 x11 x12 : Option D) : (((((((((((((((rowsN 3 3).drop 4).drop 4).drop 4).drop 4).drop 4).drop 4).drop 4).drop 4).drop 4).drop 4).drop 4).drop 4).drop 4).take 4).map (fun l => (rowsN 3 3).map fun r => cIs (e14 x0 x1 x2 (some (.int (Int.ofNat 3))) x4 x5 x6 x7 (some (.tup (tri (Int.ofNat 3) (0 :: l) (r ++ [Int.ofNat 3])))) x9 x10 x11 x12) st) = (((((((((((((((rowsN 3 3).drop 4).drop 4).drop 4).drop 4).drop 4).drop 4).drop 4).drop 4).drop 4).drop 4).drop 4).drop 4).drop 4).take 4).map (fun l => (rowsN 3 3).map fun r => .ok (okC (Int.ofNat 3) (0 :: l) (r ++ [Int.ofNat 3])) st) := by kernel_rfl
theorem lch_33_14 (st : Store) (x0 x1 x2 x4 x5 x6 x7 x9 x10 x11 x12 : Option D) : ((((((((((((((((rowsN 3 3).drop 4).drop 4).drop 4).drop 4).drop 4).drop 4).drop 4).drop 4).drop 4).drop 4).drop 4).drop 4).drop 4).drop 4).take 4).map (fun l => (rowsN 3 3).map fun r => cIs (e14 x0 x1 x2 (some (.int (Int.ofNat 3))) x4 x5 x6 x7 (some (.tup (tri (Int.ofNat 3) (0 :: l) (r ++ [Int.ofNat 3])))) x9 x10 x11 x12) st) = ((((((((((((((((rowsN 3 3).drop 4).drop 4).drop 4).drop 4).drop 4).drop 4).drop 4).drop 4).drop 4).drop 4).drop 4).drop 4).drop 4).drop 4).take 4).map (fun l => (rowsN 3 3).map fun r => .ok (okC (Int.ofNat 3) (0 :: l) (r ++ [Int.ofNat 3])) st) := by kernel_rfl
theorem lch_33_15 (st : Store) (x0 x1 x2 x4 x5 x6 x7 x9 x10 x11 x12 : Option D) : (((((((((((((((((rowsN 3 3).drop 4).drop 4).drop 4).drop 4).drop 4).drop 4).drop 4).drop 4).drop 4).drop 4).drop 4).drop 4).drop 4).drop 4).drop 4).take 4).map (fun l => (rowsN 3 3).map fun r => cIs (e14 x0 x1 x2 (some (.int (Int.ofNat 3))) x4 x5 x6 x7 (some (.tup (tri (Int.ofNat 3) (0 :: l) (r ++ [Int.ofNat 3])))) x9 x10 x11 x12) st) = (((((((((((((((((rowsN 3 3).drop 4).drop 4).drop 4).drop 4).drop 4).drop 4).drop 4).drop 4).drop 4).drop 4).drop 4).drop 4).drop 4).drop 4).drop 4).take 4).map (fun l => (rowsN 3 3).map fun r => .ok (okC (Int.ofNat 3) (0 :: l) (r ++ [Int.ofNat 3])) st) := by kernel_rfl
theorem lch_33 (st : Store) (x0 x1 x2 x4 x5 x6 x7 x9 x10 x11 x12 : Option D) : (rowsN 3 3).map (fun l => (rowsN 3 3).map fun r => cIs (e14 x0 x1 x2 (some (.int (Int.ofNat 3))) x4 x5 x6 x7 (some (.tup (tri (Int.ofNat 3) (0 :: l) (r ++ [Int.ofNat 3])))) x9 x10 x11 x12) st) = (rowsN 3 3).map (fun l => (rowsN 3 3).map fun r => .ok (okC (Int.ofNat 3) (0 :: l) (r ++ [Int.ofNat 3])) st) := (tab_split 4 (lch_33_0 st x0 x1 x2 x4 x5 x6 x7 x9 x10 x11 x12) (tab_split 4 (lch_33_1 st x0 x1 x2 x4 x5 x6 x7 x9 x10 x11 x12) (tab_split 4 (lch_33_2 st x0 x1 x2 x4 x5 x6 x7 x9 x10 x11 x12) (tab_split 4 (lch_33_3 st x0 x1 x2 x4 x5 x6 x7 x9 x10 x11 x12) (tab_split 4 (lch_33_4 st x0 x1 x2 x4 x5 x6 x7 x9 x10 x11 x12) (tab_split 4 (lch_33_5 st x0 x1 x2 x4 x5 x6 x7 x9 x10 x11 x12) (tab_split 4 (lch_33_6 st x0 x1 x2 x4 x5 x6 x7 x9 x10 x11 x12) (tab_split 4 (lch_33_7 st x0 x1 x2 x4 x5 x6 x7 x9 x10 x11 x12) (tab_split 4 (lch_33_8 st x0 x1 x2 x4 x5 x6 x7 x9 x10 x11 x12) (tab_split 4 (lch_33_9 st x0 x1 x2 x4 x5 x6 x7 x9 x10 x11 x12) (tab_split 4 (lch_33_10 st x0 x1 x2 x4 x5 x6 x7 x9 x10 x11 x12) (tab_split 4 (lch_33_11 st x0 x1 x2 x4 x5 x6 x7 x9 x10 x11 x12) (tab_split 4 (lch_33_12 st x0 x1 x2 x4 x5 x6 x7 x9 x10 x11 x12) (tab_split 4 (lch_33_13 st x0 x1 x2 x4 x5 x6 x7 x9 x10 x11 x12) (tab_split 4 (lch_33_14 st x0 x1 x2 x4 x5 x6 x7 x9 x10 x11 x12) (tab_split 4 (lch_33_15 st x0 x1 x2 x4 x5 x6 x7 x9 x10 x11 x12) (show (((((((((((((((((rowsN 3 3).drop 4).drop 4).drop 4).drop 4).drop 4).drop 4).drop 4).drop 4).drop 4).drop 4).drop 4).drop 4).drop 4).drop 4).drop 4).drop 4).map (fun l => (rowsN 3 3).map fun r => cIs (e14 x0 x1 x2 (some (.int (Int.ofNat 3))) x4 x5 x6 x7 (some (.tup (tri (Int.ofNat 3) (0 :: l) (r ++ [Int.ofNat 3])))) x9 x10 x11 x12) st) = (((((((((((((((((rowsN 3 3).drop 4).drop 4).drop 4).drop 4).drop 4).drop 4).drop 4).drop 4).drop 4).drop 4).drop 4).drop 4).drop 4).drop 4).drop 4).drop 4).map (fun l => (rowsN 3 3).map fun r => .ok (okC (Int.ofNat 3) (0 :: l) (r ++ [Int.ofNat 3])) st) by kernel_rfl)))))))))))))))))
theorem leq_33 : ((rowsN 3 3).flatMap fun l => (rowsN 3 3).flatMap fun r => outR (Int.ofNat 3) (0 :: l) (r ++ [Int.ofNat 3])) = chs 3 3 := by kernel_rfl
theorem lw_33 : Lw 3 3 := ⟨fun st => by kernel_rfl, ltu_33, lch_33, leq_33, Nat.le_of_ble_eq_true (by kernel_rfl)⟩
theorem cy_33 : CY [.lst (CH 3 3)] := by
  unfold CY
  kernel_rfl
theorem p_rest {v u : Int} (h0 : 0 ≤ v) (h1 : v < 4) (h2 : 0 ≤ u) (h3 : u < 4) {s : LS} {x0 x1 x5 x6 x7 x8 x9 x10 x11 x12 : Option D} : ∃ st, z_law_11 (e14 x0 x1 (some (.int v)) (some (.int u)) (some (.obj 2)) x5 x6 x7 x8 x9 x10 x11 x12) (mks s [.lst []]) = .rt (.bl true) st := by
  obtain ⟨L, rfl⟩ := Int.eq_ofNat_of_zero_le h0
  obtain ⟨M, rfl⟩ := Int.eq_ofNat_of_zero_le h2
  have hL : L < 4 := by omega
  have hM : M < 4 := by omega
  match L, hL, M, hM with
  | 0, _, 0, _ => exact ⟨_, rest_eq lw_00 cs_00 (cl_mks cy_00)⟩
  | 0, _, 1, _ => exact ⟨_, rest_eq lw_01 cs_01 (cl_mks cy_01)⟩
  | 0, _, 2, _ => exact ⟨_, rest_eq lw_02 cs_02 (cl_mks cy_02)⟩
  | 0, _, 3, _ => exact ⟨_, rest_eq lw_03 cs_03 (cl_mks cy_03)⟩
  | 1, _, 0, _ => exact ⟨_, rest_eq lw_10 cs_10 (cl_mks cy_10)⟩
  | 1, _, 1, _ => exact ⟨_, rest_eq lw_11 cs_11 (cl_mks cy_11)⟩
  | 1, _, 2, _ => exact ⟨_, rest_eq lw_12 cs_12 (cl_mks cy_12)⟩
  | 1, _, 3, _ => exact ⟨_, rest_eq lw_13 cs_13 (cl_mks cy_13)⟩
  | 2, _, 0, _ => exact ⟨_, rest_eq lw_20 cs_20 (cl_mks cy_20)⟩
  | 2, _, 1, _ => exact ⟨_, rest_eq lw_21 cs_21 (cl_mks cy_21)⟩
  | 2, _, 2, _ => exact ⟨_, rest_eq lw_22 cs_22 (cl_mks cy_22)⟩
  | 2, _, 3, _ => exact ⟨_, rest_eq lw_23 cs_23 (cl_mks cy_23)⟩
  | 3, _, 0, _ => exact ⟨_, rest_eq lw_30 cs_30 (cl_mks cy_30)⟩
  | 3, _, 1, _ => exact ⟨_, rest_eq lw_31 cs_31 (cl_mks cy_31)⟩
  | 3, _, 2, _ => exact ⟨_, rest_eq lw_32 cs_32 (cl_mks cy_32)⟩
  | 3, _, 3, _ => exact ⟨_, rest_eq lw_33 cs_33 (cl_mks cy_33)⟩
end T5.G
namespace T5.G
open PySem PySem.Spec PyProof.Rows L2
local macro_rules | `(tactic| kts_caughtN) => `(tactic| first
  | ((with_reducible refine T5.G.sp_draw ?h1 ?h2 ?hk); (case h1 => k_caughtC0); (case h2 => k_caughtC0))
  | ((with_reducible refine T5.o_repr (b := ?b) ?h1 ?h2 ?hk); (case h1 => with_reducible assumption); (case h2 => decide))
  | ((with_reducible refine T5.o_isLst (n := ?n) (b := ?b) ?h1 ?hk); (case h1 => with_reducible assumption))
  | ((with_reducible refine T5.o_isTup (n := ?n) (b := ?b) ?h1 ?hk); (case h1 => with_reducible assumption)) | ((with_reducible refine T5.o_isStr (n := ?n) (b := ?b) ?h1 ?hk); (case h1 => with_reducible assumption))
  | ((with_reducible refine T5.o_isInt (n := ?n) (b := ?b) ?h1 ?hk); (case h1 => with_reducible assumption)) | ((with_reducible refine T5.o_isBool (n := ?n) (b := ?b) ?h1 ?hk); (case h1 => with_reducible assumption))
  | with_reducible refine T5.o_eqS ?_ | with_reducible refine T5.o_neS ?_ | with_reducible refine T5.G.o_appK ?_ | with_reducible refine T5.G.o_tupleK ?_ | with_reducible refine T5.G.o_appK2 ?_ | with_reducible refine T5.G.o_tupleK2 ?_ | with_reducible refine T5.G.o_appK3 ?_ | with_reducible refine T5.G.o_tupleK3 ?_ | with_reducible refine T5.G.o_pow29 ?_ | with_reducible refine T5.G.o_list ?_ | with_reducible refine T5.s_raise1 ?_ | with_reducible refine T5.w_one ?_
  | with_reducible refine T5.o_ixT0 ?_ | with_reducible refine T5.o_ixT1 ?_ | with_reducible refine T5.o_ixT2 ?_ | with_reducible refine T5.o_ixL0 ?_ | with_reducible refine T5.o_ixL1 ?_ | with_reducible refine T5.o_ixL2 ?_)
local macro_rules | `(tactic| k_caughtC0) => `(tactic| first | with_reducible assumption | exact Nat.le_of_ble_eq_true rfl | with_reducible rfl | omega | with_reducible exact T5.G.lst_isK | with_reducible exact T5.G.lst_isK2 | with_reducible exact T5.G.lst_isK3 | (simp only [T5.cap, List.length_map, List.length_append, List.length_cons, List.length_nil, List.length_take, List.length_drop]; omega) | (refine And.intro ?_ ?_ <;> first | omega | decide) | decide)
local macro_rules | `(tactic| kts_caught) => `(tactic| first | with_reducible refine T5.o_eqI ?_ | with_reducible refine T5.o_neI ?_ | ((with_reducible refine T5.G.o_neRf ?h1 ?hk); (case h1 => first | with_reducible assumption | rfl)) | ((with_reducible refine T5.G.o_eqRf ?h1 ?hk); (case h1 => first | with_reducible assumption | rfl)) | with_reducible refine T5.G.o_lenTm ?_ | with_reducible refine T5.G.o_lenLm ?_ | with_reducible refine T5.G.o_lenLog ?_ | with_reducible refine T5.G.w_lstMk ?_ | with_reducible refine T5.G.w_mksI ?_)
theorem law_pure (ns : List Int) (h : ns.length ≤ 63) : ∀ d, isScr ns d → ∃ st', f_law [d] [] = .ok (.bl true) st' := by
  intro d hd
  refine law_of (N := 11) (rest := z_law_12) h hd rfl fun s => ?_
  show OnQ (z_law_12 [some d, some (.obj 0), none, none, none, none, none, none, none, none, none, none, none] (mks s [])) _
  tb_start
  intro v s1 v0 v1
  tb_start
  intro u s2 u0 u1
  generalize hz : z_law_11 = z11
  tb_start
  obtain ⟨st, e⟩ := p_rest v0 v1 u0 u1 (s := s2) (x0 := some d) (x1 := some (.obj 0)) (x5 := none) (x6 := none) (x7 := none) (x8 := none) (x9 := none) (x10 := none) (x11 := none) (x12 := none)
  rw [← hz]
  show OnQ (z_law_11 (e14 (some d) (some (.obj 0)) (some (.int v)) (some (.int u)) (some (.obj 2)) none none none none none none none none) (mks s2 [.lst []])) _
  rw [e]
  rfl
end T5.G
theorem PySem.Challenge.cw_tiltmarks_k14_all_charts_holds : PySem.Challenge.rw_tiltmarks_k14_all_charts.Holds := by
  exact T5.G.pre_holds T5.G.law_pure
