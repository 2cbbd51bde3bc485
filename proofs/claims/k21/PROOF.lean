import PyProof.Rows.All
import Wide.All
import OpenK.AllK
import Wide.FinOn
import HandS.Base
import HandS.Call
import HandS.List
import HandS.Comp
import HandS.Dict
import HandS.Iter
import HandS.Text
import HandS.Flow
import HandS.Conv
import HandS.Exc
import HandS.Words
import HandS.WordsExc
import HandS.IsInst
import HandS.Property
import HandS.OwnEq
import HandS.Lambda
import HandS.ExcOwn
import HandS.Defaults
import HandS.Style
import HandS.TupAny
import HandS.TupMul
import KE.GoesEnum
import HandS.Zip
import HandS.Flt
import HandS.EndTab
import KE.KStateDown
import Lean
import HandS.Head0
import HandS.Head1
import HandS.Head2
import HandS.HeadEnd
import HandS.HeadHook1
import HandS.HeadHook2
import KE.KRaiseC
import KE.KTreeB
import KE.RegKTryDeep
import KE.KRaiseIn
import HandS.ExcInit
import HandS.ExcIs
import HandS.ExcField
import KE.KTryMore
import KE.KIsAll
import HandS.SetFor
import PyProof.ReprRoads
import KE.KNestM
import PyProof.InstNe
import KE.KRevSl
import PySem.Challenge.RW_tiltmarks_k21_whole_both_ways
set_option Elab.async false
set_option linter.all false
set_option maxRecDepth 100000
set_option maxHeartbeats 0
/-! A program's values as plain data: what a run yields is reckoned by plain functions over data and a store of changing things; each rule of the hand layer is held against such a function. -/
namespace T5
open PySem PySem.Spec PyProof.Rows L2
/-- a value: data that no one changes any more, or a place of the store -/
inductive D where
  | non | bl (b : Bool) | int (i : Int) | str (s : List Nat) | ty (n : String)
  | tup (l : List D) | lst (l : List D) | scr (l : List D) | obj (n : Nat)
  | dic (t : Bool) (ks vs : List D) | ins (c : String) (ks : List String) (vs : List D) | exc (c : String) (ks : List String) (vs : List D)
  | cls (c : String) | fn (a c : Nat) (q : Str) (ds : List D) (us : List V)
/-- what changes -/
inductive Ob where
  | lst (l : List D) | dic (t : Bool) (ks vs : List D) | ins (c : String) (ks : List String) (vs : List D)
abbrev Store : Type := List Ob
abbrev DEnv : Type := List (Option D)
/-- the end of an expression -/
inductive R (α : Type) where
  | ok (a : α) (st : Store) | ex (c : String) (ks : List String) (vs : List D) (st : Store) | bad
/-- the end of a statement -/
inductive SR where
  | nx (e : DEnv) (st : Store) | rt (d : D) (st : Store) | bk (e : DEnv) (st : Store) | ct (e : DEnv) (st : Store)
  | ex (c : String) (ks : List String) (vs : List D) (e : DEnv) (st : Store) | bad
def R.bind {α β : Type} (r : R α) (f : α → Store → R β) : R β := match r with
  | .ok a st => f a st
  | .ex c ks vs st => .ex c ks vs st
  | .bad => .bad
@[simp] theorem bind_ok {α β : Type} {a : α} {st : Store} {f : α → Store → R β} : (R.ok a st).bind f = f a st := rfl
@[simp] theorem bind_ex {α β : Type} {c ks vs} {st : Store} {f : α → Store → R β} : (R.ex c ks vs st : R α).bind f = .ex c ks vs st := rfl
@[simp] theorem bind_bad {α β : Type} {f : α → Store → R β} : (R.bad : R α).bind f = .bad := rfl
/-! ### keys -/
def toStr (l : List Nat) : Str := ⟨l.toArray⟩
def keyD : Key → D
  | .inl i => .int i
  | .inr x => .str x.cps.toList
def keyTD (l : List Key) : D := .tup (l.map keyD)
/-- a dict's object; t: its keys are tuples -/
def DicHO (t : Bool) (ks : List D) (vs : List V) (u : HO) : Prop :=
  (t = false ∧ ∃ kk : List Key, ks = kk.map keyD ∧ kk.length = vs.length ∧ u = .dK (kk.zip vs)) ∨ (t = true ∧ ∃ kk : List (List Key), ks = kk.map keyTD ∧ kk.length = vs.length ∧ u = .dT (kk.zip vs))
/-- the tables of code objects that grow, each with its only name -/
class TabC where
  T : List (Addr × Str)
variable [TabC]
/-- where the changing things stand: those of the store, by number; those held back; tables of code objects -/
structure Mu where
  l : List Addr
  r : List Addr
  t : List (Addr × Str)
/-- a table -/
def Mu.isT (μ : Mu) (a : Addr) : Prop := ∃ q, (a, q) ∈ μ.t
instance : Membership Addr Mu := ⟨fun μ a => a ∈ μ.l ∨ a ∈ μ.r ∨ μ.isT a⟩
def Mu.get (μ : Mu) (n : Nat) : Option Addr := μ.l[n]?
def Mu.push (μ : Mu) (p : Addr) : Mu := ⟨μ.l ++ [p], μ.r, μ.t⟩
def Mu.hold (μ : Mu) (p : Addr) : Mu := ⟨μ.l, p :: μ.r, μ.t⟩
theorem Mu.mem {μ : Mu} {a : Addr} : a ∈ μ ↔ a ∈ μ.l ∨ a ∈ μ.r ∨ μ.isT a := Iff.rfl
/-- an exception's object, its class, its dict -/
def exV (a C dx : Addr) : HO := .ext fun h => ∃ (oe : Obj) (vs : Array Value), h.get? a = some oe ∧ Zc (.ref C) (some dx) oe ∧ oe.data = .fields vs
theorem Mu.mem_get {μ : Mu} {n : Nat} {a : Addr} (h : μ.get n = some a) : a ∈ μ := .inl (List.mem_of_getElem? h)
/-! ### data in the heap -/
section
variable (K : PySem.W.Frag) (mg : Str → Option Value) (μ : Mu) (H : Hp)
mutual
def Rep : D → V → Prop
  | .non, v => v = .non
  | .bl b, v => v = .bl b
  | .int i, v => v = .int i
  | .str s, v => v = .str (toStr s)
  | .ty n, v => v = .ty n
  | .tup l, v => ∃ a vs, v = .ref a ∧ a ∉ μ ∧ H a = some (.tup vs) ∧ RepL l vs
  | .lst l, v => ∃ a vs, v = .ref a ∧ a ∉ μ ∧ H a = some (.lst vs) ∧ RepL l vs
  | .scr l, v => ∃ a vs, v = .ref a ∧ ((a ∉ μ ∧ ∃ o, H a = some (.frz o (.lst vs))) ∨ SqL K (fun _ => none) a vs) ∧ RepL l vs
  | .obj n, v => ∃ a, v = .ref a ∧ μ.get n = some a
  | .dic t ks ds, v => ∃ a vs u, v = .ref a ∧ a ∉ μ ∧ RepL ds vs ∧ DicHO t ks vs u ∧ Rd H a u
  | .ins c ks ds, v => ∃ a C dx vs, v = .ref a ∧ a ∉ μ ∧ mg (Str.ofString c) = some (.ref C) ∧ ks.length = vs.length ∧ H a = some (.ins C dx ((ks.map Str.ofString).zip vs)) ∧ RepL ds vs
  | .exc c ks ds, v => ∃ a C dx us, v = .ref a ∧ a ∉ μ ∧ mg (Str.ofString c) = some (.ref C) ∧ ks.length = us.length ∧ H a = some (exV a C dx) ∧ dx ∉ μ ∧ H dx = some (.xd ((ks.map Str.ofString).zip us)) ∧ RepL ds us
  | .cls c, v => ∃ C, v = .ref C ∧ mg (Str.ofString c) = some (.ref C)
  | .fn a c q ds us, v => v = .ref a ∧ c ∉ μ ∧ H c = some (LamX.CodeO c q) ∧ RepL ds us
def RepL : List D → List V → Prop
  | [], vs => vs = []
  | d :: ds, vs => ∃ v r, vs = v :: r ∧ Rep d v ∧ RepL ds r
end
/-- an object of the store -/
def ObR (a : Addr) : Ob → Prop
  | .lst l => ∃ vs, H a = some (.lst vs) ∧ RepL K mg μ H l vs
  | .dic t ks ds => ∃ vs u, RepL K mg μ H ds vs ∧ DicHO t ks vs u ∧ H a = some u
  | .ins c ks ds => ∃ C dx vs, mg (Str.ofString c) = some (.ref C) ∧ ks.length = vs.length ∧ H a = some (.ins C dx ((ks.map Str.ofString).zip vs)) ∧ RepL K mg μ H ds vs
structure Rel (st : Store) : Prop where
  len : μ.l.length = st.length
  nd : μ.l.Nodup
  ob : ∀ (n : Nat) (o : Ob) (a : Addr), st[n]? = some o → μ.get n = some a → ObR K mg μ H a o
  apart : ∀ a, a ∈ μ.l → a ∉ μ.r
  held : ∀ a, a ∈ μ.r → ∃ o, H a = some o
  tab : LamX.Tabs μ.t H
  tc : μ.t = TabC.T
  rt : ∀ a, a ∈ μ.r → ¬ μ.isT a ∧ ∀ φ, H a ≠ some (.ext φ)
end
/-- what was data stays -/
structure Ext (μ : Mu) (H : Hp) (μ' : Mu) (H' : Hp) : Prop where
  more : ∃ m, μ'.l = μ.l ++ m
  res : ∀ a, a ∈ μ.r → a ∈ μ'.r
  keep : ∀ a o, a ∉ μ → H a = some o → a ∉ μ' ∧ H' a = some o
  held : ∀ a, a ∈ μ.r → H' a = H a
  tabs : μ'.t = μ.t
theorem Ext.refl {μ : Mu} {H : Hp} : Ext μ H μ H := ⟨⟨[], by simp⟩, fun _ h => h, fun _ _ h e => ⟨h, e⟩, fun _ _ => rfl, rfl⟩
theorem Ext.trans {μ μ1 μ2 : Mu} {H H1 H2 : Hp} (a : Ext μ H μ1 H1) (b : Ext μ1 H1 μ2 H2) : Ext μ H μ2 H2 := by
  obtain ⟨m, e1⟩ := a.more
  obtain ⟨m', e2⟩ := b.more
  exact ⟨⟨m ++ m', by rw [e2, e1, List.append_assoc]⟩, fun c h => b.res c (a.res c h), fun c o h e => by
    obtain ⟨h1, e1⟩ := a.keep c o h e
    exact b.keep c o h1 e1, fun c h => (b.held c (a.res c h)).trans (a.held c h), b.tabs.trans a.tabs⟩
section
variable {K : PySem.W.Frag} {mg : Str → Option Value} {μ μ' : Mu} {H H' : Hp}
theorem Ext.rd (x : Ext μ H μ' H') {a : Addr} {o : HO} (h : a ∉ μ) (r : Rd H a o) : a ∉ μ' ∧ Rd H' a o := by
  rcases r with r | ⟨ob, r⟩
  · obtain ⟨h1, h2⟩ := x.keep _ _ h r
    exact ⟨h1, .inl h2⟩
  · obtain ⟨h1, h2⟩ := x.keep _ _ h r
    exact ⟨h1, .inr ⟨ob, h2⟩⟩
mutual
theorem Rep.ext (x : Ext μ H μ' H') : ∀ {d : D} {v : V}, Rep K mg μ H d v → Rep K mg μ' H' d v
  | .non, _, h => h
  | .bl _, _, h => h
  | .int _, _, h => h
  | .str _, _, h => h
  | .ty _, _, h => h
  | .tup l, v, h => by
    simp only [Rep] at h ⊢
    obtain ⟨a, vs, e, n, r, q⟩ := h
    obtain ⟨n', r'⟩ := x.keep _ _ n r
    exact ⟨a, vs, e, n', r', RepL.ext x q⟩
  | .lst l, v, h => by
    simp only [Rep] at h ⊢
    obtain ⟨a, vs, e, n, r, q⟩ := h
    obtain ⟨n', r'⟩ := x.keep _ _ n r
    exact ⟨a, vs, e, n', r', RepL.ext x q⟩
  | .scr l, v, h => by
    simp only [Rep] at h ⊢
    obtain ⟨a, vs, e, n, q⟩ := h
    refine ⟨a, vs, e, ?_, RepL.ext x q⟩
    rcases n with ⟨n, o, r⟩ | n
    · obtain ⟨n', r'⟩ := x.keep _ _ n r
      exact .inl ⟨n', o, r'⟩
    · exact .inr n
  | .obj n, v, h => by
    simp only [Rep] at h ⊢
    obtain ⟨a, e, q⟩ := h
    obtain ⟨m, em⟩ := x.more
    refine ⟨a, e, ?_⟩
    show μ'.l[n]? = some a
    rw [em, List.getElem?_append_left]
    · exact q
    · exact (List.getElem?_eq_some_iff.mp q).1
  | .dic t ks ds, v, h => by
    simp only [Rep] at h ⊢
    obtain ⟨a, vs, u, e, n, q, hh, r⟩ := h
    obtain ⟨n', r'⟩ := x.rd n r
    exact ⟨a, vs, u, e, n', RepL.ext x q, hh, r'⟩
  | .ins c ks ds, v, h => by
    simp only [Rep] at h ⊢
    obtain ⟨a, C, dx, vs, e, n, g, l, r, q⟩ := h
    obtain ⟨n', r'⟩ := x.keep _ _ n r
    exact ⟨a, C, dx, vs, e, n', g, l, r', RepL.ext x q⟩
  | .exc c ks ds, v, h => by
    simp only [Rep] at h ⊢
    obtain ⟨a, C, dx, us, e, n, g, l, r, nd, rd, q⟩ := h
    obtain ⟨n', r'⟩ := x.keep _ _ n r
    obtain ⟨nd', rd'⟩ := x.keep _ _ nd rd
    exact ⟨a, C, dx, us, e, n', g, l, r', nd', rd', RepL.ext x q⟩
  | .cls _, _, h => h
  | .fn a c q ds us, v, h => by
    simp only [Rep] at h ⊢
    obtain ⟨e, n, r, y⟩ := h
    obtain ⟨n', r'⟩ := x.keep _ _ n r
    exact ⟨e, n', r', RepL.ext x y⟩
theorem RepL.ext (x : Ext μ H μ' H') : ∀ {ds : List D} {vs : List V}, RepL K mg μ H ds vs → RepL K mg μ' H' ds vs
  | [], _, h => h
  | d :: ds, vs, h => by
    simp only [RepL] at h ⊢
    obtain ⟨v, r, e, h1, h2⟩ := h
    exact ⟨v, r, e, Rep.ext x h1, RepL.ext x h2⟩
end
end
end T5
namespace T5
open PySem PySem.Spec PyProof.Rows L2
variable [TabC]
/-- the slots -/
structure REnv (K : PySem.W.Frag) (mg : Str → Option Value) (μ : Mu) (H : Hp) (env : DEnv) (σ : L2.St) : Prop where
  len : env.length = σ.length
  at_ : ∀ (i : Nat) (d : D), env[i]? = some (some d) → ∃ v, σ[i]? = some (some v) ∧ Rep K mg μ H d v
section
variable {K : PySem.W.Frag} {mg : Str → Option Value} {μ μ' : Mu} {H H' : Hp} {env : DEnv} {σ : L2.St}
theorem REnv.ext (x : Ext μ H μ' H') (r : REnv K mg μ H env σ) : REnv K mg μ' H' env σ :=
  ⟨r.len, fun i d e => let ⟨v, h1, h2⟩ := r.at_ i d e; ⟨v, h1, h2.ext x⟩⟩
theorem REnv.set (r : REnv K mg μ H env σ) {d : D} {v : V} (h : Rep K mg μ H d v) (i : Nat) : REnv K mg μ H (env.set i (some d)) (σ.set i (some v)) := by
  refine ⟨by simp [r.len], fun j e hj => ?_⟩
  by_cases q : i = j
  · subst q
    have hl : i < env.length := by
      have := (List.getElem?_eq_some_iff.mp hj).1
      simpa using this
    rw [List.getElem?_set_self hl] at hj
    cases hj
    exact ⟨v, by rw [List.getElem?_set_self (by rw [← r.len]; exact hl)], h⟩
  · rw [List.getElem?_set_ne q] at hj
    rw [List.getElem?_set_ne q]
    exact r.at_ j e hj
theorem REnv.none (r : REnv K mg μ H env σ) (i : Nat) (o : Option V) : REnv K mg μ H (env.set i none) (σ.set i o) := by
  refine ⟨by simp [r.len], fun j e hj => ?_⟩
  by_cases q : i = j
  · subst q
    have hl : i < env.length := by
      have := (List.getElem?_eq_some_iff.mp hj).1
      simpa using this
    rw [List.getElem?_set_self hl] at hj
    cases hj
  · rw [List.getElem?_set_ne q] at hj
    rw [List.getElem?_set_ne q]
    exact r.at_ j e hj
end
/-- what is asked behind a result -/
def Aft {α : Type} (K : PySem.W.Frag) (mg : Str → Option Value) (W : WX) (σ : L2.St) (μ : Mu) (H : Hp) (r : R α) (k : α → Store → Mu → Hp → Prop) : Prop := match r with
  | .ok a st => ∀ μ' H', Ext μ H μ' H' → Rel K mg μ' H' st → k a st μ' H'
  | .ex c ks ds st => ∀ μ' H' C dx us, Ext μ H μ' H' → Rel K mg μ' H' st → mg (Str.ofString c) = some (.ref C) → ks.length = us.length → H' dx = some (.xd ((ks.map Str.ofString).zip us)) → dx ∉ μ' → RepL K mg μ' H' ds us → W (.ref C) (some dx) σ H'
  | .bad => False
section
variable {α β : Type} {K : PySem.W.Frag} {mg : Str → Option Value} {W : WX} {σ : L2.St} {μ μ1 : Mu} {H H1 : Hp} {r : R α} {k k' : α → Store → Mu → Hp → Prop}
theorem Aft.ext (x : Ext μ H μ1 H1) (h : Aft K mg W σ μ H r k) : Aft K mg W σ μ1 H1 r k := by
  cases r with
  | ok a st => exact fun μ' H' e q => h μ' H' (x.trans e) q
  | ex c ks ds st => exact fun μ' H' C dx us e q1 q2 q3 q4 q5 q6 => h μ' H' C dx us (x.trans e) q1 q2 q3 q4 q5 q6
  | bad => exact h
theorem Aft.imp (h : Aft K mg W σ μ H r k) (f : ∀ a st μ' H', Ext μ H μ' H' → Rel K mg μ' H' st → k a st μ' H' → k' a st μ' H') : Aft K mg W σ μ H r k' := by
  cases r with
  | ok a st => exact fun μ' H' e q => f a st μ' H' e q (h μ' H' e q)
  | ex c ks ds st => exact h
  | bad => exact h
theorem Aft.bind {f : α → Store → R β} {k : β → Store → Mu → Hp → Prop} (h : Aft K mg W σ μ H (r.bind f) k) : Aft K mg W σ μ H r fun a st μ' H' => Aft K mg W σ μ' H' (f a st) k := by
  cases r with
  | ok a st => exact fun μ' H' e _ => Aft.ext e h
  | ex c ks ds st => exact h
  | bad => exact h
end
/-! ### expressions -/
abbrev ME := DEnv → Store → R D
abbrev MT := DEnv → Store → R Bool
abbrev MA := DEnv → Store → R (List D)
def tM (K : PySem.W.Frag) (mg : Str → Option Value) (W : WX) (m : ME) : TE := fun σ H Q => ∃ μ env st, Rel K mg μ H st ∧ REnv K mg μ H env σ ∧ Aft K mg W σ μ H (m env st) fun d _ μ' H' => ∀ v, Rep K mg μ' H' d v → Q v H'
def tMT (K : PySem.W.Frag) (mg : Str → Option Value) (W : WX) (m : MT) : TT := fun σ H Q => ∃ μ env st, Rel K mg μ H st ∧ REnv K mg μ H env σ ∧ Aft K mg W σ μ H (m env st) fun b _ _ H' => Q b H'
def tMA (K : PySem.W.Frag) (mg : Str → Option Value) (W : WX) (m : MA) : TA := fun σ H Q => ∃ μ env st, Rel K mg μ H st ∧ REnv K mg μ H env σ ∧ Aft K mg W σ μ H (m env st) fun ds _ μ' H' => ∀ vs, RepL K mg μ' H' ds vs → Q vs H'
/-- e does as m tells, whatever is wished of exceptions -/
def SE (X : Cx) (e : Expr) (m : ME) : Prop := ∀ pn xe W, Takes (X.tr pn xe) W → PE (X.tr pn xe) e (tM X.K X.mg W m)
def ST (X : Cx) (e : Expr) (m : MT) : Prop := ∀ pn xe W, Takes (X.tr pn xe) W → PT (X.tr pn xe) e (tMT X.K X.mg W m)
def SW (X : Cx) (e : Expr) (m : MT) : Prop := ∀ pn xe W, Takes (X.tr pn xe) W → PW (X.tr pn xe) e (tMT X.K X.mg W m)
def SA (X : Cx) (es : List Expr) (m : MA) : Prop := ∀ pn xe W, Takes (X.tr pn xe) W → PA (X.tr pn xe) es (tMA X.K X.mg W m)
section
variable {X : Cx} {e : Expr} {es : List Expr} {t t' : TE} {u u' : TA} {c c' : TT}
theorem PE.imp (h : PE X e t) (f : ∀ σ H Q, t' σ H Q → t σ H Q) : PE X e t' := ⟨fun pins s σ H Q I q => h.run pins s σ H Q I (f σ H Q q)⟩
theorem PA.imp (h : PA X es u) (f : ∀ σ H Q, u' σ H Q → u σ H Q) : PA X es u' := ⟨fun pos pins s σ H Q I q => h.run pos pins s σ H Q I (f σ H Q q)⟩
theorem PT.imp (h : PT X e c) (f : ∀ σ H Q, c' σ H Q → c σ H Q) : PT X e c' := ⟨fun pins s σ H Q I q => h.run pins s σ H Q I (f σ H Q q)⟩
theorem PW.imp (h : PW X e c) (f : ∀ σ H Q, c' σ H Q → c σ H Q) : PW X e c' := ⟨fun wh pins s σ H Q I q => h.run wh pins s σ H Q I (f σ H Q q)⟩
end
/-! names and constants -/
def eVar (i : Nat) : ME := fun env st => match env[i]? with
  | some (some d) => .ok d st
  | _ => .bad
def eC (d : D) : ME := fun _ st => .ok d st
section
variable {X : Cx} {pos : Pos}
theorem se_var (i : Nat) {x : Str} (hN : X.N[i]? = some x := by rfl) (hv : Vis X.env.scope x := by first | exact Or.inl rfl | exact Or.inr (Or.inl rfl) | exact Or.inr (Or.inr rfl)) (hd : (x == ("__debug__" : Str)) = false := by decide)
    (hcd : (x == ("__classdict__" : Str)) = false := by decide) : SE X (.Name x pos) (eVar i) := fun pn xe W _ => by
  refine PE.imp (pe_var (i := i) (X := X.tr pn xe) hN hv hd hcd) fun σ H Q h => ?_
  obtain ⟨μ, env, st, r, re, a⟩ := h
  unfold eVar at a
  split at a
  · rename_i d hd
    obtain ⟨v, h1, h2⟩ := re.at_ i d hd
    exact ⟨v, h1, a μ H Ext.refl r v h2⟩
  · exact False.elim a
/-- a constant of which the heap knows nothing -/
def Flat : D → V → Prop
  | .non, v => v = .non
  | .bl b, v => v = .bl b
  | .int i, v => v = .int i
  | .str s, v => v = .str (toStr s)
  | .ty n, v => v = .ty n
  | _, _ => False
theorem Flat.rep {K : PySem.W.Frag} {mg : Str → Option Value} {μ : Mu} {H : Hp} : ∀ {d : D} {v : V}, Flat d v → Rep K mg μ H d v
  | .non, _, h => h
  | .bl _, _, h => h
  | .int _, _, h => h
  | .str _, _, h => h
  | .ty _, _, h => h
theorem se_const {e : Expr} {v : V} {d : D} (h : ∀ pn xe, PE (X.tr pn xe) e (tC v)) (f : Flat d v) : SE X e (eC d) := fun pn xe W _ => by
  refine PE.imp (h pn xe) fun σ H Q h => ?_
  obtain ⟨μ, env, st, r, re, a⟩ := h
  exact a μ H Ext.refl r v f.rep
theorem se_int {i : Int} {j} : SE X (.Constant (.int i) j pos) (eC (.int i)) := se_const (fun _ _ => pe_int) rfl
theorem se_bl {b : Bool} {j} : SE X (.Constant (.bool b) j pos) (eC (.bl b)) := se_const (fun _ _ => pe_bl) rfl
theorem se_non {j} : SE X (.Constant .none j pos) (eC .non) := se_const (fun _ _ => pe_non) rfl
theorem se_str {x : Str} {j} (l : List Nat) (h : x = toStr l := by rfl) : SE X (.Constant (.str x) j pos) (eC (.str l)) := se_const (fun _ _ => pe_str) (by rw [h]; rfl)
/-- a module's int, a module's text -/
theorem se_gint {x : Str} {i : Int} (hg : Gl X x) (hm : ∃ t, X.mg x = some (.int i t)) (hd : (x == ("__debug__" : Str)) = false := by decide) : SE X (.Name x pos) (eC (.int i)) := by
  obtain ⟨t, hm⟩ := hm
  exact se_const (v := .int i) (fun pn xe => pe_glob (X := X.tr pn xe) hg hm ⟨_, rfl⟩ hd) rfl
theorem se_gstr {x : Str} {z : Str} (l : List Nat) (hg : Gl X x) (hm : ∃ t, X.mg x = some (.str z t)) (h : z = toStr l := by rfl) (hd : (x == ("__debug__" : Str)) = false := by decide) : SE X (.Name x pos) (eC (.str l)) := by
  obtain ⟨t, hm⟩ := hm
  exact se_const (v := .str z) (fun pn xe => pe_glob (X := X.tr pn xe) hg hm ⟨_, rfl⟩ hd) (by rw [h]; rfl)
end
/-! two in a row -/
section
variable {K : PySem.W.Frag} {mg : Str → Option Value} {W : WX} {σ : L2.St} {H : Hp}
theorem tM_seq {ma : ME} {k : D → DEnv → Store → R D} {Q : VK} {Q' : V → Hp → Prop} (h : tM K mg W (fun env st => (ma env st).bind fun d st1 => k d env st1) σ H Q)
    (f : ∀ d v μ env st H1, Rel K mg μ H1 st → REnv K mg μ H1 env σ → Rep K mg μ H1 d v → Aft K mg W σ μ H1 (k d env st) (fun d _ μ' H' => ∀ v, Rep K mg μ' H' d v → Q v H') → Q' v H1) : tM K mg W ma σ H Q' := by
  obtain ⟨μ, env, st, r, re, a⟩ := h
  refine ⟨μ, env, st, r, re, (Aft.bind a).imp fun d st1 μ1 H1 x r1 a1 v hv => ?_⟩
  exact f d v μ1 env st1 H1 r1 (re.ext x) hv a1
end
/-! operators by values -/
abbrev BO := Store → D → D → Option D
def ofO {α : Type} (o : Option α) (st : Store) : R α := match o with
  | some d => .ok d st
  | none => .bad
@[simp] theorem ofO_some {α : Type} {a : α} {st : Store} : ofO (some a) st = .ok a st := rfl
@[simp] theorem ofO_none {α : Type} {st : Store} : (ofO none st : R α) = .bad := rfl
/-- the operator's reading follows from the data -/
def OpD (K : PySem.W.Frag) (mg : Str → Option Value) (r : V → V → Hp → VK → Prop) (g : BO) : Prop :=
  ∀ (μ : Mu) (H : Hp) (st : Store) (d1 d2 d : D) (x y : V) (Q : VK), Rel K mg μ H st → Rep K mg μ H d1 x → Rep K mg μ H d2 y → g st d1 d2 = some d →
    (∀ H' v, Ext μ H μ H' → Rel K mg μ H' st → Rep K mg μ H' d v → Q v H') → r x y H Q
def eBin (g : BO) (ma mb : ME) : ME := fun env st => (ma env st).bind fun d1 st1 => (mb env st1).bind fun d2 st2 => ofO (g st2 d1 d2) st2
section
variable {X : Cx} {a b : Expr} {ma mb : ME} {pos : Pos}
theorem tOp_of {K : PySem.W.Frag} {mg : Str → Option Value} {W : WX} {r : V → V → Hp → VK → Prop} {g : BO} (hd : OpD K mg r g) {σ : L2.St} {H : Hp} {Q : VK} (h : tM K mg W (eBin g ma mb) σ H Q) : tOp r (tM K mg W ma) (tM K mg W mb) σ H Q := by
  refine tM_seq h fun d1 x μ1 env st1 H1 r1 re1 h1 a1 => ?_
  refine ⟨μ1, env, st1, r1, re1, (Aft.bind a1).imp fun d2 st2 μ2 H2 x2 r2 a2 y h2 => ?_⟩
  cases q : g st2 d1 d2 with
  | none => rw [q] at a2; exact a2.elim
  | some d =>
    rw [q] at a2
    exact hd μ2 H2 st2 d1 d2 d x y Q r2 (h1.ext x2) h2 q fun H' v e r' h' => a2 μ2 H' e r' v h'
theorem se_bin {op : Operator} {r : V → V → Hp → VK → Prop} {g : BO} (ho : ∀ pn xe, OpR (X.tr pn xe) (binaryOp op) r) (hd : OpD X.K X.mg r g) (ha : SE X a ma) (hb : SE X b mb) : SE X (.BinOp a op b pos) (eBin g ma mb) := fun pn xe W tk =>
  PE.imp (pe_op (ho pn xe) (ha pn xe W tk) (hb pn xe W tk)) fun σ H Q h => tOp_of hd h
theorem se_cmp {op : CmpOp} {r : V → V → Hp → VK → Prop} {g : BO} (ho : ∀ pn xe, OpR (X.tr pn xe) (compareOp op) r) (hd : OpD X.K X.mg r g) (ha : SE X a ma) (hb : SE X b mb) (hm : behindInMarks op b = false) : SE X (.Compare a [op] [b] pos) (eBin g ma mb) := fun pn xe W tk =>
  PE.imp (pe_cmpR (ho pn xe) (ha pn xe W tk) (hb pn xe W tk) hm) fun σ H Q h => tOp_of hd h
theorem se_ix {r : V → V → Hp → VK → Prop} {g : BO} (ho : ∀ pn xe, IxR (X.tr pn xe) r) (hd : OpD X.K X.mg r g) (ha : SE X a ma) (hb : SE X b mb) (hs : PlainIx b) : SE X (.Subscript a b pos) (eBin g ma mb) := fun pn xe W tk =>
  PE.imp (pe_ix (ho pn xe) (ha pn xe W tk) (hb pn xe W tk) hs) fun σ H Q h => tOp_of hd h
end
end T5
namespace T5
open PySem PySem.Spec PyProof.Rows L2
variable [TabC]
/-! ### heaps -/
section
variable {K : PySem.W.Frag} {mg : Str → Option Value} {μ : Mu} {H H' : Hp} {st : Store} {p : Addr} {o : HO}
theorem Rel.there (r : Rel K mg μ H st) {a : Addr} (h : a ∈ μ) : ∃ o, H a = some o := by
  rcases h with h | h | ⟨q, h⟩
  · obtain ⟨n, hn⟩ := List.mem_iff_getElem?.mp h
    have hl : n < st.length := by
      rw [← r.len]
      exact (List.getElem?_eq_some_iff.mp hn).1
    have q := r.ob n st[n] a (List.getElem?_eq_getElem hl) hn
    cases e : st[n] with
    | lst l => rw [e] at q; obtain ⟨vs, h, _⟩ := q; exact ⟨_, h⟩
    | dic t ks ds => rw [e] at q; obtain ⟨_, _, _, _, h⟩ := q; exact ⟨_, h⟩
    | ins c ks ds => rw [e] at q; obtain ⟨_, _, _, _, _, h, _⟩ := q; exact ⟨_, h⟩
  · exact r.held a h
  · obtain ⟨ps, e, _⟩ := r.tab _ h
    exact ⟨_, e⟩
/-- what changes is no table and no code object -/
theorem Rel.plain (r : Rel K mg μ H st) {n : Nat} {a : Addr} (hn : μ.get n = some a) : ∃ o, H a = some o ∧ (∀ ps, o ≠ .tbl ps) ∧ ∀ φ, o ≠ .ext φ := by
  have hl : n < st.length := by
    rw [← r.len]
    exact (List.getElem?_eq_some_iff.mp hn).1
  have q := r.ob n st[n] a (List.getElem?_eq_getElem hl) hn
  cases e : st[n] with
  | lst l => rw [e] at q; obtain ⟨vs, h, _⟩ := q; exact ⟨_, h, fun _ z => HO.noConfusion z, fun _ z => HO.noConfusion z⟩
  | dic t ks ds =>
    rw [e] at q
    obtain ⟨vs, u, _, d, h⟩ := q
    rcases d with ⟨_, _, _, _, rfl⟩ | ⟨_, _, _, _, rfl⟩
    · exact ⟨_, h, fun _ z => HO.noConfusion z, fun _ z => HO.noConfusion z⟩
    · exact ⟨_, h, fun _ z => HO.noConfusion z, fun _ z => HO.noConfusion z⟩
  | ins c ks ds => rw [e] at q; obtain ⟨_, _, _, _, _, h, _⟩ := q; exact ⟨_, h, fun _ z => HO.noConfusion z, fun _ z => HO.noConfusion z⟩
theorem tabs_upd {T : List (Addr × Str)} {a : Addr} (t : LamX.Tabs T H) (h : ∃ u, H a = some u ∧ (∀ ps, u ≠ .tbl ps) ∧ ∀ φ, u ≠ .ext φ) : LamX.Tabs T (upd H a o) := fun p hp => by
  obtain ⟨u, hu, h1, h2⟩ := h
  obtain ⟨ps, e1, e2, e3⟩ := t p hp
  refine ⟨ps, by rw [upd_ne (fun z => by rw [z, hu] at e1; exact h1 _ (Option.some.inj e1))]; exact e1, e2, fun pos cv hc => ?_⟩
  obtain ⟨c, q1, q2⟩ := e3 pos cv hc
  exact ⟨c, q1, by rw [upd_ne (fun z => by rw [z, hu] at q2; exact h2 _ (Option.some.inj q2))]; exact q2⟩
theorem Rel.nin (r : Rel K mg μ H st) {a : Addr} (h : H a = none) : a ∉ μ := fun q => by
  obtain ⟨o, e⟩ := r.there q
  rw [h] at e
  cases e
theorem ObR.ext {μ' : Mu} {a : Addr} (x : Ext μ H μ' H') (e : H' a = H a) : ∀ {o : Ob}, ObR K mg μ H a o → ObR K mg μ' H' a o
  | .lst l, ⟨vs, h, q⟩ => ⟨vs, e.trans h, q.ext x⟩
  | .dic t ks ds, ⟨vs, u, q, d, h⟩ => ⟨vs, u, q.ext x, d, e.trans h⟩
  | .ins c ks ds, ⟨C, dx, vs, g, l, h, q⟩ => ⟨C, dx, vs, g, l, e.trans h, q.ext x⟩
/-- new things beside what is tracked -/
theorem Ext.same (r : Rel K mg μ H st) (s : Same H H') : Ext μ H μ H' := ⟨⟨[], by simp⟩, fun _ h => h, fun a o h e => ⟨h, s a o e⟩, fun a h => by
  obtain ⟨o, e⟩ := r.held a h
  rw [e]
  exact s a o e, rfl⟩
theorem Rel.rtS (r : Rel K mg μ H st) (s : Same H H') : ∀ a, a ∈ μ.r → ¬ μ.isT a ∧ ∀ φ, H' a ≠ some (.ext φ) := fun a ha => ⟨(r.rt a ha).1, fun φ z => by
  obtain ⟨o, e⟩ := r.held a ha
  have w := s a o e
  rw [z] at w
  cases w
  exact (r.rt a ha).2 φ e⟩
theorem Rel.same (r : Rel K mg μ H st) (s : Same H H') : Rel K mg μ H' st :=
  ⟨r.len, r.nd, fun n o a h1 h2 => by
    obtain ⟨ob, e⟩ := r.there (Mu.mem_get h2)
    exact (r.ob n o a h1 h2).ext (Ext.same r s) ((s a ob e).trans e.symm), r.apart, fun a h => by
    obtain ⟨o, e⟩ := r.held a h
    exact ⟨o, s a o e⟩, r.tab.ext s, r.tc, r.rtS s⟩
theorem same_upd (h : H p = none) : Same H (upd H p o) := fun b x e => by
  rw [upd_ne (ne_of_none e h)]
  exact e
/-- a changing thing is laid -/
theorem Ext.push (r : Rel K mg μ H st) (s : Same H H') (h : H p = none) : Ext μ H (μ.push p) H' :=
  ⟨⟨[p], rfl⟩, fun _ h => h, fun a o n e => ⟨(fun q => by
    rcases q with q | q
    · rcases List.mem_append.mp q with q | q
      · exact n (.inl q)
      · have : a = p := by simpa using q
        rw [this, h] at e
        cases e
    · exact n (.inr q)), s a o e⟩, fun a h => by
    obtain ⟨o, e⟩ := r.held a h
    rw [e]
    exact s a o e, rfl⟩
theorem Rel.push (r : Rel K mg μ H st) (s : Same H H') (h : H p = none) {ob : Ob} (q : ObR K mg (μ.push p) H' p ob) : Rel K mg (μ.push p) H' (st ++ [ob]) := by
  refine ⟨by show (μ.l ++ [p]).length = _; simp [r.len], ?_, fun n o a h1 h2 => ?_, fun a ha => ?_, fun a h => ?_, r.tab.ext s, r.tc, r.rtS s⟩
  · show (μ.l ++ [p]).Nodup
    rw [List.nodup_append]
    refine ⟨r.nd, by simp, fun a ha b hb => ?_⟩
    have : b = p := by simpa using hb
    subst this
    intro z
    subst z
    exact r.nin h (.inl ha)
  · have h2' : (μ.l ++ [p])[n]? = some a := h2
    by_cases hn : n < st.length
    · rw [List.getElem?_append_left hn] at h1
      rw [List.getElem?_append_left (by rw [r.len]; exact hn)] at h2'
      obtain ⟨ob', e⟩ := r.there (Mu.mem_get h2')
      exact (r.ob n o a h1 h2').ext (Ext.push r s h) ((s a ob' e).trans e.symm)
    · have hl := (List.getElem?_eq_some_iff.mp h1).1
      have e : n = st.length := by simp at hl; omega
      subst e
      rw [List.getElem?_append_right (Nat.le_refl _)] at h1
      rw [List.getElem?_append_right (by rw [r.len]; exact Nat.le_refl _), r.len] at h2'
      simp at h1 h2'
      subst h1 h2'
      exact q
  · rcases List.mem_append.mp (show a ∈ μ.l ++ [p] from ha) with z | z
    · exact r.apart a z
    · have : a = p := by simpa using z
      subst this
      exact fun w => r.nin h (.inr (.inl w))
  · obtain ⟨o, e⟩ := r.held a h
    exact ⟨o, s a o e⟩
/-- a changing thing is changed -/
theorem Ext.change (r : Rel K mg μ H st) {n : Nat} {a : Addr} (hn : μ.get n = some a) : Ext μ H μ (upd H a o) := ⟨⟨[], by simp⟩, fun _ h => h, fun b u h e => ⟨h, by
    have ne : b ≠ a := by
      intro z
      subst z
      exact h (Mu.mem_get hn)
    rw [upd_ne ne]
    exact e⟩, fun b h => upd_ne (fun z => by
    subst z
    exact r.apart _ (List.mem_of_getElem? hn) h), rfl⟩
theorem Rel.change (r : Rel K mg μ H st) {n : Nat} {a : Addr} (hn : μ.get n = some a) {ob : Ob} (q : ObR K mg μ (upd H a o) a ob) : Rel K mg μ (upd H a o) (st.set n ob) := by
  refine ⟨by simp [r.len], r.nd, fun m u b h1 h2 => ?_, r.apart, fun b h => ?_, tabs_upd r.tab (r.plain hn), r.tc, fun b hb => ⟨(r.rt b hb).1, fun φ => by
    rw [upd_ne (fun z => by
      subst z
      exact r.apart _ (List.mem_of_getElem? hn) hb)]
    exact (r.rt b hb).2 φ⟩⟩
  · by_cases e : n = m
    · subst e
      rw [hn] at h2
      cases h2
      have hl : n < st.length := by have := (List.getElem?_eq_some_iff.mp h1).1; simpa using this
      rw [List.getElem?_set_self hl] at h1
      cases h1
      exact q
    · rw [List.getElem?_set_ne e] at h1
      have ne : b ≠ a := fun z => by
        subst z
        exact e ((List.getElem?_inj (List.getElem?_eq_some_iff.mp (show μ.l[n]? = some b from hn)).1 r.nd).mp (hn.trans h2.symm))
      exact (r.ob m u b h1 h2).ext (Ext.change r hn) (upd_ne ne)
  · obtain ⟨o', e⟩ := r.held b h
    rw [upd_ne (fun z => by
      subst z
      exact r.apart _ (List.mem_of_getElem? hn) h)]
    exact ⟨o', e⟩
end
/-! ### argument lists, displays -/
def aNil : MA := fun _ st => .ok [] st
def aCons (m : ME) (r : MA) : MA := fun env st => (m env st).bind fun d st1 => (r env st1).bind fun ds st2 => .ok (d :: ds) st2
def eTup (m : MA) : ME := fun env st => (m env st).bind fun ds st1 => if ds.length ≤ 1000 then .ok (.tup ds) st1 else .bad
def eLst (m : MA) : ME := fun env st => (m env st).bind fun ds st1 => if ds.length ≤ 1000 then .ok (.lst ds) st1 else .bad
/-- a list that changes later -/
def eLstM (m : MA) : ME := fun env st => (m env st).bind fun ds st1 => if ds.length ≤ 1000 then .ok (.obj st1.length) (st1 ++ [.lst ds]) else .bad
section
variable {X : Cx} {e : Expr} {es : List Expr} {m : ME} {ma : MA} {pos : Pos}
theorem tMA_run {K : PySem.W.Frag} {mg : Str → Option Value} {W : WX} {σ : L2.St} {H : Hp} {k : List D → DEnv → Store → R D} {Q : VK} {Q' : List V → Hp → Prop} (h : tM K mg W (fun env st => (ma env st).bind fun d st1 => k d env st1) σ H Q)
    (f : ∀ ds vs μ env st H1, Rel K mg μ H1 st → REnv K mg μ H1 env σ → RepL K mg μ H1 ds vs → Aft K mg W σ μ H1 (k ds env st) (fun d _ μ' H' => ∀ v, Rep K mg μ' H' d v → Q v H') → Q' vs H1) : tMA K mg W ma σ H Q' := by
  obtain ⟨μ, env, st, r, re, a⟩ := h
  refine ⟨μ, env, st, r, re, (Aft.bind a).imp fun d st1 μ1 H1 x r1 a1 v hv => ?_⟩
  exact f d v μ1 env st1 H1 r1 (re.ext x) hv a1
theorem sa_nil : SA X [] aNil := fun pn xe W tk => PA.imp pa_nil fun σ H Q h => by
  obtain ⟨μ, env, st, r, re, a⟩ := h
  exact a μ H Ext.refl r [] rfl
theorem sa_cons (he : SE X e m) (hr : SA X es ma) (hs : starEach (e :: es) X.env = (false, eval e X.env) :: starEach es X.env := by rfl) : SA X (e :: es) (aCons m ma) := fun pn xe W tk => by
  refine PA.imp (pa_cons (he pn xe W tk) (hr pn xe W tk) hs) fun σ H Q h => ?_
  obtain ⟨μ, env, st, r, re, a⟩ := h
  refine ⟨μ, env, st, r, re, (Aft.bind a).imp fun d st1 μ1 H1 x r1 a1 v hv => ?_⟩
  refine ⟨μ1, env, st1, r1, re.ext x, (Aft.bind a1).imp fun ds st2 μ2 H2 x2 r2 a2 vs hvs => ?_⟩
  exact a2 μ2 H2 Ext.refl r2 (v :: vs) ⟨v, vs, rfl, hv.ext x2, hvs⟩
theorem RepL.length {K : PySem.W.Frag} {mg : Str → Option Value} {μ : Mu} {H : Hp} : ∀ {ds : List D} {vs : List V}, RepL K mg μ H ds vs → ds.length = vs.length
  | [], vs, h => by
    have e : vs = [] := h
    rw [e] <;> rfl
  | d :: ds, vs, h => by
    obtain ⟨v, r, e, _, q⟩ := h
    rw [e, List.length_cons, List.length_cons, RepL.length q]
theorem small_line {n : Nat} (h : n ≤ 1000) : n ≤ sizeLine := Nat.le_trans h (by decide)
theorem se_tup {x1} (ha : SA X es ma) : SE X (.Tuple es x1 pos) (eTup ma) := fun pn xe W tk => by
  refine PE.imp (pe_tup (ha pn xe W tk)) fun σ H Q h => ?_
  refine tMA_run h fun ds vs μ env st H1 r re hd a => ?_
  by_cases c : ds.length ≤ 1000
  · rw [if_pos c] at a
    refine ⟨by rw [← hd.length]; exact small_line c, fun p hp => ?_⟩
    have s := same_upd (o := HO.tup vs) hp
    refine a μ _ (Ext.same r s) (r.same s) _ ⟨p, vs, rfl, r.nin hp, upd_same, hd.ext (Ext.same r s)⟩
  · rw [if_neg c] at a
    exact a.elim
theorem se_lst (ha : SA X es ma) : SE X (.List es pos) (eLst ma) := fun pn xe W tk => by
  refine PE.imp (pe_lst (ha pn xe W tk)) fun σ H Q h => ?_
  refine tMA_run h fun ds vs μ env st H1 r re hd a => ?_
  by_cases c : ds.length ≤ 1000
  · rw [if_pos c] at a
    refine ⟨by rw [← hd.length]; exact small_line c, fun p hp => ?_⟩
    have s := same_upd (o := HO.lst vs) hp
    refine a μ _ (Ext.same r s) (r.same s) _ ⟨p, vs, rfl, r.nin hp, upd_same, hd.ext (Ext.same r s)⟩
  · rw [if_neg c] at a
    exact a.elim
theorem se_lstM (ha : SA X es ma) : SE X (.List es pos) (eLstM ma) := fun pn xe W tk => by
  refine PE.imp (pe_lst (ha pn xe W tk)) fun σ H Q h => ?_
  refine tMA_run h fun ds vs μ env st H1 r re hd a => ?_
  by_cases c : ds.length ≤ 1000
  · rw [if_pos c] at a
    refine ⟨by rw [← hd.length]; exact small_line c, fun p hp => ?_⟩
    have s := same_upd (o := HO.lst vs) hp
    have x := Ext.push r s hp
    refine a _ _ x (r.push s hp ⟨vs, upd_same, hd.ext x⟩) _ ⟨p, rfl, ?_⟩
    show (μ.l ++ [p])[st.length]? = some p
    rw [List.getElem?_append_right (by rw [r.len]; exact Nat.le_refl _), r.len]
    simp
  · rw [if_neg c] at a
    exact a.elim
end
/-! ### tests -/
def bTru (st : Store) : D → Option Bool
  | .non => some false
  | .bl b => some b
  | .int i => some (i != 0)
  | .str s => if s.length ≤ 16000000 then some (!s.isEmpty) else none
  | .tup l => some (!l.isEmpty)
  | .lst l => some (!l.isEmpty)
  | .obj n => match st[n]? with
    | some (.lst l) => some (!l.isEmpty)
    | _ => none
  | _ => none
def cTru (m : ME) : MT := fun env st => (m env st).bind fun d st1 => ofO (bTru st1 d) st1
def cBool (m : ME) : MT := fun env st => (m env st).bind fun d st1 => match d with
  | .bl b => .ok b st1
  | _ => .bad
def cAnd (a b : MT) : MT := fun env st => (a env st).bind fun c st1 => if c = true then b env st1 else .ok false st1
def cOr (a b : MT) : MT := fun env st => (a env st).bind fun c st1 => if c = true then .ok true st1 else b env st1
def cNot (a : MT) : MT := fun env st => (a env st).bind fun c st1 => .ok (!c) st1
section
variable {X : Cx} {e a b : Expr} {rest : List Expr} {m ma mb : ME} {ca cb : MT} {pos : Pos}
theorem emptyV {l : List D} {vs : List V} (h : l.length = vs.length) : (!l.isEmpty) = !vs.isEmpty := by
  cases l <;> cases vs <;> simp at h ⊢
theorem tru_rep {K : PySem.W.Frag} {mg : Str → Option Value} {μ : Mu} {H : Hp} {st : Store} {d : D} {v : V} {b : Bool} (r : Rel K mg μ H st) (h : Rep K mg μ H d v) (q : bTru st d = some b) : TruV K v H b := by
  cases d with
  | non => cases h; cases q; rfl
  | bl c => cases h; cases q; rfl
  | int i => cases h; cases q; rfl
  | str s =>
    have e : v = .str (toStr s) := h
    subst e
    have q' : (if s.length ≤ 16000000 then some (!s.isEmpty) else none) = some b := q
    split at q'
    · rename_i hl
      have hz : (toStr s).length = s.length := by simp [toStr, Str.length]
      refine ⟨by rw [hz]; exact Nat.le_trans hl (by decide : 16000000 ≤ sizeLine), ?_⟩
      cases q'
      rw [hz]
      cases s with
      | nil => rfl
      | cons x xs =>
        have : ((x :: xs).length : Int) ≠ 0 := by simp only [List.length_cons]; omega
        exact (bne_iff_ne.mpr this).symm
    · cases q'
  | tup l =>
    obtain ⟨a, vs, e, n, rd, hl⟩ := h
    subst e
    cases q
    exact .inr (.inl ⟨vs, .inl (.inl rd), emptyV hl.length⟩)
  | lst l =>
    obtain ⟨a, vs, e, n, r, hl⟩ := h
    subst e
    cases q
    exact .inl ⟨vs, .inl (.inl r), emptyV hl.length⟩
  | obj n =>
    obtain ⟨a, e, hn⟩ := h
    subst e
    cases ho : st[n]? with
    | none => simp [bTru, ho] at q
    | some o =>
      cases o with
      | lst l =>
        simp only [bTru, ho] at q
        cases q
        obtain ⟨vs, hh, hl⟩ := r.ob n _ a ho hn
        exact .inl ⟨vs, .inl (.inl hh), emptyV hl.length⟩
      | _ => simp [bTru, ho] at q
  | _ => cases q
theorem st_tru (he : SE X e m) (hi : ∀ whole, isTrue e X.env whole = (do let v ← whole; standAt e.pos; holding [v] (truthy v)) := by intro _; rfl) : ST X e (cTru m) := fun pn xe W tk => by
  refine PT.imp (pt_truth (he pn xe W tk) hi) fun σ H Q h => ?_
  obtain ⟨μ, env, st, r, re, a⟩ := h
  refine ⟨μ, env, st, r, re, (Aft.bind a).imp fun d st1 μ1 H1 x r1 a1 v hv => ?_⟩
  cases q : bTru st1 d with
  | none => rw [q] at a1; exact a1.elim
  | some b =>
    rw [q] at a1
    exact ⟨b, tru_rep r1 hv q, a1 μ1 H1 Ext.refl r1⟩
/-- a test by a comparison: pt_cmpR of the same rule -/
theorem st_cmp {op : CmpOp} {r : V → V → Hp → VK → Prop} {g : BO} (ho : ∀ pn xe, OpR (X.tr pn xe) (compareOp op) r) (hd : OpD X.K X.mg r g) (ha : SE X a ma) (hb : SE X b mb) (hm : behindInMarks op b = false) : ST X (.Compare a [op] [b] pos) (cBool (eBin g ma mb)) := fun pn xe W tk => by
  refine PT.imp (pt_cmpR (ho pn xe) (ha pn xe W tk) (hb pn xe W tk) hm) fun σ H Q h => ?_
  refine tOp_of hd ?_
  obtain ⟨μ, env, st, r, re, a⟩ := h
  refine ⟨μ, env, st, r, re, (Aft.bind a).imp fun d st1 μ1 H1 x r1 a1 v hv => ?_⟩
  cases d with
  | bl c =>
    cases hv
    exact ⟨c, rfl, a1 μ1 H1 Ext.refl r1⟩
  | _ => exact a1.elim
theorem sw_and1 (ha : ST X a ca) : SW X (.BoolOp .And [a] pos) ca := fun pn xe W tk => pw_and1 (ha pn xe W tk)
theorem sw_or1 (ha : ST X a ca) : SW X (.BoolOp .Or [a] pos) ca := fun pn xe W tk => pw_or1 (ha pn xe W tk)
theorem tMT_seq {K : PySem.W.Frag} {mg : Str → Option Value} {W : WX} {σ : L2.St} {H : Hp} {k : Bool → DEnv → Store → R Bool} {Q : Bool → Hp → Prop} {Q' : Bool → Hp → Prop} (h : tMT K mg W (fun env st => (ca env st).bind fun d st1 => k d env st1) σ H Q)
    (f : ∀ c μ env st H1, Rel K mg μ H1 st → REnv K mg μ H1 env σ → Aft K mg W σ μ H1 (k c env st) (fun b _ _ H' => Q b H') → Q' c H1) : tMT K mg W ca σ H Q' := by
  obtain ⟨μ, env, st, r, re, a⟩ := h
  refine ⟨μ, env, st, r, re, (Aft.bind a).imp fun d st1 μ1 H1 x r1 a1 => ?_⟩
  exact f d μ1 env st1 H1 r1 (re.ext x) a1
theorem sw_and (ha : ST X a ca) (hb : SW X (.BoolOp .And (b :: rest) pos) cb) : SW X (.BoolOp .And (a :: b :: rest) pos) (cAnd ca cb) := fun pn xe W tk => by
  refine PW.imp (pw_and (ha pn xe W tk) (hb pn xe W tk)) fun σ H Q h => ?_
  refine tMT_seq h fun c μ env st H1 r re a => ?_
  cases c with
  | true => exact ⟨μ, env, st, r, re, a⟩
  | false => exact a μ H1 Ext.refl r
theorem sw_or (ha : ST X a ca) (hb : SW X (.BoolOp .Or (b :: rest) pos) cb) : SW X (.BoolOp .Or (a :: b :: rest) pos) (cOr ca cb) := fun pn xe W tk => by
  refine PW.imp (pw_or (ha pn xe W tk) (hb pn xe W tk)) fun σ H Q h => ?_
  refine tMT_seq h fun c μ env st H1 r re a => ?_
  cases c with
  | false => exact ⟨μ, env, st, r, re, a⟩
  | true => exact a μ H1 Ext.refl r
theorem SW.st (h : SW X e ca) : ST X e ca := fun pn xe W tk => (h pn xe W tk).pt
theorem st_not (ha : ST X a ca) : ST X (.UnaryOp .Not a pos) (cNot ca) := fun pn xe W tk => by
  refine PT.imp (pt_not (ha pn xe W tk)) fun σ H Q h => ?_
  exact tMT_seq h fun c μ env st H1 r re a => a μ H1 Ext.refl r
/-! as values -/
def eAnd (a b : ME) : ME := fun env st => (a env st).bind fun d st1 => match d with
  | .bl true => b env st1
  | .bl false => .ok (.bl false) st1
  | _ => .bad
def eOr (a b : ME) : ME := fun env st => (a env st).bind fun d st1 => match d with
  | .bl true => .ok (.bl true) st1
  | .bl false => b env st1
  | _ => .bad
def eNot (a : ME) : ME := fun env st => (a env st).bind fun d st1 => match d with
  | .bl b => .ok (.bl (!b)) st1
  | _ => .bad
def eIf (c : MT) (a b : ME) : ME := fun env st => (c env st).bind fun d st1 => if d = true then a env st1 else b env st1
theorem se_one {op} (h : SE X a ma) : SE X (.BoolOp op [a] pos) ma := fun pn xe W tk => pe_one (h pn xe W tk)
theorem se_and (ha : SE X a ma) (hb : SE X (.BoolOp .And (b :: rest) pos) mb) : SE X (.BoolOp .And (a :: b :: rest) pos) (eAnd ma mb) := fun pn xe W tk => by
  refine PE.imp (pe_and (ha pn xe W tk) (hb pn xe W tk)) fun σ H Q h => ?_
  refine tM_seq h fun d v μ env st H1 r re hv a => ?_
  cases d with
  | bl c =>
    cases hv
    refine ⟨c, rfl, ?_⟩
    cases c with
    | true => exact ⟨μ, env, st, r, re, a⟩
    | false => exact a μ H1 Ext.refl r _ rfl
  | _ => exact a.elim
theorem se_or (ha : SE X a ma) (hb : SE X (.BoolOp .Or (b :: rest) pos) mb) : SE X (.BoolOp .Or (a :: b :: rest) pos) (eOr ma mb) := fun pn xe W tk => by
  refine PE.imp (pe_or (ha pn xe W tk) (hb pn xe W tk)) fun σ H Q h => ?_
  refine tM_seq h fun d v μ env st H1 r re hv a => ?_
  cases d with
  | bl c =>
    cases hv
    refine ⟨c, rfl, ?_⟩
    cases c with
    | false => exact ⟨μ, env, st, r, re, a⟩
    | true => exact a μ H1 Ext.refl r _ rfl
  | _ => exact a.elim
theorem se_not (ha : SE X a ma) : SE X (.UnaryOp .Not a pos) (eNot ma) := fun pn xe W tk => by
  refine PE.imp (pe_not (ha pn xe W tk)) fun σ H Q h => ?_
  refine tM_seq h fun d v μ env st H1 r re hv a => ?_
  cases d with
  | bl c =>
    cases hv
    exact ⟨c, rfl, a μ H1 Ext.refl r _ rfl⟩
  | _ => exact a.elim
theorem se_if {c : Expr} {cc : MT} (hc : ST X c cc) (ha : SE X a ma) (hb : SE X b mb) : SE X (.IfExp c a b pos) (eIf cc ma mb) := fun pn xe W tk => by
  refine PE.imp (pe_ifExp (hc pn xe W tk) (ha pn xe W tk) (hb pn xe W tk)) fun σ H Q h => ?_
  obtain ⟨μ, env, st, r, re, a⟩ := h
  refine ⟨μ, env, st, r, re, (Aft.bind a).imp fun d st1 μ1 H1 x r1 a1 => ?_⟩
  cases d with
  | true => exact ⟨μ1, env, st1, r1, re.ext x, a1⟩
  | false => exact ⟨μ1, env, st1, r1, re.ext x, a1⟩
end
end T5
namespace T5
open PySem PySem.Spec PyProof.Rows L2
variable [TabC]
/-! ### statements -/
abbrev MS := DEnv → Store → SR
def SR.seq (r : SR) (f : DEnv → Store → SR) : SR := match r with
  | .nx e st => f e st
  | r => r
@[simp] theorem seq_nx {e : DEnv} {st : Store} {f : DEnv → Store → SR} : (SR.nx e st).seq f = f e st := rfl
@[simp] theorem seq_rt {d : D} {st : Store} {f : DEnv → Store → SR} : (SR.rt d st).seq f = .rt d st := rfl
@[simp] theorem seq_bk {e : DEnv} {st : Store} {f : DEnv → Store → SR} : (SR.bk e st).seq f = .bk e st := rfl
@[simp] theorem seq_ct {e : DEnv} {st : Store} {f : DEnv → Store → SR} : (SR.ct e st).seq f = .ct e st := rfl
@[simp] theorem seq_ex {c ks ds} {e : DEnv} {st : Store} {f : DEnv → Store → SR} : (SR.ex c ks ds e st).seq f = .ex c ks ds e st := rfl
@[simp] theorem seq_bad {f : DEnv → Store → SR} : SR.bad.seq f = .bad := rfl
def R.toS {α : Type} (r : R α) (env : DEnv) (f : α → Store → SR) : SR := match r with
  | .ok a st => f a st
  | .ex c ks ds st => .ex c ks ds env st
  | .bad => .bad
@[simp] theorem toS_ok {α : Type} {a : α} {env : DEnv} {st : Store} {f : α → Store → SR} : (R.ok a st).toS env f = f a st := rfl
@[simp] theorem toS_ex {α : Type} {c ks ds} {env : DEnv} {st : Store} {f : α → Store → SR} : (R.ex c ks ds st : R α).toS env f = .ex c ks ds env st := rfl
@[simp] theorem toS_bad {α : Type} {env : DEnv} {f : α → Store → SR} : (R.bad : R α).toS env f = .bad := rfl
def AftS (K : PySem.W.Frag) (mg : Str → Option Value) (W : WX) (E : Ends) (μ : Mu) (H : Hp) (r : SR) : Prop := match r with
  | .nx e st => ∀ μ' H' σ', Ext μ H μ' H' → Rel K mg μ' H' st → REnv K mg μ' H' e σ' → E.nx σ' H'
  | .rt d st => ∀ μ' H' v, Ext μ H μ' H' → Rel K mg μ' H' st → Rep K mg μ' H' d v → E.rt v H'
  | .bk e st => ∀ μ' H' σ', Ext μ H μ' H' → Rel K mg μ' H' st → REnv K mg μ' H' e σ' → E.bk σ' H'
  | .ct e st => ∀ μ' H' σ', Ext μ H μ' H' → Rel K mg μ' H' st → REnv K mg μ' H' e σ' → E.ct σ' H'
  | .ex c ks ds e st => ∀ μ' H' σ' C dx us, Ext μ H μ' H' → Rel K mg μ' H' st → REnv K mg μ' H' e σ' → mg (Str.ofString c) = some (.ref C) → ks.length = us.length → H' dx = some (.xd ((ks.map Str.ofString).zip us)) → dx ∉ μ' → RepL K mg μ' H' ds us → W (.ref C) (some dx) σ' H'
  | .bad => False
section
variable {K : PySem.W.Frag} {mg : Str → Option Value} {W : WX} {E E' : Ends} {μ μ1 : Mu} {H H1 : Hp} {r : SR}
theorem AftS.ext (x : Ext μ H μ1 H1) (h : AftS K mg W E μ H r) : AftS K mg W E μ1 H1 r := by
  cases r with
  | nx e st => exact fun μ' H' σ' e q1 q2 => h μ' H' σ' (x.trans e) q1 q2
  | rt d st => exact fun μ' H' v e q1 q2 => h μ' H' v (x.trans e) q1 q2
  | bk e st => exact fun μ' H' σ' e q1 q2 => h μ' H' σ' (x.trans e) q1 q2
  | ct e st => exact fun μ' H' σ' e q1 q2 => h μ' H' σ' (x.trans e) q1 q2
  | ex c ks ds e st => exact fun μ' H' σ' C dx us e => h μ' H' σ' C dx us (x.trans e)
  | bad => exact h
theorem AftS.seq {f : DEnv → Store → SR} (h : AftS K mg W E μ H (r.seq f)) : AftS K mg W { E with nx := fun σ' H' => ∃ μ env st, Rel K mg μ H' st ∧ REnv K mg μ H' env σ' ∧ AftS K mg W E μ H' (f env st) } μ H r := by
  cases r with
  | nx e st => exact fun μ' H' σ' e q1 q2 => ⟨μ', _, _, q1, q2, h.ext e⟩
  | rt d st => exact h
  | bk e st => exact h
  | ct e st => exact h
  | ex c ks ds e st => exact h
  | bad => exact h
theorem AftS.ofR {α : Type} {ra : R α} {env : DEnv} {σ : L2.St} {f : α → Store → SR} (re : REnv K mg μ H env σ) (h : AftS K mg W E μ H (ra.toS env f)) : Aft K mg W σ μ H ra fun a st' μ' H' => AftS K mg W E μ' H' (f a st') := by
  cases ra with
  | ok a st => exact fun μ' H' e _ => AftS.ext e h
  | ex c ks ds st => exact fun μ' H' C dx us e q1 q2 q3 q4 q5 q6 => h μ' H' σ C dx us e q1 (re.ext e) q2 q3 q4 q5 q6
  | bad => exact h
end
def tS (K : PySem.W.Frag) (mg : Str → Option Value) (W : WX) (m : MS) : TS := fun E σ H => ∃ μ env st, Rel K mg μ H st ∧ REnv K mg μ H env σ ∧ AftS K mg W E μ H (m env st)
def SS (X : Cx) (s : Stmt) (m : MS) : Prop := ∀ pn xe W, Takes (X.tr pn xe) W → PassesOwn (model X.prog X.w) X.A X.env xe → PS (X.tr pn xe) s (tS X.K X.mg W m)
def SSs (X : Cx) (s : List Stmt) (m : MS) : Prop := ∀ pn xe W, Takes (X.tr pn xe) W → PassesOwn (model X.prog X.w) X.A X.env xe → PSs (X.tr pn xe) s (tS X.K X.mg W m)
section
variable {X : Cx} {s : Stmt} {ss : List Stmt} {t t' : TS} {tg : Expr} {g g' : TG} {gs gs' : TGs}
theorem PS.imp (h : PS X s t) (f : ∀ E σ H, t' E σ H → t E σ H) : PS X s t' := ⟨fun pins s σ H E I q => h.run pins s σ H E I (f E σ H q)⟩
theorem PSs.imp (h : PSs X ss t) (f : ∀ E σ H, t' E σ H → t E σ H) : PSs X ss t' := ⟨fun pins s σ H E I q => h.run pins s σ H E I (f E σ H q)⟩
theorem PG.imp (h : PG X tg g) (f : ∀ v σ H Q, g' v σ H Q → g v σ H Q) : PG X tg g' := ⟨fun pins s σ H v u Q I r q => h.run pins s σ H v u Q I r (f v σ H Q q)⟩
theorem PGs.imp {ts : List Expr} (h : PGs X ts gs) (f : ∀ v σ H Q, gs' v σ H Q → gs v σ H Q) : PGs X ts gs' := ⟨fun pins s σ H v u Q I r q => h.run pins s σ H v u Q I r (f v σ H Q q)⟩
end
def sPass : MS := fun env st => .nx env st
def sSeq (a b : MS) : MS := fun env st => (a env st).seq b
def sBrk : MS := fun env st => .bk env st
def sCnt : MS := fun env st => .ct env st
def sRet (m : ME) : MS := fun env st => (m env st).toS env fun d st1 => .rt d st1
def sRetN : MS := fun _ st => .rt .non st
def sExp (m : ME) : MS := fun env st => (m env st).toS env fun _ st1 => .nx env st1
def sIf (c : MT) (a b : MS) : MS := fun env st => (c env st).toS env fun d st1 => if d = true then a env st1 else b env st1
def sNever : MS := fun _ _ => .bad
section
variable {X : Cx} {s : Stmt} {rest : List Stmt} {e : Expr} {a b : MS} {m : ME} {pos : Pos}
theorem ss_nil : SSs X [] sPass := fun pn xe W _ _ => PSs.imp pss_nil fun E σ H h => by
  obtain ⟨μ, env, st, r, re, q⟩ := h
  exact q μ H σ Ext.refl r re
theorem ss_cons (h1 : SS X s a) (h2 : SSs X rest b) : SSs X (s :: rest) (sSeq a b) := fun pn xe W tk hp => by
  refine PSs.imp (pss_cons (h1 pn xe W tk hp) (h2 pn xe W tk hp)) fun E σ H h => ?_
  obtain ⟨μ, env, st, r, re, q⟩ := h
  exact ⟨μ, env, st, r, re, AftS.seq q⟩
theorem ss_one (h1 : SS X s a) : SSs X [s] a := fun pn xe W tk hp => pss_one (h1 pn xe W tk hp)
theorem ss_pass : SS X (.Pass pos) sPass := fun pn xe W _ _ => PS.imp ps_pass fun E σ H h => by
  obtain ⟨μ, env, st, r, re, q⟩ := h
  exact q μ H σ Ext.refl r re
theorem ss_brk : SS X (.Break pos) sBrk := fun pn xe W _ _ => PS.imp ps_break fun E σ H h => by
  obtain ⟨μ, env, st, r, re, q⟩ := h
  exact q μ H σ Ext.refl r re
theorem ss_cnt : SS X (.Continue pos) sCnt := fun pn xe W _ _ => PS.imp ps_continue fun E σ H h => by
  obtain ⟨μ, env, st, r, re, q⟩ := h
  exact q μ H σ Ext.refl r re
theorem ss_never : SS X s sNever := fun pn xe W _ _ => PS.imp ps_never fun E σ H h => by
  obtain ⟨μ, env, st, r, re, q⟩ := h
  exact q
theorem tM_of {K : PySem.W.Frag} {mg : Str → Option Value} {W : WX} {E : Ends} {σ : L2.St} {H : Hp} {k : D → DEnv → Store → SR} {Q : VK} (h : tS K mg W (fun env st => (m env st).toS env fun d st1 => k d env st1) E σ H)
    (f : ∀ d v μ env st H1, Rel K mg μ H1 st → REnv K mg μ H1 env σ → Rep K mg μ H1 d v → AftS K mg W E μ H1 (k d env st) → Q v H1) : tM K mg W m σ H Q := by
  obtain ⟨μ, env, st, r, re, q⟩ := h
  refine ⟨μ, env, st, r, re, (AftS.ofR re q).imp fun d st1 μ1 H1 x r1 q1 v hv => ?_⟩
  exact f d v μ1 env st1 H1 r1 (re.ext x) hv q1
theorem ss_ret (he : SE X e m) : SS X (.Return (some e) pos) (sRet m) := fun pn xe W tk _ => by
  refine PS.imp (ps_ret (he pn xe W tk)) fun E σ H h => ?_
  exact tM_of h fun d v μ env st H1 r re hv q => q μ H1 v Ext.refl r hv
theorem ss_retN : SS X (.Return none pos) sRetN := fun pn xe W _ _ => PS.imp ps_retN fun E σ H h => by
  obtain ⟨μ, env, st, r, re, q⟩ := h
  exact q μ H _ Ext.refl r rfl
theorem ss_exp (he : SE X e m) (hs : swapsWith e none pos.line X.env = pure false := by rfl) : SS X (.Expr e pos) (sExp m) := fun pn xe W tk _ => by
  refine PS.imp (ps_expr (he pn xe W tk) hs) fun E σ H h => ?_
  exact tM_of h fun d v μ env st H1 r re hv q => q μ H1 σ Ext.refl r re
theorem ss_if {c : Expr} {cc : MT} {sa sb : List Stmt} (hc : ST X c cc) (ha : SSs X sa a) (hb : SSs X sb b) : SS X (.If c sa sb pos) (sIf cc a b) := fun pn xe W tk hp => by
  refine PS.imp (ps_if (hc pn xe W tk) (ha pn xe W tk hp) (hb pn xe W tk hp)) fun E σ H h => ?_
  obtain ⟨μ, env, st, r, re, q⟩ := h
  refine ⟨μ, env, st, r, re, (AftS.ofR re q).imp fun d st1 μ1 H1 x r1 q1 => ?_⟩
  cases d with
  | true => exact ⟨μ1, env, st1, r1, re.ext x, q1⟩
  | false => exact ⟨μ1, env, st1, r1, re.ext x, q1⟩
end
/-! ### targets -/
/-- names and tuples of names -/
abbrev MG0 := D → DEnv → Option DEnv
abbrev MGs0 := List D → DEnv → Option DEnv
/-- nothing is stored but at these places -/
def Off (sl : List Nat) (σ σ' : L2.St) : Prop := σ'.length = σ.length ∧ ∀ j, j ∉ sl → σ'[j]? = σ[j]?
theorem Off.refl {sl : List Nat} {σ : L2.St} : Off sl σ σ := ⟨rfl, fun _ _ => rfl⟩
theorem Off.trans {a b : List Nat} {σ σ1 σ2 : L2.St} (h : Off a σ σ1) (q : Off b σ1 σ2) : Off (a ++ b) σ σ2 := ⟨q.1.trans h.1, fun j n => by
  have n1 : j ∉ a := fun z => n (List.mem_append_left _ z)
  have n2 : j ∉ b := fun z => n (List.mem_append_right _ z)
  exact (q.2 j n2).trans (h.2 j n1)⟩
theorem Off.set {σ : L2.St} {i : Nat} {v : Option V} : Off [i] σ (σ.set i v) := ⟨by simp, fun j n => List.getElem?_set_ne (fun z => n (by simp [z]))⟩
def gM (K : PySem.W.Frag) (mg : Str → Option Value) (g : MG0) (sl : List Nat) : TG := fun v σ H Q => ∃ μ env d env', REnv K mg μ H env σ ∧ Rep K mg μ H d v ∧ g d env = some env' ∧ ∀ σ', REnv K mg μ H env' σ' → Off sl σ σ' → Q σ' H
def gMs (K : PySem.W.Frag) (mg : Str → Option Value) (g : MGs0) (sl : List Nat) : TGs := fun vs σ H Q => ∃ μ env ds env', REnv K mg μ H env σ ∧ RepL K mg μ H ds vs ∧ g ds env = some env' ∧ ∀ σ', REnv K mg μ H env' σ' → Off sl σ σ' → Q σ' H
def SGs (X : Cx) (tgs : List Expr) (g : MGs0) (sl : List Nat) : Prop := ∀ pn xe, PGs (X.tr pn xe) tgs (gMs X.K X.mg g sl)
def SG (X : Cx) (tg : Expr) (g : MG0) (sl : List Nat) : Prop := ∀ pn xe, PG (X.tr pn xe) tg (gM X.K X.mg g sl)
def gN (i : Nat) : MG0 := fun d env => some (env.set i (some d))
def gsNil : MGs0 := fun ds env => match ds with
  | [] => some env
  | _ => none
def gsCons (g : MG0) (gs : MGs0) : MGs0 := fun ds env => match ds with
  | d :: ds => (g d env).bind fun env1 => gs ds env1
  | [] => none
def gT (gs : MGs0) : MG0 := fun d env => match d with
  | .tup l => gs l env
  | _ => none
def sAsg (m : ME) (g : MG0) : MS := fun env st => (m env st).toS env fun d st1 => match g d env with
  | some env2 => .nx env2 st1
  | none => .bad
def GLen (n : Nat) (gs : MGs0) : Prop := ∀ ds env env', gs ds env = some env' → ds.length = n
theorem glen_nil : GLen 0 gsNil := fun ds env env' h => by
  cases ds with
  | nil => rfl
  | cons d ds => cases h
theorem glen_cons {n : Nat} {g : MG0} {gs : MGs0} (q : GLen n gs) : GLen (n + 1) (gsCons g gs) := fun ds env env' h => by
  cases ds with
  | nil => cases h
  | cons d ds =>
    obtain ⟨e1, _, h2⟩ := Option.bind_eq_some_iff.mp (show ((g d env).bind fun env1 => gs ds env1) = some env' from h)
    rw [List.length_cons, q ds e1 env' h2]
section
variable {X : Cx} {tg : Expr} {tgs : List Expr} {g : MG0} {gs : MGs0} {sl sls : List Nat} {pos : Pos}
theorem sg_name {i : Nat} {x : Str} (hN : X.N.Nodup) (hi : X.N[i]? = some x) (hx : Loc X.env.scope x) (hf : X.fn x = true ∨ X.env.scope.names.lookup x = some .local := by first | exact .inl rfl | exact .inr rfl | assumption)   : SG X (.Name x pos) (gN i) [i] := fun pn xe => by
  refine PG.imp (pg_name (X := X.tr pn xe) (i := i) hN hi hx hf) fun v σ H Q h => ?_
  obtain ⟨μ, env, d, env', re, hd, e, a⟩ := h
  cases e
  exact a _ (re.set hd i) Off.set
theorem sgs_nil : SGs X [] gsNil [] := fun pn xe => by
  refine PGs.imp pgs_nil fun vs σ H Q h => ?_
  obtain ⟨μ, env, ds, env', re, hd, e, a⟩ := h
  cases ds with
  | nil =>
    cases e
    exact ⟨hd, a _ re Off.refl⟩
  | cons d ds => cases e
theorem sgs_cons {e : Expr} {es : List Expr} (h1 : SG X e g sl) (h2 : SGs X es gs sls) (hs : (assignEach (e :: es) X.env).map (·.2) = assign e X.env :: (assignEach es X.env).map (·.2) := by rfl)   : SGs X (e :: es) (gsCons g gs) (sl ++ sls) := fun pn xe => by
  refine PGs.imp (pgs_cons (h1 pn xe) (h2 pn xe) hs) fun vs σ H Q h => ?_
  obtain ⟨μ, env, ds, env', re, hd, e, a⟩ := h
  cases ds with
  | nil => cases e
  | cons d ds =>
    obtain ⟨v, vr, ev, hv, hvs⟩ := hd
    obtain ⟨e1, q1, q2⟩ := Option.bind_eq_some_iff.mp (show ((g d env).bind fun env1 => gs ds env1) = some env' from e)
    exact ⟨v, vr, ev, μ, env, d, e1, re, hv, q1, fun σ' re' o1 => ⟨μ, e1, ds, env', re', hvs, q2, fun σ2 re2 o2 => a σ2 re2 (o1.trans o2)⟩⟩
theorem sg_tup {k : Nat} {n : Nat} (hc : X.calm = true) (h : SGs X tgs gs sl) (hl : GLen n gs) (hn : (assignEach tgs X.env).length = n := by rfl) (hst : (assignEach tgs X.env).findIdx? (·.1) = none := by rfl)   : SG X (.Tuple tgs k pos) (gT gs) sl := fun pn xe => by
  refine PG.imp (pg_tup (X := X.tr pn xe) hc (h pn xe) hn hst) fun v σ H Q h => ?_
  obtain ⟨μ, env, d, env', re, hd, e, a⟩ := h
  cases d with
  | tup l =>
    obtain ⟨p, vs, ev, n', rd, hl2⟩ := hd
    exact ⟨p, vs, ev, .inl (.inl rd), hl2.length.symm.trans (hl l env env' e), μ, env, l, env', re, hl2, e, a⟩
  | _ => cases e
theorem ss_asg {e : Expr} {m : ME} (he : SE X e m) (hg : SG X tg g sl) (hs : swapsWithSole [tg] e pos.line X.env = pure false := by rfl) (hw : swappedStores [tg] e X.env = pure none := by rfl)
    (h1 : (assignEach [tg] X.env).map (·.2) = [assign tg X.env] := by rfl) : SS X (.Assign [tg] e pos) (sAsg m g) := fun pn xe W tk _ => by
  refine PS.imp (ps_asg (he pn xe W tk) (hg pn xe) hs hw h1) fun E σ H h => ?_
  refine tM_of h fun d v μ env st H1 r re hv q => ?_
  cases e2 : g d env with
  | none => rw [e2] at q; exact q.elim
  | some env2 =>
    rw [e2] at q
    exact ⟨μ, env, d, env2, re, hv, e2, fun σ2 re2 _ => q μ H1 σ2 Ext.refl r re2⟩
theorem ss_set {i : Nat} {x : Str} {e : Expr} {m : ME} {pos' : Pos} (hN : X.N.Nodup) (hi : X.N[i]? = some x) (hx : Loc X.env.scope x) (he : SE X e m) (hs : swapsWith e (some (.Name x pos')) pos.line X.env = pure false := by rfl) (hf : X.fn x = true ∨ X.env.scope.names.lookup x = some .local := by first | exact .inl rfl | exact .inr rfl | assumption) :
    SS X (.Assign [.Name x pos'] e pos) (sAsg m (gN i)) := fun pn xe W tk _ => by
  refine PS.imp (ps_set (X := X.tr pn xe) (i := i) hN hi hx (he pn xe W tk) hs hf) fun E σ H h => ?_
  refine tM_of h fun d v μ env st H1 r re hv q => ?_
  exact q μ H1 _ Ext.refl r (re.set hv i)
end
end T5
namespace T5
open PySem PySem.Spec PyProof.Rows L2
variable [TabC]
/-! ### loops -/
abbrev MI := DEnv → Store → R (List D)
/-- an iterator yields these -/
def ItD (K : PySem.W.Frag) (mg : Str → Option Value) (J : It) (μ0 : Mu) (H0 : Hp) (ds : List D) : Prop :=
  ∀ (i : Nat) μ H st, Ext μ0 H0 μ H → Rel K mg μ H st → (∀ d, ds[i]? = some d → J.go i H ∧ ∀ x H', J.yld i H x H' → Same H H' ∧ Rep K mg μ H' d x) ∧ (ds.length ≤ i → J.stop i H)
def iM (K : PySem.W.Frag) (mg : Str → Option Value) (W : WX) (m : MI) : TI := fun σ H Q => ∃ μ env st, Rel K mg μ H st ∧ REnv K mg μ H env σ ∧ Aft K mg W σ μ H (m env st) fun ds _ μ' H' => ∀ J, ItD K mg J μ' H' ds → Q J H'
def SI (X : Cx) (tg e : Expr) (m : MI) : Prop := ∀ pn xe W, Takes (X.tr pn xe) W → PI (X.tr pn xe) tg e (iM X.K X.mg W m)
theorem PI.imp {X : Cx} {tg e : Expr} {t t' : TI} (h : PI X tg e t) (f : ∀ σ H Q, t' σ H Q → t σ H Q) : PI X tg e t' := ⟨fun pins s σ H Q I q => h.run pins s σ H Q I (f σ H Q q)⟩
def SR.loop (r : SR) (k : DEnv → Store → SR) : SR := match r with
  | .nx e st => k e st
  | .ct e st => k e st
  | .bk e st => .nx e st
  | r => r
@[simp] theorem loop_nx {e : DEnv} {st : Store} {f : DEnv → Store → SR} : (SR.nx e st).loop f = f e st := rfl
@[simp] theorem loop_rt {d : D} {st : Store} {f : DEnv → Store → SR} : (SR.rt d st).loop f = .rt d st := rfl
@[simp] theorem loop_bk {e : DEnv} {st : Store} {f : DEnv → Store → SR} : (SR.bk e st).loop f = .nx e st := rfl
@[simp] theorem loop_ct {e : DEnv} {st : Store} {f : DEnv → Store → SR} : (SR.ct e st).loop f = f e st := rfl
@[simp] theorem loop_ex {c ks ds} {e : DEnv} {st : Store} {f : DEnv → Store → SR} : (SR.ex c ks ds e st).loop f = .ex c ks ds e st := rfl
@[simp] theorem loop_bad {f : DEnv → Store → SR} : SR.bad.loop f = .bad := rfl
theorem AftS.loop {K : PySem.W.Frag} {mg : Str → Option Value} {W : WX} {E : Ends} {μ : Mu} {H : Hp} {r : SR} {k : DEnv → Store → SR} {N : L2.St → Hp → Prop} (h : AftS K mg W E μ H (r.loop k))
    (f : ∀ μ' H' σ' e st, Ext μ H μ' H' → Rel K mg μ' H' st → REnv K mg μ' H' e σ' → AftS K mg W E μ' H' (k e st) → N σ' H') : AftS K mg W { E with nx := N, ct := N, bk := E.nx } μ H r := by
  cases r with
  | nx e st => exact fun μ' H' σ' x q1 q2 => f μ' H' σ' e st x q1 q2 (h.ext x)
  | ct e st => exact fun μ' H' σ' x q1 q2 => f μ' H' σ' e st x q1 q2 (h.ext x)
  | bk e st => exact h
  | rt d st => exact h
  | ex c ks ds e st => exact h
  | bad => exact h
def loopS (g : MG0) (b : MS) : List D → DEnv → Store → SR
  | [], env, st => .nx env st
  | d :: ds, env, st => match g d env with
    | some env1 => (b env1 st).loop (loopS g b ds)
    | none => .bad
def sFor (mi : MI) (g : MG0) (b : MS) : MS := fun env st => (mi env st).toS env fun ds st1 => loopS g b ds env st1
def whileS (c : MT) (b : MS) : Nat → DEnv → Store → SR
  | 0, _, _ => .bad
  | n + 1, env, st => (c env st).toS env fun d st1 => if d = true then (b env st1).loop (whileS c b n) else .nx env st1
def sWhile (n : Nat) (c : MT) (b : MS) : MS := whileS c b n
section
variable {X : Cx} {tg iter : Expr} {body : List Stmt} {mi : MI} {g : MG0} {sl : List Nat} {mb : MS} {pos : Pos}
theorem ss_for (hc : X.calm = true) (hi : SI X tg iter mi) (hg : SG X tg g sl) (hb : SSs X body mb) (hs : ∀ x, foldedSetIterable iter X.env x = pure x := by intro _; rfl) : SS X (.For tg iter body [] pos) (sFor mi g mb) := fun pn xe W tk hp => by
  refine PS.imp (ps_for (X := X.tr pn xe) hp hc (hi pn xe W tk) (hg pn xe) (hb pn xe W tk hp) hs) fun E σ H h => ?_
  obtain ⟨μ, env, st, r, re, q⟩ := h
  refine ⟨μ, env, st, r, re, (AftS.ofR re q).imp fun ds st1 μ1 H1 x1 r1 q1 J hJ => ?_⟩
  refine ⟨fun i n σ H => n = ds.length - i ∧ i ≤ ds.length ∧ ∃ μ env st, Ext μ1 H1 μ H ∧ Rel X.K X.mg μ H st ∧ REnv X.K X.mg μ H env σ ∧ AftS X.K X.mg W E μ H (loopS g mb (ds.drop i) env st),
    ⟨_, rfl, Nat.zero_le _, μ1, env, st1, Ext.refl, r1, re.ext x1, q1⟩, ?_⟩
  rintro i n σ2 H2 ⟨rfl, hi2, μ2, env2, st2, x2, r2, re2, q2⟩
  obtain ⟨go, stop⟩ := hJ i μ2 H2 st2 x2 r2
  by_cases hlt : i < ds.length
  · obtain ⟨g1, g2⟩ := go ds[i] (List.getElem?_eq_getElem hlt)
    rw [List.drop_eq_getElem_cons hlt] at q2
    refine .inr ⟨g1, fun σ' H' => (ds.length - (i + 1) = ds.length - (i + 1) ∧ i + 1 ≤ ds.length ∧ ∃ μ env st, Ext μ1 H1 μ H' ∧ Rel X.K X.mg μ H' st ∧ REnv X.K X.mg μ H' env σ' ∧ AftS X.K X.mg W E μ H' (loopS g mb (ds.drop (i + 1)) env st)),
      fun σ' H' hN => ⟨ds.length - (i + 1), by omega, hN⟩, fun v H' hy => ?_⟩
    obtain ⟨sm, hv⟩ := g2 v H' hy
    have x3 : Ext μ2 H2 μ2 H' := Ext.same r2 sm
    unfold loopS at q2
    cases e2 : g ds[i] env2 with
    | none => rw [e2] at q2; exact q2.elim
    | some env3 =>
      rw [e2] at q2
      refine ⟨μ2, env2, ds[i], env3, re2.ext x3, hv, e2, fun σ3 re3 _ => ?_⟩
      refine ⟨μ2, env3, st2, r2.same sm, re3, AftS.loop (q2.ext x3) fun μ4 H4 σ4 e4 st4 x4 r4 re4 q4 => ?_⟩
      exact ⟨rfl, hlt, μ4, e4, st4, (x2.trans x3).trans x4, r4, re4, q4⟩
  · have e : i = ds.length := by omega
    subst e
    rw [List.drop_length] at q2
    exact .inl ⟨stop (Nat.le_refl _), q2 μ2 H2 σ2 Ext.refl r2 re2⟩
theorem ss_while {c : Expr} {cc : MT} (n : Nat) (hc : ST X c cc) (hb : SSs X body mb) : SS X (.While c body [] pos) (sWhile n cc mb) := fun pn xe W tk hp => by
  refine PS.imp (ps_while (X := X.tr pn xe) hp (hc pn xe W tk) (hb pn xe W tk hp)) fun E σ H h => ?_
  refine ⟨fun n σ H => tS X.K X.mg W (whileS cc mb n) E σ H, ⟨n, h⟩, fun n σ H h => ?_⟩
  obtain ⟨μ, env, st, r, re, q⟩ := h
  cases n with
  | zero => exact q.elim
  | succ n =>
    have q' : AftS X.K X.mg W E μ H ((cc env st).toS env fun d st1 => if d = true then (mb env st1).loop (whileS cc mb n) else .nx env st1) := q
    refine ⟨μ, env, st, r, re, (AftS.ofR re q').imp fun d st1 μ1 H1 x r1 q1 => ?_⟩
    cases d with
    | true =>
      refine ⟨fun σ' H' => tS X.K X.mg W (whileS cc mb n) E σ' H', fun σ' H' hN => ⟨n, Nat.lt_succ_self n, hN⟩, ?_⟩
      exact ⟨μ1, env, st1, r1, re.ext x, AftS.loop q1 fun μ4 H4 σ4 e4 st4 x4 r4 re4 q4 => ⟨μ4, e4, st4, r4, re4, q4⟩⟩
    | false => exact q1 μ1 H1 σ Ext.refl r1 (re.ext x)
end
/-! ### what is walked -/
def iSeq (m : ME) : MI := fun env st => (m env st).bind fun d st1 => match d with
  | .tup l => .ok l st1
  | .lst l => .ok l st1
  | .scr l => .ok l st1
  | _ => .bad
section
variable {X : Cx} {tg e : Expr} {m : ME} {ma : MA} {pos p : Pos}
theorem RepL.get {K : PySem.W.Frag} {mg : Str → Option Value} {μ : Mu} {H : Hp} : ∀ {ds : List D} {vs : List V} {i : Nat} {d : D}, RepL K mg μ H ds vs → ds[i]? = some d → ∃ v, vs[i]? = some v ∧ Rep K mg μ H d v
  | [], _, _, _, _, h => by simp at h
  | d :: ds, vs, 0, d', ⟨v, r, e, h1, h2⟩, h => by
    simp at h
    subst h
    exact ⟨v, by rw [e]; rfl, h1⟩
  | d :: ds, vs, i + 1, d', ⟨v, r, e, h1, h2⟩, h => by
    obtain ⟨w, e1, e2⟩ := RepL.get (i := i) h2 (by simpa using h)
    exact ⟨w, by rw [e]; simpa using e1, e2⟩
theorem seq_list {K : PySem.W.Frag} {mg : Str → Option Value} {μ : Mu} {H : Hp} {l : List D} {v : V} (h : Rep K mg μ H (.lst l) v) : ∃ a vs, v = .ref a ∧ SqL K H a vs ∧ RepL K mg μ H l vs := by
  obtain ⟨a, vs, e, n, r, q⟩ := h
  exact ⟨a, vs, e, .inl (.inl r), q⟩
theorem seq_scr {K : PySem.W.Frag} {mg : Str → Option Value} {μ : Mu} {H : Hp} {l : List D} {v : V} (h : Rep K mg μ H (.scr l) v) : ∃ a vs, v = .ref a ∧ SqL K H a vs ∧ RepL K mg μ H l vs := by
  obtain ⟨a, vs, e, n, q⟩ := h
  refine ⟨a, vs, e, ?_, q⟩
  rcases n with ⟨_, o, n⟩ | n
  · exact .inl (.inr ⟨o, n⟩)
  · rcases n with (n | ⟨_, n⟩) | n
    · cases n
    · cases n
    · exact .inr n
theorem seq_tup {K : PySem.W.Frag} {mg : Str → Option Value} {μ : Mu} {H : Hp} {l : List D} {v : V} (h : Rep K mg μ H (.tup l) v) : ∃ a vs, v = .ref a ∧ SqT K H a vs ∧ RepL K mg μ H l vs := by
  obtain ⟨a, vs, e, n, r, q⟩ := h
  exact ⟨a, vs, e, .inl (.inl r), q⟩
theorem itd_list {K : PySem.W.Frag} {mg : Str → Option Value} {μ : Mu} {H : Hp} {l : List D} {a : Addr} (h : Rep K mg μ H (.lst l) (.ref a)) : ItD K mg (Itl K a) μ H l := fun i μ1 H1 st1 x r => by
  obtain ⟨b, vs, e, hs, hl⟩ := seq_list (h.ext x)
  cases e
  refine ⟨fun d hd => ?_, fun hi => ⟨vs, hs, by rw [← hl.length]; exact hi⟩⟩
  obtain ⟨v, e1, e2⟩ := hl.get hd
  refine ⟨⟨vs, v, hs, e1⟩, fun w H' hy => ?_⟩
  obtain ⟨e3, e4⟩ := hy
  rw [e3]
  have : w = v := Option.some.inj ((e4 vs hs).symm.trans e1)
  rw [this]
  exact ⟨Same.refl _, e2⟩
theorem itd_scr {K : PySem.W.Frag} {mg : Str → Option Value} {μ : Mu} {H : Hp} {l : List D} {a : Addr} (h : Rep K mg μ H (.scr l) (.ref a)) : ItD K mg (Itl K a) μ H l := fun i μ1 H1 st1 x r => by
  obtain ⟨b, vs, e, hs, hl⟩ := seq_scr (h.ext x)
  cases e
  refine ⟨fun d hd => ?_, fun hi => ⟨vs, hs, by rw [← hl.length]; exact hi⟩⟩
  obtain ⟨v, e1, e2⟩ := hl.get hd
  refine ⟨⟨vs, v, hs, e1⟩, fun w H' hy => ?_⟩
  obtain ⟨e3, e4⟩ := hy
  rw [e3]
  have : w = v := Option.some.inj ((e4 vs hs).symm.trans e1)
  rw [this]
  exact ⟨Same.refl _, e2⟩
theorem itd_tup {K : PySem.W.Frag} {mg : Str → Option Value} {μ : Mu} {H : Hp} {l : List D} {a : Addr} (h : Rep K mg μ H (.tup l) (.ref a)) : ItD K mg (Itt K a) μ H l := fun i μ1 H1 st1 x r => by
  obtain ⟨b, vs, e, hs, hl⟩ := seq_tup (h.ext x)
  cases e
  refine ⟨fun d hd => ?_, fun hi => ⟨vs, hs, by rw [← hl.length]; exact hi⟩⟩
  obtain ⟨v, e1, e2⟩ := hl.get hd
  refine ⟨⟨vs, v, hs, e1⟩, fun w H' hy => ?_⟩
  obtain ⟨e3, e4⟩ := hy
  rw [e3]
  have : w = v := Option.some.inj ((e4 vs hs).symm.trans e1)
  rw [this]
  exact ⟨Same.refl _, e2⟩
/-- iter(v), v a list, a tuple -/
theorem iter_list {pins : List (Addr × Obj)} {σ : L2.St} {H : Hp} {s : Shared} {a : Addr} {xs : List V} {Q : It → Hp → Prop} (I : Inv X pins σ H s) (hq : SqL X.K H a xs) (q : Q (Itl X.K a) H) : wpAny (model X.prog X.w) X.A (pyIter (.ref a)) (PIE X pins σ tg Q) X.xe s := by
  obtain ⟨its, rv, p, hz⟩ := I.list hq
  refine wpAny_pyIter_list p.isList ?_
  refine ⟨s.heap.objs.size, [s.heap.objs.size], _, _, H, rfl, I.kept (t' := s.toks) fun b o e => Heap.get?_push_of_some _ e, turn_list a _, ⟨_, Heap.get?_push_size _ rfl, rfl, rfl⟩, fun b hb => ?_, q⟩
  have e : b = s.heap.objs.size := by simpa using hb
  subst e
  exact I.fpOk (Nat.le_refl _) (I.hok.fresh (Nat.le_refl _))
theorem iter_tup {pins : List (Addr × Obj)} {σ : L2.St} {H : Hp} {s : Shared} {a : Addr} {xs : List V} {Q : It → Hp → Prop} (I : Inv X pins σ H s) (hq : SqT X.K H a xs) (q : Q (Itt X.K a) H) : wpAny (model X.prog X.w) X.A (pyIter (.ref a)) (PIE X pins σ tg Q) X.xe s := by
  obtain ⟨its, rv, p, hz⟩ := I.tuple hq
  refine wpAny_pyIter_tuple (show s.heap.IsTuple a its.toArray from p) ?_
  refine ⟨s.heap.objs.size, [s.heap.objs.size], _, _, H, rfl, I.kept (t' := s.toks) fun b o e => Heap.get?_push_of_some _ e, turn_tuple a _, ⟨_, Heap.get?_push_size _ rfl, rfl, rfl⟩, fun b hb => ?_, q⟩
  have e : b = s.heap.objs.size := by simpa using hb
  subst e
  exact I.fpOk (Nat.le_refl _) (I.hok.fresh (Nat.le_refl _))
theorem si_seq (he : SE X e m) : SI X tg e (iSeq m) := fun pn xe W tk => ⟨fun pins s σ H Q I h => by
  obtain ⟨μ, env, st, r, re, a⟩ := h
  refine thn ((he pn xe W tk).run pins s σ H (fun v H1 => ∃ d μ1 st1, Rel X.K X.mg μ1 H1 st1 ∧ Rep X.K X.mg μ1 H1 d v ∧ Aft X.K X.mg W σ μ1 H1 (match d with
    | .tup l => .ok l st1
    | .lst l => .ok l st1
    | .scr l => .ok l st1
    | _ => .bad) (fun ds _ μ' H' => ∀ J, ItD X.K X.mg J μ' H' ds → Q J H')) I ⟨μ, env, st, r, re, (Aft.bind a).imp fun d st1 μ1 H1 x r1 a1 v hv => ⟨d, μ1, st1, r1, hv, a1⟩⟩) fun u s1 ⟨v, H1, I1, rv, d, μ1, st1, r1, hv, a1⟩ => ?_
  cases d with
  | tup l =>
    obtain ⟨b, vs, e, hs, hl⟩ := seq_tup hv
    subst e
    cases rv
    exact iter_tup I1 hs (a1 μ1 H1 Ext.refl r1 _ (itd_tup hv))
  | lst l =>
    obtain ⟨b, vs, e, hs, hl⟩ := seq_list hv
    subst e
    cases rv
    exact iter_list I1 hs (a1 μ1 H1 Ext.refl r1 _ (itd_list hv))
  | scr l =>
    obtain ⟨b, vs, e, hs, hl⟩ := seq_scr hv
    subst e
    cases rv
    exact iter_list I1 hs (a1 μ1 H1 Ext.refl r1 _ (itd_scr hv))
  | _ => exact a1.elim⟩
/-- range(n), range(a, b) -/
def upTo (lo : Int) (n : Nat) : List D := (List.range n).map fun (i : Nat) => D.int (lo + (i : Int))
def iRng1 (m : MA) : MI := fun env st => (m env st).bind fun ds st1 => match ds with
  | [.int j] => if -(2 ^ 62) ≤ j ∧ j < 2 ^ 62 then .ok (upTo 0 j.toNat) st1 else .bad
  | _ => .bad
def iRng2 (m : MA) : MI := fun env st => (m env st).bind fun ds st1 => match ds with
  | [.int i, .int j] => if (-(2 ^ 62) ≤ i ∧ i < 2 ^ 62) ∧ -(2 ^ 62) ≤ j ∧ j < 2 ^ 62 then .ok (upTo i (j - i).toNat) st1 else .bad
  | _ => .bad
theorem itd_rng {K : PySem.W.Frag} {mg : Str → Option Value} {μ : Mu} {H : Hp} {lo : Int} {n : Nat} : ItD K mg (Itr lo n) μ H (upTo lo n) := fun i μ1 H1 st1 x r => by
  refine ⟨fun d hd => ?_, fun hi => ?_⟩
  · unfold upTo at hd
    rw [List.getElem?_map] at hd
    obtain ⟨k, e1, e2⟩ := Option.map_eq_some_iff.mp hd
    have hl := (List.getElem?_eq_some_iff.mp e1).1
    rw [List.length_range] at hl
    rw [List.getElem?_range hl] at e1
    cases e1
    subst e2
    refine ⟨hl, fun v H' hy => ?_⟩
    obtain ⟨e3, e4⟩ := hy
    rw [e3, e4]
    exact ⟨Same.refl _, rfl⟩
  · unfold upTo at hi
    rw [List.length_map, List.length_range] at hi
    exact hi
theorem si_rng1 {a : Expr} (hg : Gl X "range") (hm : X.mg "range" = none) (ha : SA X [a] ma) (hs : starEach [a] X.env = [(false, eval a X.env)] := by rfl) : SI X tg (.Call (.Name "range" p) [a] [] pos) (iRng1 ma) := fun pn xe W tk => by
  refine PI.imp (pi_range1 (X := X.tr pn xe) hg hm (ha pn xe W tk) hs) fun σ H Q h => ?_
  obtain ⟨μ, env, st, r, re, a⟩ := h
  refine ⟨μ, env, st, r, re, (Aft.bind a).imp fun ds st1 μ1 H1 x r1 a1 vs hv => ?_⟩
  split at a1
  · rename_i j
    split at a1
    · rename_i c
      obtain ⟨v, w, e, h1, h2⟩ := hv
      have e2 : w = [] := h2
      subst e2
      have e3 : v = .int j := h1
      subst e3
      exact ⟨j, e, c.1, c.2, a1 μ1 H1 Ext.refl r1 _ itd_rng⟩
    · exact a1.elim
  · exact a1.elim
theorem si_rng2 {a b : Expr} (hg : Gl X "range") (hm : X.mg "range" = none) (ha : SA X [a, b] ma) (hs : starEach [a, b] X.env = [(false, eval a X.env), (false, eval b X.env)] := by rfl) (hs2 : starEach [b] X.env = [(false, eval b X.env)] := by rfl) : SI X tg (.Call (.Name "range" p) [a, b] [] pos) (iRng2 ma) := fun pn xe W tk => by
  refine PI.imp (pi_range2 (X := X.tr pn xe) hg hm (ha pn xe W tk) hs hs2) fun σ H Q h => ?_
  obtain ⟨μ, env, st, r, re, a⟩ := h
  refine ⟨μ, env, st, r, re, (Aft.bind a).imp fun ds st1 μ1 H1 x r1 a1 vs hv => ?_⟩
  split at a1
  · rename_i i j
    split at a1
    · rename_i c
      obtain ⟨v, w, e, h1, v2, w2, e2', h2, h3⟩ := hv
      have e2 : w2 = [] := h3
      subst e2
      have e3 : v = .int i := h1
      have e4 : v2 = .int j := h2
      subst e3 e4 e2'
      exact ⟨i, j, e, ⟨c.1.1, c.1.2, c.2.1, c.2.2⟩, a1 μ1 H1 Ext.refl r1 _ itd_rng⟩
    · exact a1.elim
  · exact a1.elim
end
/-! ### defs -/
abbrev MF := List D → Store → R D
def spM (K : PySem.W.Frag) (mg : Str → Option Value) (n : Nat) (m : MF) : Sp := fun vs H Q E => vs.length = n ∧ ∃ μ st ds, Rel K mg μ H st ∧ RepL K mg μ H ds vs ∧ Aft K mg (fun c d _ H' => E c d H') [] μ H (m ds st) fun d _ μ' H' => ∀ v, Rep K mg μ' H' d v → Q v H'
/-- a body run at arguments: N names, n parameters -/
def runF (N n : Nat) (b : MS) : MF := fun ds st => if ds.length = n then (match b (ds.map some ++ List.replicate (N - n) none) st with
  | .nx _ st1 => .ok .non st1
  | .rt d st1 => .ok d st1
  | .ex c ks us _ st1 => .ex c ks us st1
  | _ => .bad) else .bad
theorem renv_start {K : PySem.W.Frag} {mg : Str → Option Value} {μ : Mu} {H : Hp} {ds : List D} {vs : List V} {N : List Str} (h : RepL K mg μ H ds vs) : REnv K mg μ H (ds.map some ++ List.replicate (N.length - ds.length) none) (L2.start N vs) := by
  have hl := h.length
  refine ⟨by unfold L2.start; simp [hl], fun i d e => ?_⟩
  by_cases hi : i < ds.length
  · rw [List.getElem?_append_left (by simpa using hi), List.getElem?_map] at e
    obtain ⟨d', e1, e2⟩ := Option.map_eq_some_iff.mp e
    cases e2
    obtain ⟨v, e3, e4⟩ := h.get e1
    refine ⟨v, ?_, e4⟩
    unfold L2.start
    rw [List.getElem?_append_left (by simp; omega), List.getElem?_map, e3]
    rfl
  · rw [List.getElem?_append_right (by simpa using hi), List.getElem?_replicate] at e
    split at e <;> cases e
section
variable {P : Program} {w : World} {K : PySem.W.Frag} {mg : Str → Option Value} {base : Heap}
/-- no text of a nested thing is being made -/
abbrev Gd (A : Around) : Prop := A.guards = some []
theorem gd_deeper {A : Around} {env : Env} (h : Gd A) : Gd (A.deeper env) := h
theorem gd_make {A : Around} {C : Addr} {us : List Value} {kw : List (Str × Value)} (h : Gd A) : Gd (A.under (.builtin "type.__call__" ⟨.ref C :: us, kw⟩)) := by
  have e : (Code.builtin "type.__call__" ⟨.ref C :: us, kw⟩).guards = [] := by
    simp [Code.guards, Code.isGuard, guardIds]
  unfold Gd Around.under
  rw [e]
  exact h
/-- a def of the text that does as m tells -/
structure Fn (P : Program) (w : World) (K : PySem.W.Frag) (mg : Str → Option Value) (base : Heap) (k : Nat) (f : Addr) (ps : List Str) (m : MF) : Prop where
  run : ∀ {A : Around} {outer : List Env} {s : Shared} {H : Hp} {us : List Value} {vs : List V} {Q : VK} {E : XK}, Room k A → Gd A → Env0 P w K mg base A outer s H → Vals vs us → spM K mg ps.length m vs H Q E →
    codeAny (model P w) A (.call (.ref f) ⟨us, []⟩) (CR (L2.CX P w) outer P w H s Q E) s
  kp : PySem.W.keepIn K (.ref f) = true
theorem Fn.mono {j k : Nat} {f : Addr} {ps : List Str} {m : MF} (F : Fn P w K mg base j f ps m) (h : j ≤ k) : Fn P w K mg base k f ps m :=
  ⟨fun hr => F.run (hr.mono h), F.kp⟩
/-- a def that promises one thing promises another that it is never worse than -/
theorem Fn.imp {k : Nat} {f : Addr} {ps : List Str} {m m' : MF} (F : Fn P w K mg base k f ps m) (h : ∀ vs H Q E, spM K mg ps.length m' vs H Q E → spM K mg ps.length m vs H Q E) : Fn P w K mg base k f ps m' :=
  ⟨fun hr hq e r q => F.run hr hq e r (h _ _ _ _ q), F.kp⟩
/-- the code object of a def -/
def codeV (K : PySem.W.Frag) (f : Addr) : Value := match K.lookup f with
  | some o => (match o.data with
    | .func fd => fd.code
    | _ => .none)
  | none => .none
theorem fn_mk {x qual : Str} {pa : Arguments} {bd : List Stmt} {sc : Scope} {f : Addr} {fd : FuncData} {N ps : List Str} {k : Nat} {mb : MS} (F : FunD K x qual pa bd sc [] [] f fd) (S : FnScope N ps sc) (hb : Binds K fd ps [])
    (h : ∀ (cdv : Value) (A : Around) (outer : List Env) (s : Shared) (H : Hp) (E : XK), codeV K f = cdv → Room k (A.deeper (envOfC qual sc s.heap.objs.size f cdv)) → Gd (A.deeper (envOfC qual sc s.heap.objs.size f cdv)) → SSs (cxOf (L2.CX P w) P w K mg base N qual sc f cdv A outer s H E) bd mb) :
    Fn P w K mg base (k + 1) f ps (runF N.length ps.length mb) := by
  refine ⟨fun {A outer s H us vs Q E} hr hq e0 r hsp => ?_, F.kp⟩
  obtain ⟨oc, od, dV, kV, doc, pm, an, cdv, ct, osl, rfl, lk, hcd, _, _⟩ := F.ex
  obtain ⟨hn, μ, st, ds, rr, rl, a⟩ := hsp
  have hl : ds.length = ps.length := rl.length.trans hn
  have KX : K.In s.heap := e0.mod.kin.keeps fun b o e => (e0.bs b o e).1
  have bb := hb s us KX (by rw [List.append_nil, ← r.length, hn])
  rw [List.append_nil] at bb
  refine LamX.run_ofS lk hcd S hr e0 bb r hn fun hr' => ⟨_, h cdv A outer s H E (by unfold codeV; rw [lk]) hr' (gd_deeper hq) [] (cxOf (L2.CX P w) P w K mg base N qual sc f cdv A outer s H E).xe (fun c d _ H' => E c d H') (takes_of rfl rfl rfl rfl) (passes_of rfl), ?_⟩
  refine ⟨μ, ds.map some ++ List.replicate (N.length - ds.length) none, st, rr, renv_start rl, ?_⟩
  unfold runF at a
  rw [if_pos hl, ← hl] at a
  cases e : mb (ds.map some ++ List.replicate (N.length - ds.length) none) st with
  | nx env1 st1 =>
    rw [e] at a
    exact fun μ' H' σ' x q1 q2 => a μ' H' x q1 _ rfl
  | rt d st1 =>
    rw [e] at a
    exact fun μ' H' v x q1 q2 => a μ' H' x q1 v q2
  | ex c ks us env1 st1 =>
    rw [e] at a
    exact fun μ' H' σ' C dx us x q1 q2 q3 q4 q5 q6 q7 => a μ' H' C dx us x q1 q3 q4 q5 q6 q7
  | bk env1 st1 => rw [e] at a; exact a.elim
  | ct env1 st1 => rw [e] at a; exact a.elim
  | bad => rw [e] at a; exact a.elim
end
/-- f(e, ..) -/
def eCall (m : MF) (ma : MA) : ME := fun env st => (ma env st).bind fun ds st1 => m ds st1
section
variable {X : Cx} {k : Nat} {f : Addr} {ps : List Str} {m : MF} {x : Str} {p pos : Pos} {e : Expr} {es : List Expr} {ma : MA}
theorem se_call (F : Fn X.prog X.w X.K X.mg X.base k f ps m) (hr : Room k X.A) (hq : Gd X.A) (hg : Gl X x) (hm : X.mg x = some (.ref f)) (ha : SA X (e :: es) ma) (hdb : (x == ("__debug__" : Str)) = false := by decide)
    (he : starEach (e :: es) X.env = (false, eval e X.env) :: starEach es X.env := by rfl) (hpl : (backTo pos (starEach es X.env)).any (·.1) = false := by rfl)
    (hn : ∀ ds st, ds.length ≠ ps.length → m ds st = .bad) : SE X (.Call (.Name x p) (e :: es) [] pos) (eCall m ma) := fun pn xe W tk => by
  constructor
  intro pins s σ H Q I h
  refine wpAny_Call_Name_kw (ld_glob (X := X.tr pn xe) I hg hm ?_ hdb)
  refine PySem.W.callWith_K (h₀ := X.base) I.ok.mod.kin F.kp (thn ((ha pn xe W tk).run pos pins s σ H (fun vs H1 => spM X.K X.mg ps.length m vs H1 Q (fun c d H' => W c d σ H')) I ?_) fun us s1 ⟨vs, H1, I1, r, q⟩ => ⟨I1.kIn, ?_⟩) he hpl
  · refine tMA_run h fun ds vs μ env st H1 r re hd a => ?_
    have hl : ds.length = ps.length := Classical.byContradiction fun z => by
      rw [hn ds st z] at a
      exact a
    refine ⟨hd.length.symm.trans hl, μ, st, ds, r, hd, ?_⟩
    cases q : m ds st with
    | ok d st1 => rw [q] at a; exact a
    | ex c ks us st1 => rw [q] at a; exact a
    | bad => rw [q] at a; exact a
  · refine wpAny_call (codeAny_mono (F.run hr hq I1.env0 r q) fun res t hres => ?_)
    cases res with
    | error er => exact passAt tk σ pins H1 s1 er t I1 hres
    | ok fl =>
      cases fl with
      | ret w => exact I1.after hres
      | next => exact hres.elim
      | brk => exact hres.elim
      | cont => exact hres.elim
theorem runF_len {N n : Nat} {b : MS} : ∀ ds st, ds.length ≠ n → runF N n b ds st = .bad := fun ds st h => by
  unfold runF
  rw [if_neg h]
end
end T5
namespace T5
open PySem PySem.Spec PyProof.Rows L2
variable [TabC]
def cap : Nat := 16000000
theorem cap_line {n : Nat} (h : n ≤ cap) : n ≤ sizeLine := Nat.le_trans h (by decide)
theorem cap_lt {n : Nat} (h : n ≤ cap) : n < sizeLine := Nat.lt_of_le_of_lt h (by decide)
/-! ### data of a list -/
def lstOf (st : Store) : D → Option (List D)
  | .lst l => some l
  | .obj n => match st[n]? with
    | some (.lst l) => some l
    | _ => none
  | _ => none
def seqOf (st : Store) : D → Option (List D)
  | .tup l => some l
  | .scr l => some l
  | d => lstOf st d
@[simp] theorem lstOf_lst {st : Store} {l : List D} : lstOf st (.lst l) = some l := rfl
@[simp] theorem seqOf_lst {st : Store} {l : List D} : seqOf st (.lst l) = some l := rfl
@[simp] theorem seqOf_tup {st : Store} {l : List D} : seqOf st (.tup l) = some l := rfl
@[simp] theorem seqOf_scr {st : Store} {l : List D} : seqOf st (.scr l) = some l := rfl
section
variable {K : PySem.W.Frag} {mg : Str → Option Value} {μ : Mu} {H : Hp} {st : Store} {d : D} {v : V} {l : List D}
theorem lst_at (r : Rel K mg μ H st) (h : Rep K mg μ H d v) (e : lstOf st d = some l) : ∃ a vs, v = .ref a ∧ H a = some (.lst vs) ∧ RepL K mg μ H l vs := by
  cases d with
  | lst l' =>
    cases e
    obtain ⟨a, vs, e, n, q, hl⟩ := h
    exact ⟨a, vs, e, q, hl⟩
  | obj n =>
    obtain ⟨a, ev, hn⟩ := h
    cases ho : st[n]? with
    | none => simp [lstOf, ho] at e
    | some o =>
      cases o with
      | lst l' =>
        simp only [lstOf, ho] at e
        cases e
        obtain ⟨vs, hh, hl⟩ := r.ob n _ a ho hn
        exact ⟨a, vs, ev, hh, hl⟩
      | _ => simp [lstOf, ho] at e
  | _ => cases e
theorem seq_at (r : Rel K mg μ H st) (h : Rep K mg μ H d v) (e : seqOf st d = some l) : ∃ a vs, v = .ref a ∧ (SqL K H a vs ∨ SqT K H a vs) ∧ RepL K mg μ H l vs := by
  cases d with
  | tup l' =>
    cases e
    obtain ⟨a, vs, e, q, hl⟩ := seq_tup h
    exact ⟨a, vs, e, .inr q, hl⟩
  | scr l' =>
    cases e
    obtain ⟨a, vs, e, q, hl⟩ := seq_scr h
    exact ⟨a, vs, e, .inl q, hl⟩
  | lst l' =>
    obtain ⟨a, vs, e, q, hl⟩ := lst_at r h e
    exact ⟨a, vs, e, .inl (.inl (.inl q)), hl⟩
  | obj n =>
    obtain ⟨a, vs, e, q, hl⟩ := lst_at r h (show lstOf st (.obj n) = some l from e)
    exact ⟨a, vs, e, .inl (.inl (.inl q)), hl⟩
  | _ => cases e
theorem RepL.append : ∀ {ds es : List D} {vs ws : List V}, RepL K mg μ H ds vs → RepL K mg μ H es ws → RepL K mg μ H (ds ++ es) (vs ++ ws)
  | [], es, vs, ws, h, q => by
    have e : vs = [] := h
    subst e
    exact q
  | d :: ds, es, vs, ws, ⟨v, r, e, h1, h2⟩, q => by
    subst e
    exact ⟨v, r ++ ws, rfl, h1, RepL.append h2 q⟩
theorem RepL.take : ∀ {ds : List D} {vs : List V} (n : Nat), RepL K mg μ H ds vs → RepL K mg μ H (ds.take n) (vs.take n)
  | [], vs, n, h => by
    have e : vs = [] := h
    subst e
    simp [RepL]
  | d :: ds, vs, 0, h => by simp [RepL]
  | d :: ds, vs, n + 1, ⟨v, r, e, h1, h2⟩ => by
    subst e
    exact ⟨v, r.take n, rfl, h1, RepL.take n h2⟩
theorem RepL.drop : ∀ {ds : List D} {vs : List V} (n : Nat), RepL K mg μ H ds vs → RepL K mg μ H (ds.drop n) (vs.drop n)
  | [], vs, n, h => by
    have e : vs = [] := h
    subst e
    simp [RepL]
  | d :: ds, vs, 0, h => h
  | d :: ds, vs, n + 1, ⟨v, r, e, h1, h2⟩ => by
    subst e
    exact RepL.drop n h2
theorem RepL.set {x : D} {u : V} (hx : Rep K mg μ H x u) : ∀ {ds : List D} {vs : List V} (n : Nat), RepL K mg μ H ds vs → RepL K mg μ H (ds.set n x) (vs.set n u)
  | [], vs, n, h => by
    have e : vs = [] := h
    subst e
    simp [RepL]
  | d :: ds, vs, 0, ⟨v, r, e, h1, h2⟩ => by
    subst e
    exact ⟨u, r, rfl, hx, h2⟩
  | d :: ds, vs, n + 1, ⟨v, r, e, h1, h2⟩ => by
    subst e
    exact ⟨v, r.set n u, rfl, h1, RepL.set hx n h2⟩
theorem RepL.eraseIdx : ∀ {ds : List D} {vs : List V} (n : Nat), RepL K mg μ H ds vs → RepL K mg μ H (ds.eraseIdx n) (vs.eraseIdx n)
  | [], vs, n, h => by
    have e : vs = [] := h
    subst e
    simp [RepL]
  | d :: ds, vs, 0, ⟨v, r, e, h1, h2⟩ => by
    subst e
    exact h2
  | d :: ds, vs, n + 1, ⟨v, r, e, h1, h2⟩ => by
    subst e
    exact ⟨v, r.eraseIdx n, rfl, h1, RepL.eraseIdx n h2⟩
theorem RepL.replicate {l : List D} {vs : List V} (h : RepL K mg μ H l vs) : ∀ n, RepL K mg μ H (List.replicate n l).flatten (List.replicate n vs).flatten
  | 0 => rfl
  | n + 1 => by
    rw [List.replicate_succ, List.replicate_succ, List.flatten_cons, List.flatten_cons]
    exact RepL.append h (RepL.replicate h n)
theorem RepL.nil_iff {ds : List D} {vs : List V} (h : RepL K mg μ H ds vs) : ds = [] ↔ vs = [] := by
  have := h.length
  cases ds <;> cases vs <;> simp at this ⊢
/-- a new list, a new tuple -/
theorem rep_newL {p : Addr} {vs : List V} (r : Rel K mg μ H st) (hp : H p = none) (h : RepL K mg μ H l vs) : Rep K mg μ (upd H p (.lst vs)) (.lst l) (.ref p) :=
  ⟨p, vs, rfl, r.nin hp, upd_same, h.ext (Ext.same r (same_upd hp))⟩
theorem rep_newT {p : Addr} {vs : List V} (r : Rel K mg μ H st) (hp : H p = none) (h : RepL K mg μ H l vs) : Rep K mg μ (upd H p (.tup vs)) (.tup l) (.ref p) :=
  ⟨p, vs, rfl, r.nin hp, upd_same, h.ext (Ext.same r (same_upd hp))⟩
end
theorem toStr_append (a b : List Nat) : toStr (a ++ b) = toStr a ++ toStr b := by
  show (⟨(a ++ b).toArray⟩ : Str) = ⟨a.toArray ++ b.toArray⟩
  simp
theorem toStr_length (a : List Nat) : (toStr a).length = a.length := by simp [toStr, Str.length]
theorem toStr_list (a : List Nat) : (toStr a).cps.toList = a := by simp [toStr]
theorem toStr_inj {a b : List Nat} (h : toStr a = toStr b) : a = b := by
  have := congrArg (fun s : Str => s.cps.toList) h
  simpa [toStr] using this
/-! ### + - * // % ** -/
def bAdd : BO := fun st x y => match x, y with
  | .int i, .int j => some (.int (i + j))
  | .str a, .str b => if a.length + b.length ≤ cap then some (.str (a ++ b)) else none
  | .tup a, .tup b => if a.length + b.length ≤ cap then some (.tup (a ++ b)) else none
  | x, y => (lstOf st x).bind fun a => (lstOf st y).bind fun b => if a.length + b.length ≤ cap then some (.lst (a ++ b)) else none
abbrev rAddA (K : PySem.W.Frag) : V → V → Hp → VK → Prop := fun x y H Q => (rI0 (fun i j => .int (i + j))) x y H Q ∨ (∃ i j, x = .str i ∧ y = .str j ∧ i.length + j.length ≤ sizeLine ∧ Q (.str (i ++ j)) H) ∨ rCatA K x y H Q ∨ rCat x y H Q
section
variable {X : Cx} {K : PySem.W.Frag} {mg : Str → Option Value}
theorem opr_add : OpR X (binaryOp .Add) (rAddA X.K) := op_add.or (op_add_str.or (op_catA.or op_cat))
theorem opd_lists {st : Store} {x y d : D} {u w : V} {μ : Mu} {H : Hp} {Q : VK} (r : Rel K mg μ H st) (hx : Rep K mg μ H x u) (hy : Rep K mg μ H y w) (e : ((lstOf st x).bind fun a => (lstOf st y).bind fun b => if a.length + b.length ≤ cap then some (D.lst (a ++ b)) else none) = some d)
    (q : ∀ H' v, Ext μ H μ H' → Rel K mg μ H' st → Rep K mg μ H' d v → Q v H') : rCat u w H Q := by
  obtain ⟨a, e1, e2⟩ := Option.bind_eq_some_iff.mp e
  obtain ⟨b, e3, e4⟩ := Option.bind_eq_some_iff.mp e2
  obtain ⟨p, vs, rfl, h1, l1⟩ := lst_at r hx e1
  obtain ⟨p2, ws, rfl, h2, l2⟩ := lst_at r hy e3
  split at e4
  · rename_i c
    cases e4
    refine ⟨p, p2, vs, ws, rfl, rfl, h1, h2, by rw [← l1.length, ← l2.length]; exact cap_line c, fun o ho => ?_⟩
    have s := same_upd (o := HO.lst (vs ++ ws)) ho
    exact q _ _ (Ext.same r s) (r.same s) (rep_newL r ho (l1.append l2))
  · cases e4
theorem opd_add : OpD K mg (rAddA K) bAdd := by
  intro μ H st x y d u w Q r hx hy e q
  unfold bAdd at e
  split at e
  · cases e
    cases hx
    cases hy
    exact .inl ⟨_, _, rfl, rfl, q H _ Ext.refl r rfl⟩
  · split at e
    · rename_i a b c
      cases e
      cases hx
      cases hy
      refine .inr (.inl ⟨_, _, rfl, rfl, by rw [toStr_length, toStr_length]; exact cap_line c, ?_⟩)
      rw [← toStr_append]
      exact q H _ Ext.refl r rfl
    · cases e
  · split at e
    · rename_i a b c
      cases e
      refine .inr (.inr (.inl ?_))
      obtain ⟨p, vs, rfl, h1, l1⟩ := seq_tup hx
      obtain ⟨p2, ws, rfl, h2, l2⟩ := seq_tup hy
      refine ⟨p, p2, vs, ws, rfl, rfl, h1, h2, by rw [← l1.length, ← l2.length]; exact cap_line c, fun z => ?_, fun z1 z2 => ?_, fun z1 z2 o ho => ?_⟩
      · have z' := l1.nil_iff.mpr z
        rw [z'] at q
        exact q H _ Ext.refl r hy
      · have z' := l2.nil_iff.mpr z2
        rw [z', List.append_nil] at q
        exact q H _ Ext.refl r hx
      · have s := same_upd (o := HO.tup (vs ++ ws)) ho
        exact q _ _ (Ext.same r s) (r.same s) (rep_newT r ho (l1.append l2))
    · cases e
  · exact .inr (.inr (.inr (opd_lists r hx hy e q)))
def bSub : BO := fun _ x y => match x, y with
  | .int i, .int j => some (.int (i - j))
  | _, _ => none
theorem opd_sub : OpD K mg (rI0 fun i j => .int (i - j)) bSub := by
  intro μ H st x y d u w Q r hx hy e q
  unfold bSub at e
  split at e
  · cases e
    cases hx
    cases hy
    exact ⟨_, _, rfl, rfl, q H _ Ext.refl r rfl⟩
  · cases e
instance (i j : Int) : Decidable (CMul i j) := by unfold CMul; infer_instance
instance (i j : Int) : Decidable (CDivN i j) := by unfold CDivN; infer_instance
instance (i j : Int) : Decidable (CPow i j) := by unfold CPow; infer_instance
def bMul : BO := fun st x y => match x, y with
  | .int i, .int j => if CMul i j then some (.int (i * j)) else none
  | .tup l, .int k => if l ≠ [] ∧ 2 ≤ k ∧ k ≤ 1000 ∧ l.length ≤ 1000 then some (.tup (List.replicate k.toNat l).flatten) else none
  | x, .int k => (lstOf st x).bind fun l => if -(2 ^ 63) ≤ k ∧ k < 2 ^ 63 ∧ l.length * k.toNat ≤ cap then some (.lst (List.replicate k.toNat l).flatten) else none
  | _, _ => none
abbrev rMulA (K : PySem.W.Frag) : V → V → Hp → VK → Prop := fun x y H Q => rI CMul (fun i j => .int (i * j)) x y H Q ∨ rRepT K x y H Q ∨ rRep x y H Q
theorem opr_mul : OpR X (binaryOp .Mult) (rMulA X.K) := op_mul.or (op_repT.or op_rep)
theorem opd_mul : OpD K mg (rMulA K) bMul := by
  intro μ H st x y d u w Q r hx hy e q
  unfold bMul at e
  split at e
  · split at e
    · rename_i c
      cases e
      cases hx
      cases hy
      exact .inl ⟨_, _, rfl, rfl, c, q H _ Ext.refl r rfl⟩
    · cases e
  · split at e
    · rename_i c
      cases e
      cases hy
      obtain ⟨p, vs, rfl, h1, l1⟩ := seq_tup hx
      refine .inr (.inl ⟨p, _, vs, rfl, rfl, h1, fun z => c.1 (l1.nil_iff.mpr z), c.2.1, c.2.2.1, by rw [← l1.length]; exact c.2.2.2, fun o ho => q _ _ (Ext.same r (same_upd ho)) (r.same (same_upd ho)) (rep_newT r ho (l1.replicate _))⟩)
    · cases e
  · obtain ⟨l, e1, e2⟩ := Option.bind_eq_some_iff.mp e
    obtain ⟨p, vs, rfl, h1, l1⟩ := lst_at r hx e1
    split at e2
    · rename_i c
      cases e2
      cases hy
      refine .inr (.inr ⟨p, _, vs, rfl, rfl, h1, c.1, c.2.1, by rw [← l1.length]; exact cap_line c.2.2, fun o ho => q _ _ (Ext.same r (same_upd ho)) (r.same (same_upd ho)) (rep_newL r ho (l1.replicate _))⟩)
    · cases e2
  · cases e
def bDiv : BO := fun _ x y => match x, y with
  | .int i, .int j => if CDivN i j then some (.int (i.fdiv j)) else none
  | _, _ => none
def bMod : BO := fun _ x y => match x, y with
  | .int i, .int j => if j ≠ 0 then some (.int (i.fmod j)) else none
  | _, _ => none
def bPow : BO := fun _ x y => match x, y with
  | .int i, .int j => if CPow i j then some (.int (i ^ j.toNat)) else none
  | _, _ => none
theorem opd_div : OpD K mg (rI CDivN fun i j => .int (i.fdiv j)) bDiv := by
  intro μ H st x y d u w Q r hx hy e q
  unfold bDiv at e
  split at e
  · split at e
    · rename_i c
      cases e
      cases hx
      cases hy
      exact ⟨_, _, rfl, rfl, c, q H _ Ext.refl r rfl⟩
    · cases e
  · cases e
theorem opd_mod : OpD K mg (rI (fun _ j => j ≠ 0) fun i j => .int (i.fmod j)) bMod := by
  intro μ H st x y d u w Q r hx hy e q
  unfold bMod at e
  split at e
  · split at e
    · rename_i c
      cases e
      cases hx
      cases hy
      exact ⟨_, _, rfl, rfl, c, q H _ Ext.refl r rfl⟩
    · cases e
  · cases e
theorem opd_pow : OpD K mg (rI CPow fun i j => .int (i ^ j.toNat)) bPow := by
  intro μ H st x y d u w Q r hx hy e q
  unfold bPow at e
  split at e
  · split at e
    · rename_i c
      cases e
      cases hx
      cases hy
      exact ⟨_, _, rfl, rfl, c, q H _ Ext.refl r rfl⟩
    · cases e
  · cases e
variable {a b : Expr} {ma mb : ME} {pos : Pos}
theorem se_add (ha : SE X a ma) (hb : SE X b mb) : SE X (.BinOp a .Add b pos) (eBin bAdd ma mb) := se_bin (fun _ _ => opr_add) opd_add ha hb
theorem se_sub (ha : SE X a ma) (hb : SE X b mb) : SE X (.BinOp a .Sub b pos) (eBin bSub ma mb) := se_bin (fun _ _ => op_sub) opd_sub ha hb
theorem se_mul (ha : SE X a ma) (hb : SE X b mb) : SE X (.BinOp a .Mult b pos) (eBin bMul ma mb) := se_bin (fun _ _ => opr_mul) opd_mul ha hb
theorem se_div (ha : SE X a ma) (hb : SE X b mb) : SE X (.BinOp a .FloorDiv b pos) (eBin bDiv ma mb) := se_bin (fun _ _ => op_fdivN) opd_div ha hb
theorem se_mod (ha : SE X a ma) (hb : SE X b mb) : SE X (.BinOp a .Mod b pos) (eBin bMod ma mb) := se_bin (fun _ _ => op_modN) opd_mod ha hb
theorem se_pow (ha : SE X a ma) (hb : SE X b mb) : SE X (.BinOp a .Pow b pos) (eBin bPow ma mb) := se_bin (fun _ _ => op_pow) opd_pow ha hb
def eNeg (m : ME) : ME := fun env st => (m env st).bind fun d st1 => match d with
  | .int i => .ok (.int (-i)) st1
  | _ => .bad
theorem se_neg (ha : SE X a ma) : SE X (.UnaryOp .USub a pos) (eNeg ma) := fun pn xe W tk => by
  refine PE.imp (pe_un (X := X.tr pn xe) un_neg (ha pn xe W tk)) fun σ H Q h => ?_
  refine tM_seq h fun d v μ env st H1 r re hv a => ?_
  cases d with
  | int i =>
    cases hv
    exact ⟨i, rfl, a μ H1 Ext.refl r _ rfl⟩
  | _ => exact a.elim
end
/-! ### comparisons -/
mutual
def py0 : D → Option PyData
  | .non => some .none
  | .bl b => some (.bool b)
  | .int i => some (.int i)
  | .str s => some (.str (toStr s))
  | .tup l => (py0L l).map .tuple
  | .lst l => (py0L l).map .list
  | _ => none
def py0L : List D → Option (List PyData)
  | [] => some []
  | d :: ds => (py0 d).bind fun p => (py0L ds).map fun ps => p :: ps
end
/-- an object of the store is a list -/
def py (st : Store) (d : D) : Option PyData := match d with
  | .obj n => (lstOf st (.obj n)).bind fun l => (py0L l).map .list
  | d => py0 d
def dEq0 (st : Store) (x y : D) : Option Bool := (py st x).bind fun a => (py st y).bind fun b => if SeqAt.shaped a = true ∧ SeqAt.shaped b = true then some (PyData.eqv a b) else none
def dEq (st : Store) (x y : D) : Option Bool := match x, y with
  | .str a, .str b => some (decide (a = b))
  | x, y => dEq0 st x y
section
variable {K : PySem.W.Frag} {mg : Str → Option Value} {μ : Mu} {H : Hp} {st : Store}
mutual
theorem py0_dp : ∀ {d : D} {v : V} {p : PyData}, Rep K mg μ H d v → py0 d = some p → Dp K H v p
  | .non, v, p, h, e => by
    have hv : v = .non := h
    subst hv
    simp only [py0] at e
    cases e
    exact .non
  | .bl b, v, p, h, e => by
    have hv : v = .bl b := h
    subst hv
    simp only [py0] at e
    cases e
    exact .bl b
  | .int i, v, p, h, e => by
    have hv : v = .int i := h
    subst hv
    simp only [py0] at e
    cases e
    exact .int i
  | .str s, v, p, h, e => by
    have hv : v = .str (toStr s) := h
    subst hv
    simp only [py0] at e
    cases e
    exact .str _
  | .tup l, v, p, h, e => by
    simp only [py0] at e
    obtain ⟨ps, e1, e2⟩ := Option.map_eq_some_iff.mp e
    subst e2
    obtain ⟨a, vs, ev, hs, hl⟩ := seq_tup h
    subst ev
    exact .tup hs (py0L_dp hl e1)
  | .lst l, v, p, h, e => by
    simp only [py0] at e
    obtain ⟨ps, e1, e2⟩ := Option.map_eq_some_iff.mp e
    subst e2
    obtain ⟨a, vs, ev, hs, hl⟩ := seq_list h
    subst ev
    exact .lst hs (py0L_dp hl e1)
  | .ty _, _, _, _, e => by simp only [py0] at e; cases e
  | .scr _, _, _, _, e => by simp only [py0] at e; cases e
  | .obj _, _, _, _, e => by simp only [py0] at e; cases e
  | .dic _ _ _, _, _, _, e => by simp only [py0] at e; cases e
  | .ins _ _ _, _, _, _, e => by simp only [py0] at e; cases e
  | .exc _ _ _, _, _, _, e => by simp only [py0] at e; cases e
  | .cls _, _, _, _, e => by simp only [py0] at e; cases e
theorem py0L_dp : ∀ {ds : List D} {vs : List V} {ps : List PyData}, RepL K mg μ H ds vs → py0L ds = some ps → DpAll K H vs ps
  | [], vs, ps, h, e => by
    have hv : vs = [] := h
    subst hv
    simp only [py0L] at e
    cases e
    exact .nil
  | d :: ds, vs, ps, h, e => by
    obtain ⟨v, r, ev, h1, h2⟩ := h
    subst ev
    simp only [py0L] at e
    obtain ⟨p, e1, e2⟩ := Option.bind_eq_some_iff.mp e
    obtain ⟨qs, e3, e4⟩ := Option.map_eq_some_iff.mp e2
    subst e4
    exact .cons (py0_dp h1 e1) (py0L_dp h2 e3)
end
theorem py_dp (r : Rel K mg μ H st) {d : D} {v : V} {p : PyData} (h : Rep K mg μ H d v) (e : py st d = some p) : Dp K H v p := by
  cases d with
  | obj n =>
    simp only [py] at e
    obtain ⟨l, e1, e2⟩ := Option.bind_eq_some_iff.mp e
    obtain ⟨ps, e3, e4⟩ := Option.map_eq_some_iff.mp e2
    subst e4
    obtain ⟨a, vs, ev, hh, hl⟩ := lst_at r h e1
    subst ev
    exact .lst (.inl (.inl hh)) (py0L_dp hl e3)
  | _ => exact py0_dp h e
def bEq : BO := fun st x y => (dEq st x y).map .bl
def bNe : BO := fun st x y => (dEq st x y).map fun b => .bl (!b)
theorem toStr_injE {a b : List Nat} (h : toStr a = toStr b) : a = b := by
  have := congrArg (fun s : Str => s.cps.toList) h
  simpa [toStr] using this
abbrev rEqA (K : PySem.W.Frag) : V → V → Hp → VK → Prop := fun x y H Q => rEqD K x y H Q ∨ L2.rEq x y H Q
abbrev rNeA (K : PySem.W.Frag) : V → V → Hp → VK → Prop := fun x y H Q => rNeD K x y H Q ∨ L2.rNe x y H Q
theorem dec_toStr (a b : List Nat) : decide (V.str (toStr a) = V.str (toStr b)) = decide (a = b) := by
  by_cases h : a = b
  · simp [h]
  · have : ¬ V.str (toStr a) = V.str (toStr b) := fun z => h (toStr_injE (V.str.inj z))
    rw [decide_eq_false h, decide_eq_false this]
theorem opd_eq : OpD K mg (rEqA K) bEq := by
  intro μ H st x y d u w Q r hx hy e q
  obtain ⟨b, e1, e2⟩ := Option.map_eq_some_iff.mp e
  subst e2
  unfold dEq at e1
  split at e1
  · rename_i a c
    cases e1
    cases hx
    cases hy
    refine .inr ⟨rfl, ?_⟩
    rw [dec_toStr]
    exact q H _ Ext.refl r rfl
  · obtain ⟨p, e3, e4⟩ := Option.bind_eq_some_iff.mp e1
    obtain ⟨p2, e5, e6⟩ := Option.bind_eq_some_iff.mp e4
    split at e6
    · rename_i c
      cases e6
      exact .inl ⟨p, p2, py_dp r hx e3, py_dp r hy e5, c.1, c.2, q H _ Ext.refl r rfl⟩
    · cases e6
theorem opd_ne : OpD K mg (rNeA K) bNe := by
  intro μ H st x y d u w Q r hx hy e q
  obtain ⟨b, e1, e2⟩ := Option.map_eq_some_iff.mp e
  subst e2
  unfold dEq at e1
  split at e1
  · rename_i a c
    cases e1
    cases hx
    cases hy
    refine .inr ⟨rfl, ?_⟩
    rw [dec_toStr]
    exact q H _ Ext.refl r rfl
  · obtain ⟨p, e3, e4⟩ := Option.bind_eq_some_iff.mp e1
    obtain ⟨p2, e5, e6⟩ := Option.bind_eq_some_iff.mp e4
    split at e6
    · rename_i c
      cases e6
      exact .inl ⟨p, p2, py_dp r hx e3, py_dp r hy e5, c.1, c.2, q H _ Ext.refl r rfl⟩
    · cases e6
end
def bCmp (f : Int → Int → Bool) (g : List Nat → List Nat → Bool) : BO := fun _ x y => match x, y with
  | .int i, .int j => some (.bl (f i j))
  | .str a, .str b => some (.bl (g a b))
  | _, _ => none
def bLt : BO := bCmp (fun i j => decide (i < j)) fun a b => decide (a < b)
def bLe : BO := bCmp (fun i j => decide (i ≤ j)) fun a b => !decide (b < a)
def bGt : BO := bCmp (fun i j => decide (j < i)) fun a b => decide (b < a)
def bGe : BO := bCmp (fun i j => decide (j ≤ i)) fun a b => !decide (a < b)
theorem opd_cmp {K : PySem.W.Frag} {mg : Str → Option Value} {f : Int → Int → Bool} {g : List Nat → List Nat → Bool} {r1 : V → V → Hp → VK → Prop} {r2 : Str → Str → Bool} (h1 : ∀ i j H Q, Q (V.bl (f i j)) H → r1 (.int i) (.int j) H Q) (h2 : ∀ a b, r2 (toStr a) (toStr b) = g a b) :
    OpD K mg (fun x y H Q => r1 x y H Q ∨ (∃ i j, x = .str i ∧ y = .str j ∧ Q (.bl (r2 i j)) H)) (bCmp f g) := by
  intro μ H st x y d u w Q r hx hy e q
  unfold bCmp at e
  split at e
  · cases e
    cases hx
    cases hy
    exact .inl (h1 _ _ _ _ (q H _ Ext.refl r rfl))
  · cases e
    cases hx
    cases hy
    refine .inr ⟨_, _, rfl, rfl, ?_⟩
    rw [h2]
    exact q H _ Ext.refl r rfl
  · cases e
section
variable {X : Cx} {a b : Expr} {ma mb : ME} {pos : Pos}
theorem nm (b : Expr) {op : CmpOp} (h : op ≠ .In := by decide) (h2 : op ≠ .NotIn := by decide) : behindInMarks op b = false := nobehind b h h2
theorem hu64 {A : Around} {k : Nat} (hr : Room k A) : A.units + 64 < cLine := hr.units
theorem se_eq {k : Nat} (hr : Room k X.A) (ha : SE X a ma) (hb : SE X b mb) : SE X (.Compare a [.Eq] [b] pos) (eBin bEq ma mb) := se_cmp (fun pn xe => (op_eqD (X := X.tr pn xe) hr.units).or L2.op_eq) opd_eq ha hb (nm b)
theorem se_ne {k : Nat} (hr : Room k X.A) (ha : SE X a ma) (hb : SE X b mb) : SE X (.Compare a [.NotEq] [b] pos) (eBin bNe ma mb) := se_cmp (fun pn xe => (op_neD (X := X.tr pn xe) hr.units).or L2.op_ne) opd_ne ha hb (nm b)
theorem st_eq {k : Nat} (hr : Room k X.A) (ha : SE X a ma) (hb : SE X b mb) : ST X (.Compare a [.Eq] [b] pos) (cBool (eBin bEq ma mb)) := st_cmp (fun pn xe => (op_eqD (X := X.tr pn xe) hr.units).or L2.op_eq) opd_eq ha hb (nm b)
theorem st_ne {k : Nat} (hr : Room k X.A) (ha : SE X a ma) (hb : SE X b mb) : ST X (.Compare a [.NotEq] [b] pos) (cBool (eBin bNe ma mb)) := st_cmp (fun pn xe => (op_neD (X := X.tr pn xe) hr.units).or L2.op_ne) opd_ne ha hb (nm b)
theorem opd_lt {K : PySem.W.Frag} {mg : Str → Option Value} : OpD K mg (fun x y H Q => (rI0 fun i j => .bl (decide (i < j))) x y H Q ∨ (∃ i j, x = .str i ∧ y = .str j ∧ Q (.bl (decide (i.cps.toList < j.cps.toList))) H)) bLt :=
  opd_cmp (r2 := fun i j => decide (i.cps.toList < j.cps.toList)) (fun i j H Q q => ⟨i, j, rfl, rfl, q⟩) fun a b => by simp only [toStr_list]
theorem opd_le {K : PySem.W.Frag} {mg : Str → Option Value} : OpD K mg (fun x y H Q => (rI0 fun i j => .bl (decide (i ≤ j))) x y H Q ∨ (∃ i j, x = .str i ∧ y = .str j ∧ Q (.bl (!decide (j.cps.toList < i.cps.toList))) H)) bLe :=
  opd_cmp (r2 := fun i j => !decide (j.cps.toList < i.cps.toList)) (fun i j H Q q => ⟨i, j, rfl, rfl, q⟩) fun a b => by simp only [toStr_list]
theorem opd_gt {K : PySem.W.Frag} {mg : Str → Option Value} : OpD K mg (fun x y H Q => (rI0 fun i j => .bl (decide (j < i))) x y H Q ∨ (∃ i j, x = .str i ∧ y = .str j ∧ Q (.bl (decide (j.cps.toList < i.cps.toList))) H)) bGt :=
  opd_cmp (r2 := fun i j => decide (j.cps.toList < i.cps.toList)) (fun i j H Q q => ⟨i, j, rfl, rfl, q⟩) fun a b => by simp only [toStr_list]
theorem opd_ge {K : PySem.W.Frag} {mg : Str → Option Value} : OpD K mg (fun x y H Q => (rI0 fun i j => .bl (decide (j ≤ i))) x y H Q ∨ (∃ i j, x = .str i ∧ y = .str j ∧ Q (.bl (!decide (i.cps.toList < j.cps.toList))) H)) bGe :=
  opd_cmp (r2 := fun i j => !decide (i.cps.toList < j.cps.toList)) (fun i j H Q q => ⟨i, j, rfl, rfl, q⟩) fun a b => by simp only [toStr_list]
theorem se_lt (ha : SE X a ma) (hb : SE X b mb) : SE X (.Compare a [.Lt] [b] pos) (eBin bLt ma mb) := se_cmp (fun _ _ => op_lt.or op_lt_str) opd_lt ha hb (nm b)
theorem se_le (ha : SE X a ma) (hb : SE X b mb) : SE X (.Compare a [.LtE] [b] pos) (eBin bLe ma mb) := se_cmp (fun _ _ => op_le.or op_le_str) opd_le ha hb (nm b)
theorem se_gt (ha : SE X a ma) (hb : SE X b mb) : SE X (.Compare a [.Gt] [b] pos) (eBin bGt ma mb) := se_cmp (fun _ _ => op_gt.or op_gt_str) opd_gt ha hb (nm b)
theorem se_ge (ha : SE X a ma) (hb : SE X b mb) : SE X (.Compare a [.GtE] [b] pos) (eBin bGe ma mb) := se_cmp (fun _ _ => op_ge.or op_ge_str) opd_ge ha hb (nm b)
theorem st_lt (ha : SE X a ma) (hb : SE X b mb) : ST X (.Compare a [.Lt] [b] pos) (cBool (eBin bLt ma mb)) := st_cmp (fun _ _ => op_lt.or op_lt_str) opd_lt ha hb (nm b)
theorem st_le (ha : SE X a ma) (hb : SE X b mb) : ST X (.Compare a [.LtE] [b] pos) (cBool (eBin bLe ma mb)) := st_cmp (fun _ _ => op_le.or op_le_str) opd_le ha hb (nm b)
theorem st_gt (ha : SE X a ma) (hb : SE X b mb) : ST X (.Compare a [.Gt] [b] pos) (cBool (eBin bGt ma mb)) := st_cmp (fun _ _ => op_gt.or op_gt_str) opd_gt ha hb (nm b)
theorem st_ge (ha : SE X a ma) (hb : SE X b mb) : ST X (.Compare a [.GtE] [b] pos) (cBool (eBin bGe ma mb)) := st_cmp (fun _ _ => op_ge.or op_ge_str) opd_ge ha hb (nm b)
end
end T5
namespace T5
open PySem PySem.Spec PyProof.Rows L2
variable [TabC]
/-! ### a < b <= c -/
def eChain (g g' : BO) (ma mb mc : ME) : ME := fun env st => (ma env st).bind fun d1 st1 => (mb env st1).bind fun d2 st2 => (ofO (g st2 d1 d2) st2).bind fun z st2' => match z with
  | .bl true => (mc env st2').bind fun d3 st3 => ofO (g' st3 d2 d3) st3
  | .bl false => .ok (.bl false) st2'
  | _ => .bad
section
variable {X : Cx} {K : PySem.W.Frag} {mg : Str → Option Value} {a b c : Expr} {ma mb mc : ME} {pos : Pos}
theorem tChain_of {W : WX} {r r' : V → V → Hp → VK → Prop} {g g' : BO} (hd : OpD K mg r g) (hd' : OpD K mg r' g') {σ : L2.St} {H : Hp} {Q : VK} (h : tM K mg W (eChain g g' ma mb mc) σ H Q) : tChain r r' (tM K mg W ma) (tM K mg W mb) (tM K mg W mc) σ H Q := by
  refine tM_seq h fun d1 x μ1 env st1 H1 r1 re1 h1 a1 => ?_
  refine ⟨μ1, env, st1, r1, re1, (Aft.bind a1).imp fun d2 st2 μ2 H2 x2 r2 a2 y h2 => ?_⟩
  have a3 := Aft.bind a2
  cases q : g st2 d1 d2 with
  | none => rw [q] at a3; exact a3.elim
  | some d =>
    rw [q] at a3
    refine hd μ2 H2 st2 d1 d2 d x y _ r2 (h1.ext x2) h2 q fun H' v e r' h' => ?_
    have a4 := a3 μ2 H' e r'
    cases d with
    | bl k =>
      have hv : v = .bl k := h'
      subst hv
      refine ⟨k, rfl, ?_⟩
      cases k with
      | true =>
        refine ⟨μ2, env, st2, r', (re1.ext x2).ext e, (Aft.bind a4).imp fun d3 st3 μ3 H3 x3 r3 a5 w hw => ?_⟩
        cases q3 : g' st3 d2 d3 with
        | none => rw [q3] at a5; exact a5.elim
        | some d' =>
          rw [q3] at a5
          exact hd' μ3 H3 st3 d2 d3 d' y w Q r3 ((h2.ext e).ext x3) hw q3 fun H'' v' e' r'' h'' => a5 μ3 H'' e' r'' v' h''
      | false => exact a4 μ2 H' Ext.refl r' _ rfl
    | _ => exact a4.elim
theorem se_chain {op op' : CmpOp} {r r' : V → V → Hp → VK → Prop} {g g' : BO} (ho : ∀ pn xe, OpR (X.tr pn xe) (compareOp op) r) (hd : OpD X.K X.mg r g) (ho' : ∀ pn xe, OpR (X.tr pn xe) (compareOp op') r') (hd' : OpD X.K X.mg r' g') (ha : SE X a ma) (hb : SE X b mb) (hc : SE X c mc)
    (hm : lastMarks [op, op'] [b, c] = false := by with_unfolding_all rfl) : SE X (.Compare a [op, op'] [b, c] pos) (eChain g g' ma mb mc) := fun pn xe W tk =>
  PE.imp (pe_chain (ho pn xe) (ho' pn xe) (ha pn xe W tk) (hb pn xe W tk) (hc pn xe W tk) hm) fun σ H Q h => tChain_of hd hd' h
theorem st_chain {op op' : CmpOp} {r r' : V → V → Hp → VK → Prop} {g g' : BO} (ho : ∀ pn xe, OpR (X.tr pn xe) (compareOp op) r) (hd : OpD X.K X.mg r g) (ho' : ∀ pn xe, OpR (X.tr pn xe) (compareOp op') r') (hd' : OpD X.K X.mg r' g') (ha : SE X a ma) (hb : SE X b mb) (hc : SE X c mc)
    (hm : lastMarks [op, op'] [b, c] = false := by with_unfolding_all rfl) : ST X (.Compare a [op, op'] [b, c] pos) (cBool (eChain g g' ma mb mc)) := fun pn xe W tk => by
  refine PT.imp (pt_chain (ho pn xe) (ho' pn xe) (ha pn xe W tk) (hb pn xe W tk) (hc pn xe W tk) hm) fun σ H Q h => ?_
  refine tChain_of (Q := fun x H1 => ∃ k, x = .bl k ∧ Q k H1) hd hd' ?_
  obtain ⟨μ, env, st, r, re, a⟩ := h
  refine ⟨μ, env, st, r, re, (Aft.bind a).imp fun d st1 μ1 H1 x r1 a1 v hv => ?_⟩
  cases d with
  | bl c =>
    have hv' : v = .bl c := hv
    subst hv'
    exact ⟨c, rfl, a1 μ1 H1 Ext.refl r1⟩
  | _ => exact a1.elim
theorem se_lele (ha : SE X a ma) (hb : SE X b mb) (hc : SE X c mc) (hm : lastMarks [.LtE, .LtE] [b, c] = false := by with_unfolding_all rfl) : SE X (.Compare a [.LtE, .LtE] [b, c] pos) (eChain bLe bLe ma mb mc) := se_chain (fun _ _ => op_le.or op_le_str) opd_le (fun _ _ => op_le.or op_le_str) opd_le ha hb hc hm
theorem st_lele (ha : SE X a ma) (hb : SE X b mb) (hc : SE X c mc) (hm : lastMarks [.LtE, .LtE] [b, c] = false := by with_unfolding_all rfl) : ST X (.Compare a [.LtE, .LtE] [b, c] pos) (cBool (eChain bLe bLe ma mb mc)) := st_chain (fun _ _ => op_le.or op_le_str) opd_le (fun _ _ => op_le.or op_le_str) opd_le ha hb hc hm
theorem se_lelt (ha : SE X a ma) (hb : SE X b mb) (hc : SE X c mc) (hm : lastMarks [.LtE, .Lt] [b, c] = false := by with_unfolding_all rfl) : SE X (.Compare a [.LtE, .Lt] [b, c] pos) (eChain bLe bLt ma mb mc) := se_chain (fun _ _ => op_le.or op_le_str) opd_le (fun _ _ => op_lt.or op_lt_str) opd_lt ha hb hc hm
theorem st_lelt (ha : SE X a ma) (hb : SE X b mb) (hc : SE X c mc) (hm : lastMarks [.LtE, .Lt] [b, c] = false := by with_unfolding_all rfl) : ST X (.Compare a [.LtE, .Lt] [b, c] pos) (cBool (eChain bLe bLt ma mb mc)) := st_chain (fun _ _ => op_le.or op_le_str) opd_le (fun _ _ => op_lt.or op_lt_str) opd_lt ha hb hc hm
theorem st_ltlt (ha : SE X a ma) (hb : SE X b mb) (hc : SE X c mc) (hm : lastMarks [.Lt, .Lt] [b, c] = false := by with_unfolding_all rfl) : ST X (.Compare a [.Lt, .Lt] [b, c] pos) (cBool (eChain bLt bLt ma mb mc)) := st_chain (fun _ _ => op_lt.or op_lt_str) opd_lt (fun _ _ => op_lt.or op_lt_str) opd_lt ha hb hc hm
/-! ### is -/
def isNon : D → Bool
  | .non => true
  | _ => false
theorem isNon_rep {μ : Mu} {H : Hp} {d : D} {v : V} (h : Rep K mg μ H d v) : decide (v = .non) = isNon d := by
  cases d with
  | non => cases h; rfl
  | bl _ => cases h; rfl
  | int _ => cases h; rfl
  | str _ => cases h; rfl
  | ty _ => cases h; rfl
  | tup l => obtain ⟨_, _, rfl, _⟩ := h; rfl
  | lst l => obtain ⟨_, _, rfl, _⟩ := h; rfl
  | scr l => obtain ⟨_, _, rfl, _⟩ := h; rfl
  | obj n => obtain ⟨_, rfl, _⟩ := h; rfl
  | dic t ks ds => obtain ⟨_, _, _, rfl, _⟩ := h; rfl
  | ins c ks ds => obtain ⟨_, _, _, _, rfl, _⟩ := h; rfl
  | exc c ks ds => obtain ⟨_, _, _, _, rfl, _⟩ := h; rfl
  | cls c => obtain ⟨_, rfl, _⟩ := h; rfl
  | fn a c q ds us => obtain ⟨rfl, _⟩ := h; rfl
def bIs : BO := fun _ x y => match y with
  | .non => some (.bl (isNon x))
  | .bl b => (match x with
    | .bl a => some (.bl (decide (a = b)))
    | _ => none)
  | _ => none
def bIsNot : BO := fun _ x y => match y with
  | .non => some (.bl (!isNon x))
  | .bl b => (match x with
    | .bl a => some (.bl (!decide (a = b)))
    | _ => none)
  | _ => none
theorem opd_is : OpD K mg (fun x y H Q => (y = .non ∧ Q (.bl (decide (x = .non))) H) ∨ rIsB x y H Q) bIs := by
  intro μ H st x y d u w Q r hx hy e q
  cases y with
  | non =>
    cases e
    cases hy
    refine .inl ⟨rfl, ?_⟩
    rw [isNon_rep hx]
    exact q H _ Ext.refl r rfl
  | bl b =>
    cases x with
    | bl a =>
      cases e
      cases hx
      cases hy
      exact .inr ⟨_, _, rfl, rfl, q H _ Ext.refl r rfl⟩
    | _ => cases e
  | _ => cases e
theorem opd_isnot : OpD K mg (fun x y H Q => (y = .non ∧ Q (.bl (!decide (x = .non))) H) ∨ rNotB x y H Q) bIsNot := by
  intro μ H st x y d u w Q r hx hy e q
  cases y with
  | non =>
    cases e
    cases hy
    refine .inl ⟨rfl, ?_⟩
    rw [isNon_rep hx]
    exact q H _ Ext.refl r rfl
  | bl b =>
    cases x with
    | bl a =>
      cases e
      cases hx
      cases hy
      exact .inr ⟨_, _, rfl, rfl, q H _ Ext.refl r rfl⟩
    | _ => cases e
  | _ => cases e
theorem se_is (ha : SE X a ma) (hb : SE X b mb) : SE X (.Compare a [.Is] [b] pos) (eBin bIs ma mb) := se_cmp (fun _ _ => op_isN.or op_isBl) opd_is ha hb (nm b)
theorem st_is (ha : SE X a ma) (hb : SE X b mb) : ST X (.Compare a [.Is] [b] pos) (cBool (eBin bIs ma mb)) := st_cmp (fun _ _ => op_isN.or op_isBl) opd_is ha hb (nm b)
theorem se_isnot (ha : SE X a ma) (hb : SE X b mb) : SE X (.Compare a [.IsNot] [b] pos) (eBin bIsNot ma mb) := se_cmp (fun _ _ => op_notN.or op_notBl) opd_isnot ha hb (nm b)
theorem st_isnot (ha : SE X a ma) (hb : SE X b mb) : ST X (.Compare a [.IsNot] [b] pos) (cBool (eBin bIsNot ma mb)) := st_cmp (fun _ _ => op_notN.or op_notBl) opd_isnot ha hb (nm b)
end
/-! ### dicts -/
def sameK : D → D → Bool
  | .int i, .int j => i == j
  | .str a, .str b => a == b
  | _, _ => false
def sameKL : List D → List D → Bool
  | [], [] => true
  | x :: xs, y :: ys => sameK x y && sameKL xs ys
  | _, _ => false
def sameKey (t : Bool) (x y : D) : Bool := if t = true then (match x, y with
  | .tup a, .tup b => sameKL a b
  | _, _ => false) else sameK x y
def flatKey : D → Bool
  | .int _ => true
  | .str _ => true
  | _ => false
def isKey (t : Bool) (x : D) : Bool := if t = true then (match x with
  | .tup a => a.all flatKey
  | _ => false) else flatKey x
def lookD (t : Bool) (k : D) : List D → List D → Option D
  | k' :: ks, v :: vs => if sameKey t k' k = true then some v else lookD t k ks vs
  | _, _ => none
/-- d[k] = v: the keys, the values -/
def hasD (t : Bool) (k : D) (ks : List D) : Bool := ks.any fun k' => sameKey t k' k
def putVs (t : Bool) (k v : D) : List D → List D → List D
  | k' :: ks, w :: vs => (if sameKey t k' k = true then v else w) :: putVs t k v ks vs
  | _, _ => []
def putD (t : Bool) (k v : D) (ks vs : List D) : List D × List D := if hasD t k ks = true then (ks, putVs t k v ks vs) else (ks ++ [k], vs ++ [v])
def dicOf (st : Store) : D → Option (Bool × List D × List D)
  | .dic t ks vs => some (t, ks, vs)
  | .obj n => match st[n]? with
    | some (.dic t ks vs) => some (t, ks, vs)
    | _ => none
  | _ => none
section
variable {K : PySem.W.Frag} {mg : Str → Option Value} {μ : Mu} {H : Hp} {st : Store}
theorem keyD_same : ∀ (a b : Key), sameK (keyD a) (keyD b) = decide (a = b)
  | .inl i, .inl j => by
    by_cases e : i = j
    · subst e; simp [sameK, keyD]
    · have : ¬ (Sum.inl i : Key) = Sum.inl j := fun z => e (Sum.inl.inj z)
      simp [sameK, keyD, e]
  | .inr a, .inr b => by
    by_cases e : a = b
    · subst e; simp [sameK, keyD]
    · have h2 : ¬ a.cps.toList = b.cps.toList := fun z => e (by
        obtain ⟨c⟩ := a
        obtain ⟨c'⟩ := b
        have z' : c.toList = c'.toList := z
        have : c = c' := by
          rw [← Array.toArray_toList (xs := c), ← Array.toArray_toList (xs := c'), z']
        rw [this])
      have h3 : ¬ a.cps = b.cps := fun z => h2 (by rw [z])
      simp [sameK, keyD, e, h3]
  | .inl i, .inr b => by simp [sameK, keyD]
  | .inr a, .inl j => by simp [sameK, keyD]
theorem keyL_same : ∀ (a b : List Key), sameKL (a.map keyD) (b.map keyD) = decide (a = b)
  | [], [] => rfl
  | [], _ :: _ => by simp [sameKL]
  | _ :: _, [] => by simp [sameKL]
  | x :: xs, y :: ys => by
    show (sameK (keyD x) (keyD y) && sameKL (xs.map keyD) (ys.map keyD)) = _
    rw [keyD_same, keyL_same]
    by_cases e1 : x = y <;> by_cases e2 : xs = ys <;> simp [e1, e2]
theorem flat_key {d : D} (h : flatKey d = true) : ∃ k : Key, d = keyD k := by
  cases d with
  | int i => exact ⟨.inl i, rfl⟩
  | str s => exact ⟨.inr (toStr s), by simp [keyD, toStr]⟩
  | _ => cases h
theorem flat_keys : ∀ {l : List D}, l.all flatKey = true → ∃ kk : List Key, l = kk.map keyD
  | [], _ => ⟨[], rfl⟩
  | d :: ds, h => by
    have h' : flatKey d = true ∧ ds.all flatKey = true := by simpa using h
    obtain ⟨k, e⟩ := flat_key h'.1
    obtain ⟨kk, e2⟩ := flat_keys h'.2
    exact ⟨k :: kk, by rw [e, e2]; rfl⟩
theorem keyD_rep {k : Key} {v : V} (h : Rep K mg μ H (keyD k) v) : v = kV k := by
  cases k with
  | inl i => exact h
  | inr x =>
    have h' : v = .str (toStr x.cps.toList) := h
    rw [h']
    show V.str ⟨x.cps.toList.toArray⟩ = V.str x
    simp
theorem keysD_rep : ∀ {kk : List Key} {vs : List V}, RepL K mg μ H (kk.map keyD) vs → vs = kk.map kV
  | [], vs, h => h
  | k :: kk, vs, ⟨v, r, e, h1, h2⟩ => by
    rw [e, keyD_rep h1, keysD_rep h2]
    rfl
theorem look_val {κ : Type} [DecidableEq κ] {kD : κ → D} {t : Bool} (hs : ∀ a b : κ, sameKey t (kD a) (kD b) = decide (a = b)) (k : κ) : ∀ {kk : List κ} {ds : List D} {vs : List V}, kk.length = vs.length → RepL K mg μ H ds vs →
    (∀ d, lookD t (kD k) (kk.map kD) ds = some d → ∃ v, valV (kk.zip vs) k = some v ∧ Rep K mg μ H d v) ∧ (lookD t (kD k) (kk.map kD) ds = none → valV (kk.zip vs) k = none)
  | [], ds, vs, h, r => by
    refine ⟨fun d e => ?_, fun _ => rfl⟩
    cases ds <;> simp [lookD] at e
  | k' :: kk, ds, vs, h, r => by
    cases vs with
    | nil => simp at h
    | cons v vs =>
      cases ds with
      | nil => have := r.length; simp at this
      | cons d ds =>
        obtain ⟨v', r', e, h1, h2⟩ := r
        cases e
        have ih := look_val hs k (kk := kk) (ds := ds) (vs := vs) (by simpa using h) h2
        show (∀ d', (if sameKey t (kD k') (kD k) = true then some d else lookD t (kD k) (kk.map kD) ds) = some d' → _) ∧ ((if sameKey t (kD k') (kD k) = true then some d else lookD t (kD k) (kk.map kD) ds) = none → _)
        rw [hs]
        by_cases c : k' = k
        · subst c
          simp only [decide_true, if_true]
          refine ⟨fun d' e => ?_, fun e => by cases e⟩
          cases e
          exact ⟨v, by simp [valV], h1⟩
        · simp only [c, decide_false, Bool.false_eq_true, if_false]
          have ev : valV ((k' :: kk).zip (v :: vs)) k = valV (kk.zip vs) k := by simp [valV, List.find?_cons, c]
          rw [ev]
          exact ih
theorem same_false {a b : D} : sameKey false a b = sameK a b := by simp [sameKey]
theorem same_true {a b : List D} : sameKey true (.tup a) (.tup b) = sameKL a b := by simp [sameKey]
/-- a dict at its address -/
theorem dic_at (r : Rel K mg μ H st) {d : D} {v : V} {t : Bool} {ks ds : List D} (h : Rep K mg μ H d v) (e : dicOf st d = some (t, ks, ds)) : ∃ a vs u, v = .ref a ∧ Rd H a u ∧ DicHO t ks vs u ∧ RepL K mg μ H ds vs := by
  cases d with
  | dic t' ks' ds' =>
    cases e
    obtain ⟨a, vs, u, ev, n, q, dh, hh⟩ := h
    exact ⟨a, vs, u, ev, hh, dh, q⟩
  | obj n =>
    obtain ⟨a, ev, hn⟩ := h
    cases ho : st[n]? with
    | none => simp [dicOf, ho] at e
    | some o =>
      cases o with
      | dic t' ks' ds' =>
        simp only [dicOf, ho] at e
        cases e
        obtain ⟨vs, u, q, dh, hh⟩ := r.ob n _ a ho hn
        exact ⟨a, vs, u, ev, .inl hh, dh, q⟩
      | _ => simp [dicOf, ho] at e
  | _ => cases e
theorem dget_of {a : Addr} {vs : List V} {u : HO} {t : Bool} {ks ds : List D} {k : D} {y : V} (hr : Rd H a u) (dh : DicHO t ks vs u) (hl : RepL K mg μ H ds vs) (hk : isKey t k = true) (hy : Rep K mg μ H k y) :
    (∀ d, lookD t k ks ds = some d → ∃ v, DGet H a y (some v) ∧ Rep K mg μ H d v) ∧ (lookD t k ks ds = none → DGet H a y none) := by
  rcases dh with ⟨rfl, kk, e1, e2, rfl⟩ | ⟨rfl, kk, e1, e2, rfl⟩
  · obtain ⟨k', rfl⟩ := flat_key (show flatKey k = true by simpa [isKey] using hk)
    subst e1
    have ey := keyD_rep hy
    obtain ⟨h1, h2⟩ := look_val (kD := keyD) (t := false) (fun a b => by rw [same_false, keyD_same]) k' e2 hl
    refine ⟨fun d e => ?_, fun e => ?_⟩
    · obtain ⟨v, e3, e4⟩ := h1 d e
      exact ⟨v, .inl ⟨_, k', hr, ey, e3.symm⟩, e4⟩
    · exact .inl ⟨_, k', hr, ey, (h2 e).symm⟩
  · cases k with
    | tup l =>
      obtain ⟨k', rfl⟩ := flat_keys (show l.all flatKey = true by simpa [isKey] using hk)
      subst e1
      obtain ⟨b, ws, rfl, n, hb, hw⟩ := hy
      have ew := keysD_rep hw
      subst ew
      obtain ⟨h1, h2⟩ := look_val (kD := keyTD) (t := true) (fun a b => by rw [keyTD, keyTD, same_true, keyL_same]) k' e2 hl
      refine ⟨fun d e => ?_, fun e => ?_⟩
      · obtain ⟨v, e3, e4⟩ := h1 d e
        exact ⟨v, .inr ⟨_, k', b, hr, rfl, hb, e3.symm⟩, e4⟩
      · exact .inr ⟨_, k', b, hr, rfl, hb, (h2 e).symm⟩
    | _ => simp [isKey] at hk
end
end T5
namespace T5
open PySem PySem.Spec PyProof.Rows L2
variable [TabC]
/-! ### in -/
def flatD : D → Bool
  | .non => true
  | .bl _ => true
  | .int _ => true
  | .str _ => true
  | _ => false
def eqF : D → D → Bool
  | .non, .non => true
  | .bl a, .bl b => a == b
  | .bl a, .int b => (if a then 1 else 0) == b
  | .int a, .bl b => a == (if b then 1 else 0)
  | .int a, .int b => a == b
  | .str a, .str b => a == b
  | _, _ => false
def inF (x : D) (l : List D) : Bool := l.any fun y => eqF y x
def bIn0 (st : Store) (x y : D) : Option Bool := match y with
  | .str s => (match x with
    | .str [c] => some (decide (c ∈ s))
    | _ => none)
  | y => match dicOf st y with
    | some (t, ks, ds) => if isKey t x = true then some (lookD t x ks ds).isSome else none
    | none => (seqOf st y).bind fun l => if flatD x = true ∧ l.all flatD = true then some (inF x l) else none
def bIn : BO := fun st x y => (bIn0 st x y).map .bl
def bNotIn : BO := fun st x y => (bIn0 st x y).map fun b => .bl (!b)
abbrev rDicIn (neg : Bool) : V → V → Hp → VK → Prop := fun y x H Q => ∃ a o, x = .ref a ∧ DGet H a y o ∧ Q (.bl (if neg then !o.isSome else o.isSome)) H
section
variable {X : Cx} {K : PySem.W.Frag} {mg : Str → Option Value} {μ : Mu} {H : Hp} {st : Store} {a b : Expr} {ma mb : ME} {pos : Pos}
theorem op_in_dict (hu : X.A.units + 1 < cLine) : OpR X (compareOp .In) (rDicIn false) := by
  intro pins s σ H y x u v Q I ry rx h
  obtain ⟨a, o, rfl, g, q⟩ := h
  cases rx
  exact d_in hu I g ry fun s' I' => ⟨.bl o.isSome, H, I', rfl, q⟩
theorem op_notIn_dict (hu : X.A.units + 1 < cLine) : OpR X (compareOp .NotIn) (rDicIn true) := by
  intro pins s σ H y x u v Q I ry rx h
  obtain ⟨a, o, rfl, g, q⟩ := h
  cases rx
  exact d_notIn hu I g ry fun s' I' => ⟨.bl (!o.isSome), H, I', rfl, q⟩
theorem flat_rep {d : D} {v : V} (h : Rep K mg μ H d v) (f : flatD d = true) : flatV v = true := by
  cases d with
  | non => cases h; rfl
  | bl _ => cases h; rfl
  | int _ => cases h; rfl
  | str _ => cases h; rfl
  | _ => cases f
theorem flats_rep : ∀ {l : List D} {vs : List V}, RepL K mg μ H l vs → l.all flatD = true → vs.all flatV = true
  | [], vs, h, _ => by
    have e : vs = [] := h
    subst e
    rfl
  | d :: ds, vs, ⟨v, r, e, h1, h2⟩, f => by
    subst e
    have f' : flatD d = true ∧ ds.all flatD = true := by simpa using f
    show (flatV v && r.all flatV) = true
    rw [flat_rep h1 f'.1, flats_rep h2 f'.2]
    rfl
theorem eqF_rep {x y : D} {u v : V} (hx : Rep K mg μ H x u) (hy : Rep K mg μ H y v) (fx : flatD x = true) (fy : flatD y = true) : eqV v u = eqF y x := by
  cases x <;> first | (cases fx; done) | skip
  all_goals cases y <;> first | (cases fy; done) | skip
  all_goals (cases hx; cases hy)
  all_goals first
    | rfl
    | (rename_i a b
       show (toStr b == toStr a) = (b == a)
       by_cases e : b = a
       · rw [e]; simp
       · have : toStr b ≠ toStr a := fun z => e (toStr_inj z)
         rw [beq_eq_false_iff_ne.mpr this, beq_eq_false_iff_ne.mpr e])
theorem inF_rep {x : D} {u : V} (hx : Rep K mg μ H x u) (fx : flatD x = true) : ∀ {l : List D} {vs : List V}, RepL K mg μ H l vs → l.all flatD = true → inV u vs = inF x l
  | [], vs, h, _ => by
    have e : vs = [] := h
    subst e
    rfl
  | d :: ds, vs, ⟨v, r, e, h1, h2⟩, f => by
    subst e
    have f' : flatD d = true ∧ ds.all flatD = true := by simpa using f
    show (eqV v u || inV u r) = (eqF d x || inF x ds)
    rw [eqF_rep hx h1 fx f'.1, inF_rep hx fx h2 f'.2]
abbrev rInA (K : PySem.W.Frag) (neg : Bool) : V → V → Hp → VK → Prop := fun x y H Q => (∃ (c : Nat) (z : Str), x = .str ⟨#[c]⟩ ∧ y = .str z ∧ Q (.bl (if neg then !decide (c ∈ z.cps.toList) else decide (c ∈ z.cps.toList))) H) ∨ rDicIn neg x y H Q ∨ rIn K neg x y H Q
theorem opd_in0 (neg : Bool) : OpD K mg (rInA K neg) (fun st x y => (bIn0 st x y).map fun b => .bl (if neg then !b else b)) := by
  intro μ H st x y d u w Q r hx hy e q
  obtain ⟨b, e1, e2⟩ := Option.map_eq_some_iff.mp e
  subst e2
  unfold bIn0 at e1
  split at e1
  · split at e1
    · rename_i c
      cases e1
      have hu : u = .str (toStr [c]) := hx
      have hw : w = .str (toStr _) := hy
      subst hu hw
      refine .inl ⟨c, _, rfl, rfl, ?_⟩
      rw [toStr_list]
      exact q H _ Ext.refl r rfl
    · cases e1
  · cases e3 : dicOf st y with
    | some p =>
      obtain ⟨t, ks, ds⟩ := p
      simp only [e3] at e1
      split at e1
      · rename_i hk
        cases e1
        obtain ⟨a, vs, u', ev, hr, dh, hl⟩ := dic_at r hy e3
        obtain ⟨h1, h2⟩ := dget_of hr dh hl hk hx
        refine .inr (.inl ?_)
        cases e4 : lookD t x ks ds with
        | some d =>
          rw [e4] at q
          obtain ⟨v, g, _⟩ := h1 d e4
          exact ⟨a, some v, ev, g, q H _ Ext.refl r rfl⟩
        | none =>
          rw [e4] at q
          exact ⟨a, none, ev, h2 e4, q H _ Ext.refl r rfl⟩
      · cases e1
    | none =>
      simp only [e3] at e1
      obtain ⟨l, e4, e5⟩ := Option.bind_eq_some_iff.mp e1
      split at e5
      · rename_i c
        cases e5
        obtain ⟨a, vs, ev, hs, hl⟩ := seq_at r hy e4
        refine .inr (.inr ⟨a, vs, ev, hs, flat_rep hx c.1, flats_rep hl c.2, ?_⟩)
        rw [inF_rep hx c.1 hl c.2]
        exact q H _ Ext.refl r rfl
      · cases e5
theorem opd_in : OpD K mg (rInA K false) bIn := fun μ H st x y d u w Q r hx hy e q => opd_in0 false μ H st x y d u w Q r hx hy e q
theorem opd_notIn : OpD K mg (rInA K true) bNotIn := fun μ H st x y d u w Q r hx hy e q => opd_in0 true μ H st x y d u w Q r hx hy e q
theorem opr_in {k : Nat} (hr : Room k X.A) : OpR X (compareOp .In) (rInA X.K false) := by
  have h := (op_in_sign (X := X)).or ((op_in_dict (hu_of hr)).or op_in_seq)
  exact h
theorem opr_notIn {k : Nat} (hr : Room k X.A) : OpR X (compareOp .NotIn) (rInA X.K true) := by
  have h := (op_notIn_sign (X := X)).or ((op_notIn_dict (hu_of hr)).or op_notIn_seq)
  exact h
theorem se_in {k : Nat} (hr : Room k X.A) (ha : SE X a ma) (hb : SE X b mb) (hm : behindInMarks .In b = false := by rfl) : SE X (.Compare a [.In] [b] pos) (eBin bIn ma mb) := se_cmp (fun pn xe => opr_in (X := X.tr pn xe) hr) opd_in ha hb hm
theorem st_in {k : Nat} (hr : Room k X.A) (ha : SE X a ma) (hb : SE X b mb) (hm : behindInMarks .In b = false := by rfl) : ST X (.Compare a [.In] [b] pos) (cBool (eBin bIn ma mb)) := st_cmp (fun pn xe => opr_in (X := X.tr pn xe) hr) opd_in ha hb hm
theorem se_notIn {k : Nat} (hr : Room k X.A) (ha : SE X a ma) (hb : SE X b mb) (hm : behindInMarks .NotIn b = false := by rfl) : SE X (.Compare a [.NotIn] [b] pos) (eBin bNotIn ma mb) := se_cmp (fun pn xe => opr_notIn (X := X.tr pn xe) hr) opd_notIn ha hb hm
theorem st_notIn {k : Nat} (hr : Room k X.A) (ha : SE X a ma) (hb : SE X b mb) (hm : behindInMarks .NotIn b = false := by rfl) : ST X (.Compare a [.NotIn] [b] pos) (cBool (eBin bNotIn ma mb)) := st_cmp (fun pn xe => opr_notIn (X := X.tr pn xe) hr) opd_notIn ha hb hm
end
/-! ### subscripts -/
def bIx : BO := fun st x i => match x, i with
  | .str s, .int k => if s.length ≤ cap then (atI s k).map fun c => .str [c] else none
  | x, i => match dicOf st x with
    | some (t, ks, ds) => if isKey t i = true then lookD t i ks ds else none
    | none => (match i with
      | .int k => (seqOf st x).bind fun l => atI l k
      | _ => none)
abbrev rIxA (K : PySem.W.Frag) : V → V → Hp → VK → Prop := fun x y H Q => (∃ a v, x = .ref a ∧ DGet H a y (some v) ∧ Q v H) ∨ rIx K x y H Q
section
variable {X : Cx} {K : PySem.W.Frag} {mg : Str → Option Value} {μ : Mu} {H : Hp} {st : Store} {a b : Expr} {ma mb : ME} {pos : Pos}
theorem ix_dict (hu : X.A.units + 1 < cLine) : IxR X (fun x y H Q => ∃ a v, x = .ref a ∧ DGet H a y (some v) ∧ Q v H) := by
  intro value slice pins s σ H x y v u Q I rx ry h hs
  obtain ⟨a, w, rfl, g, q⟩ := h
  cases rx
  exact tail_any (dict_typeIs I g) PySem.F.slot_dict_getitem.lookup (d_getItem hu I g ry fun w' s' I' rw' => ⟨w, H, I', rw', q⟩) hs
theorem RepL.atI {l : List D} {vs : List V} {i : Int} {d : D} (h : RepL K mg μ H l vs) (e : L2.atI l i = some d) : ∃ v, L2.atI vs i = some v ∧ Rep K mg μ H d v := by
  unfold L2.atI at e ⊢
  rw [← h.length]
  obtain ⟨j, e1, e2⟩ := Option.bind_eq_some_iff.mp e
  obtain ⟨v, e3, e4⟩ := h.get e2
  exact ⟨v, by rw [e1]; exact e3, e4⟩
theorem opd_ix : OpD K mg (rIxA K) bIx := by
  intro μ H st x i d u w Q r hx hi e q
  unfold bIx at e
  split at e
  · split at e
    · rename_i s k c
      obtain ⟨ch, e1, e2⟩ := Option.map_eq_some_iff.mp e
      subst e2
      have hu : u = .str (toStr s) := hx
      have hw : w = .int k := hi
      subst hu hw
      refine .inr (.inr (.inr ⟨toStr s, k, ch, rfl, rfl, by rw [toStr_length]; exact cap_line c, by rw [toStr_list]; exact e1, ?_⟩))
      exact q H _ Ext.refl r rfl
    · cases e
  · cases e3 : dicOf st x with
    | some p =>
      obtain ⟨t, ks, ds⟩ := p
      simp only [e3] at e
      split at e
      · rename_i hk
        obtain ⟨a, vs, u', ev, hr, dh, hl⟩ := dic_at r hx e3
        obtain ⟨h1, h2⟩ := dget_of hr dh hl hk hi
        obtain ⟨v, g, hv⟩ := h1 d e
        exact .inl ⟨a, v, ev, g, q H v Ext.refl r hv⟩
      · cases e
    | none =>
      simp only [e3] at e
      cases i with
      | int k =>
        obtain ⟨l, e4, e5⟩ := Option.bind_eq_some_iff.mp e
        obtain ⟨a, vs, ev, hs, hl⟩ := seq_at r hx e4
        obtain ⟨v, e6, hv⟩ := hl.atI e5
        have hw : w = .int k := hi
        rcases hs with hs | hs
        · exact .inr (.inl ⟨a, vs, k, v, ev, hw, hs, e6, q H v Ext.refl r hv⟩)
        · exact .inr (.inr (.inl ⟨a, vs, k, v, ev, hw, hs, e6, q H v Ext.refl r hv⟩))
      | _ => cases e
theorem se_sub_ix {k : Nat} (hr : Room k X.A) (ha : SE X a ma) (hb : SE X b mb) (hs : PlainIx b) : SE X (.Subscript a b pos) (eBin bIx ma mb) := se_ix (fun pn xe => (ix_dict (X := X.tr pn xe) (hu_of hr)).or ix_seq) opd_ix ha hb hs
/-! slices -/
abbrev MO := DEnv → Store → R (Option Int)
def tMO (K : PySem.W.Frag) (mg : Str → Option Value) (W : WX) (m : MO) : TO := fun σ H Q => ∃ μ env st, Rel K mg μ H st ∧ REnv K mg μ H env σ ∧ Aft K mg W σ μ H (m env st) fun o _ _ H' => Q o H'
def SO (X : Cx) (e : Option Expr) (m : MO) : Prop := ∀ pn xe W, Takes (X.tr pn xe) W → PO (X.tr pn xe) e (tMO X.K X.mg W m)
theorem PO.imp {e : Option Expr} {t t' : TO} (h : PO X e t) (f : ∀ σ H Q, t' σ H Q → t σ H Q) : PO X e t' := ⟨fun pins s σ H Q I q => h.run pins s σ H Q I (f σ H Q q)⟩
def oNone : MO := fun _ st => .ok none st
def oSome (m : ME) : MO := fun env st => (m env st).bind fun d st1 => match d with
  | .int i => .ok (some i) st1
  | _ => .bad
theorem so_none : SO X none oNone := fun pn xe W _ => PO.imp po_none fun σ H Q h => by
  obtain ⟨μ, env, st, r, re, a⟩ := h
  exact a μ H Ext.refl r
theorem so_some (he : SE X a ma) : SO X (some a) (oSome ma) := fun pn xe W tk => PO.imp (po_some (he pn xe W tk)) fun σ H Q h => by
  obtain ⟨μ, env, st, r, re, q⟩ := h
  refine ⟨μ, env, st, r, re, (Aft.bind q).imp fun d st1 μ1 H1 x r1 a1 v hv => ?_⟩
  cases d with
  | int i =>
    cases hv
    exact ⟨i, rfl, a1 μ1 H1 Ext.refl r1⟩
  | _ => exact a1.elim
def cutD {α : Type} (l : List α) (lo hi : Option Int) : List α := (l.drop (HT.sIx l.length 0 lo)).take (HT.sIx l.length l.length hi - HT.sIx l.length 0 lo)
def bSl (st : Store) (x : D) (lo hi : Option Int) : Option D := match x with
  | .str s => if s.length ≤ cap then some (.str (cutD s lo hi)) else none
  | .tup l => some (.tup (cutD l lo hi))
  | x => (lstOf st x).map fun l => .lst (cutD l lo hi)
def eSl (m : ME) (lo hi : MO) : ME := fun env st => (m env st).bind fun d st1 => (lo env st1).bind fun l st2 => (hi env st2).bind fun h st3 => ofO (bSl st3 d l h) st3
theorem cutD_rep {l : List D} {vs : List V} (h : RepL K mg μ H l vs) (lo hi : Option Int) : RepL K mg μ H (cutD l lo hi) (cutV vs lo hi) := by
  unfold cutD cutV
  rw [← h.length]
  exact (h.drop _).take _
theorem se_slice {lo hi : Option Expr} {ml mh : MO} {p2 : Pos} (he : SE X a ma) (hl : SO X lo ml) (hh : SO X hi mh) : SE X (.Subscript a (.Slice lo hi none p2) pos) (eSl ma ml mh) := fun pn xe W tk => by
  refine PE.imp (pe_slice (X := X.tr pn xe) (sl_list.or (sl_tupA.or sl_str)) (he pn xe W tk) (hl pn xe W tk) (hh pn xe W tk)) fun σ H Q h => ?_
  refine tM_seq h fun d x μ1 env st1 H1 r1 re1 h1 a1 => ?_
  refine ⟨μ1, env, st1, r1, re1, (Aft.bind a1).imp fun l st2 μ2 H2 x2 r2 a2 => ?_⟩
  refine ⟨μ2, env, st2, r2, re1.ext x2, (Aft.bind a2).imp fun h st3 μ3 H3 x3 r3 a3 => ?_⟩
  have h3 := (h1.ext x2).ext x3
  cases e : bSl st3 d l h with
  | none => rw [e] at a3; exact a3.elim
  | some d' =>
    rw [e] at a3
    unfold bSl at e
    split at e
    · split at e
      · rename_i s c
        cases e
        have hx : x = .str (toStr s) := h3
        subst hx
        refine .inr (.inr ⟨toStr s, rfl, by rw [toStr_length]; exact cap_line c, ?_⟩)
        have e2 : cutS (toStr s) l h = toStr (cutD s l h) := by
          unfold cutS cutD
          rw [toStr_list, toStr_length]
          rfl
        rw [e2]
        exact a3 μ3 H3 Ext.refl r3 _ rfl
      · cases e
    · rename_i lt
      cases e
      obtain ⟨p, vs, rfl, hs, hl⟩ := seq_tup h3
      refine .inr (.inl ⟨p, vs, rfl, hs, fun c => ?_, fun c o ho => ?_⟩)
      · have e2 : cutD lt l h = lt := by
          unfold cutD
          rw [hl.length, c.1, c.2, List.drop_zero, Nat.sub_zero, ← hl.length, List.take_length]
        rw [e2] at a3
        exact a3 μ3 H3 Ext.refl r3 _ h3
      · exact a3 μ3 _ (Ext.same r3 (same_upd ho)) (r3.same (same_upd ho)) _ (rep_newT r3 ho (cutD_rep hl l h))
    · obtain ⟨l', e1, e2⟩ := Option.map_eq_some_iff.mp e
      subst e2
      obtain ⟨p, vs, rfl, hs, hl⟩ := lst_at r3 h3 e1
      exact .inl ⟨p, vs, rfl, .inl (.inl hs), fun o ho => a3 μ3 _ (Ext.same r3 (same_upd ho)) (r3.same (same_upd ho)) _ (rep_newL r3 ho (cutD_rep hl l h))⟩
end
end T5
namespace T5
open PySem PySem.Spec PyProof.Rows L2
variable [TabC]
/-! ### built-ins by name -/
abbrev BF := Store → List D → Option D
def CallD (K : PySem.W.Frag) (mg : Str → Option Value) (r : List V → Hp → VK → Prop) (f : BF) : Prop :=
  ∀ (μ : Mu) (H : Hp) (st : Store) (ds : List D) (d : D) (vs : List V) (Q : VK), Rel K mg μ H st → RepL K mg μ H ds vs → f st ds = some d → (∀ H' v, Ext μ H μ H' → Rel K mg μ H' st → Rep K mg μ H' d v → Q v H') → r vs H Q
def eCB (f : BF) (ma : MA) : ME := fun env st => (ma env st).bind fun ds st1 => ofO (f st1 ds) st1
section
variable {X : Cx} {e : Expr} {es : List Expr} {m : ME} {ma : MA} {p pos : Pos} {x : Str} {id T : String} {r : List V → Hp → VK → Prop} {f : BF}
theorem tCB_of {K : PySem.W.Frag} {mg : Str → Option Value} {W : WX} (hd : CallD K mg r f) {σ : L2.St} {H : Hp} {Q : VK} (h : tM K mg W (eCB f ma) σ H Q) : tCB r (tMA K mg W ma) σ H Q :=
  tMA_run h fun ds vs μ env st H1 r1 re hv a => by
    cases e : f st ds with
    | none => rw [e] at a; exact a.elim
    | some d =>
      rw [e] at a
      exact hd μ H1 st ds d vs Q r1 hv e fun H' v x' r' h' => a μ H' x' r' v h'
theorem se_callB (hc : ∀ pn xe, CallR (X.tr pn xe) (.builtin id) r) (hd : CallD X.K X.mg r f) (hg : Gl X x) (hm : X.mg x = none) (hv : bootBuiltins x = some (.builtin id)) (ha : SA X (e :: es) ma) (hn : x ≠ "__name__" := by decide) (hdb : (x == ("__debug__" : Str)) = false := by decide)
    (he : starEach (e :: es) X.env = (false, eval e X.env) :: starEach es X.env := by rfl) (hpl : (backTo pos (starEach es X.env)).any (·.1) = false := by rfl) : SE X (.Call (.Name x p) (e :: es) [] pos) (eCB f ma) := fun pn xe W tk =>
  PE.imp (pe_callB (X := X.tr pn xe) (hc pn xe) hg hm hv (ha pn xe W tk) hn hdb he hpl) fun σ H Q h => tCB_of hd h
theorem se_callTy (hc : ∀ pn xe, CallR (X.tr pn xe) (.type T) r) (hd : CallD X.K X.mg r f) (hg : Gl X x) (hm : X.mg x = none) (hv : bootBuiltins x = some (.type T)) (ha : SA X (e :: es) ma) (hn : x ≠ "__name__" := by decide) (hdb : (x == ("__debug__" : Str)) = false := by decide)
    (he : starEach (e :: es) X.env = (false, eval e X.env) :: starEach es X.env := by rfl) (hpl : (backTo pos (starEach es X.env)).any (·.1) = false := by rfl) : SE X (.Call (.Name x p) (e :: es) [] pos) (eCB f ma) := fun pn xe W tk =>
  PE.imp (pe_callTy (X := X.tr pn xe) (hc pn xe) hg hm hv (ha pn xe W tk) hn hdb he hpl) fun σ H Q h => tCB_of hd h
end
section
variable {X : Cx} {K : PySem.W.Frag} {mg : Str → Option Value} {e : Expr} {es : List Expr} {m : ME} {ma : MA} {p pos : Pos}
theorem repL1 {μ : Mu} {H : Hp} {d : D} {vs : List V} (h : RepL K mg μ H [d] vs) : ∃ v, vs = [v] ∧ Rep K mg μ H d v := by
  obtain ⟨v, r, e, h1, h2⟩ := h
  have e2 : r = [] := h2
  exact ⟨v, by rw [e, e2], h1⟩
theorem repL2 {μ : Mu} {H : Hp} {d d2 : D} {vs : List V} (h : RepL K mg μ H [d, d2] vs) : ∃ v v2, vs = [v, v2] ∧ Rep K mg μ H d v ∧ Rep K mg μ H d2 v2 := by
  obtain ⟨v, r, e, h1, h2⟩ := h
  obtain ⟨v2, e2, h3⟩ := repL1 h2
  exact ⟨v, v2, by rw [e, e2], h1, h3⟩
/-- len -/
def fLen : BF := fun st ds => match ds with
  | [d] => (match d with
    | .str s => if s.length ≤ cap then some (.int s.length) else none
    | d => (match dicOf st d with
      | some (t, ks, _) => if t = false then some (.int ks.length) else none
      | none => (seqOf st d).map fun l => .int l.length))
  | _ => none
abbrev rLenA (K : PySem.W.Frag) : List V → Hp → VK → Prop := fun xs H Q => (∃ x n, xs = [x] ∧ LenV K x H n ∧ Q (.int n) H) ∨ (∃ a kvs, xs = [V.ref a] ∧ Rd H a (.dK kvs) ∧ Q (.int kvs.length) H)
theorem call_lenR : CallR X (.builtin "len") (fun xs H Q => ∃ a kvs, xs = [V.ref a] ∧ Rd H a (.dK kvs) ∧ Q (.int kvs.length) H) := by
  intro pins s σ H xs us Q I r h
  obtain ⟨a, kvs, rfl, ha, q⟩ := h
  obtain ⟨u, rfl, ru⟩ := vals1 r
  cases ru
  exact d_len I ha fun t s' I' => ⟨.int kvs.length, H, I', ⟨t, rfl⟩, q⟩
theorem calld_len : CallD K mg (rLenA K) fLen := by
  intro μ H st ds d vs Q r hv e q
  cases ds with
  | nil => cases e
  | cons x xs =>
    cases xs with
    | cons _ _ => cases e
    | nil =>
      obtain ⟨v, rfl, h1⟩ := repL1 hv
      have other : (∀ s, x ≠ .str s) → rLenA K [v] H Q := fun hx => by
        have e' : (match dicOf st x with
          | some (t, ks, _) => if t = false then some (.int ks.length) else none
          | none => (seqOf st x).map fun l => D.int l.length) = some d := by
          cases x <;> first | exact e | exact absurd rfl (hx _)
        cases e3 : dicOf st x with
        | some pr =>
          obtain ⟨t, ks, ws⟩ := pr
          rw [e3] at e'
          have e'' : (if t = false then some (D.int ks.length) else none) = some d := e'
          by_cases ct : t = false
          · rw [if_pos ct] at e''
            cases e''
            obtain ⟨a, vs, u, rfl, hr, dh, hl⟩ := dic_at r h1 e3
            rcases dh with ⟨_, kk, e1, e2, rfl⟩ | ⟨c, _⟩
            · refine .inr ⟨a, _, rfl, hr, ?_⟩
              have : (kk.zip vs).length = ks.length := by rw [e1, List.length_zip, ← e2]; simp
              rw [this]
              exact q H _ Ext.refl r rfl
            · rw [ct] at c
              cases c
          · rw [if_neg ct] at e''
            cases e''
        | none =>
          rw [e3] at e'
          obtain ⟨l, e4, e5⟩ := Option.map_eq_some_iff.mp e'
          subst e5
          obtain ⟨a, ws, rfl, hs, hl⟩ := seq_at r h1 e4
          refine .inl ⟨_, l.length, rfl, ?_, q H _ Ext.refl r rfl⟩
          exact hs.imp (fun hs => ⟨ws, hs, hl.length⟩) fun hs => ⟨ws, hs, hl.length⟩
      cases x with
      | str s =>
        have e' : (if s.length ≤ cap then some (D.int s.length) else none) = some d := e
        split at e'
        · rename_i c
          cases e'
          have hv' : v = .str (toStr s) := h1
          subst hv'
          refine .inl ⟨_, s.length, rfl, ⟨by rw [toStr_length]; exact cap_line c, by rw [toStr_length]⟩, ?_⟩
          exact q H _ Ext.refl r rfl
        · cases e'
      | _ => exact other (fun _ z => by cases z)
theorem se_len (hg : Gl X "len") (hm : X.mg "len" = none) (ha : SA X (e :: es) ma) (he : starEach (e :: es) X.env = (false, eval e X.env) :: starEach es X.env := by rfl) (hpl : (backTo pos (starEach es X.env)).any (·.1) = false := by rfl) : SE X (.Call (.Name "len" p) (e :: es) [] pos) (eCB fLen ma) :=
  se_callB (fun _ _ => call_len.or call_lenR) calld_len hg hm PySem.boot_len ha (by decide) (by decide) he hpl
/-- int -/
def fInt : BF := fun _ ds => match ds with
  | [.int i] => some (.int i)
  | [.bl b] => some (.int (if b then 1 else 0))
  | [.str s] => if s.length ≤ 640 then (PySem.intText? (toStr s)).map .int else none
  | _ => none
theorem calld_int : CallD K mg (fun xs H Q => ((∃ i, xs = [.int i] ∧ Q (.int i) H) ∨ ∃ k, xs = [.bl k] ∧ Q (.int (if k then 1 else 0)) H) ∨ (∃ a n, xs = [.str a] ∧ PySem.intText? a = some n ∧ a.length ≤ 640 ∧ Q (.int n) H)) fInt := by
  intro μ H st ds d vs Q r hv e q
  unfold fInt at e
  split at e
  · cases e
    obtain ⟨v, rfl, h1⟩ := repL1 hv
    cases h1
    exact .inl (.inl ⟨_, rfl, q H _ Ext.refl r rfl⟩)
  · cases e
    obtain ⟨v, rfl, h1⟩ := repL1 hv
    cases h1
    exact .inl (.inr ⟨_, rfl, q H _ Ext.refl r rfl⟩)
  · split at e
    · rename_i s c
      obtain ⟨n, e1, e2⟩ := Option.map_eq_some_iff.mp e
      subst e2
      obtain ⟨v, rfl, h1⟩ := repL1 hv
      cases h1
      exact .inr ⟨_, n, rfl, e1, by rw [toStr_length]; exact c, q H _ Ext.refl r rfl⟩
    · cases e
  · cases e
theorem se_int1 (hg : Gl X "int") (hm : X.mg "int" = none) (ha : SA X (e :: es) ma) (he : starEach (e :: es) X.env = (false, eval e X.env) :: starEach es X.env := by rfl) (hpl : (backTo pos (starEach es X.env)).any (·.1) = false := by rfl) : SE X (.Call (.Name "int" p) (e :: es) [] pos) (eCB fInt ma) :=
  se_callTy (fun _ _ => call_int1.or call_int_str) calld_int hg hm (by decide +kernel) ha (by decide) (by decide) he hpl
/-- list(x), tuple(x) -/
def fList : BF := fun st ds => match ds with
  | [d] => (seqOf st d).map .lst
  | _ => none
def fTuple : BF := fun st ds => match ds with
  | [d] => (seqOf st d).map .tup
  | _ => none
theorem calld_list : CallD K mg (fun xs H Q => ∃ p ys, xs = [V.ref p] ∧ (SqL K H p ys ∨ SqT K H p ys) ∧ ∀ l, H l = none → Q (.ref l) (upd H l (.lst ys))) fList := by
  intro μ H st ds d vs Q r hv e q
  unfold fList at e
  split at e
  · obtain ⟨l, e1, e2⟩ := Option.map_eq_some_iff.mp e
    subst e2
    obtain ⟨v, rfl, h1⟩ := repL1 hv
    obtain ⟨a, ws, rfl, hs, hl⟩ := seq_at r h1 e1
    exact ⟨a, ws, rfl, hs, fun o ho => q _ _ (Ext.same r (same_upd ho)) (r.same (same_upd ho)) (rep_newL r ho hl)⟩
  · cases e
theorem calld_tuple : CallD K mg (fun xs H Q => ∃ p ys, xs = [V.ref p] ∧ ((SqL K H p ys ∧ ∀ l, H l = none → Q (.ref l) (upd H l (.tup ys))) ∨ (SqT K H p ys ∧ Q (.ref p) H))) fTuple := by
  intro μ H st ds d vs Q r hv e q
  unfold fTuple at e
  split at e
  · rename_i x
    obtain ⟨l, e1, e2⟩ := Option.map_eq_some_iff.mp e
    subst e2
    obtain ⟨v, rfl, h1⟩ := repL1 hv
    cases x with
    | tup l' =>
      cases e1
      obtain ⟨a, ws, rfl, hs, hl⟩ := seq_tup h1
      exact ⟨a, ws, rfl, .inr ⟨hs, q H _ Ext.refl r h1⟩⟩
    | scr l' =>
      cases e1
      obtain ⟨a, ws, rfl, hs, hl⟩ := seq_scr h1
      exact ⟨a, ws, rfl, .inl ⟨hs, fun o ho => q _ _ (Ext.same r (same_upd ho)) (r.same (same_upd ho)) (rep_newT r ho hl)⟩⟩
    | lst l' =>
      obtain ⟨a, ws, rfl, hs, hl⟩ := lst_at r h1 (show lstOf st (.lst l') = some l from e1)
      exact ⟨a, ws, rfl, .inl ⟨.inl (.inl hs), fun o ho => q _ _ (Ext.same r (same_upd ho)) (r.same (same_upd ho)) (rep_newT r ho hl)⟩⟩
    | obj n =>
      obtain ⟨a, ws, rfl, hs, hl⟩ := lst_at r h1 (show lstOf st (.obj n) = some l from e1)
      exact ⟨a, ws, rfl, .inl ⟨.inl (.inl hs), fun o ho => q _ _ (Ext.same r (same_upd ho)) (r.same (same_upd ho)) (rep_newT r ho hl)⟩⟩
    | _ => cases e1
  · cases e
theorem se_list1 (hg : Gl X "list") (hm : X.mg "list" = none) (ha : SA X (e :: es) ma) (he : starEach (e :: es) X.env = (false, eval e X.env) :: starEach es X.env := by rfl) (hpl : (backTo pos (starEach es X.env)).any (·.1) = false := by rfl) : SE X (.Call (.Name "list" p) (e :: es) [] pos) (eCB fList ma) :=
  se_callTy (fun _ _ => call_list_of) calld_list hg hm PyProof.Rows.boot_list ha (by decide) (by decide) he hpl
theorem se_tuple1 (hg : Gl X "tuple") (hm : X.mg "tuple" = none) (ha : SA X (e :: es) ma) (he : starEach (e :: es) X.env = (false, eval e X.env) :: starEach es X.env := by rfl) (hpl : (backTo pos (starEach es X.env)).any (·.1) = false := by rfl) : SE X (.Call (.Name "tuple" p) (e :: es) [] pos) (eCB fTuple ma) :=
  se_callTy (fun _ _ => call_tuple_of) calld_tuple hg hm (by decide +kernel) ha (by decide) (by decide) he hpl
/-- list(x), a list that changes later -/
def eListM (ma : MA) : ME := fun env st => (ma env st).bind fun ds st1 => match ds with
  | [d] => (match seqOf st1 d with
    | some l => .ok (.obj st1.length) (st1 ++ [.lst l])
    | none => .bad)
  | _ => .bad
theorem obj_new' {μ : Mu} {H H' : Hp} {st : Store} {q : Addr} (r : Rel K mg μ H st) : Rep K mg (μ.push q) H' (.obj st.length) (.ref q) := ⟨q, rfl, by
  show (μ.l ++ [q])[st.length]? = some q
  rw [List.getElem?_append_right (by rw [r.len]; exact Nat.le_refl _), r.len]
  simp⟩
theorem se_listM (hg : Gl X "list") (hm : X.mg "list" = none) (ha : SA X (e :: es) ma) (he : starEach (e :: es) X.env = (false, eval e X.env) :: starEach es X.env := by rfl) (hpl : (backTo pos (starEach es X.env)).any (·.1) = false := by rfl) : SE X (.Call (.Name "list" p) (e :: es) [] pos) (eListM ma) := fun pn xe W tk => by
  refine PE.imp (pe_callTy (X := X.tr pn xe) call_list_of hg hm PyProof.Rows.boot_list (ha pn xe W tk) (by decide) (by decide) he hpl) fun σ H Q h => ?_
  refine tMA_run h fun ds vs μ env st H1 r re hv a => ?_
  split at a
  · rename_i d
    split at a
    · rename_i l e1
      obtain ⟨v, rfl, h1⟩ := repL1 hv
      obtain ⟨b, ws, rfl, hs, hl⟩ := seq_at r h1 e1
      refine ⟨b, ws, rfl, hs, fun o ho => ?_⟩
      have s := same_upd (o := HO.lst ws) ho
      have x := Ext.push r s ho
      exact a _ _ x (r.push s ho ⟨ws, upd_same, hl.ext x⟩) _ (obj_new' r)
    · exact a.elim
  · exact a.elim
/-- max, min of two or three -/
def maxI (i j : Int) : Int := if j > i then j else i
def minI (i j : Int) : Int := if j < i then j else i
def intsD : List D → Option (List Int)
  | [] => some []
  | .int i :: ds => (intsD ds).map fun is => i :: is
  | _ => none
theorem intsD_rep {μ : Mu} {H : Hp} : ∀ {ds : List D} {is : List Int} {vs : List V}, intsD ds = some is → RepL K mg μ H ds vs → vs = is.map V.int
  | [], is, vs, e, h => by
    cases e
    exact h
  | d :: ds, is, vs, e, ⟨v, r, ev, h1, h2⟩ => by
    cases d with
    | int i =>
      obtain ⟨js, e1, e2⟩ := Option.map_eq_some_iff.mp (show (intsD ds).map (fun is => i :: is) = some is from e)
      subst e2
      have : v = .int i := h1
      rw [ev, this, intsD_rep e1 h2]
      rfl
    | _ => cases e
/-- the greatest -/
def maxL : List Int → Option Int
  | [] => none
  | i :: is => some (is.foldl maxI i)
def minL : List Int → Option Int
  | [] => none
  | i :: is => some (is.foldl minI i)
theorem foldMax : ∀ (is : List Int) (i : Int), (is.foldl maxI i = i ∨ is.foldl maxI i ∈ is) ∧ i ≤ is.foldl maxI i ∧ ∀ j ∈ is, j ≤ is.foldl maxI i
  | [], i => ⟨.inl rfl, Int.le_refl _, fun j h => by cases h⟩
  | k :: is, i => by
    obtain ⟨h1, h2, h3⟩ := foldMax is (maxI i k)
    have hm : (maxI i k = i ∨ maxI i k = k) ∧ i ≤ maxI i k ∧ k ≤ maxI i k := by unfold maxI; split <;> omega
    show (is.foldl maxI (maxI i k) = i ∨ is.foldl maxI (maxI i k) ∈ k :: is) ∧ i ≤ is.foldl maxI (maxI i k) ∧ ∀ j ∈ k :: is, j ≤ is.foldl maxI (maxI i k)
    refine ⟨?_, by omega, fun j hj => ?_⟩
    · rcases h1 with h1 | h1
      · rcases hm.1 with z | z
        · exact .inl (h1.trans z)
        · exact .inr (by rw [h1, z]; exact List.mem_cons_self)
      · exact .inr (List.mem_cons_of_mem _ h1)
    · rcases List.mem_cons.mp hj with z | z
      · rw [z]; omega
      · exact h3 j z
theorem foldMin : ∀ (is : List Int) (i : Int), (is.foldl minI i = i ∨ is.foldl minI i ∈ is) ∧ is.foldl minI i ≤ i ∧ ∀ j ∈ is, is.foldl minI i ≤ j
  | [], i => ⟨.inl rfl, Int.le_refl _, fun j h => by cases h⟩
  | k :: is, i => by
    obtain ⟨h1, h2, h3⟩ := foldMin is (minI i k)
    have hm : (minI i k = i ∨ minI i k = k) ∧ minI i k ≤ i ∧ minI i k ≤ k := by unfold minI; split <;> omega
    show (is.foldl minI (minI i k) = i ∨ is.foldl minI (minI i k) ∈ k :: is) ∧ is.foldl minI (minI i k) ≤ i ∧ ∀ j ∈ k :: is, is.foldl minI (minI i k) ≤ j
    refine ⟨?_, by omega, fun j hj => ?_⟩
    · rcases h1 with h1 | h1
      · rcases hm.1 with z | z
        · exact .inl (h1.trans z)
        · exact .inr (by rw [h1, z]; exact List.mem_cons_self)
      · exact .inr (List.mem_cons_of_mem _ h1)
    · rcases List.mem_cons.mp hj with z | z
      · rw [z]; omega
      · exact h3 j z
def fMax : BF := fun st ds => match ds with
  | [.int i, .int j] => some (.int (maxI i j))
  | [d] => (lstOf st d).bind fun l => (intsD l).bind fun is => (maxL is).map .int
  | _ => none
def fMin : BF := fun st ds => match ds with
  | [.int i, .int j] => some (.int (minI i j))
  | [d] => (lstOf st d).bind fun l => (intsD l).bind fun is => (minL is).map .int
  | _ => none
theorem calld_max : CallD K mg (fun xs H Q => (∃ i j, xs = [.int i, .int j] ∧ Q (.int (if j > i then j else i)) H) ∨ rMax K xs H Q) fMax := by
  intro μ H st ds d vs Q r hv e q
  unfold fMax at e
  split at e
  · cases e
    obtain ⟨v, v2, rfl, h1, h2⟩ := repL2 hv
    cases h1
    cases h2
    exact .inl ⟨_, _, rfl, q H _ Ext.refl r rfl⟩
  · obtain ⟨l, e1, e2⟩ := Option.bind_eq_some_iff.mp e
    obtain ⟨is, e3, e4⟩ := Option.bind_eq_some_iff.mp e2
    obtain ⟨m, e5, e6⟩ := Option.map_eq_some_iff.mp e4
    subst e6
    obtain ⟨v, rfl, h1⟩ := repL1 hv
    obtain ⟨a, ws, rfl, hs, hl⟩ := lst_at r h1 e1
    have ew := intsD_rep e3 hl
    subst ew
    cases is with
    | nil => cases e5
    | cons i is =>
      cases e5
      obtain ⟨f1, f2, f3⟩ := foldMax is i
      refine .inr ⟨a, i :: is, rfl, .inl (.inl hs), by simp, fun m hm hy => ?_⟩
      have em : m = is.foldl maxI i := by
        have g1 : is.foldl maxI i ≤ m := by
          rcases f1 with z | z
          · rw [z]; exact hy i List.mem_cons_self
          · exact hy _ (List.mem_cons_of_mem _ z)
        have g2 : m ≤ is.foldl maxI i := by
          rcases List.mem_cons.mp hm with z | z
          · rw [z]; exact f2
          · exact f3 m z
        omega
      rw [em]
      exact q H _ Ext.refl r rfl
  · cases e
theorem calld_min : CallD K mg (fun xs H Q => (∃ i j, xs = [.int i, .int j] ∧ Q (.int (if j < i then j else i)) H) ∨ rMin K xs H Q) fMin := by
  intro μ H st ds d vs Q r hv e q
  unfold fMin at e
  split at e
  · cases e
    obtain ⟨v, v2, rfl, h1, h2⟩ := repL2 hv
    cases h1
    cases h2
    exact .inl ⟨_, _, rfl, q H _ Ext.refl r rfl⟩
  · obtain ⟨l, e1, e2⟩ := Option.bind_eq_some_iff.mp e
    obtain ⟨is, e3, e4⟩ := Option.bind_eq_some_iff.mp e2
    obtain ⟨m, e5, e6⟩ := Option.map_eq_some_iff.mp e4
    subst e6
    obtain ⟨v, rfl, h1⟩ := repL1 hv
    obtain ⟨a, ws, rfl, hs, hl⟩ := lst_at r h1 e1
    have ew := intsD_rep e3 hl
    subst ew
    cases is with
    | nil => cases e5
    | cons i is =>
      cases e5
      obtain ⟨f1, f2, f3⟩ := foldMin is i
      refine .inr ⟨a, i :: is, rfl, .inl (.inl hs), by simp, fun m hm hy => ?_⟩
      have em : m = is.foldl minI i := by
        have g1 : m ≤ is.foldl minI i := by
          rcases f1 with z | z
          · rw [z]; exact hy i List.mem_cons_self
          · exact hy _ (List.mem_cons_of_mem _ z)
        have g2 : is.foldl minI i ≤ m := by
          rcases List.mem_cons.mp hm with z | z
          · rw [z]; exact f2
          · exact f3 m z
        omega
      rw [em]
      exact q H _ Ext.refl r rfl
  · cases e
theorem se_max (hc : X.calm = true) (hg : Gl X "max") (hm : X.mg "max" = none) (ha : SA X (e :: es) ma) (he : starEach (e :: es) X.env = (false, eval e X.env) :: starEach es X.env := by rfl) (hpl : (backTo pos (starEach es X.env)).any (·.1) = false := by rfl) : SE X (.Call (.Name "max" p) (e :: es) [] pos) (eCB fMax ma) :=
  se_callB (fun pn xe => (call_max2 (X := X.tr pn xe) hc).or (cr_max (X := X.tr pn xe) hc)) calld_max hg hm (by decide +kernel) ha (by decide) (by decide) he hpl
theorem se_min (hc : X.calm = true) (hg : Gl X "min") (hm : X.mg "min" = none) (ha : SA X (e :: es) ma) (he : starEach (e :: es) X.env = (false, eval e X.env) :: starEach es X.env := by rfl) (hpl : (backTo pos (starEach es X.env)).any (·.1) = false := by rfl) : SE X (.Call (.Name "min" p) (e :: es) [] pos) (eCB fMin ma) :=
  se_callB (fun pn xe => (call_min2 (X := X.tr pn xe) hc).or (cr_min (X := X.tr pn xe) hc)) calld_min hg hm (by decide +kernel) ha (by decide) (by decide) he hpl
/-- sum, all, any of a list -/
def blsD : List D → Option (List Bool)
  | [] => some []
  | .bl b :: ds => (blsD ds).map fun bs => b :: bs
  | _ => none
theorem blsD_rep {μ : Mu} {H : Hp} : ∀ {ds : List D} {bs : List Bool} {vs : List V}, blsD ds = some bs → RepL K mg μ H ds vs → vs = bs.map V.bl
  | [], is, vs, e, h => by
    cases e
    exact h
  | d :: ds, is, vs, e, ⟨v, r, ev, h1, h2⟩ => by
    cases d with
    | bl i =>
      obtain ⟨js, e1, e2⟩ := Option.map_eq_some_iff.mp (show (blsD ds).map (fun is => i :: is) = some is from e)
      subst e2
      have : v = .bl i := h1
      rw [ev, this, blsD_rep e1 h2]
      rfl
    | _ => cases e
def fSum : BF := fun st ds => match ds with
  | [d] => (lstOf st d).bind fun l => (intsD l).map fun is => .int is.sum
  | _ => none
def fAll : BF := fun st ds => match ds with
  | [d] => (lstOf st d).bind fun l => (blsD l).map fun bs => .bl (bs.all id)
  | _ => none
def fAny : BF := fun st ds => match ds with
  | [d] => (lstOf st d).bind fun l => (blsD l).map fun bs => .bl (bs.any id)
  | _ => none
theorem calld_sum : CallD K mg (rSum K) fSum := by
  intro μ H st ds d vs Q r hv e q
  unfold fSum at e
  split at e
  · obtain ⟨l, e1, e2⟩ := Option.bind_eq_some_iff.mp e
    obtain ⟨is, e3, e4⟩ := Option.map_eq_some_iff.mp e2
    subst e4
    obtain ⟨v, rfl, h1⟩ := repL1 hv
    obtain ⟨a, ws, rfl, hs, hl⟩ := lst_at r h1 e1
    exact ⟨a, is, rfl, by rw [← intsD_rep e3 hl]; exact .inl (.inl hs), q H _ Ext.refl r rfl⟩
  · cases e
theorem calld_all : CallD K mg (rAll K) fAll := by
  intro μ H st ds d vs Q r hv e q
  unfold fAll at e
  split at e
  · obtain ⟨l, e1, e2⟩ := Option.bind_eq_some_iff.mp e
    obtain ⟨is, e3, e4⟩ := Option.map_eq_some_iff.mp e2
    subst e4
    obtain ⟨v, rfl, h1⟩ := repL1 hv
    obtain ⟨a, ws, rfl, hs, hl⟩ := lst_at r h1 e1
    exact ⟨a, is, rfl, by rw [← blsD_rep e3 hl]; exact .inl (.inl hs), q H _ Ext.refl r rfl⟩
  · cases e
theorem calld_any : CallD K mg (rAny K) fAny := by
  intro μ H st ds d vs Q r hv e q
  unfold fAny at e
  split at e
  · obtain ⟨l, e1, e2⟩ := Option.bind_eq_some_iff.mp e
    obtain ⟨is, e3, e4⟩ := Option.map_eq_some_iff.mp e2
    subst e4
    obtain ⟨v, rfl, h1⟩ := repL1 hv
    obtain ⟨a, ws, rfl, hs, hl⟩ := lst_at r h1 e1
    exact ⟨a, is, rfl, by rw [← blsD_rep e3 hl]; exact .inl (.inl hs), q H _ Ext.refl r rfl⟩
  · cases e
theorem se_sum (hc : X.calm = true) (hg : Gl X "sum") (hm : X.mg "sum" = none) (ha : SA X (e :: es) ma) (he : starEach (e :: es) X.env = (false, eval e X.env) :: starEach es X.env := by rfl) (hpl : (backTo pos (starEach es X.env)).any (·.1) = false := by rfl) : SE X (.Call (.Name "sum" p) (e :: es) [] pos) (eCB fSum ma) :=
  se_callB (fun pn xe => cr_sum (X := X.tr pn xe) hc) calld_sum hg hm (by decide +kernel) ha (by decide) (by decide) he hpl
theorem se_all (hc : X.calm = true) (hg : Gl X "all") (hm : X.mg "all" = none) (ha : SA X (e :: es) ma) (he : starEach (e :: es) X.env = (false, eval e X.env) :: starEach es X.env := by rfl) (hpl : (backTo pos (starEach es X.env)).any (·.1) = false := by rfl) : SE X (.Call (.Name "all" p) (e :: es) [] pos) (eCB fAll ma) :=
  se_callB (fun pn xe => cr_all (X := X.tr pn xe) hc) calld_all hg hm (by decide +kernel) ha (by decide) (by decide) he hpl
theorem se_any (hc : X.calm = true) (hg : Gl X "any") (hm : X.mg "any" = none) (ha : SA X (e :: es) ma) (he : starEach (e :: es) X.env = (false, eval e X.env) :: starEach es X.env := by rfl) (hpl : (backTo pos (starEach es X.env)).any (·.1) = false := by rfl) : SE X (.Call (.Name "any" p) (e :: es) [] pos) (eCB fAny ma) :=
  se_callB (fun pn xe => cr_any (X := X.tr pn xe) hc) calld_any hg hm (by decide +kernel) ha (by decide) (by decide) he hpl
/-- list(range(n)) -/
def eLstRg (ma : ME) : ME := fun env st => (ma env st).bind fun d st1 => match d with
  | .int n => if n ≤ cap ∧ -(2 ^ 62) ≤ n then .ok (.lst (upTo 0 n.toNat)) st1 else .bad
  | _ => .bad
theorem upTo_rep {μ : Mu} {H : Hp} (lo : Int) : ∀ (l : List Nat), RepL K mg μ H (l.map fun (i : Nat) => D.int (lo + (i : Int))) (l.map fun (i : Nat) => V.int (lo + (i : Int)))
  | [] => rfl
  | i :: l => ⟨_, _, rfl, rfl, upTo_rep lo l⟩
theorem se_lstRg {a : Expr} {ma : ME} {p2 pos2 : Pos} (hc : X.calm = true) (hg : Gl X "list") (hm : X.mg "list" = none) (hg2 : Gl X "range") (hm2 : X.mg "range" = none) (ha : SE X a ma)
    (na : starEach [a] X.env = (false, eval a X.env) :: starEach [] X.env := by rfl) (na2 : starEach [.Call (.Name "range" p2) [a] [] pos2] X.env = (false, eval (.Call (.Name "range" p2) [a] [] pos2) X.env) :: starEach [] X.env := by rfl) : SE X (.Call (.Name "list" p) [.Call (.Name "range" p2) [a] [] pos2] [] pos) (eLstRg ma) := fun pn xe W tk => by
  refine PE.imp (pe_listRg (X := X.tr pn xe) hc hg hm (prg_1 (X := X.tr pn xe) hg2 hm2 (ha pn xe W tk) na) na2) fun σ H Q h => ?_
  refine tM_seq h fun d v μ env st H1 r re hv a => ?_
  cases d with
  | int n =>
    cases hv
    have a : Aft X.K X.mg W σ μ H1 (if n ≤ cap ∧ -(2 ^ 62) ≤ n then .ok (.lst (upTo 0 n.toNat)) st else .bad) (fun d x μ' H' => ∀ (v : V), Rep X.K X.mg μ' H' d v → Q v H') := a
    by_cases c : n ≤ cap ∧ -(2 ^ 62) ≤ n
    · rw [if_pos c] at a
      have hc : n ≤ 16000000 := c.1
      have hc2 := c.2
      refine ⟨n, rfl, ⟨by omega, by omega, by omega, by omega, by omega⟩, fun o ho => ?_⟩
      have e1 : rgV 0 n = (List.range n.toNat).map fun (i : Nat) => V.int (0 + (i : Int)) := by
        unfold rgV
        rw [Int.sub_zero]
      refine a _ _ (Ext.same r (same_upd ho)) (r.same (same_upd ho)) _ (rep_newL r ho ?_)
      rw [e1]
      exact upTo_rep 0 _
    · rw [if_neg c] at a
      exact a.elim
  | _ => exact a.elim
end
end T5
namespace PySem
open Sem (wp)
set_option maxHeartbeats 1000000 in
theorem t5_enum_new {v : Value} {o : Obj} {H : Heap → Prop} (B : Begins v o H) :
    Meets (Builtin.«enumerate.__new__» ⟨[.type "enumerate", v], []⟩) (fun _ R s => H s.heap ∧
      R (.ok (.ret (.ref (s.heap.push o).objs.size))) { s with heap := (s.heap.push o).push { cls := .type "enumerate", data := .fields #[.none, .bool false, .ref s.heap.objs.size, rawInt 0, .none, .none] } }) :=
  .of_wp fun prog w A R s h => by
    obtain ⟨hp, g, d, tk, os⟩ := s
    obtain ⟨h1, h⟩ := h
    have hsub := sub_enumerate
    have q1 : ∀ {A' : Around} {E : Value → Shared → Prop} {Q : Value → Shared → Prop}, Q (.ref hp.objs.size) ⟨hp.push o, g, d, tk, os⟩ → wpAny (model prog w) A' (pyIter v) Q E ⟨hp, g, d, tk, os⟩ :=
      fun q => B.iter prog w _ _ ⟨hp, g, d, tk, os⟩ _ h1 q
    wp_walk using q1
    refine wpAny_stack_any fun st => wpAny_pure ?_
    split
    · rename_i c _ _ _ _ _
      cases (c == Value.type "enumerate")
      · wp_walk using q1
        exact ⟨_, rfl, h⟩
      · wp_walk using q1
        exact ⟨_, rfl, h⟩
    · wp_walk using q1
      exact ⟨_, rfl, h⟩
theorem t5_enum_call {prog : Program} {w : World} {A : Around} {E : Value → Shared → Prop} {s : Shared} {v : Value} {o : Obj} {H : Heap → Prop} {Q : Value → Shared → Prop} (B : Begins v o H) (h1 : H s.heap)
    (h : ∀ h', IsEnum h' (s.heap.objs.size + 1) s.heap.objs.size 0 .none → h'.get? s.heap.objs.size = some o → h'.objs.size = s.heap.objs.size + 2 →
      (∀ b o, s.heap.get? b = some o → h'.get? b = some o) → Q (.ref (s.heap.objs.size + 1)) { s with heap := h' }) :
    wpAny (model prog w) A (call (.type "enumerate") [v]) Q E s := by
  refine callType_new F.called_enumerate (by decide) (F.typeCall_enumerate_1 _) (F.newCall_enumerate_1 _) (fun obj => F.args_object_init_2 obj _) F.entry_enumerate_new
    (t5_enum_new B) ⟨h1, ?_⟩
  have hz : (s.heap.push o).objs.size = s.heap.objs.size + 1 := Heap.size_push ..
  show _ ∧ _
  rw [hz]
  have he : IsEnum ((s.heap.push o).push { cls := .type "enumerate", data := .fields #[.none, .bool false, .ref s.heap.objs.size, rawInt 0, .none, .none] }) (s.heap.objs.size + 1) s.heap.objs.size 0 .none := by
    have := Heap.get?_push_size (s.heap.push o) (o := { cls := .type "enumerate", data := .fields #[.none, .bool false, .ref s.heap.objs.size, rawInt 0, .none, .none] }) rfl
    rw [hz] at this; exact this
  refine ⟨⟨_, he, rfl⟩, h _ he (Heap.get?_push_of_some _ (Heap.get?_push_size _ B.free)) (by rw [Heap.size_push, hz]) fun b o x => Heap.get?_push_of_some _ (Heap.get?_push_of_some _ x)⟩
end PySem
namespace T5
open PySem PySem.Spec PyProof.Rows L2
variable [TabC]
/-- the items of the tuple at a, with their numbers -/
def IteT (K : PySem.W.Frag) (a : Addr) : It :=
  ⟨fun i H => ∃ xs x, SqT K H a xs ∧ xs[i]? = some x, fun i H v H' => ∃ T x, v = .ref T ∧ H T = none ∧ H' = upd H T (.tup [.int (i : Nat), x]) ∧ ∀ xs, SqT K H a xs → xs[i]? = some x, fun i H => ∃ xs, SqT K H a xs ∧ xs.length ≤ i⟩
theorem enum_apart {X : Cx} {pins : List (Addr × Obj)} {σ : L2.St} {H : Hp} {s : Shared} {a e it : Addr} {its : Array Value} {i : Nat} {old : Value} {c : Int} (p : IsTup s.heap a its) (he : IsEnum s.heap e it c old) (hit : s.heap.IsTupleIter it a i) : a ≠ e ∧ a ≠ it := by
  obtain ⟨o, ho, hc, _⟩ := p
  constructor
  · intro z
    subst z
    rw [he] at ho
    cases ho
    exact absurd (Value.type.inj hc) (by decide)
  · intro z
    subst z
    obtain ⟨o2, ho2, hc2, _⟩ := hit
    rw [ho2] at ho
    cases ho
    rw [hc2] at hc
    exact absurd (Value.type.inj hc) (by decide)
theorem turn_enumT {P : Program} {w : World} {K : PySem.W.Frag} {elts : List Expr} {kk : Nat} {tpos : Pos} (a e it : Addr) :
    Turn P w K (.Tuple elts kk tpos) (IteT K a) [e, it] e (fun i h => (∃ old, IsEnum h e it ((i : Nat) : Int) old) ∧ h.IsTupleIter it a i ∧ e ≠ it) where
  mem := by simp
  obj := fun i h st b hb => by
    obtain ⟨⟨old, he⟩, ⟨o, ho, hc, hd⟩, _⟩ := st
    have e' : b = e ∨ b = it := by simpa using hb
    rcases e' with z | z
    · rw [z]; exact ⟨_, he, fun v q => nomatch q⟩
    · rw [z]; exact ⟨o, ho, fun v q => by rw [hd] at q; cases q⟩
  keep := fun i h h' st k => let ⟨⟨old, he⟩, hi, hne⟩ := st; ⟨⟨old, k e (by simp) _ he⟩, hi.at fun o q => k it (by simp) o q, hne⟩
  item := by
    intro X hP hw hK hc i pins s σ H E I hf st hg
    subst hP hw hK
    obtain ⟨⟨old, he⟩, hit, hne⟩ := st
    obtain ⟨xs, x, hq, hx⟩ := hg
    obtain ⟨its, rv, p, hz⟩ := I.tuple hq
    obtain ⟨u, hu, ru⟩ := rv.get hx
    obtain ⟨na1, na2⟩ := enum_apart (X := X) (pins := pins) (σ := σ) (H := H) p he hit
    have hel : e < s.heap.objs.size := Heap.lt_size he
    have hil : it < s.heap.objs.size := by obtain ⟨_, q, _⟩ := hit; exact Heap.lt_size q
    have hsz : i < its.toArray.size := by
      have := (List.getElem?_eq_some_iff.mp hu).1
      simpa using this
    have hh : X.A.in1.handled = none := I.ok.hd hc
    refine wpAny_pyNext_enum_itemD (Draws.tuple (prog := X.prog) (w := X.w) hh it a na2 its.toArray) he ⟨hit, p⟩ hsz hne (by
      intro z
      have z' : e = it ∨ e = a := by simpa using z
      rcases z' with z' | z'
      · exact hne z'
      · exact na1 z'.symm) fun x' h' tk hP ho hit' hT hsz hk => ?_
    have ex : x' = u := by
      have h1 : its[i]? = some x' := by simpa using hP
      exact Option.some.inj (h1.symm.trans hu)
    subst ex
    refine ⟨_, rfl, wpAny_letOwnedTupleGo_enum (s := { s with heap := h', toks := tk + 1 }) ho fun h'' he' sb => ?_⟩
    have hT2 : h''.get? s.heap.objs.size = some { cls := .type "tuple", data := .seq #[.int i tk, x'] } := (sb.2 _ (Nat.ne_of_gt hel)).trans hT
    have new : ObjOk X.prog X.w (upd H s.heap.objs.size (.tup [.int (i : Nat), x])) h'' s.heap.objs.size (.tup [.int (i : Nat), x]) :=
      ⟨by show 2 ≤ sizeLine; decide, [.int i tk, x'], .cons ⟨_, rfl⟩ (.cons ru .nil), ⟨_, hT2, rfl, _, rfl⟩⟩
    have I1 : Inv X pins σ (upd H s.heap.objs.size (.tup [.int (i : Nat), x])) { s with heap := h'', toks := tk + 1 } :=
      I.turnedNew (ch := [e, it]) (fun b ob hb q => (sb.2 b (fun z => hb (by simp [z]))).trans (hk b ob (fun z => hb (by simp [z])) (fun z => hb (by simp [z])) q)) hf (Nat.le_refl _) new
    refine ⟨.ref s.heap.objs.size, _, I1, rfl, ⟨_, x, rfl, I.hok.fresh (Nat.le_refl _), rfl, fun ys hy => by rw [I.tuple_inj hy hq]; exact hx⟩, ⟨⟨x', ?_⟩, hit'.1.at fun o q => (sb.2 it (Ne.symm hne)).trans q, hne⟩, fun b hb => ?_⟩
    · have e1 : ((i + 1 : Nat) : Int) = (i : Int) + 1 := by omega
      rw [e1]; exact he'
    · have hb' : b < s.heap.objs.size := by
        have e' : b = e ∨ b = it := by simpa using hb
        rcases e' with z | z
        · rw [z]; exact hel
        · rw [z]; exact hil
      rw [upd_ne (Nat.ne_of_lt hb')]
      exact (hf b hb).1
  done := by
    intro X hP hw hK hc i pins s σ H E I hf st hg
    subst hP hw hK
    obtain ⟨⟨old, he⟩, hit, hne⟩ := st
    obtain ⟨xs, hq, hx⟩ := hg
    obtain ⟨its, rv, p, hz⟩ := I.tuple hq
    obtain ⟨f0, f1, f2, f3, f4, f5⟩ := hf it (by simp)
    obtain ⟨na1, na2⟩ := enum_apart (X := X) (pins := pins) (σ := σ) (H := H) p he hit
    have hl := rv.length
    have hh : X.A.in1.handled = none := I.ok.hd hc
    have hx' : its.toArray[i]? = none := by
      rw [List.getElem?_toArray]
      exact List.getElem?_eq_none_iff.mpr (by omega)
    have hTy : s.TypeIs (.ref e) "enumerate" := ⟨_, he, rfl⟩
    unfold pyNext
    refine wpAny_bind (wpAny_attempt (wpAny_callSpecial?_slot (name := Str.ofString "__next__") hTy PySem.F.slot_enumerate_next
      (wpAny_call_entry PySem.F.slot_enumerate_next hTy PySem.F.entry_enumerate_next ?_ (PySem.F.args_enumerate_next_1 _))))
    show wpAny _ _ (field (.ref e) 2 >>= _) _ _ _
    refine wpAny_bind (wpAny_field he rfl (x := .ref it) rfl ?_)
    refine wpAny_bind (wpAny_nextOf_tuple_end hh hit p hx' fun h' x he' hx' => ?_)
    obtain ⟨o, ho, hcc⟩ := hx'
    refine wpAny_bind (wpAny_isInstance (T := "StopIteration") (b := true) ⟨o, ho, hcc⟩ isSubtype_stop ?_)
    exact wpAny_pure ⟨rfl, I.turned (t' := s.toks) (fun b o hb q => he' b o hb q) f0 f1 f3 f4 f5⟩
  self := fun A i s Q E st h => let ⟨⟨_, he⟩, _⟩ := st; wpAny_pyIter_enum he h
def iEn (m : ME) : MI := fun env st => (m env st).bind fun d st1 => match d with
  | .tup l => .ok (l.zipIdx.map fun p => .tup [.int (p.2 : Nat), p.1]) st1
  | .lst l => .ok (l.zipIdx.map fun p => .tup [.int (p.2 : Nat), p.1]) st1
  | .scr l => .ok (l.zipIdx.map fun p => .tup [.int (p.2 : Nat), p.1]) st1
  | _ => .bad
theorem en_get {l : List D} {i : Nat} {d : D} (h : (l.zipIdx.map fun p => D.tup [.int (p.2 : Nat), p.1])[i]? = some d) : ∃ x, l[i]? = some x ∧ d = .tup [.int (i : Nat), x] := by
  rw [List.getElem?_map, List.getElem?_zipIdx] at h
  cases e : l[i]? with
  | none => rw [e] at h; cases h
  | some x =>
    rw [e] at h
    simp at h
    exact ⟨x, rfl, h.symm⟩
theorem itd_en {K : PySem.W.Frag} {mg : Str → Option Value} {μ : Mu} {H : Hp} {l : List D} {J : It} (hg : ∀ i μ1 H1 st1, Ext μ H μ1 H1 → Rel K mg μ1 H1 st1 → (∀ x, l[i]? = some x → J.go i H1 ∧ ∀ v H', J.yld i H1 v H' → ∃ T w, v = .ref T ∧ H1 T = none ∧ H' = upd H1 T (.tup [.int (i : Nat), w]) ∧ Rep K mg μ1 H1 x w) ∧ (l.length ≤ i → J.stop i H1)) :
    ItD K mg J μ H (l.zipIdx.map fun p => .tup [.int (p.2 : Nat), p.1]) := fun i μ1 H1 st1 x r => by
  obtain ⟨h1, h2⟩ := hg i μ1 H1 st1 x r
  refine ⟨fun d hd => ?_, fun hi => h2 (by simpa using hi)⟩
  obtain ⟨y, e1, rfl⟩ := en_get hd
  obtain ⟨g1, g2⟩ := h1 y e1
  refine ⟨g1, fun v H' hy => ?_⟩
  obtain ⟨T, w, rfl, hT, rfl, hw⟩ := g2 v H' hy
  exact ⟨same_upd hT, rep_newT r hT ⟨_, _, rfl, rfl, _, _, rfl, hw, rfl⟩⟩
theorem itd_enL {K : PySem.W.Frag} {mg : Str → Option Value} {μ : Mu} {H : Hp} {l : List D} {a : Addr} {d : D} (h : Rep K mg μ H d (.ref a)) (hd : ∀ {μ H v}, Rep K mg μ H d v → ∃ a vs, v = .ref a ∧ SqL K H a vs ∧ RepL K mg μ H l vs) : ItD K mg (Ite K a) μ H (l.zipIdx.map fun p => .tup [.int (p.2 : Nat), p.1]) :=
  itd_en fun i μ1 H1 st1 x r => by
    obtain ⟨b, vs, e, hs, hl⟩ := hd (h.ext x)
    cases e
    refine ⟨fun y hy => ?_, fun hi => ⟨vs, hs, by rw [← hl.length]; exact hi⟩⟩
    obtain ⟨v, e1, e2⟩ := hl.get hy
    refine ⟨⟨vs, v, hs, e1⟩, fun w H' ⟨T, z, e3, e4, e5, e6⟩ => ⟨T, z, e3, e4, e5, ?_⟩⟩
    have : z = v := Option.some.inj ((e6 vs hs).symm.trans e1)
    rw [this]
    exact e2
theorem itd_enT {K : PySem.W.Frag} {mg : Str → Option Value} {μ : Mu} {H : Hp} {l : List D} {a : Addr} (h : Rep K mg μ H (.tup l) (.ref a)) : ItD K mg (IteT K a) μ H (l.zipIdx.map fun p => .tup [.int (p.2 : Nat), p.1]) :=
  itd_en fun i μ1 H1 st1 x r => by
    obtain ⟨b, vs, e, hs, hl⟩ := seq_tup (h.ext x)
    cases e
    refine ⟨fun y hy => ?_, fun hi => ⟨vs, hs, by rw [← hl.length]; exact hi⟩⟩
    obtain ⟨v, e1, e2⟩ := hl.get hy
    refine ⟨⟨vs, v, hs, e1⟩, fun w H' ⟨T, z, e3, e4, e5, e6⟩ => ⟨T, z, e3, e4, e5, ?_⟩⟩
    have : z = v := Option.some.inj ((e6 vs hs).symm.trans e1)
    rw [this]
    exact e2
section
variable {X : Cx} {e : Expr} {m : ME} {p pos tpos : Pos} {elts : List Expr} {kk : Nat}
theorem enum_list {pins : List (Addr × Obj)} {σ : L2.St} {H : Hp} {s : Shared} {a : Addr} {xs : List V} {Q : It → Hp → Prop} (I : Inv X pins σ H s) (hq : SqL X.K H a xs) (q : Q (Ite X.K a) H) :
    wpAny (model X.prog X.w) X.A (call (.type "enumerate") [.ref a]) (fun v s1 => wpAny (model X.prog X.w) X.A (pyIter v) (PIE X pins σ (.Tuple elts kk tpos) Q) X.xe s1) X.xe s := by
  obtain ⟨its, rv, p', hz⟩ := I.list hq
  refine call_enumerate_list p'.isList fun h' he hit hsz hk => wpAny_pyIter_enum he ?_
  have I2 : Inv X pins σ H { s with heap := h' } := I.kept (t' := s.toks) hk
  refine ⟨s.heap.objs.size + 1, [s.heap.objs.size + 1, s.heap.objs.size], _, _, H, rfl, I2, turn_enum a (s.heap.objs.size + 1) s.heap.objs.size, ⟨⟨.none, he⟩, hit, Nat.succ_ne_self _⟩, fun b hb => ?_, q⟩
  have e' : b = s.heap.objs.size + 1 ∨ b = s.heap.objs.size := by simpa using hb
  have hle : s.heap.objs.size ≤ b := by
    rcases e' with z | z
    · rw [z]; exact Nat.le_add_right _ _
    · rw [z]; exact Nat.le_refl _
  exact I.fpOk hle (I.hok.fresh hle)
theorem enum_tup {pins : List (Addr × Obj)} {σ : L2.St} {H : Hp} {s : Shared} {a : Addr} {xs : List V} {Q : It → Hp → Prop} (I : Inv X pins σ H s) (hq : SqT X.K H a xs) (q : Q (IteT X.K a) H) :
    wpAny (model X.prog X.w) X.A (call (.type "enumerate") [.ref a]) (fun v s1 => wpAny (model X.prog X.w) X.A (pyIter v) (PIE X pins σ (.Tuple elts kk tpos) Q) X.xe s1) X.xe s := by
  obtain ⟨its, rv, p', hz⟩ := I.tuple hq
  refine t5_enum_call (begins_tuple a its.toArray) (show s.heap.IsTuple a its.toArray from p') fun h' he ho hsz hk => wpAny_pyIter_enum he ?_
  have I2 : Inv X pins σ H { s with heap := h' } := I.kept (t' := s.toks) hk
  refine ⟨s.heap.objs.size + 1, [s.heap.objs.size + 1, s.heap.objs.size], _, _, H, rfl, I2, turn_enumT a (s.heap.objs.size + 1) s.heap.objs.size, ⟨⟨.none, he⟩, ⟨_, ho, rfl, rfl⟩, Nat.succ_ne_self _⟩, fun b hb => ?_, q⟩
  have e' : b = s.heap.objs.size + 1 ∨ b = s.heap.objs.size := by simpa using hb
  have hle : s.heap.objs.size ≤ b := by
    rcases e' with z | z
    · rw [z]; exact Nat.le_add_right _ _
    · rw [z]; exact Nat.le_refl _
  exact I.fpOk hle (I.hok.fresh hle)
theorem si_enum (hg : Gl X "enumerate") (hm : X.mg "enumerate" = none) (he : SE X e m) (hs : starEach [e] X.env = (false, eval e X.env) :: starEach [] X.env := by rfl) : SI X (.Tuple elts kk tpos) (.Call (.Name "enumerate" p) [e] [] pos) (iEn m) := fun pn xe W tk => ⟨fun pins s σ H Q I h => by
  obtain ⟨μ, env, st, r, re, a⟩ := h
  have ha : PA (X.tr pn xe) [e] (tCons (tM X.K X.mg W m) tNil) := pa_cons (X := X.tr pn xe) (he pn xe W tk) pa_nil hs
  refine Call_ (ld_blt I hg hm boot_enumerate (PyProof.Rows.callWith_type1 (thn (ha.run pos pins s σ H (fun vs H1 => ∃ v, vs = [v] ∧ ∃ d μ1 st1, Rel X.K X.mg μ1 H1 st1 ∧ Rep X.K X.mg μ1 H1 d v ∧ Aft X.K X.mg W σ μ1 H1 (match d with
    | .tup l => .ok (l.zipIdx.map fun p => .tup [.int (p.2 : Nat), p.1]) st1
    | .lst l => .ok (l.zipIdx.map fun p => .tup [.int (p.2 : Nat), p.1]) st1
    | .scr l => .ok (l.zipIdx.map fun p => .tup [.int (p.2 : Nat), p.1]) st1
    | _ => .bad) (fun ds _ μ' H' => ∀ J, ItD X.K X.mg J μ' H' ds → Q J H')) I ⟨μ, env, st, r, re, (Aft.bind a).imp fun d st1 μ1 H1 x r1 a1 v hv => ⟨v, rfl, d, μ1, st1, r1, hv, a1⟩⟩) fun us s1 ⟨vs, H1, I1, rv, v, ev, d, μ1, st1, r1, hv, a1⟩ => ?_) (by rw [hs]) rfl))
  subst ev
  cases rv with
  | cons rv0 rv1 =>
    cases rv1
    cases d with
    | tup l =>
      obtain ⟨b, vs, e, hs, hl⟩ := seq_tup hv
      subst e
      cases rv0
      exact enum_tup I1 hs (a1 μ1 H1 Ext.refl r1 _ (itd_enT hv))
    | lst l =>
      obtain ⟨b, vs, e, hs, hl⟩ := seq_list hv
      subst e
      cases rv0
      exact enum_list I1 hs (a1 μ1 H1 Ext.refl r1 _ (itd_enL hv seq_list))
    | scr l =>
      obtain ⟨b, vs, e, hs, hl⟩ := seq_scr hv
      subst e
      cases rv0
      exact enum_list I1 hs (a1 μ1 H1 Ext.refl r1 _ (itd_enL hv seq_scr))
    | _ => exact a1.elim⟩
end
end T5
namespace T5
open PySem PySem.Spec PyProof.Rows L2
variable [TabC]
/-! ### methods of lists -/
abbrev MethF := Store → D → List D → Option (D × Store)
def MthD (K : PySem.W.Frag) (mg : Str → Option Value) (r : V → List V → Hp → VK → Prop) (f : MethF) : Prop :=
  ∀ (μ : Mu) (H : Hp) (st st' : Store) (d d' : D) (ds : List D) (x : V) (vs : List V) (Q : VK), Rel K mg μ H st → Rep K mg μ H d x → RepL K mg μ H ds vs → f st d ds = some (d', st') → (∀ μ' H' v, Ext μ H μ' H' → Rel K mg μ' H' st' → Rep K mg μ' H' d' v → Q v H') → r x vs H Q
/-- a method of a list -/
def eMthL (f : MethF) (mo : ME) (ma : MA) : ME := fun env st => (mo env st).bind fun d st1 => if (lstOf st1 d).isSome = true then (ma env st1).bind fun ds st2 => (match f st2 d ds with
  | some (d', st3) => .ok d' st3
  | none => .bad) else .bad
section
variable {X : Cx} {K : PySem.W.Frag} {mg : Str → Option Value} {o e : Expr} {es : List Expr} {mo : ME} {ma : MA} {pos p apos cpos : Pos} {name : Str} {id : String} {r : V → List V → Hp → VK → Prop} {f : MethF}
theorem se_mthL (slot : Slot "list" name id) (hty : typeOf (.builtin id) = pure (.type "method_descriptor")) (hm : ∀ pn xe, MtR (X.tr pn xe) id r) (hd : MthD X.K X.mg r f) (ho : SE X o mo) (ha : SA X (e :: es) ma)
    (hbase : attributeBase o name X.env (eval o X.env) = eval o X.env := by rfl)
    (hfew : ((backTo cpos (starEach (e :: es) X.env)).all (fun x => !x.1) && (backToKw cpos (keywordEach [] X.env)).all (fun x => x.1.isSome)
      && decide ((e :: es).length + ([] : List Keyword).length + (if ([] : List Keyword).isEmpty then 0 else 1) < 30)) = true := by rfl)
    (hline : (apos.endLine == cpos.line) = true := by rfl) (hs : starEach (e :: es) X.env = (false, eval e X.env) :: starEach es X.env := by rfl) (hplain : (backTo cpos (starEach es X.env)).any (·.1) = false := by rfl) :
    SE X (.Call (.Attribute o name apos) (e :: es) [] cpos) (eMthL f mo ma) := fun pn xe W tk => by
  refine PE.imp (pe_bm (X := X.tr pn xe) PySem.F.plainAttrs_list slot hty (hm pn xe) (ho pn xe W tk) (ha pn xe W tk) hbase hfew hline hs hplain) fun σ H Q h => ?_
  refine tM_seq h fun d v μ env st H1 r1 re hv a => ?_
  cases e1 : lstOf st d with
  | none => rw [e1] at a; exact a.elim
  | some l =>
    rw [e1] at a
    have a : Aft X.K X.mg W σ μ H1 ((ma env st).bind fun ds st2 => (match f st2 d ds with
      | some (d', st3) => R.ok d' st3
      | none => .bad)) (fun d _ μ' H' => ∀ v, Rep X.K X.mg μ' H' d v → Q v H') := a
    obtain ⟨b, vs, rfl, hb, hl⟩ := lst_at r1 hv e1
    refine ⟨.inl ⟨rfl, vs, .inl (.inl hb)⟩, μ, env, st, r1, re, (Aft.bind a).imp fun ds st2 μ2 H2 x2 r2 a2 ws hw => ?_⟩
    cases e2 : f st2 d ds with
    | none => rw [e2] at a2; exact a2.elim
    | some q =>
      obtain ⟨d', st3⟩ := q
      rw [e2] at a2
      exact hd μ2 H2 st2 st3 d d' ds _ ws Q r2 (hv.ext x2) hw e2 fun μ' H' v x' r' h' => a2 μ' H' x' r' v h'
def fApp : MethF := fun st d ds => match d, ds with
  | .obj n, [x] => (match st[n]? with
    | some (.lst l) => if l.length ≤ cap then some (.non, st.set n (.lst (l ++ [x]))) else none
    | _ => none)
  | _, _ => none
def fPop : MethF := fun st d ds => match d, ds with
  | .obj n, [.int i] => (match st[n]? with
    | some (.lst l) => if -(2 ^ 63) ≤ i ∧ i < 2 ^ 63 then (ixN l.length i).bind fun j => (l[j]?).map fun x => (x, st.set n (.lst (l.eraseIdx j))) else none
    | _ => none)
  | _, _ => none
theorem mthd_app : MthD K mg rAppend fApp := by
  intro μ H st st' d d' ds x vs Q r hx hv e q
  unfold fApp at e
  split at e
  · rename_i n y
    split at e
    · rename_i l ho
      split at e
      · rename_i c
        cases e
        obtain ⟨a, rfl, hn⟩ := hx
        obtain ⟨v, rfl, hy⟩ := repL1 hv
        obtain ⟨ws, hh, hl⟩ := r.ob n _ a ho hn
        have x := Ext.change (o := HO.lst (ws ++ [v])) r hn
        refine ⟨a, ws, v, rfl, rfl, hh, by rw [← hl.length]; exact cap_lt c, q μ _ _ x (r.change hn ⟨_, upd_same, ?_⟩) rfl⟩
        exact (hl.ext x).append ⟨v, [], rfl, hy.ext x, rfl⟩
      · cases e
    · cases e
  · cases e
theorem mthd_pop : MthD K mg rPopAt fPop := by
  intro μ H st st' d d' ds x vs Q r hx hv e q
  unfold fPop at e
  split at e
  · rename_i n i
    split at e
    · rename_i l ho
      split at e
      · rename_i c
        obtain ⟨j, e1, e2⟩ := Option.bind_eq_some_iff.mp e
        obtain ⟨y, e3, e4⟩ := Option.map_eq_some_iff.mp e2
        cases e4
        obtain ⟨a, rfl, hn⟩ := hx
        obtain ⟨v, rfl, hy⟩ := repL1 hv
        have hv' : v = .int i := hy
        subst hv'
        obtain ⟨ws, hh, hl⟩ := r.ob n _ a ho hn
        obtain ⟨w, e5, hw⟩ := hl.get e3
        have x := Ext.change (o := HO.lst (ws.eraseIdx j)) r hn
        rw [hl.length] at e1
        exact ⟨a, ws, i, j, w, rfl, rfl, hh, c.1, c.2, (ixN_seq e1).1, e5, q μ _ _ x (r.change hn ⟨_, upd_same, (hl.ext x).eraseIdx j⟩) (hw.ext x)⟩
      · cases e
    · cases e
  · cases e
theorem se_append (ho : SE X o mo) (ha : SA X (e :: es) ma)
    (hbase : attributeBase o "append" X.env (eval o X.env) = eval o X.env := by rfl)
    (hfew : ((backTo cpos (starEach (e :: es) X.env)).all (fun x => !x.1) && (backToKw cpos (keywordEach [] X.env)).all (fun x => x.1.isSome)
      && decide ((e :: es).length + ([] : List Keyword).length + (if ([] : List Keyword).isEmpty then 0 else 1) < 30)) = true := by rfl)
    (hline : (apos.endLine == cpos.line) = true := by rfl) (hs : starEach (e :: es) X.env = (false, eval e X.env) :: starEach es X.env := by rfl) (hplain : (backTo cpos (starEach es X.env)).any (·.1) = false := by rfl) :
    SE X (.Call (.Attribute o "append" apos) (e :: es) [] cpos) (eMthL fApp mo ma) := se_mthL PySem.F.slot_list_append PySem.F.type_list_append (fun _ _ => mt_append) mthd_app ho ha hbase hfew hline hs hplain
theorem se_pop (ho : SE X o mo) (ha : SA X (e :: es) ma)
    (hbase : attributeBase o "pop" X.env (eval o X.env) = eval o X.env := by rfl)
    (hfew : ((backTo cpos (starEach (e :: es) X.env)).all (fun x => !x.1) && (backToKw cpos (keywordEach [] X.env)).all (fun x => x.1.isSome)
      && decide ((e :: es).length + ([] : List Keyword).length + (if ([] : List Keyword).isEmpty then 0 else 1) < 30)) = true := by rfl)
    (hline : (apos.endLine == cpos.line) = true := by rfl) (hs : starEach (e :: es) X.env = (false, eval e X.env) :: starEach es X.env := by rfl) (hplain : (backTo cpos (starEach es X.env)).any (·.1) = false := by rfl) :
    SE X (.Call (.Attribute o "pop" apos) (e :: es) [] cpos) (eMthL fPop mo ma) := se_mthL PySem.F.slot_list_pop PySem.F.type_list_pop (fun _ _ => mt_popAt) mthd_pop ho ha hbase hfew hline hs hplain
end
/-! ### o[i] = v -/
def bSet (st : Store) (o i v : D) : Option Store := match o with
  | .obj n => (match st[n]? with
    | some (.lst l) => (match i with
      | .int k => (ixN l.length k).map fun j => st.set n (.lst (l.set j v))
      | _ => none)
    | some (.dic t ks vs) => if isKey t i = true ∧ ks.length ≤ cap then some (st.set n (.dic t (putD t i v ks vs).1 (putD t i v ks vs).2)) else none
    | _ => none)
  | _ => none
def sSet (mv mo mi : ME) : MS := fun env st => (mv env st).toS env fun v st1 => (mo env st1).toS env fun o st2 => (mi env st2).toS env fun i st3 => match bSet st3 o i v with
  | some st4 => .nx env st4
  | none => .bad
section
variable {X : Cx} {K : PySem.W.Frag} {mg : Str → Option Value} {μ : Mu} {H : Hp} {o i e : Expr} {mo mi mv : ME} {pos pos' : Pos}
theorem put_zip {κ : Type} [DecidableEq κ] {kD : κ → D} {t : Bool} (hs : ∀ a b : κ, sameKey t (kD a) (kD b) = decide (a = b)) (k : κ) {d : D} {v : V} (hd : Rep K mg μ H d v) {kk : List κ} {ds : List D} {vs : List V} (hl : kk.length = vs.length) (hr : RepL K mg μ H ds vs) :
    ∃ (kk' : List κ) (vs' : List V), (putD t (kD k) d (kk.map kD) ds).1 = kk'.map kD ∧ RepL K mg μ H (putD t (kD k) d (kk.map kD) ds).2 vs' ∧ kk'.length = vs'.length ∧ putK (kk.zip vs) k v = kk'.zip vs' := by
  have hany : hasD t (kD k) (kk.map kD) = ((kk.zip vs).any fun kv => decide (kv.1 = k)) := by
    clear hr
    induction kk generalizing vs with
    | nil => rfl
    | cons a kk ih =>
      cases vs with
      | nil => simp at hl
      | cons w vs =>
        show (sameKey t (kD a) (kD k) || hasD t (kD k) (kk.map kD)) = (decide (a = k) || ((kk.zip vs).any fun kv => decide (kv.1 = k)))
        rw [hs, ih (vs := vs) (by simpa using hl)]
  unfold putD putK
  rw [hany]
  by_cases c : ((kk.zip vs).any fun kv => decide (kv.1 = k)) = true
  · rw [if_pos c, if_pos c]
    refine ⟨kk, (kk.zip vs).map (fun kv => if kv.1 = k then v else kv.2), rfl, ?_, by simp [hl], ?_⟩
    · clear c hany
      induction kk generalizing vs ds with
      | nil =>
        cases vs with
        | nil =>
          have : ds = [] := by
            have := hr.length
            exact List.eq_nil_of_length_eq_zero (by simpa using this)
          subst this
          rfl
        | cons _ _ => simp at hl
      | cons a kk ih =>
        cases vs with
        | nil => simp at hl
        | cons w vs =>
          cases ds with
          | nil => have := hr.length; simp at this
          | cons d' ds =>
            obtain ⟨v', r', e, h1, h2⟩ := hr
            cases e
            refine ⟨_, _, rfl, ?_, ih (vs := vs) (ds := ds) (by simpa using hl) h2⟩
            rw [hs]
            by_cases c : a = k
            · simp only [c, decide_true, if_true]
              exact hd
            · simp only [c, decide_false, Bool.false_eq_true, if_false]
              exact h1
    · clear c hany hr
      induction kk generalizing vs with
      | nil => rfl
      | cons a kk ih =>
        cases vs with
        | nil => simp at hl
        | cons w vs =>
          have := ih (vs := vs) (by simpa using hl)
          show (if a = k then (a, v) else (a, w)) :: ((kk.zip vs).map fun kv => if kv.1 = k then (kv.1, v) else kv) = (a, if a = k then v else w) :: kk.zip ((kk.zip vs).map (fun kv => if kv.1 = k then v else kv.2))
          rw [this]
          by_cases c : a = k <;> simp [c]
  · rw [if_neg c, if_neg c]
    refine ⟨kk ++ [k], vs ++ [v], by simp, hr.append ⟨v, [], rfl, hd, rfl⟩, by simp [hl], ?_⟩
    rw [List.zip_append hl]
    rfl
theorem set_dict (hu : X.A.units + 1 < cLine) : PSet X (fun o i v H Q => ∃ a H', o = .ref a ∧ DPut H a i v H' ∧ Q H') := by
  intro pins s σ H o i v ov iv u Q I ro ri rv h
  obtain ⟨a, H', rfl, g, q⟩ := h
  cases ro
  exact d_setItem hu I g ri rv fun s' I' => ⟨H', I', q⟩
theorem PSet.or {t t' : TSet} (h : PSet X t) (h' : PSet X t') : PSet X (fun o i v H Q => t o i v H Q ∨ t' o i v H Q) := by
  intro pins s σ H o i v ov iv u Q I ro ri rv q
  rcases q with q | q
  · exact h pins s σ H o i v ov iv u Q I ro ri rv q
  · exact h' pins s σ H o i v ov iv u Q I ro ri rv q
theorem bSet_rep {st st4 : Store} {od id vd : D} {ov iv vv : V} {Q : Hp → Prop} (r : Rel K mg μ H st) (ho : Rep K mg μ H od ov) (hi : Rep K mg μ H id iv) (hv : Rep K mg μ H vd vv) (e : bSet st od id vd = some st4) (q : ∀ H', Ext μ H μ H' → Rel K mg μ H' st4 → Q H') :
    rSetL ov iv vv H Q ∨ (∃ a H', ov = .ref a ∧ DPut H a iv vv H' ∧ Q H') := by
  cases od with
  | obj n =>
    obtain ⟨a, rfl, hn⟩ := ho
    cases e0 : st[n]? with
    | none => simp [bSet, e0] at e
    | some ob =>
      cases ob with
      | lst l =>
        cases id with
        | int k =>
          simp only [bSet, e0] at e
          obtain ⟨j, e1, e2⟩ := Option.map_eq_some_iff.mp e
          subst e2
          obtain ⟨ws, hh, hl⟩ := r.ob n _ a e0 hn
          have x := Ext.change (o := HO.lst (ws.set j vv)) r hn
          refine .inl ⟨a, ws, k, j, rfl, hi, hh, by rw [← hl.length]; exact e1, q _ x (r.change hn ⟨_, upd_same, RepL.set (hv.ext x) j (hl.ext x)⟩)⟩
        | _ => simp [bSet, e0] at e
      | dic t ks vs =>
        have e : (if isKey t id = true ∧ ks.length ≤ cap then some (st.set n (.dic t (putD t id vd ks vs).1 (putD t id vd ks vs).2)) else none) = some st4 := by
          simpa only [bSet, e0] using e
        by_cases c : isKey t id = true ∧ ks.length ≤ cap
        · rw [if_pos c] at e
          cases e
          obtain ⟨ws, u, hl, dh, hh⟩ := r.ob n _ a e0 hn
          refine .inr ?_
          rcases dh with ⟨rfl, kk, e1, e2, rfl⟩ | ⟨rfl, kk, e1, e2, rfl⟩
          · obtain ⟨k', rfl⟩ := flat_key (show flatKey id = true by simpa [isKey] using c.1)
            subst e1
            obtain ⟨kk', vs', p1, p2, p3, p4⟩ := put_zip (kD := keyD) (t := false) (fun a b => by rw [same_false, keyD_same]) k' hv e2 hl
            have x := Ext.change (o := HO.dK (putK (kk.zip ws) k' vv)) r hn
            refine ⟨a, _, rfl, .inl ⟨_, k', hh, keyD_rep hi, ?_, rfl⟩, q _ x (r.change hn ⟨vs', _, p2.ext x, .inl ⟨rfl, kk', p1, p3, p4 ▸ rfl⟩, upd_same⟩)⟩
            have h2 := c.2
            rw [List.length_map] at h2
            rw [List.length_zip, ← e2, Nat.min_self]
            exact cap_lt h2
          · cases id with
            | tup lk =>
              obtain ⟨k', rfl⟩ := flat_keys (show lk.all flatKey = true by simpa [isKey] using c.1)
              subst e1
              obtain ⟨b, ks', rfl, nb, hb, hks⟩ := hi
              have ek := keysD_rep hks
              subst ek
              obtain ⟨kk', vs', p1, p2, p3, p4⟩ := put_zip (kD := keyTD) (t := true) (fun a b => by rw [keyTD, keyTD, same_true, keyL_same]) k' hv e2 hl
              have x := Ext.change (o := HO.dT (putK (kk.zip ws) k' vv)) r hn
              refine ⟨a, _, rfl, .inr ⟨_, k', b, hh, rfl, hb, ?_, rfl⟩, q _ x (r.change hn ⟨vs', _, p2.ext x, .inr ⟨rfl, kk', p1, p3, p4 ▸ rfl⟩, upd_same⟩)⟩
              have h2 := c.2
              rw [List.length_map] at h2
              rw [List.length_zip, ← e2, Nat.min_self]
              exact cap_lt h2
            | _ => simp [isKey] at c
        · rw [if_neg c] at e
          cases e
      | ins c ks vs => simp [bSet, e0] at e
  | _ => simp [bSet] at e
theorem ss_setix {k : Nat} (hr : Room k X.A) (he : SE X e mv) (ho : SE X o mo) (hi : SE X i mi) (hs : swapsWithSole [.Subscript o i pos'] e pos.line X.env = pure false := by rfl) (hw : swappedStores [.Subscript o i pos'] e X.env = pure none := by rfl)
    (h1 : (assignEach [.Subscript o i pos'] X.env).map (·.2) = [assign (.Subscript o i pos') X.env] := by rfl)
    (ha : ∀ v, assign (.Subscript o i pos') X.env v = (do
      let ov ← holding [v] (eval o X.env)
      let iv ← holding [v, ov] (eval i X.env)
      standAt pos'
      holding [v, ov, iv] (setItem ov iv v)
      release [v, ov, iv] []) := by intro _; rfl) : SS X (.Assign [.Subscript o i pos'] e pos) (sSet mv mo mi) := fun pn xe W tk _ => by
  refine PS.imp (ps_asg (X := X.tr pn xe) (he pn xe W tk) (pg_sub (X := X.tr pn xe) (ho pn xe W tk) (hi pn xe W tk) (PSet.or (X := X.tr pn xe) set_list (set_dict (X := X.tr pn xe) (hu_of hr))) ha) hs hw h1) fun E σ H h => ?_
  refine tM_of h fun vd vv μ1 env st H1 r1 re1 hv q1 => ?_
  refine ⟨μ1, env, st, r1, re1, (AftS.ofR re1 q1).imp fun od st2 μ2 H2 x2 r2 q2 ov hov => ?_⟩
  refine ⟨μ2, env, st2, r2, re1.ext x2, (AftS.ofR (re1.ext x2) q2).imp fun id st3 μ3 H3 x3 r3 q3 iv hiv => ?_⟩
  cases e4 : bSet st3 od id vd with
  | none => rw [e4] at q3; exact q3.elim
  | some st4 =>
    rw [e4] at q3
    have re3 := (re1.ext x2).ext x3
    exact bSet_rep r3 (hov.ext x3) hiv ((hv.ext x2).ext x3) e4 fun H' x' r' => q3 μ3 H' σ x' r' (re3.ext x')
end
/-! ### x op= e -/
def sAug (i : Nat) (g : BO) (m : ME) : MS := fun env st => match env[i]? with
  | some (some d) => (m env st).toS env fun d2 st1 => (match g st1 d d2 with
    | some d3 => .nx (env.set i (some d3)) st1
    | none => .bad)
  | _ => .bad
section
variable {X : Cx} {e : Expr} {m : ME} {pos pos' : Pos}
theorem ss_aug {i : Nat} {x : Str} {op : Operator} {r : V → V → Hp → VK → Prop} {g : BO} (hN : X.N.Nodup) (hi : X.N[i]? = some x) (hx : Loc X.env.scope x) (he : SE X e m) (ho : ∀ pn xe, PIp (X.tr pn xe) op r) (hd : OpD X.K X.mg r g) (hf : X.fn x = true ∨ X.env.scope.names.lookup x = some .local := by first | exact .inl rfl | exact .inr rfl | assumption) : SS X (.AugAssign (.Name x pos') op e pos) (sAug i g m) := fun pn xe W tk _ => by
  refine PS.imp (ps_aug (X := X.tr pn xe) (i := i) hN hi hx (he pn xe W tk) (ho pn xe) hf) fun E σ H h => ?_
  obtain ⟨μ, env, st, r1, re, q⟩ := h
  unfold sAug at q
  split at q
  · rename_i d hd1
    obtain ⟨v, h1, hv⟩ := re.at_ i d hd1
    refine ⟨v, h1, μ, env, st, r1, re, (AftS.ofR re q).imp fun d2 st1 μ1 H1 x1 r2 q2 w hw => ?_⟩
    cases e3 : g st1 d d2 with
    | none => rw [e3] at q2; exact q2.elim
    | some d3 =>
      rw [e3] at q2
      exact hd μ1 H1 st1 d d2 d3 v w _ r2 (hv.ext x1) hw e3 fun H' z x' r' h' => q2 μ1 H' _ x' r' (((re.ext x1).ext x').set h' i)
  · exact q.elim
def bAddI : BO := fun _ x y => match x, y with
  | .int i, .int j => some (.int (i + j))
  | _, _ => none
theorem ss_augadd {i : Nat} {x : Str} (hN : X.N.Nodup) (hi : X.N[i]? = some x) (hx : Loc X.env.scope x) (he : SE X e m) (hf : X.fn x = true ∨ X.env.scope.names.lookup x = some .local := by first | exact .inl rfl | exact .inr rfl | assumption) : SS X (.AugAssign (.Name x pos') .Add e pos) (sAug i bAddI m) := ss_aug hN hi hx he (r := rI0 fun i j => .int (i + j)) (fun _ _ => ip_add) (by
  intro μ H st x y d u w Q r hx hy e q
  unfold bAddI at e
  split at e
  · cases e
    cases hx
    cases hy
    exact ⟨_, _, rfl, rfl, q H _ Ext.refl r rfl⟩
  · cases e) hf
theorem ss_augsub {i : Nat} {x : Str} (hN : X.N.Nodup) (hi : X.N[i]? = some x) (hx : Loc X.env.scope x) (he : SE X e m) (hf : X.fn x = true ∨ X.env.scope.names.lookup x = some .local := by first | exact .inl rfl | exact .inr rfl | assumption) : SS X (.AugAssign (.Name x pos') .Sub e pos) (sAug i bSub m) := ss_aug hN hi hx he (r := rI0 fun i j => .int (i - j)) (fun _ _ => ip_sub) opd_sub hf
end
end T5
namespace T5
open PySem PySem.Spec PyProof.Rows L2
variable [TabC]
/-! ### [e for x in xs if t] -/
def wipeD (env : DEnv) : List Nat → DEnv
  | [] => env
  | v :: vs => (wipeD env vs).set v none
def lcLoop (g : MG0) (ct : MT) (me : ME) (env : DEnv) : List D → List D → Store → R (List D)
  | [], acc, st => .ok acc st
  | d :: ds, acc, st => match g d env with
    | some env1 => (ct env1 st).bind fun b st1 => if b = true then (me env1 st1).bind fun y st2 => (if acc.length ≤ cap then lcLoop g ct me env ds (acc ++ [y]) st2 else .bad) else lcLoop g ct me env ds acc st1
    | none => .bad
def noEx {α : Type} (r : R α) : R α := match r with
  | .ok a st => .ok a st
  | _ => .bad
@[simp] theorem noEx_ok {α : Type} {a : α} {st : Store} : noEx (R.ok a st) = .ok a st := rfl
def eLc (mi : MI) (g : MG0) (ct : MT) (me : ME) (own : List Nat) : ME := fun env st => (mi env st).bind fun ds st1 => (noEx (lcLoop g ct me (wipeD env own) ds [] st1)).bind fun ys st2 => .ok (.lst ys) st2
/-- a list that changes later -/
def eLcM (mi : MI) (g : MG0) (ct : MT) (me : ME) (own : List Nat) : ME := fun env st => (mi env st).bind fun ds st1 => (noEx (lcLoop g ct me (wipeD env own) ds [] st1)).bind fun ys st2 => .ok (.obj st2.length) (st2 ++ [.lst ys])
def cYes : MT := fun _ st => .ok true st
def STs (X : Cx) (es : List Expr) (m : MT) : Prop := ∀ pn xe W, Takes (X.tr pn xe) W → PTs (X.tr pn xe) es (tMT X.K X.mg W m)
theorem PTs.imp {X : Cx} {es : List Expr} {t t' : TT} (h : PTs X es t) (f : ∀ σ H Q, t' σ H Q → t σ H Q) : PTs X es t' := ⟨fun pins s σ H Q I q => h.run pins s σ H Q I (f σ H Q q)⟩
section
variable {K : PySem.W.Frag} {mg : Str → Option Value} {μ : Mu} {H H' : Hp} {st : Store} {p : Addr}
/-- what data needs to stay -/
structure Keeps (μ : Mu) (H : Hp) (μ' : Mu) (H' : Hp) : Prop where
  idx : ∀ n a, μ.get n = some a → μ'.get n = some a
  keep : ∀ a o, a ∉ μ → H a = some o → a ∉ μ' ∧ H' a = some o
mutual
theorem Rep.keeps {μ' : Mu} (x : Keeps μ H μ' H') : ∀ {d : D} {v : V}, Rep K mg μ H d v → Rep K mg μ' H' d v
  | .non, _, h => h
  | .bl _, _, h => h
  | .int _, _, h => h
  | .str _, _, h => h
  | .ty _, _, h => h
  | .tup l, v, h => by
    simp only [Rep] at h ⊢
    obtain ⟨a, vs, e, n, r, q⟩ := h
    obtain ⟨n', r'⟩ := x.keep _ _ n r
    exact ⟨a, vs, e, n', r', RepL.keeps x q⟩
  | .lst l, v, h => by
    simp only [Rep] at h ⊢
    obtain ⟨a, vs, e, n, r, q⟩ := h
    obtain ⟨n', r'⟩ := x.keep _ _ n r
    exact ⟨a, vs, e, n', r', RepL.keeps x q⟩
  | .scr l, v, h => by
    simp only [Rep] at h ⊢
    obtain ⟨a, vs, e, n, q⟩ := h
    refine ⟨a, vs, e, ?_, RepL.keeps x q⟩
    rcases n with ⟨n, o, r⟩ | n
    · obtain ⟨n', r'⟩ := x.keep _ _ n r
      exact .inl ⟨n', o, r'⟩
    · exact .inr n
  | .obj n, v, h => by
    simp only [Rep] at h ⊢
    obtain ⟨a, e, q⟩ := h
    exact ⟨a, e, x.idx n a q⟩
  | .dic t ks ds, v, h => by
    simp only [Rep] at h ⊢
    obtain ⟨a, vs, u, e, n, q, hh, r⟩ := h
    have r' : a ∉ μ' ∧ Rd H' a u := by
      rcases r with r | ⟨ob, r⟩
      · exact ⟨(x.keep _ _ n r).1, .inl (x.keep _ _ n r).2⟩
      · exact ⟨(x.keep _ _ n r).1, .inr ⟨ob, (x.keep _ _ n r).2⟩⟩
    exact ⟨a, vs, u, e, r'.1, RepL.keeps x q, hh, r'.2⟩
  | .ins c ks ds, v, h => by
    simp only [Rep] at h ⊢
    obtain ⟨a, C, dx, vs, e, n, g, l, r, q⟩ := h
    obtain ⟨n', r'⟩ := x.keep _ _ n r
    exact ⟨a, C, dx, vs, e, n', g, l, r', RepL.keeps x q⟩
  | .exc c ks ds, v, h => by
    simp only [Rep] at h ⊢
    obtain ⟨a, C, dx, us, e, n, g, l, r, nd, rd, q⟩ := h
    obtain ⟨n', r'⟩ := x.keep _ _ n r
    obtain ⟨nd', rd'⟩ := x.keep _ _ nd rd
    exact ⟨a, C, dx, us, e, n', g, l, r', nd', rd', RepL.keeps x q⟩
  | .cls _, _, h => h
  | .fn a c q ds us, v, h => by
    simp only [Rep] at h ⊢
    obtain ⟨e, n, r, y⟩ := h
    obtain ⟨n', r'⟩ := x.keep _ _ n r
    exact ⟨e, n', r', RepL.keeps x y⟩
theorem RepL.keeps {μ' : Mu} (x : Keeps μ H μ' H') : ∀ {ds : List D} {vs : List V}, RepL K mg μ H ds vs → RepL K mg μ' H' ds vs
  | [], _, h => h
  | d :: ds, vs, h => by
    simp only [RepL] at h ⊢
    obtain ⟨v, r, e, h1, h2⟩ := h
    exact ⟨v, r, e, Rep.keeps x h1, RepL.keeps x h2⟩
end
theorem ObR.keeps {μ' : Mu} {a : Addr} (x : Keeps μ H μ' H') (e : H' a = H a) : ∀ {o : Ob}, ObR K mg μ H a o → ObR K mg μ' H' a o
  | .lst l, ⟨vs, h, q⟩ => ⟨vs, e.trans h, q.keeps x⟩
  | .dic t ks ds, ⟨vs, u, q, d, h⟩ => ⟨vs, u, q.keeps x, d, e.trans h⟩
  | .ins c ks ds, ⟨C, dx, vs, g, l, h, q⟩ => ⟨C, dx, vs, g, l, e.trans h, q.keeps x⟩
theorem REnv.keeps {μ' : Mu} {env : DEnv} {σ : L2.St} (x : Keeps μ H μ' H') (r : REnv K mg μ H env σ) : REnv K mg μ' H' env σ :=
  ⟨r.len, fun i d e => let ⟨v, h1, h2⟩ := r.at_ i d e; ⟨v, h1, h2.keeps x⟩⟩
/-- a held thing changes -/
theorem Keeps.change {a : Addr} {o : HO} (h : a ∈ μ.r) : Keeps μ H μ (upd H a o) := ⟨fun _ _ q => q, fun b u n e => ⟨n, by
  have ne : b ≠ a := by
    intro z
    subst z
    exact n (.inr (.inl h))
  rw [upd_ne ne]
  exact e⟩⟩
theorem Rel.changeR (r : Rel K mg μ H st) {a : Addr} {ws ws' : List V} (h : a ∈ μ.r) (hw : H a = some (.lst ws)) : Rel K mg μ (upd H a (.lst ws')) st := by
  refine ⟨r.len, r.nd, fun n ob b h1 h2 => ?_, r.apart, fun b hb => ?_, tabs_upd r.tab ⟨_, hw, fun _ z => HO.noConfusion z, fun _ z => HO.noConfusion z⟩, r.tc, fun b hb => ⟨(r.rt b hb).1, fun φ z => ?_⟩⟩
  · have ne : b ≠ a := by
      intro z
      subst z
      exact r.apart _ (List.mem_of_getElem? h2) h
    exact (r.ob n ob b h1 h2).keeps (Keeps.change h) (upd_ne ne)
  · by_cases z : b = a
    · exact ⟨_, by rw [z, upd_same]⟩
    · rw [upd_ne z]
      exact r.held b hb
  · by_cases w : b = a
    · rw [w, upd_same] at z
      cases z
    · rw [upd_ne w] at z
      exact (r.rt b hb).2 φ z
theorem Keeps.hold (h : H p = none) (s : Same H H') : Keeps μ H (μ.hold p) H' := ⟨fun _ _ q => q, fun a o n e => ⟨fun q => by
    rcases q with q | q | q
    · exact n (.inl q)
    · rcases List.mem_cons.mp q with z | z
      · rw [z, h] at e
        cases e
      · exact n (.inr (.inl z))
    · exact n (.inr (.inr q)), s a o e⟩⟩
/-- what was held is let go -/
def Mu.let (μ : Mu) (p : Addr) : Mu := ⟨μ.l, μ.r.filter fun a => decide (a ≠ p), μ.t⟩
theorem let_mem {a : Addr} (h : a ∈ μ.let p) : a ∈ μ := h.imp id fun z => z.imp (fun z => (List.mem_filter.mp z).1) id
theorem Keeps.letgo : Keeps μ H (μ.let p) H := ⟨fun _ _ q => q, fun a o n e => ⟨fun q => n (let_mem q), e⟩⟩
theorem Rel.letgo (r : Rel K mg μ H st) : Rel K mg (μ.let p) H st := ⟨r.len, r.nd, fun n ob a h1 h2 => (r.ob n ob a h1 h2).keeps Keeps.letgo rfl, fun a ha hb => r.apart a ha (List.mem_filter.mp hb).1, fun a ha => r.held a (List.mem_filter.mp ha).1, r.tab, r.tc, fun a ha => r.rt a (List.mem_filter.mp ha).1⟩
theorem let_nin (r : Rel K mg μ H st) (h : p ∈ μ.r) (hT : ∀ q, (p, q) ∉ μ.t) : p ∉ μ.let p := fun q => by
  rcases q with q | q | ⟨t, q⟩
  · exact r.apart p q h
  · have := (List.mem_filter.mp q).2
    simp at this
  · exact hT t q
theorem Ext.letgo {μ1 : Mu} {H1 : Hp} (x : Ext μ1 H1 μ H) (r1 : Rel K mg μ1 H1 st) (h : H1 p = none) : Ext μ1 H1 (μ.let p) H := ⟨x.more, fun a ha => List.mem_filter.mpr ⟨x.res a ha, decide_eq_true fun z => by
  subst z
  exact r1.nin h (.inr (.inl ha))⟩, fun a o n e => ⟨fun q => (x.keep a o n e).1 (let_mem q), (x.keep a o n e).2⟩, x.held, x.tabs⟩
theorem Ext.hold {μ1 : Mu} {H1 : Hp} (r1 : Rel K mg μ1 H1 st) (s : Same H1 H) (h : H1 p = none) : Ext μ1 H1 (μ1.hold p) H := ⟨⟨[], by simp [Mu.hold]⟩, fun a ha => List.mem_cons_of_mem _ ha, (Keeps.hold h s).keep, fun a ha => by
  obtain ⟨o, e⟩ := r1.held a ha
  rw [e]
  exact s a o e, rfl⟩
/-- a held thing changes, seen from before it was laid -/
theorem Ext.changeR {μ1 : Mu} {H1 : Hp} {o : HO} (x : Ext μ1 H1 μ H) (r1 : Rel K mg μ1 H1 st) (h : H1 p = none) : Ext μ1 H1 μ (upd H p o) := ⟨x.more, x.res, fun a o' n e => ⟨(x.keep a o' n e).1, by
  rw [upd_ne (ne_of_none e h)]
  exact (x.keep a o' n e).2⟩, fun a ha => by
  obtain ⟨o', e⟩ := r1.held a ha
  rw [upd_ne (ne_of_none e h)]
  exact x.held a ha, x.tabs⟩
theorem REnv.wipe {env : DEnv} {σ : L2.St} (r : REnv K mg μ H env σ) : ∀ vs : List Nat, REnv K mg μ H (wipeD env vs) (L2.wipe σ vs)
  | [] => r
  | v :: vs => REnv.none (REnv.wipe r vs) v Option.none
theorem wipe_len (σ : L2.St) : ∀ vs : List Nat, (L2.wipe σ vs).length = σ.length
  | [] => rfl
  | v :: vs => by
    show ((L2.wipe σ vs).set v none).length = _
    rw [List.length_set, wipe_len σ vs]
theorem wipe_get (σ : L2.St) (j : Nat) : ∀ vs : List Nat, (L2.wipe σ vs)[j]? = if j ∈ vs then (if j < σ.length then some none else none) else σ[j]?
  | [] => by simp [L2.wipe]
  | v :: vs => by
    show ((L2.wipe σ vs).set v none)[j]? = _
    rw [List.getElem?_set, wipe_len, wipe_get σ j vs]
    by_cases e : v = j
    · subst e
      by_cases hl : v < σ.length <;> simp [hl]
    · have e' : ¬ j = v := fun z => e z.symm
      simp [e, e']
theorem wipe_off {sl vs : List Nat} {σ σ' : L2.St} (h : Off sl (L2.wipe σ vs) σ') (hs : ∀ i ∈ sl, i ∈ vs) : L2.wipe σ' vs = L2.wipe σ vs := by
  apply List.ext_getElem?
  intro j
  rw [wipe_get, wipe_get]
  have hl : σ'.length = σ.length := h.1.trans (wipe_len σ vs)
  rw [hl]
  by_cases c : j ∈ vs
  · simp [c]
  · simp only [c, if_false]
    have := h.2 j (fun z => c (hs j z))
    rw [this, wipe_get]
    simp [c]
/-- a new thing is held back -/
theorem Rel.hold (r : Rel K mg μ H st) (s : Same H H') (h : H p = none) {ws : List V} (e : H' p = some (.lst ws)) : Rel K mg (μ.hold p) H' st := by
  have x : ∀ a o, a ∉ μ → H a = some o → a ∉ μ.hold p ∧ H' a = some o := fun a o n e => ⟨fun q => by
    rcases q with q | q | q
    · exact n (.inl q)
    · rcases List.mem_cons.mp q with z | z
      · rw [z, h] at e
        cases e
      · exact n (.inr (.inl z))
    · exact n (.inr (.inr q)), s a o e⟩
  refine ⟨r.len, r.nd, fun n ob a h1 h2 => ?_, fun a ha hb => ?_, fun a ha => ?_, r.tab.ext s, r.tc, fun a ha => ?_⟩
  · have h2' : μ.get n = some a := h2
    obtain ⟨o', e'⟩ := r.there (Mu.mem_get h2')
    exact (r.ob n ob a h1 h2').keeps (show Keeps μ H (μ.hold p) H' from ⟨fun _ _ q => q, x⟩) ((s a o' e').trans e'.symm)
  · rcases List.mem_cons.mp hb with z | z
    · rw [z] at ha
      exact r.nin h (.inl ha)
    · exact r.apart a ha z
  · rcases List.mem_cons.mp ha with z | z
    · exact ⟨_, z ▸ e⟩
    · obtain ⟨o', e'⟩ := r.held a z
      exact ⟨o', s a o' e'⟩
  · rcases List.mem_cons.mp ha with z | z
    · rw [z]
      exact ⟨fun w => r.nin h (.inr (.inr w)), fun φ w => by rw [e] at w; cases w⟩
    · exact r.rtS s a z
end
section
variable {X : Cx} {elt tg iter : Expr} {ifs : List Expr} {scope : Scope} {own : List (Str × Nat)} {sl : List Nat} {pos : Pos} {mi : MI} {g : MG0} {ct : MT} {me : ME}
theorem lc_turns {K : PySem.W.Frag} {mg : Str → Option Value} {W : WX} {σ : L2.St} {vs : List Nat} {env : DEnv} {μ1 : Mu} {H1 : Hp} {st1 : Store} {ds : List D} {J : It} {Dd : Addr} {Q : VK} {β : Type} {kk : List D → Store → R β} {k : β → Store → Mu → Hp → Prop} (hsl : ∀ i ∈ sl, i ∈ vs)
    (r1 : Rel K mg μ1 H1 st1) (re : REnv K mg μ1 H1 env σ) (hJ : ItD K mg J μ1 H1 ds) (hD : H1 Dd = none) (a : Aft K mg W σ μ1 H1 ((noEx (lcLoop g ct me (wipeD env vs) ds [] st1)).bind kk) k)
    (fin : ∀ μ2 H2 st2 acc ws, Ext μ1 H1 μ2 H2 → Dd ∈ μ2.r → Rel K mg μ2 H2 st2 → H2 Dd = some (.lst ws) → RepL K mg μ2 H2 acc ws → Aft K mg W σ μ1 H1 (kk acc st2) k → Q (.ref Dd) H2) :
    ∃ W' : Nat → Nat → Hp → Prop, (∃ m, W' 0 m (upd H1 Dd (.lst []))) ∧ ∀ i m H, W' i m H →
      (J.stop i H ∧ Q (.ref Dd) H) ∨ (J.go i H ∧ ∃ Nx : Hp → Prop, (∀ H', Nx H' → ∃ m', m' < m ∧ W' (i + 1) m' H') ∧ ∀ x H', J.yld i H x H' → gM K mg g sl x (L2.wipe σ vs) H' fun σ2 H2 => L2.wipe σ2 vs = L2.wipe σ vs ∧ tMT K mg (fun _ _ _ _ => False) ct σ2 H2 fun b H3 =>
        if b = true then tM K mg (fun _ _ _ _ => False) me σ2 H3 fun y H4 => ∃ acc, H4 Dd = some (.lst acc) ∧ acc.length < sizeLine ∧ Nx (upd H4 Dd (.lst (acc ++ [y]))) else Nx H3) := by
  refine ⟨fun i n H => n = ds.length - i ∧ i ≤ ds.length ∧ ∃ μ2 st2 acc ws, Ext μ1 H1 μ2 H ∧ Dd ∈ μ2.r ∧ Rel K mg μ2 H st2 ∧ REnv K mg μ2 H (wipeD env vs) (L2.wipe σ vs) ∧ H Dd = some (.lst ws) ∧ RepL K mg μ2 H acc ws ∧ Aft K mg W σ μ1 H1 ((noEx (lcLoop g ct me (wipeD env vs) (ds.drop i) acc st2)).bind kk) k, ?_, ?_⟩
  · have s := same_upd (o := HO.lst []) hD
    exact ⟨_, rfl, Nat.zero_le _, μ1.hold Dd, st1, [], [], Ext.hold r1 s hD, List.mem_cons_self, r1.hold s hD upd_same, (re.wipe vs).keeps (Keeps.hold hD s), upd_same, rfl, a⟩
  · rintro i n H ⟨rfl, hi, μ2, st2, acc, ws, x2, hd2, r2, re2, e2, hl2, a2⟩
    obtain ⟨go, stop⟩ := hJ i μ2 H st2 x2 r2
    by_cases hlt : i < ds.length
    · obtain ⟨g1, g2⟩ := go ds[i] (List.getElem?_eq_getElem hlt)
      rw [List.drop_eq_getElem_cons hlt] at a2
      refine .inr ⟨g1, fun H' => (ds.length - (i + 1) = ds.length - (i + 1) ∧ i + 1 ≤ ds.length ∧ ∃ μ2 st2 acc ws, Ext μ1 H1 μ2 H' ∧ Dd ∈ μ2.r ∧ Rel K mg μ2 H' st2 ∧ REnv K mg μ2 H' (wipeD env vs) (L2.wipe σ vs) ∧ H' Dd = some (.lst ws) ∧ RepL K mg μ2 H' acc ws ∧ Aft K mg W σ μ1 H1 ((noEx (lcLoop g ct me (wipeD env vs) (ds.drop (i + 1)) acc st2)).bind kk) k),
        fun H' hN => ⟨ds.length - (i + 1), by omega, hN⟩, fun v H' hy => ?_⟩
      obtain ⟨sm, hv⟩ := g2 v H' hy
      have x3 : Ext μ2 H μ2 H' := Ext.same r2 sm
      have r3 := r2.same sm
      unfold lcLoop at a2
      cases eg : g ds[i] (wipeD env vs) with
      | none => rw [eg] at a2; exact a2.elim
      | some env3 =>
        rw [eg] at a2
        refine ⟨μ2, wipeD env vs, ds[i], env3, re2.ext x3, hv, eg, fun σ3 re3 off => ⟨wipe_off off hsl, ?_⟩⟩
        have a3 : Aft K mg W σ μ1 H1 ((noEx ((ct env3 st2).bind fun b st1 => if b = true then (me env3 st1).bind fun y st2 => (if acc.length ≤ cap then lcLoop g ct me (wipeD env vs) (ds.drop (i + 1)) (acc ++ [y]) st2 else .bad) else lcLoop g ct me (wipeD env vs) (ds.drop (i + 1)) acc st1)).bind kk) k := a2
        refine ⟨μ2, env3, st2, r3, re3, ?_⟩
        cases ec : ct env3 st2 with
        | bad => rw [ec] at a3; exact a3.elim
        | ex c ks us s => rw [ec] at a3; exact a3.elim
        | ok b st3 =>
          rw [ec] at a3
          intro μ4 H4 x4 r4
          have x14 : Ext μ1 H1 μ4 H4 := (x2.trans x3).trans x4
          have d4 : Dd ∈ μ4.r := x4.res _ hd2
          have e4 : H4 Dd = some (.lst ws) := (x4.held _ hd2).trans (sm _ _ e2)
          have re4 := (re2.ext x3).ext x4
          have hl4 := (hl2.ext x3).ext x4
          cases b with
          | false =>
            exact ⟨rfl, hlt, μ4, st3, acc, ws, x14, d4, r4, re4, e4, hl4, a3⟩
          | true =>
            have a4 : Aft K mg W σ μ1 H1 ((noEx ((me env3 st3).bind fun y st2 => (if acc.length ≤ cap then lcLoop g ct me (wipeD env vs) (ds.drop (i + 1)) (acc ++ [y]) st2 else .bad))).bind kk) k := a3
            refine ⟨μ4, env3, st3, r4, re3.ext x4, ?_⟩
            cases em : me env3 st3 with
            | bad => rw [em] at a4; exact a4.elim
            | ex c ks us s => rw [em] at a4; exact a4.elim
            | ok y st5 =>
              rw [em] at a4
              intro μ5 H5 x5 r5 u hu
              have a5 : Aft K mg W σ μ1 H1 ((noEx (if acc.length ≤ cap then lcLoop g ct me (wipeD env vs) (ds.drop (i + 1)) (acc ++ [y]) st5 else .bad)).bind kk) k := a4
              by_cases c : acc.length ≤ cap
              · rw [if_pos c] at a5
                have d5 : Dd ∈ μ5.r := x5.res _ d4
                have e5 : H5 Dd = some (.lst ws) := (x5.held _ d4).trans e4
                have kc : Keeps μ5 H5 μ5 (upd H5 Dd (.lst (ws ++ [u]))) := Keeps.change d5
                refine ⟨ws, e5, by rw [← hl2.length]; exact cap_lt c, rfl, hlt, μ5, st5, acc ++ [y], ws ++ [u], Ext.changeR (x14.trans x5) r1 hD, d5, r5.changeR d5 e5, (re4.ext x5).keeps kc, upd_same, ?_, a5⟩
                exact ((hl4.ext x5).keeps kc).append ⟨u, [], rfl, hu.keeps kc, rfl⟩
              · rw [if_neg c] at a5
                exact a5.elim
    · have e : i = ds.length := by omega
      subst e
      rw [List.drop_length] at a2
      exact .inl ⟨stop (Nat.le_refl _), fin μ2 H st2 acc ws x2 hd2 r2 e2 hl2 a2⟩
/-- a held list becomes one of the store -/
theorem mem_adopt {μ : Mu} {p a : Addr} (h : a ∈ (μ.let p).push p) (hp : p ∈ μ.r) : a ∈ μ := by
  rcases h with h | h | h
  · rcases List.mem_append.mp (show a ∈ μ.l ++ [p] from h) with z | z
    · exact .inl z
    · have : a = p := by simpa using z
      subst this
      exact .inr (.inl hp)
  · exact .inr (.inl (List.mem_filter.mp h).1)
  · exact .inr (.inr h)
section
variable {K : PySem.W.Frag} {mg : Str → Option Value} {μ : Mu} {H : Hp} {st : Store} {p : Addr}
theorem Keeps.adopt (hp : p ∈ μ.r) : Keeps μ H ((μ.let p).push p) H := ⟨fun n a q => by
  show (μ.l ++ [p])[n]? = some a
  rw [List.getElem?_append_left (List.getElem?_eq_some_iff.mp q).1]
  exact q, fun a o n e => ⟨fun q => n (mem_adopt q hp), e⟩⟩
theorem Rel.adopt (r : Rel K mg μ H st) (hp : p ∈ μ.r) {acc : List D} {ws : List V} (e : H p = some (.lst ws)) (hl : RepL K mg μ H acc ws) : Rel K mg ((μ.let p).push p) H (st ++ [.lst acc]) := by
  have hn : p ∉ μ.l := fun z => r.apart p z hp
  refine ⟨by show (μ.l ++ [p]).length = _; simp [r.len], ?_, fun n ob a h1 h2 => ?_, fun a ha hb => ?_, fun a ha => r.held a (List.mem_filter.mp ha).1, r.tab, r.tc, fun a ha => r.rt a (List.mem_filter.mp ha).1⟩
  · show (μ.l ++ [p]).Nodup
    rw [List.nodup_append]
    refine ⟨r.nd, by simp, fun a ha b hb => ?_⟩
    have : b = p := by simpa using hb
    subst this
    intro z
    subst z
    exact hn ha
  · have h2' : (μ.l ++ [p])[n]? = some a := h2
    by_cases hl' : n < st.length
    · rw [List.getElem?_append_left hl'] at h1
      rw [List.getElem?_append_left (by rw [r.len]; exact hl')] at h2'
      exact (r.ob n ob a h1 h2').keeps (Keeps.adopt hp) rfl
    · have hlt := (List.getElem?_eq_some_iff.mp h1).1
      have en : n = st.length := by simp at hlt; omega
      subst en
      rw [List.getElem?_append_right (Nat.le_refl _)] at h1
      rw [List.getElem?_append_right (by rw [r.len]; exact Nat.le_refl _), r.len] at h2'
      simp at h1 h2'
      subst h1 h2'
      exact ⟨ws, e, hl.keeps (Keeps.adopt hp)⟩
  · have hb' := List.mem_filter.mp hb
    rcases List.mem_append.mp (show a ∈ μ.l ++ [p] from ha) with z | z
    · exact r.apart a z hb'.1
    · have : a = p := by simpa using z
      subst this
      simp at hb'
theorem Ext.adopt {μ1 : Mu} {H1 : Hp} {st1 : Store} (x : Ext μ1 H1 μ H) (r1 : Rel K mg μ1 H1 st1) (h : H1 p = none) (hp : p ∈ μ.r) : Ext μ1 H1 ((μ.let p).push p) H := by
  obtain ⟨m, em⟩ := x.more
  refine ⟨⟨m ++ [p], by show μ.l ++ [p] = _; rw [em, List.append_assoc]⟩, fun a ha => List.mem_filter.mpr ⟨x.res a ha, decide_eq_true fun z => ?_⟩, fun a o n e => ⟨fun q => (x.keep a o n e).1 (mem_adopt q hp), (x.keep a o n e).2⟩, x.held, x.tabs⟩
  subst z
  exact r1.nin h (.inr (.inl ha))
end
abbrev Wno : WX := fun _ _ _ _ => False
theorem lc_of {K : PySem.W.Frag} {mg : Str → Option Value} {W : WX} {σ : L2.St} {H : Hp} {vs : List Nat} {Q : VK} (hsl : ∀ i ∈ sl, i ∈ vs) (h : tM K mg W (eLc mi g ct me vs) σ H Q) : tLc (iM K mg W mi) (gM K mg g sl) (tMT K mg Wno ct) (tM K mg Wno me) vs σ H Q := by
  obtain ⟨μ, env, st, r, re, a⟩ := h
  refine ⟨μ, env, st, r, re, (Aft.bind a).imp fun ds st1 μ1 H1 x1 r1 a1 J hJ Dd hD => ?_⟩
  refine lc_turns hsl r1 (re.ext x1) hJ hD a1 fun μ2 H2 st2 acc ws x2 d2 r2 e2 hl2 a2 => ?_
  exact a2 (μ2.let Dd) H2 (x2.letgo r1 hD) r2.letgo _ ⟨Dd, ws, rfl, let_nin r2 d2 (fun q hq => by obtain ⟨ps, z, _⟩ := r2.tab _ hq; rw [show H2 (Dd, q).1 = H2 Dd from rfl, e2] at z; cases z), e2, hl2.keeps Keeps.letgo⟩
theorem lcM_of {K : PySem.W.Frag} {mg : Str → Option Value} {W : WX} {σ : L2.St} {H : Hp} {vs : List Nat} {Q : VK} (hsl : ∀ i ∈ sl, i ∈ vs) (h : tM K mg W (eLcM mi g ct me vs) σ H Q) : tLc (iM K mg W mi) (gM K mg g sl) (tMT K mg Wno ct) (tM K mg Wno me) vs σ H Q := by
  obtain ⟨μ, env, st, r, re, a⟩ := h
  refine ⟨μ, env, st, r, re, (Aft.bind a).imp fun ds st1 μ1 H1 x1 r1 a1 J hJ Dd hD => ?_⟩
  refine lc_turns hsl r1 (re.ext x1) hJ hD a1 fun μ2 H2 st2 acc ws x2 d2 r2 e2 hl2 a2 => ?_
  refine a2 ((μ2.let Dd).push Dd) H2 (x2.adopt r1 hD d2) (r2.adopt d2 e2 hl2) _ ⟨Dd, rfl, ?_⟩
  show (μ2.l ++ [Dd])[st2.length]? = some Dd
  rw [List.getElem?_append_right (by rw [r2.len]; exact Nat.le_refl _), r2.len]
  simp
section
variable {i : Nat} {y : Str} {py spos : Pos}
variable (hc : X.calm = true) (hN : X.N.Nodup) (hi : SI X tg iter mi) (ok : BlkOk X.N X.env.scope scope own) (hsl : ∀ i ∈ sl, i ∈ own.map (·.2))
    (hg : ∀ (s : Shared) (H : Hp) (C : Addr) (cl : List (Str × Addr)) (fp : List Addr), SG (X.blk s H scope (compEnvC scope cl C X.env) fp) tg g sl) (ht : ∀ (s : Shared) (H : Hp) (C : Addr) (cl : List (Str × Addr)) (fp : List Addr), STs (X.blk s H scope (compEnvC scope cl C X.env) fp) ifs ct)
    (he : ∀ (s : Shared) (H : Hp) (C : Addr) (cl : List (Str × Addr)) (fp : List Addr), SE (X.blk s H scope (compEnvC scope cl C X.env) fp) elt me)
include hc hN hi ok hsl hg ht he
theorem lc_pe (hs : ∀ x, foldedSetIterable iter X.env x = pure x) (pn : List (Addr × Obj)) (xe : Value → Shared → Prop) (W : WX) (tk : Takes (X.tr pn xe) W) : PE (X.tr pn xe) (.ListComp elt [⟨tg, iter, ifs, 0⟩] scope pos) (tLc (iM X.K X.mg W mi) (gM X.K X.mg g sl) (tMT X.K X.mg Wno ct) (tM X.K X.mg Wno me) (own.map (·.2))) :=
  pe_lc (X := X.tr pn xe) (g := gM X.K X.mg g sl) (tt := tMT X.K X.mg Wno ct) (te := tM X.K X.mg Wno me) hc hN (hi pn xe W tk) ok (fun s H C cl fp => hg s H C cl fp [] fun _ _ => False) (fun s H C cl fp => ht s H C cl fp [] (fun _ _ => False) _ takes0) (fun s H C cl fp => he s H C cl fp [] (fun _ _ => False) _ takes0) hs
theorem se_lc (hs : ∀ x, foldedSetIterable iter X.env x = pure x := by intro _; rfl) : SE X (.ListComp elt [⟨tg, iter, ifs, 0⟩] scope pos) (eLc mi g ct me (own.map (·.2))) := fun pn xe W tk =>
  PE.imp (lc_pe hc hN hi ok hsl hg ht he hs pn xe W tk) fun σ H Q h => lc_of hsl h
theorem se_lcM (hs : ∀ x, foldedSetIterable iter X.env x = pure x := by intro _; rfl) : SE X (.ListComp elt [⟨tg, iter, ifs, 0⟩] scope pos) (eLcM mi g ct me (own.map (·.2))) := fun pn xe W tk =>
  PE.imp (lc_pe hc hN hi ok hsl hg ht he hs pn xe W tk) fun σ H Q h => lcM_of hsl h
theorem lc_ps (hy : X.N[i]? = some y) (hyl : X.env.scope.names.lookup y = some .local) (hsw : swapsWith (.ListComp elt [⟨tg, iter, ifs, 0⟩] scope pos) (some (.Name y py)) spos.line X.env = pure true) (hs : ∀ x, foldedSetIterable iter X.env x = pure x) (pn : List (Addr × Obj)) (xe : Value → Shared → Prop) (W : WX) (tk : Takes (X.tr pn xe) W) :
    PS (X.tr pn xe) (.Assign [.Name y py] (.ListComp elt [⟨tg, iter, ifs, 0⟩] scope pos) spos) (tAsg (tLc (iM X.K X.mg W mi) (gM X.K X.mg g sl) (tMT X.K X.mg Wno ct) (tM X.K X.mg Wno me) (own.map (·.2))) (gName i)) :=
  ps_setLc (X := X.tr pn xe) (g := gM X.K X.mg g sl) (tt := tMT X.K X.mg Wno ct) (te := tM X.K X.mg Wno me) hc hN hy hyl hsw (hi pn xe W tk) ok (fun s H C cl fp => hg s H C cl fp [] fun _ _ => False) (fun s H C cl fp => ht s H C cl fp [] (fun _ _ => False) _ takes0) (fun s H C cl fp => he s H C cl fp [] (fun _ _ => False) _ takes0) hs
theorem ss_setLc (hy : X.N[i]? = some y) (hyl : X.env.scope.names.lookup y = some .local) (hsw : swapsWith (.ListComp elt [⟨tg, iter, ifs, 0⟩] scope pos) (some (.Name y py)) spos.line X.env = pure true) (hs : ∀ x, foldedSetIterable iter X.env x = pure x := by intro _; rfl) :
    SS X (.Assign [.Name y py] (.ListComp elt [⟨tg, iter, ifs, 0⟩] scope pos) spos) (sAsg (eLc mi g ct me (own.map (·.2))) (gN i)) := fun pn xe W tk _ =>
  PS.imp (lc_ps hc hN hi ok hsl hg ht he hy hyl hsw hs pn xe W tk) fun E σ H h => lc_of hsl (tM_of h fun d v μ env st H1 r re hv q => q μ H1 _ Ext.refl r (re.set hv i))
theorem ss_setLcM (hy : X.N[i]? = some y) (hyl : X.env.scope.names.lookup y = some .local) (hsw : swapsWith (.ListComp elt [⟨tg, iter, ifs, 0⟩] scope pos) (some (.Name y py)) spos.line X.env = pure true) (hs : ∀ x, foldedSetIterable iter X.env x = pure x := by intro _; rfl) :
    SS X (.Assign [.Name y py] (.ListComp elt [⟨tg, iter, ifs, 0⟩] scope pos) spos) (sAsg (eLcM mi g ct me (own.map (·.2))) (gN i)) := fun pn xe W tk _ =>
  PS.imp (lc_ps hc hN hi ok hsl hg ht he hy hyl hsw hs pn xe W tk) fun E σ H h => lcM_of hsl (tM_of h fun d v μ env st H1 r re hv q => q μ H1 _ Ext.refl r (re.set hv i))
end
theorem sts_nil : STs X [] cYes := fun pn xe W _ => PTs.imp pts_nil fun σ H Q h => by
  obtain ⟨μ, env, st, r, re, a⟩ := h
  exact a μ H Ext.refl r
theorem sts_one {c : Expr} (h : ST X c ct) : STs X [c] ct := fun pn xe W tk => pts_one (h pn xe W tk)
end
end T5
namespace T5
open PySem PySem.Spec PyProof.Rows L2
variable [TabC]
/-! ### a, b = x, y: the pair itself is not laid -/
def sPar2 (i j : Nat) (ma : MA) : MS := fun env st => (ma env st).toS env fun ds st1 => match ds with
  | [a, b] => .nx ((env.set i (some a)).set j (some b)) st1
  | _ => .bad
def sPar3 (i j k : Nat) (ma : MA) : MS := fun env st => (ma env st).toS env fun ds st1 => match ds with
  | [a, b, c] => .nx (((env.set i (some a)).set j (some b)).set k (some c)) st1
  | _ => .bad
section
variable {X : Cx} {a b c : Expr} {ma : MA} {i j k : Nat} {x y z : Str} {px py pz pt pos : Pos}
theorem ss_par2 {kt k2 pt2} (hc : X.calm = true) (hN : X.N.Nodup) (hi : X.N[i]? = some x) (hj : X.N[j]? = some y) (hij : i ≠ j) (hx : X.env.scope.names.lookup x = some .local) (hy : X.env.scope.names.lookup y = some .local) (ha : SA X [a, b] ma)
    (hw : swappedStores [.Tuple [.Name x px, .Name y py] kt pt] (.Tuple [a, b] k2 pt2) X.env = pure (some [x, y]))
    (hs : swapsWithSole [.Tuple [.Name x px, .Name y py] kt pt] (.Tuple [a, b] k2 pt2) pos.line X.env = pure false := by rfl) :
    SS X (.Assign [.Tuple [.Name x px, .Name y py] kt pt] (.Tuple [a, b] k2 pt2) pos) (sPar2 i j ma) := fun pn xe W tk _ => by
  refine PS.imp (ps_par (X := X.tr pn xe) hc hN hi hj hij hx hy (ha pn xe W tk) hw hs) fun E σ H h => ?_
  obtain ⟨μ, env, st, r, re, q⟩ := h
  refine ⟨μ, env, st, r, re, (AftS.ofR re q).imp fun ds st1 μ1 H1 x1 r1 q1 vs hv => ?_⟩
  match ds, q1 with
  | [d, d'], q1 =>
    obtain ⟨v, r2, e2, h1, v', r3, e3, h2, e4⟩ := hv
    have e5 : r3 = [] := e4
    subst e2 e3 e5
    exact ⟨v, v', rfl, q1 μ1 H1 _ Ext.refl r1 (((re.ext x1).set h1 i).set h2 j)⟩
theorem ss_par3 {kt k2 pt2} (hc : X.calm = true) (hN : X.N.Nodup) (hi : X.N[i]? = some x) (hj : X.N[j]? = some y) (hk : X.N[k]? = some z) (hij : i ≠ j) (hik : i ≠ k) (hjk : j ≠ k) (hx : X.env.scope.names.lookup x = some .local) (hy : X.env.scope.names.lookup y = some .local) (hz : X.env.scope.names.lookup z = some .local) (ha : SA X [a, b, c] ma)
    (hw : swappedStores [.Tuple [.Name x px, .Name y py, .Name z pz] kt pt] (.Tuple [a, b, c] k2 pt2) X.env = pure (some [x, y, z]))
    (hs : swapsWithSole [.Tuple [.Name x px, .Name y py, .Name z pz] kt pt] (.Tuple [a, b, c] k2 pt2) pos.line X.env = pure false := by rfl) :
    SS X (.Assign [.Tuple [.Name x px, .Name y py, .Name z pz] kt pt] (.Tuple [a, b, c] k2 pt2) pos) (sPar3 i j k ma) := fun pn xe W tk _ => by
  refine PS.imp (ps_par3 (X := X.tr pn xe) hc hN hi hj hk hij hik hjk hx hy hz (ha pn xe W tk) hw hs) fun E σ H h => ?_
  obtain ⟨μ, env, st, r, re, q⟩ := h
  refine ⟨μ, env, st, r, re, (AftS.ofR re q).imp fun ds st1 μ1 H1 x1 r1 q1 vs hv => ?_⟩
  match ds, q1 with
  | [d, d', d''], q1 =>
    obtain ⟨v, r2, e2, h1, v', r3, e3, h2, v'', r4, e4, h3, e5⟩ := hv
    have e6 : r4 = [] := e5
    subst e2 e3 e4 e6
    exact ⟨v, v', v'', rfl, q1 μ1 H1 _ Ext.refl r1 ((((re.ext x1).set h1 i).set h2 j).set h3 k)⟩
end
/-! ### isinstance with a built-in type -/
def tyD (st : Store) : D → Option String
  | .non => some "NoneType"
  | .bl _ => some "bool"
  | .int _ => some "int"
  | .str _ => some "str"
  | .tup _ => some "tuple"
  | .lst _ => some "list"
  | .dic false _ _ => some "dict"
  | .obj n => match st[n]? with
    | some (.lst _) => some "list"
    | some (.dic _ _ _) => some "dict"
    | _ => none
  | _ => none
def fIsi : BF := fun st ds => match ds with
  | [d, .ty T] => (tyD st d).bind fun t => (kitB t T).map .bl
  | _ => none
section
variable {X : Cx} {K : PySem.W.Frag} {mg : Str → Option Value} {μ : Mu} {H : Hp} {st : Store}
theorem ty_at (r : Rel K mg μ H st) {d : D} {v : V} {t : String} (h : Rep K mg μ H d v) (e : tyD st d = some t) : TyX K H v (.type t) := by
  cases d with
  | non => cases e; cases h; exact .base .non
  | bl b => cases e; cases h; exact .base (.bl b)
  | int i => cases e; cases h; exact .base (.int i)
  | str s => cases e; cases h; exact .base (.str _)
  | tup l =>
    cases e
    obtain ⟨a, vs, rfl, n, q, _⟩ := h
    exact .base (.tup q)
  | lst l =>
    cases e
    obtain ⟨a, vs, rfl, n, q, _⟩ := h
    exact .base (.lst q)
  | dic t' ks vs =>
    cases t' with
    | true => cases e
    | false =>
      cases e
      obtain ⟨a, ws, u, rfl, n, _, dh, q⟩ := h
      rcases dh with ⟨_, kk, e1, e2, rfl⟩ | ⟨c, _⟩
      · rcases q with q | ⟨ob, q⟩
        · exact .base (.dK q)
        · exact .fDict q
      · cases c
  | obj n =>
    obtain ⟨a, rfl, hn⟩ := h
    cases ho : st[n]? with
    | none => simp [tyD, ho] at e
    | some o =>
      cases o with
      | lst l =>
        simp only [tyD, ho] at e
        cases e
        obtain ⟨ws, hh, _⟩ := r.ob n _ a ho hn
        exact .base (.lst hh)
      | dic t' ks vs =>
        simp only [tyD, ho] at e
        cases e
        obtain ⟨ws, u, _, dh, hh⟩ := r.ob n _ a ho hn
        rcases dh with ⟨_, kk, e1, e2, rfl⟩ | ⟨_, kk, e1, e2, rfl⟩
        · exact .base (.dK hh)
        · exact .base (.dT hh)
      | ins _ _ _ => simp [tyD, ho] at e
  | _ => cases e
theorem calld_isi : CallD K mg (rIsi K) fIsi := by
  intro μ H st ds d vs Q r hv e q
  unfold fIsi at e
  split at e
  · rename_i d1 T
    obtain ⟨t, e1, e2⟩ := Option.bind_eq_some_iff.mp e
    obtain ⟨b, e3, e4⟩ := Option.map_eq_some_iff.mp e2
    cases e4
    obtain ⟨v, v2, rfl, h1, h2⟩ := repL2 hv
    have h2' : v2 = .ty T := h2
    subst h2'
    exact ⟨v, .ty T, .type t, .type T, b, rfl, .ty T, ty_at r h1 e1, kit_ty e3, q H _ Ext.refl r rfl⟩
  · cases e
variable {e : Expr} {es : List Expr} {ma : MA} {p pos : Pos} {x : Str}
theorem se_isi (hg : Gl X "isinstance") (hm : X.mg "isinstance" = none) (ha : SA X (e :: es) ma) (he : starEach (e :: es) X.env = (false, eval e X.env) :: starEach es X.env := by rfl) (hpl : (backTo pos (starEach es X.env)).any (·.1) = false := by rfl) : SE X (.Call (.Name "isinstance" p) (e :: es) [] pos) (eCB fIsi ma) :=
  se_callB (fun _ _ => call_isi) calld_isi hg hm PyProof.Rows.boot_isinstance ha (by decide) (by decide) he hpl
/-- a built-in type by its name -/
theorem se_ty (T : String) (hg : Gl X x) (hm : X.mg x = none) (hv : bootBuiltins x = some (.type T)) (hn : x ≠ "__name__" := by decide) (hd : (x == ("__debug__" : Str)) = false := by decide) : SE X (.Name x pos) (eC (.ty T)) :=
  se_const (v := .ty T) (fun pn xe => pe_bltn (X := X.tr pn xe) hg hm hv rfl hn hd) rfl
end
/-! ### dict displays -/
def eDnew (t : Bool) : ME := fun _ st => .ok (.obj st.length) (st ++ [.dic t [] []])
section
variable {X : Cx} {pos : Pos}
theorem get_push {K : PySem.W.Frag} {mg : Str → Option Value} {μ : Mu} {H : Hp} {st : Store} (r : Rel K mg μ H st) (p : Addr) : (μ.push p).get st.length = some p := by
  show (μ.l ++ [p])[st.length]? = some p
  rw [List.getElem?_append_right (by rw [r.len]; exact Nat.le_refl _), r.len]
  simp
theorem se_dnewK : SE X (.Dict [] [] pos) (eDnew false) := fun pn xe W tk => PE.imp pe_dnewK fun σ H Q h p hp => by
  obtain ⟨μ, env, st, r, re, a⟩ := h
  have s := same_upd (o := HO.dK []) hp
  exact a (μ.push p) _ (Ext.push r s hp) (r.push s hp ⟨[], _, rfl, .inl ⟨rfl, [], rfl, rfl, rfl⟩, upd_same⟩) _ ⟨p, rfl, get_push r p⟩
theorem se_dnewT : SE X (.Dict [] [] pos) (eDnew true) := fun pn xe W tk => PE.imp pe_dnewT fun σ H Q h p hp => by
  obtain ⟨μ, env, st, r, re, a⟩ := h
  have s := same_upd (o := HO.dT []) hp
  exact a (μ.push p) _ (Ext.push r s hp) (r.push s hp ⟨[], _, rfl, .inr ⟨rfl, [], rfl, rfl, rfl⟩, upd_same⟩) _ ⟨p, rfl, get_push r p⟩
end
end T5
namespace T5
open PySem PySem.Spec PyProof.Rows L2
variable [TabC]
/-! ### {k: v, ..} -/
abbrev MP := DEnv → Store → R (List D × List D)
def evP : List (ME × ME) → MP
  | [] => fun _ st => .ok ([], []) st
  | p :: ps => fun env st => (p.1 env st).bind fun k st1 => (p.2 env st1).bind fun v st2 => (evP ps env st2).bind fun r st3 => .ok (k :: r.1, v :: r.2) st3
def mergeD : List D → List D → List D → List D → List D × List D
  | k :: ks, v :: vs, ks0, vs0 => mergeD ks vs (putD false k v ks0 vs0).1 (putD false k v ks0 vs0).2
  | _, _, ks0, vs0 => (ks0, vs0)
def eDisp (ps : List (ME × ME)) : ME := fun env st => (evP ps env (st ++ [.dic false [] []])).bind fun kv st1 => match st1[st.length]? with
  | some (.dic false [] []) => if kv.1.all flatKey = true ∧ kv.1.length ≤ 15 ∧ kv.2.length = kv.1.length then .ok (.obj st.length) (st1.set st.length (.dic false (mergeD kv.1 kv.2 [] []).1 (mergeD kv.1 kv.2 [] []).2)) else .bad
  | _ => .bad
section
variable {X : Cx} {K : PySem.W.Frag} {mg : Str → Option Value} {W : WX} {μ : Mu} {H : Hp} {st : Store} {σ : L2.St} {env : DEnv} {pos : Pos}
theorem tPairs_of : ∀ {ps : List (ME × ME)} {μ : Mu} {H : Hp} {st : Store} {Q : List (V × V) → Hp → Prop} {k : List D × List D → Store → Mu → Hp → Prop}, Rel K mg μ H st → REnv K mg μ H env σ → Aft K mg W σ μ H (evP ps env st) k →
    (∀ kv st' μ' H' xs ys, Ext μ H μ' H' → Rel K mg μ' H' st' → k kv st' μ' H' → RepL K mg μ' H' kv.1 xs → RepL K mg μ' H' kv.2 ys → Q (xs.zip ys) H') → tPairs (ps.map fun p => (tM K mg W p.1, tM K mg W p.2)) σ H Q
  | [], μ, H, st, Q, k, r, re, a, f => f ([], []) st μ H [] [] Ext.refl r (a μ H Ext.refl r) rfl rfl
  | p :: ps, μ, H, st, Q, k, r, re, a, f => by
    refine ⟨μ, env, st, r, re, (Aft.bind a).imp fun d st1 μ1 H1 x1 r1 a1 x hx => ?_⟩
    refine ⟨μ1, env, st1, r1, re.ext x1, (Aft.bind a1).imp fun d2 st2 μ2 H2 x2 r2 a2 y hy => ?_⟩
    refine tPairs_of (ps := ps) r2 ((re.ext x1).ext x2) (Aft.bind a2) fun kv st3 μ3 H3 xs ys x3 r3 a3 h1 h2 => ?_
    exact f (d :: kv.1, d2 :: kv.2) st3 μ3 H3 (x :: xs) (y :: ys) ((x1.trans x2).trans x3) r3 (a3 μ3 H3 Ext.refl r3) ⟨x, xs, rfl, hx.ext (x2.trans x3), h1⟩ ⟨y, ys, rfl, hy.ext x3, h2⟩
def SP (X : Cx) (pos : Pos) (keys : List (Option Expr)) (values : List Expr) (ps : List (ME × ME)) : Prop := ∀ pn xe W, Takes (X.tr pn xe) W → PPs (X.tr pn xe) pos keys values (ps.map fun p => (tM X.K X.mg W p.1, tM X.K X.mg W p.2))
theorem sp_nil : SP X pos [] [] [] := fun pn xe W tk => pps_nil
theorem sp_cons {k v : Expr} {ks : List (Option Expr)} {vs : List Expr} {mk mv : ME} {ps : List (ME × ME)} (hk : SE X k mk) (hv : SE X v mv) (hr : SP X pos ks vs ps) : SP X pos (some k :: ks) (v :: vs) ((mk, mv) :: ps) := fun pn xe W tk =>
  pps_cons (hk pn xe W tk) (hv pn xe W tk) (hr pn xe W tk)
theorem merge_of : ∀ {kk : List Key} {ds : List D} {vs : List V} {k0 : List Key} {ds0 : List D} {vs0 : List V}, kk.length = vs.length → RepL K mg μ H ds vs → k0.length = vs0.length → RepL K mg μ H ds0 vs0 →
    ∃ (kk' : List Key) (vs' : List V), (mergeD (kk.map keyD) ds (k0.map keyD) ds0).1 = kk'.map keyD ∧ RepL K mg μ H (mergeD (kk.map keyD) ds (k0.map keyD) ds0).2 vs' ∧ kk'.length = vs'.length ∧ mergeK (k0.zip vs0) (kk.zip vs) = kk'.zip vs'
  | [], ds, vs, k0, ds0, vs0, h, hr, h0, hr0 => ⟨k0, vs0, rfl, hr0, h0, rfl⟩
  | k :: kk, ds, vs, k0, ds0, vs0, h, hr, h0, hr0 => by
    cases vs with
    | nil => simp at h
    | cons v vs =>
      cases ds with
      | nil => have := hr.length; simp at this
      | cons d ds =>
        obtain ⟨v', r', e, h1, h2⟩ := hr
        cases e
        obtain ⟨kk', vs', p1, p2, p3, p4⟩ := put_zip (kD := keyD) (t := false) (fun a b => by rw [same_false, keyD_same]) k h1 h0 hr0
        obtain ⟨k2, v2, q1, q2, q3, q4⟩ := merge_of (kk := kk) (ds := ds) (vs := vs) (k0 := kk') (vs0 := vs') (by simpa using h) h2 p3 p2
        refine ⟨k2, v2, ?_, ?_, q3, ?_⟩
        · show (mergeD (kk.map keyD) ds (putD false (keyD k) d (k0.map keyD) ds0).1 _).1 = _
          rw [p1]
          exact q1
        · show RepL K mg μ H (mergeD (kk.map keyD) ds (putD false (keyD k) d (k0.map keyD) ds0).1 _).2 v2
          rw [p1]
          exact q2
        · show mergeK (putK (k0.zip vs0) k v) (kk.zip vs) = _
          rw [p4]
          exact q4
theorem zip_kV : ∀ {kk : List Key} {vs : List V}, kk.length = vs.length → (kk.map kV).zip vs = (kk.zip vs).map fun kv => (kV kv.1, kv.2)
  | [], vs, h => by cases vs <;> rfl
  | k :: kk, vs, h => by
    cases vs with
    | nil => simp at h
    | cons v vs =>
      show (kV k, v) :: (kk.map kV).zip vs = (kV k, v) :: (kk.zip vs).map _
      rw [zip_kV (by simpa using h)]
theorem se_disp {keys : List (Option Expr)} {values : List Expr} {ps : List (ME × ME)} (h : SP X pos keys values ps) (hall : keys.all (·.isSome) = true := by rfl) (hl : keys.length = values.length := by rfl) (h0 : keys ≠ [] := by exact fun z => nomatch z)
    (h15 : keys.length ≤ 15 := by decide) : SE X (.Dict keys values pos) (eDisp ps) := fun pn xe W tk => by
  refine PE.imp (pe_disp (h pn xe W tk) hall hl h0 h15) fun σ H Q q p hp => ?_
  obtain ⟨μ, env, st, r, re, a⟩ := q
  have s := same_upd (o := HO.dK []) hp
  have x0 := Ext.push r s hp
  have r0 : Rel X.K X.mg (μ.push p) (upd H p (.dK [])) (st ++ [.dic false [] []]) := r.push s hp ⟨[], _, rfl, .inl ⟨rfl, [], rfl, rfl, rfl⟩, upd_same⟩
  refine tPairs_of r0 (re.ext x0) (Aft.bind (a.ext x0)) fun kv st' μ' H' xs ys x1 r1 a1 hx hy => ?_
  have hg : μ'.get st.length = some p := by
    obtain ⟨m, em⟩ := x1.more
    show μ'.l[st.length]? = some p
    rw [em, List.getElem?_append_left]
    · exact get_push r p
    · exact (List.getElem?_eq_some_iff.mp (get_push r p)).1
  split at a1
  · rename_i e1
    split at a1
    · rename_i c
      obtain ⟨c1, c2, c3⟩ := c
      obtain ⟨ws, u, e2, dh, eu⟩ := r1.ob _ _ _ e1 hg
      have e3 : ws = [] := e2
      subst e3
      rcases dh with ⟨_, kk0, z1, z2, rfl⟩ | ⟨z, _⟩
      · have z3 : kk0 = [] := List.eq_nil_of_length_eq_zero z2
        subst z3
        refine ⟨eu, ?_⟩
        obtain ⟨kk, ek⟩ := flat_keys c1
        rw [ek] at hx
        have ex := keysD_rep hx
        have hlen : kk.length = ys.length := by
          rw [← hy.length, c3, ek]
          simp
        refine ⟨kk.zip ys, by rw [ex, zip_kV hlen], by rw [List.length_zip, hlen, Nat.min_self, ← hy.length, c3]; exact c2, ?_⟩
        have x2 := Ext.change (o := HO.dK (mergeK [] (kk.zip ys))) r1 hg
        obtain ⟨k2, v2, q1, q2, q3, q4⟩ := merge_of (k0 := []) (vs0 := []) hlen (hy.ext x2) rfl (show RepL X.K X.mg μ' _ [] [] from rfl)
        refine a1 μ' _ x2 (r1.change hg ?_) _ ⟨p, rfl, hg⟩
        rw [ek]
        refine ⟨v2, _, q2, .inl ⟨rfl, k2, q1, q3, rfl⟩, ?_⟩
        rw [upd_same]
        exact congrArg (fun z => some (HO.dK z)) q4
      · cases z
    · exact a1.elim
  · exact a1.elim
end
/-! ### what lies only behind a mark is let go -/
mutual
/-- no place at n or behind -/
def clD (n : Nat) : D → Bool
  | .tup l | .lst l | .scr l => clL n l
  | .obj j => decide (j < n)
  | .dic _ _ vs | .ins _ _ vs | .exc _ _ vs => clL n vs
  | .fn _ _ _ vs _ => clL n vs
  | _ => true
def clL (n : Nat) : List D → Bool
  | [] => true
  | d :: ds => clD n d && clL n ds
end
def clO (n : Nat) : Ob → Bool
  | .lst l => clL n l
  | .dic _ _ vs | .ins _ _ vs => clL n vs
def Mu.take (μ : Mu) (n : Nat) : Mu := ⟨μ.l.take n, μ.r, μ.t⟩
section
variable {K : PySem.W.Frag} {mg : Str → Option Value} {μ μ' : Mu} {H H' : Hp} {st : Store} {n : Nat}
theorem Mu.take_nin {a : Addr} (h : a ∉ μ) : a ∉ μ.take n := fun q => h (q.imp (fun q => List.mem_of_mem_take q) id)
theorem Mu.take_get {j : Nat} {a : Addr} (h : μ.get j = some a) (hj : j < n) : (μ.take n).get j = some a := by
  show (μ.l.take n)[j]? = some a
  rw [List.getElem?_take, if_pos hj]
  exact h
mutual
theorem Rep.letBe : ∀ {d : D} {v : V}, clD n d = true → Rep K mg μ H d v → Rep K mg (μ.take n) H d v
  | .non, _, _, h => h
  | .bl _, _, _, h => h
  | .int _, _, _, h => h
  | .str _, _, _, h => h
  | .ty _, _, _, h => h
  | .tup l, v, c, ⟨a, vs, e, m, r, q⟩ => ⟨a, vs, e, Mu.take_nin m, r, RepL.letBe (by simpa [clD] using c) q⟩
  | .lst l, v, c, ⟨a, vs, e, m, r, q⟩ => ⟨a, vs, e, Mu.take_nin m, r, RepL.letBe (by simpa [clD] using c) q⟩
  | .scr l, v, c, ⟨a, vs, e, m, q⟩ => ⟨a, vs, e, m.imp (fun m => ⟨Mu.take_nin m.1, m.2⟩) id, RepL.letBe (by simpa [clD] using c) q⟩
  | .obj j, v, c, ⟨a, e, q⟩ => ⟨a, e, Mu.take_get q (by simpa [clD] using c)⟩
  | .dic t ks ds, v, c, ⟨a, vs, u, e, m, q, dh, r⟩ => ⟨a, vs, u, e, Mu.take_nin m, RepL.letBe (by simpa [clD] using c) q, dh, r⟩
  | .ins _ ks ds, v, c, ⟨a, C, dx, vs, e, m, g, l, r, q⟩ => ⟨a, C, dx, vs, e, Mu.take_nin m, g, l, r, RepL.letBe (by simpa [clD] using c) q⟩
  | .exc c ks ds, v, cl, ⟨a, C, dx, us, e, m, g, l, r, nd, rd, q⟩ => ⟨a, C, dx, us, e, Mu.take_nin m, g, l, r, Mu.take_nin nd, rd, RepL.letBe (by simpa [clD] using cl) q⟩
  | .cls _, _, _, h => h
  | .fn a c q ds us, v, cl, ⟨e, n, r, y⟩ => ⟨e, Mu.take_nin n, r, RepL.letBe (by simpa [clD] using cl) y⟩
theorem RepL.letBe : ∀ {ds : List D} {vs : List V}, clL n ds = true → RepL K mg μ H ds vs → RepL K mg (μ.take n) H ds vs
  | [], _, _, h => h
  | d :: ds, vs, c, ⟨v, r, e, h1, h2⟩ => by
    have c' : clD n d = true ∧ clL n ds = true := by simpa [clL] using c
    exact ⟨v, r, e, Rep.letBe c'.1 h1, RepL.letBe c'.2 h2⟩
end
theorem ObR.drop {a : Addr} : ∀ {o : Ob}, clO n o = true → ObR K mg μ H a o → ObR K mg (μ.take n) H a o
  | .lst l, c, ⟨vs, h, q⟩ => ⟨vs, h, q.letBe c⟩
  | .dic t ks ds, c, ⟨vs, u, q, d, h⟩ => ⟨vs, u, q.letBe c, d, h⟩
  | .ins _ ks ds, c, ⟨C, dx, vs, g, l, h, q⟩ => ⟨C, dx, vs, g, l, h, q.letBe c⟩
theorem Rel.drop (r : Rel K mg μ H st) (c : (st.take n).all (clO n) = true) : Rel K mg (μ.take n) H (st.take n) := by
  refine ⟨by show (μ.l.take n).length = _; simp [r.len], ?_, fun j o a h1 h2 => ?_, fun a h => r.apart a (List.mem_of_mem_take h), r.held, r.tab, r.tc, r.rt⟩
  · exact r.nd.sublist (List.take_sublist n μ.l)
  · have h2' : (μ.l.take n)[j]? = some a := h2
    have hm := List.mem_of_getElem? h1
    rw [List.getElem?_take] at h1 h2'
    split at h1
    · rename_i hj
      rw [if_pos hj] at h2'
      exact (r.ob j o a h1 h2').drop (List.all_eq_true.mp c o hm)
    · cases h1
theorem Ext.drop (x : Ext μ H μ' H') (h : μ.l.length ≤ n) : Ext μ H (μ'.take n) H' := by
  obtain ⟨m, e⟩ := x.more
  refine ⟨⟨m.take (n - μ.l.length), ?_⟩, x.res, fun a o q z => ⟨Mu.take_nin (x.keep a o q z).1, (x.keep a o q z).2⟩, x.held, x.tabs⟩
  show μ'.l.take n = _
  rw [e, List.take_append, List.take_of_length_le h]
end
/-- at a def's end: its own things are let go; a list or a dict of its own that it gives is changed no more -/
def fin (m : MF) : MF := fun ds st => match m ds st with
  | .ok d st1 => if st.length ≤ st1.length ∧ (st1.take st.length).all (clO st.length) = true then
      (if clD st.length d = true then .ok d (st1.take st.length) else match d with
        | .obj j => (match st1[j]? with
          | some (.lst l) => if clL st.length l = true then .ok (.lst l) (st1.take st.length) else .bad
          | some (.dic t ks vs) => if clL st.length vs = true then .ok (.dic t ks vs) (st1.take st.length) else .bad
          | some (.ins c ks vs) => if clL st.length vs = true then .ok (.ins c ks vs) (st1.take st.length) else .bad
          | _ => .bad)
        | _ => .bad)
    else .bad
  | .ex c ks vs st1 => if st.length ≤ st1.length ∧ (st1.take st.length).all (clO st.length) = true ∧ clL st.length vs = true then .ex c ks vs (st1.take st.length) else .bad
  | .bad => .bad
section
variable {K : PySem.W.Frag} {mg : Str → Option Value} {W : WX} {σ : L2.St} {μ : Mu} {H : Hp} {st : Store} {m : MF} {ds : List D} {k : D → Store → Mu → Hp → Prop}
theorem fin_aft {Q : VK} (r : Rel K mg μ H st) (h : Aft K mg W σ μ H (fin m ds st) fun d _ μ' H' => ∀ v, Rep K mg μ' H' d v → Q v H') : Aft K mg W σ μ H (m ds st) fun d _ μ' H' => ∀ v, Rep K mg μ' H' d v → Q v H' := by
  unfold fin at h
  cases e : m ds st with
  | bad => rw [e] at h; exact h
  | ex c ks vs st1 =>
    rw [e] at h
    have h' : Aft K mg W σ μ H (if st.length ≤ st1.length ∧ (st1.take st.length).all (clO st.length) = true ∧ clL st.length vs = true then (.ex c ks vs (st1.take st.length) : R D) else .bad) fun d _ μ' H' => ∀ v, Rep K mg μ' H' d v → Q v H' := h
    split at h'
    · rename_i cc
      obtain ⟨c1, c2, c3⟩ := cc
      intro μ' H' C dx us x r1 q1 q2 q3 q4 q5
      exact h' (μ'.take st.length) H' C dx us (x.drop (by rw [r.len]; exact Nat.le_refl _)) (r1.drop c2) q1 q2 q3 (Mu.take_nin q4) (q5.letBe c3)
    · exact h'.elim
  | ok d st1 =>
    rw [e] at h
    intro μ' H' x r1 v hv
    have xd : Ext μ H (μ'.take st.length) H' := x.drop (by rw [r.len]; exact Nat.le_refl _)
    simp only at h
    split at h
    · rename_i cc
      have rd := r1.drop cc.2
      split at h
      · rename_i c1
        exact h _ H' xd rd v (hv.letBe c1)
      · rename_i c1
        cases d with
        | obj j =>
          simp only at h
          obtain ⟨a, rfl, ha⟩ := hv
          have hj : ¬ j < st.length := fun z => c1 (by simpa [clD] using z)
          have na : a ∉ μ'.take st.length := fun q => by
            rcases q with q | q | ⟨t, q⟩
            · obtain ⟨i, hi⟩ := List.getElem?_of_mem q
              have hi' : (μ'.l.take st.length)[i]? = some a := hi
              rw [List.getElem?_take] at hi'
              split at hi'
              · rename_i hlt
                have e1 := (List.getElem?_inj (List.getElem?_eq_some_iff.mp (show μ'.l[i]? = some a from hi')).1 r1.nd).mp (hi'.trans (show μ'.l[j]? = some a from ha).symm)
                exact hj (e1 ▸ hlt)
              · cases hi'
            · exact r1.apart a (List.mem_of_getElem? ha) q
            · obtain ⟨u, hu, h1, _⟩ := r1.plain ha
              obtain ⟨ps, z, _⟩ := r1.tab _ q
              rw [show H' (a, t).1 = H' a from rfl, hu] at z
              exact h1 _ (Option.some.inj z)
          split at h
          · rename_i l ho
            split at h
            · rename_i c2
              obtain ⟨ws, hh, hl⟩ := r1.ob j _ a ho ha
              exact h _ H' xd rd _ ⟨a, ws, rfl, na, hh, hl.letBe c2⟩
            · exact h.elim
          · rename_i t ks vs ho
            split at h
            · rename_i c2
              obtain ⟨ws, u, hl, dh, hh⟩ := r1.ob j _ a ho ha
              exact h _ H' xd rd _ ⟨a, ws, u, rfl, na, hl.letBe c2, dh, .inl hh⟩
            · exact h.elim
          · rename_i c ks vs ho
            split at h
            · rename_i c2
              obtain ⟨C, dx, ws, g, l, hh, hl⟩ := r1.ob j _ a ho ha
              exact h _ H' xd rd _ ⟨a, C, dx, ws, rfl, na, g, l, hh, hl.letBe c2⟩
            · exact h.elim
          · exact h.elim
        | _ => exact h.elim
    · exact h.elim
theorem fin_len {n : Nat} (h : ∀ ds st, ds.length ≠ n → m ds st = .bad) : ∀ ds st, ds.length ≠ n → fin m ds st = .bad := fun ds st z => by
  unfold fin
  rw [h ds st z]
theorem Fn.fin {P : Program} {w : World} {base : Heap} {k : Nat} {f : Addr} {ps : List Str} (F : Fn P w K mg base k f ps m) : Fn P w K mg base k f ps (T5.fin m) := F.imp fun vs H Q E h => by
  obtain ⟨hn, μ, st, ds, r, rl, a⟩ := h
  exact ⟨hn, μ, st, ds, r, rl, fin_aft r a⟩
end
end T5
namespace T5
open PySem PySem.Spec PyProof.Rows L2
variable [TabC]
/-! ### instances -/
def insOf (st : Store) : D → Option (String × List String × List D)
  | .ins c ks vs => some (c, ks, vs)
  | .obj n => match st[n]? with
    | some (.ins c ks vs) => some (c, ks, vs)
    | _ => none
  | _ => none
def lookF (f : String) : List String → List D → Option D
  | k :: ks, d :: ds => if k = f then some d else lookF f ks ds
  | _, _ => none
def putFd (f : String) (v : D) : List String → List D → List String × List D
  | k :: ks, d :: ds => if k = f then (k :: ks, v :: ds) else ((k :: (putFd f v ks ds).1), d :: (putFd f v ks ds).2)
  | _, _ => ([f], [v])
theorem ofString_inj {a b : String} (h : Str.ofString a = Str.ofString b) : a = b := by
  rw [Str.ofString_eq_toList, Str.ofString_eq_toList] at h
  have h1 : (a.toList.map Char.toNat) = (b.toList.map Char.toNat) := by
    have := congrArg (fun z : Str => z.cps.toList) h
    simpa using this
  have h2 : a.toList = b.toList := (List.map_inj_right fun x y e => Char.ext (UInt32.toNat_inj.mp e)).mp h1
  exact String.toList_inj.mp h2
section
variable {K : PySem.W.Frag} {mg : Str → Option Value} {μ : Mu} {H : Hp} {st : Store}
theorem ins_at (r : Rel K mg μ H st) {d : D} {v : V} {c : String} {ks : List String} {ds : List D} (h : Rep K mg μ H d v) (e : insOf st d = some (c, ks, ds)) :
    ∃ a C dx vs, v = .ref a ∧ mg (Str.ofString c) = some (.ref C) ∧ ks.length = vs.length ∧ H a = some (.ins C dx ((ks.map Str.ofString).zip vs)) ∧ RepL K mg μ H ds vs := by
  cases d with
  | ins c' ks' ds' =>
    cases e
    obtain ⟨a, C, dx, vs, ev, n, g, l, hh, q⟩ := h
    exact ⟨a, C, dx, vs, ev, g, l, hh, q⟩
  | obj n =>
    obtain ⟨a, ev, hn⟩ := h
    cases ho : st[n]? with
    | none => simp [insOf, ho] at e
    | some o =>
      cases o with
      | ins c' ks' ds' =>
        simp only [insOf, ho] at e
        cases e
        obtain ⟨C, dx, vs, g, l, hh, q⟩ := r.ob n _ a ho hn
        exact ⟨a, C, dx, vs, ev, g, l, hh, q⟩
      | _ => simp [insOf, ho] at e
  | _ => cases e
theorem lookF_of {f : String} {d : D} : ∀ {ks : List String} {ds : List D} {vs : List V}, RepL K mg μ H ds vs → lookF f ks ds = some d → ∃ v, ((ks.map Str.ofString).zip vs).lookup (Str.ofString f) = some v ∧ Rep K mg μ H d v
  | [], ds, vs, h, e => by cases ds <;> simp [lookF] at e
  | k :: ks, [], vs, h, e => by simp [lookF] at e
  | k :: ks, d' :: ds, vs, h, e => by
    obtain ⟨v, r, ev, h1, h2⟩ := h
    subst ev
    by_cases c : k = f
    · subst c
      simp only [lookF, if_true] at e
      cases e
      refine ⟨v, ?_, h1⟩
      show List.lookup (Str.ofString k) ((Str.ofString k, v) :: (ks.map Str.ofString).zip r) = some v
      simp [List.lookup]
    · simp only [lookF, if_neg c] at e
      obtain ⟨w, e1, e2⟩ := lookF_of h2 e
      refine ⟨w, ?_, e2⟩
      show List.lookup (Str.ofString f) ((Str.ofString k, v) :: (ks.map Str.ofString).zip r) = some w
      have : (Str.ofString f == Str.ofString k) = false := by
        rw [beq_eq_false_iff_ne]
        exact fun z => c (ofString_inj z).symm
      rw [List.lookup, this]
      exact e1
theorem lookN_of {f : String} : ∀ {ks : List String} {vs : List V}, ks.contains f = false → ((ks.map Str.ofString).zip vs).lookup (Str.ofString f) = none
  | [], vs, _ => by simp
  | k :: ks, [], _ => by simp
  | k :: ks, v :: vs, h => by
    have h' : ¬ f = k ∧ ks.contains f = false := by simpa using h
    show List.lookup (Str.ofString f) ((Str.ofString k, v) :: (ks.map Str.ofString).zip vs) = none
    have : (Str.ofString f == Str.ofString k) = false := by
      rw [beq_eq_false_iff_ne]
      exact fun z => h'.1 (ofString_inj z)
    rw [List.lookup, this]
    exact lookN_of h'.2
theorem putFd_of {f : String} {d : D} {v : V} (hd : Rep K mg μ H d v) : ∀ {ks : List String} {ds : List D} {vs : List V}, ks.length = vs.length → RepL K mg μ H ds vs →
    ∃ vs', (putFd f d ks ds).1.length = vs'.length ∧ RepL K mg μ H (putFd f d ks ds).2 vs' ∧ putF (Str.ofString f) v ((ks.map Str.ofString).zip vs) = ((putFd f d ks ds).1.map Str.ofString).zip vs'
  | [], ds, vs, hl, h => by
    cases vs with
    | nil =>
      have : ds = [] := by
        have := h.length
        exact List.eq_nil_of_length_eq_zero (by simpa using this)
      subst this
      exact ⟨[v], rfl, ⟨v, [], rfl, hd, rfl⟩, rfl⟩
    | cons _ _ => simp at hl
  | k :: ks, [], vs, hl, h => by
    have := h.length
    rw [← this] at hl
    simp at hl
  | k :: ks, d' :: ds, vs, hl, h => by
    obtain ⟨v', r, ev, h1, h2⟩ := h
    subst ev
    by_cases c : k = f
    · subst c
      refine ⟨v :: r, ?_, ?_, ?_⟩
      · simp only [putFd, if_true]; simpa using hl
      · simp only [putFd, if_true]; exact ⟨v, r, rfl, hd, h2⟩
      · simp only [putFd, if_true]
        show putF (Str.ofString k) v ((Str.ofString k, v') :: (ks.map Str.ofString).zip r) = _
        simp [putF]
    · obtain ⟨vs', q1, q2, q3⟩ := putFd_of hd (ks := ks) (ds := ds) (vs := r) (by simpa using hl) h2
      refine ⟨v' :: vs', ?_, ?_, ?_⟩
      · simp only [putFd, if_neg c]; simpa using q1
      · simp only [putFd, if_neg c]; exact ⟨v', vs', rfl, h1, q2⟩
      · simp only [putFd, if_neg c]
        show putF (Str.ofString f) v ((Str.ofString k, v') :: (ks.map Str.ofString).zip r) = _
        have ne : ¬ Str.ofString k = Str.ofString f := fun z => c (ofString_inj z)
        simp only [putF, if_neg ne]
        rw [q3]
        rfl
end
/-- e.f of an instance of c -/
def eFld (c f : String) (m : ME) : ME := fun env st => (m env st).bind fun d st1 => match insOf st1 d with
  | some (c', ks, ds) => if c' = c then ofO (lookF f ks ds) st1 else .bad
  | none => .bad
/-- o.f = v -/
def sFldD (c f : String) (mo mv : ME) : MS := fun env st => (mv env st).toS env fun v st1 => (mo env st1).toS env fun d st2 => match d with
  | .obj n => (match st2[n]? with
    | some (.ins c' ks ds) => if c' = c ∧ ks.length ≤ 100 then .nx env (st2.set n (.ins c (putFd f v ks ds).1 (putFd f v ks ds).2)) else .bad
    | _ => .bad)
  | _ => .bad
section
variable {X : Cx} {e o value : Expr} {m mo mv : ME} {pos pos' : Pos} {c f : String} {fs : Str} {C : Addr}
theorem se_fld (he : SE X e m) (hm : X.mg (Str.ofString c) = some (.ref C)) (hc : Cls X.K C) (hn : NoAttr X.K C fs) (hf : fs = Str.ofString f := by rfl) (hb : attributeBase e fs X.env (eval e X.env) = eval e X.env := by rfl) : SE X (.Attribute e fs pos) (eFld c f m) := fun pn xe W tk => by
  refine PE.imp (pe_fld (X := X.tr pn xe) (he pn xe W tk) hb) fun σ H Q h => ?_
  refine tM_seq h fun d v μ env st H1 r re hd a => ?_
  cases e1 : insOf st d with
  | none => rw [e1] at a; exact a.elim
  | some q =>
    obtain ⟨c', ks, ds⟩ := q
    rw [e1] at a
    simp only at a
    split at a
    · rename_i cc
      subst cc
      cases e2 : lookF f ks ds with
      | none => rw [e2] at a; exact a.elim
      | some d2 =>
        rw [e2] at a
        obtain ⟨x, C', dx, vs, rfl, g, l, hh, hl⟩ := ins_at r hd e1
        rw [hm] at g
        cases g
        obtain ⟨w, e3, e4⟩ := lookF_of hl e2
        exact ⟨x, C, dx, _, w, rfl, hh, hc, hn, by rw [hf]; exact e3, a μ H1 Ext.refl r w e4⟩
    · exact a.elim
theorem ss_fld (ho : SE X o mo) (hv : SE X value mv) (hm : X.mg (Str.ofString c) = some (.ref C)) (hc : Cls X.K C) (hn : NoAttr X.K C fs) (hf : fs = Str.ofString f := by rfl) (hs : swapsWith value (some (.Attribute o fs pos')) pos.line X.env = pure false := by rfl) :
    SS X (.Assign [.Attribute o fs pos'] value pos) (sFldD c f mo mv) := fun pn xe W tk _ => by
  refine PS.imp (ps_fld (X := X.tr pn xe) (ho pn xe W tk) (hv pn xe W tk) hs) fun E σ H h => ?_
  refine tM_of h fun v y μ env st H1 r re hy a => ?_
  refine ⟨μ, env, st, r, re, (AftS.ofR re a).imp fun d st2 μ2 H2 x2 r2 a2 x hx => ?_⟩
  cases d with
  | obj n =>
    simp only at a2
    obtain ⟨b, rfl, hn'⟩ := hx
    split at a2
    · rename_i c' ks ds ho'
      split at a2
      · rename_i cc
        obtain ⟨rfl, c2⟩ := cc
        obtain ⟨C', dx, vs, g, l, hh, hl⟩ := r2.ob n _ b ho' hn'
        have g' := g
        rw [hm] at g'
        cases g'
        have hlen : ((ks.map Str.ofString).zip vs).length < 1000 := by
          rw [List.length_zip, List.length_map]
          omega
        refine ⟨b, C, dx, _, rfl, hh, hc, hn, hlen, ?_⟩
        have x3 := Ext.change (o := HO.ins C dx (putF fs y ((ks.map Str.ofString).zip vs))) r2 hn'
        obtain ⟨vs', p1, p2, p3⟩ := putFd_of (f := f) ((hy.ext x2).ext x3) l (hl.ext x3)
        refine a2 μ2 _ σ x3 (r2.change hn' ⟨C, dx, vs', hm, p1, ?_, p2⟩) ((re.ext x2).ext x3)
        rw [upd_same, hf, p3]
      · exact a2.elim
    · exact a2.elim
  | _ => exact a2.elim
end
/-! ### calls with an instance: its making, its methods, its properties -/
section
variable {X : Cx} {CX : CXT} {k : Nat} {f C : Addr} {fd : FuncData} {ps : List Str} {sp : Sp} {E : XK} {pins : List (Addr × Obj)} {σ : L2.St} {H : Hp} {s : Shared} {Q : VK} {us : List Value} {vs : List V}
theorem make_runs {m : MF} (M : Mk X.K C f) (F : Fn X.prog X.w X.K X.mg X.base k f ps m) (hr : Room (k + 1) X.A) (hq : Gd X.A) (hx : PassesAt (L2.CX X.prog X.w) X σ E) (I : Inv X pins σ H s) (r : Vals vs us)
    (h : ∀ x dx, H x = none → H dx = none → dx ≠ x → spM X.K X.mg ps.length m (.ref x :: vs) (upd (upd H dx (.own x)) x (.ins C dx [])) (fun v H2 => v = .non ∧ Q (.ref x) H2) E) :
    wpAny (model X.prog X.w) X.A (call (.ref C) us) (EP X pins σ Q) X.xe s := by
  have q0 := h (s.heap.objs.size + 1) s.heap.objs.size (I.hok.fresh (Nat.le_succ _)) (I.hok.fresh (Nat.le_refl _)) (Nat.ne_of_lt (Nat.lt_succ_self _))
  have J := Inv.made (C := C) I
  have rr : Vals (V.ref (s.heap.objs.size + 1) :: vs) (Value.ref (s.heap.objs.size + 1) :: us) := .cons rfl r
  refine wpAny_call (make_map (f := f) I.kIn M.makes M.init (beq_iff_eq.mp M.fn) (codeAny_mono (F.run (hr.make C us []) (gd_make hq) (J.env0.make C us []) rr q0) fun res t hres => ?_))
  cases res with
  | error er => exact hx pins _ _ er t J hres
  | ok fl =>
    cases fl with
    | ret u =>
      obtain ⟨v, H', J2, rv, ev, q3⟩ := J.after hres
      subst ev
      exact ⟨rv, ⟨V.ref (s.heap.objs.size + 1), H', J2, rfl, q3⟩⟩
    | next => exact hres.elim
    | brk => exact hres.elim
    | cont => exact hres.elim
end
/-- an instance made: its __init__ runs at it -/
def mkF (c : String) (m : MF) : MF := fun ds st => (m (.obj st.length :: ds) (st ++ [.ins c [] []])).bind fun d st2 => match d with
  | .non => .ok (.obj st.length) st2
  | _ => .bad
def eProp (c : String) (m : MF) (mo : ME) : ME := fun env st => (mo env st).bind fun d st1 => match insOf st1 d with
  | some (c', _, _) => if c' = c then noEx (m [d] st1) else .bad
  | none => .bad
def eMeth (c n : String) (m : MF) (mo : ME) (ma : MA) : ME := fun env st => (mo env st).bind fun d st1 => match insOf st1 d with
  | some (c', ks, _) => if c' = c ∧ ks.contains n = false then (ma env st1).bind fun ds st2 => m (d :: ds) st2 else .bad
  | none => .bad
theorem aft_noEx {α : Type} {K : PySem.W.Frag} {mg : Str → Option Value} {W W' : WX} {σ σ' : L2.St} {μ : Mu} {H : Hp} {r : R α} {k : α → Store → Mu → Hp → Prop} (h : Aft K mg W σ μ H (noEx r) k) : Aft K mg W' σ' μ H r k := by
  cases r with
  | ok a st => exact h
  | ex c ks ds st => exact h.elim
  | bad => exact h
section
variable {X : Cx} {k : Nat} {f C : Addr} {ps : List Str} {m : MF} {c : String} {x : Str} {p pos apos : Pos} {e o : Expr} {es : List Expr} {ma : MA} {mo : ME}
theorem mk_spM {K : PySem.W.Frag} {mg : Str → Option Value} {W : WX} {σ : L2.St} {μ : Mu} {H : Hp} {st : Store} {ds : List D} {vs : List V} {n : Nat} {Q : VK} (hm : mg (Str.ofString c) = some (.ref C)) (r : Rel K mg μ H st) (rl : RepL K mg μ H ds vs) (hn : vs.length + 1 = n)
    (a : Aft K mg W σ μ H (mkF c m ds st) fun d _ μ' H' => ∀ v, Rep K mg μ' H' d v → Q v H') {x dx : Addr} (hx : H x = none) (hd : H dx = none) (ne : dx ≠ x) :
    spM K mg n m (.ref x :: vs) (upd (upd H dx (.own x)) x (.ins C dx [])) (fun v H2 => v = .non ∧ Q (.ref x) H2) (fun c d H => W c d σ H) := by
  have s1 := same_upd (o := HO.own x) hd
  have hx1 : upd H dx (HO.own x) x = none := by rw [upd_ne (Ne.symm ne)]; exact hx
  have s2 := same_upd (o := HO.ins C dx []) hx1
  have r1 := r.same s1
  have x1 := Ext.same r s1
  have x2 := Ext.push r1 s2 hx1
  have xx := x1.trans x2
  have r2 : Rel K mg (μ.push x) (upd (upd H dx (.own x)) x (.ins C dx [])) (st ++ [.ins c [] []]) := r1.push s2 hx1 ⟨C, dx, [], hm, rfl, upd_same, rfl⟩
  refine ⟨by simpa using hn, μ.push x, _, .obj st.length :: ds, r2, ⟨.ref x, vs, rfl, ⟨x, rfl, get_push r1 x⟩, rl.ext xx⟩, ?_⟩
  have a2 := Aft.bind (a.ext xx)
  cases q : m (.obj st.length :: ds) (st ++ [.ins c [] []]) with
  | bad => rw [q] at a2; exact a2
  | ex c' ks us st1 => rw [q] at a2; exact a2
  | ok d st1 =>
    rw [q] at a2
    intro μ' H' x3 r3 v hv
    have a3 := a2 μ' H' x3 r3
    cases d with
    | non =>
      cases hv
      refine ⟨rfl, a3 μ' H' Ext.refl r3 _ ⟨x, rfl, ?_⟩⟩
      obtain ⟨mm, em⟩ := x3.more
      show μ'.l[st.length]? = some x
      rw [em, List.getElem?_append_left]
      · exact get_push r1 x
      · exact (List.getElem?_eq_some_iff.mp (get_push r1 x)).1
    | _ => exact a3.elim
/-- whoever keeps m' keeps m -/
def Below (m' m : MF) : Prop := ∀ (K : PySem.W.Frag) (mg : Str → Option Value) (W : WX) (σ : L2.St) (μ : Mu) (H : Hp) (st : Store) (ds : List D) (Q : VK), Rel K mg μ H st →
  Aft K mg W σ μ H (m' ds st) (fun d _ μ' H' => ∀ v, Rep K mg μ' H' d v → Q v H') → Aft K mg W σ μ H (m ds st) (fun d _ μ' H' => ∀ v, Rep K mg μ' H' d v → Q v H')
theorem Below.refl : Below m m := fun _ _ _ _ _ _ _ _ _ _ a => a
theorem below_fin : Below (fin m) m := fun _ _ _ _ _ _ _ _ _ r a => fin_aft r a
theorem pass_no {P : Program} {w : World} {X : Cx} : Passes (L2.CX P w) X (fun _ _ _ => False) := fun pins σ H s e s' I h => by
  obtain ⟨a, B, H', cls, d, _, _, _, _, _, _, _, z⟩ := h
  exact z.elim
/-- C(e, ..) -/
theorem se_make {m' : MF} (M : Mk X.K C f) (F : Fn X.prog X.w X.K X.mg X.base k f ps m) (hr : Room (k + 1) X.A) (hq : Gd X.A) (hg : Gl X x) (hm : X.mg x = some (.ref C)) (ha : SA X (e :: es) ma) (hc : x = Str.ofString c := by rfl) (hdb : (x == ("__debug__" : Str)) = false := by decide)
    (he : starEach (e :: es) X.env = (false, eval e X.env) :: starEach es X.env := by rfl) (hpl : (backTo pos (starEach es X.env)).any (·.1) = false := by rfl)
    (hn : ∀ ds st, ds.length ≠ ps.length → m ds st = .bad) (hB : Below m' (mkF c m)) : SE X (.Call (.Name x p) (e :: es) [] pos) (eCall m' ma) := fun pn xe W tk => by
  refine ⟨fun pins s σ H Q I h => ?_⟩
  refine wpAny_Call_Name_kw (ld_glob (X := X.tr pn xe) I hg hm ?_ hdb)
  refine PySem.W.callWith_K (h₀ := (X.tr pn xe).base) I.ok.mod.kin M.kp (thn ((ha pn xe W tk).run pos pins s σ H (fun vs H1 => ∀ x dx, H1 x = none → H1 dx = none → dx ≠ x → spM X.K X.mg ps.length m (.ref x :: vs) (upd (upd H1 dx (.own x)) x (.ins C dx [])) (fun v H2 => v = .non ∧ Q (.ref x) H2) (fun c d H => W c d σ H)) I ?_) fun us s1 ⟨vs, H1, I1, r, q⟩ => ⟨I1.kIn, ?_⟩) he hpl
  · refine tMA_run h fun ds vs μ env st H1 r re hd a0 x dx hx hdx ne => ?_
    have a := hB _ _ _ _ _ _ _ _ _ r a0
    have hl : ds.length + 1 = ps.length := Classical.byContradiction fun z => by
      unfold mkF at a
      rw [hn (.obj st.length :: ds) _ (by simpa using z)] at a
      exact a
    exact mk_spM (hc ▸ hm) r hd (by rw [← hd.length]; exact hl) a hx hdx ne
  · exact make_runs (X := X.tr pn xe) M F hr hq (passAt tk σ) I1 r q
/-- o.f, a property -/
theorem se_prop {nm : Str} {pr : Addr} (ho : SE X o mo) (hm : X.mg (Str.ofString c) = some (.ref C)) (hc : Cls X.K C) (hp : PropOf X.K C nm pr f) (F : Fn X.prog X.w X.K X.mg X.base k f ps m) (hl : ps.length = 1) (hr : Room (k + 1) X.A) (hq : Gd X.A)
    (hb : attributeBase o nm X.env (eval o X.env) = eval o X.env := by rfl) : SE X (.Attribute o nm pos) (eProp c m mo) := fun pn xe W tk => by
  constructor
  intro pins s σ H Q I h
  refine attr_of hb (thn ((ho pn xe W tk).run pins s σ H (fun x H1 => ∃ a dx fs, x = .ref a ∧ H1 a = some (.ins C dx fs) ∧ spM X.K X.mg ps.length m [.ref a] H1 Q (fun _ _ _ => False)) I ?_) fun u s1 z => ?_)
  · refine tM_seq h fun d v μ env st H1 r re hd a => ?_
    cases e1 : insOf st d with
    | none => rw [e1] at a; exact a.elim
    | some q =>
      obtain ⟨c', ks, ds⟩ := q
      rw [e1] at a
      simp only at a
      split at a
      · rename_i cc
        subst cc
        obtain ⟨x, C', dx, vs, rfl, g, l, hh, hl2⟩ := ins_at r hd e1
        rw [hm] at g
        cases g
        exact ⟨x, dx, _, rfl, hh, hl.symm, μ, st, [d], r, ⟨_, [], rfl, hd, rfl⟩, aft_noEx a⟩
      · exact a.elim
  · obtain ⟨x, H1, I1, rx, a, dx, fs, rfl, ea, q⟩ := z
    obtain rfl : u = Value.ref a := rx
    obtain ⟨mA, O, _, _, _, _⟩ := ins_get I1.hok ea
    obtain ⟨od, J, _⟩ := O.look
    obtain ⟨rest, hrec⟩ := hp.rec_
    have I2 := I1.tok (s1.toks + 1)
    have hcl : (PySem.W.clsIn X.K C).isSome = true := by
      obtain ⟨cd, hcc, _⟩ := PySem.W.any_some hc.hd
      rw [hcc]
      rfl
    refine PySem.W.get_bind I1.kIn J (PySem.W.plainGet_of (hc.get nm)).1 (PySem.W.findObj_data hcl hp.at_ hp.get hp.tak) (PySem.W.plainGet_of (hc.get nm)).2 (wpAny_call (PySem.W.prop_get (s := { s1 with toks := s1.toks + 1 }) I1.kIn hrec ?_))
    refine codeAny_mono (F.run (A := X.A.in1) (us := [Value.ref a]) (vs := [V.ref a]) hr.in1 hq I2.env0.in1 (.cons rfl .nil) q) fun res t hres => ?_
    cases res with
    | error er =>
      obtain ⟨_, _, _, _, _, _, _, _, _, _, _, _, z⟩ := hres
      exact z.elim
    | ok fl =>
      cases fl with
      | ret w =>
        obtain ⟨v, H', I3, rv, q3⟩ := I2.after hres
        show wpAny _ _ (handedOut w) _ _ _
        rw [PySem.W.handedOut_of (handed_of rv)]
        exact wpAny_pure ⟨v, H', I3, rv, q3⟩
      | next => exact False.elim hres
      | brk => exact False.elim hres
      | cont => exact False.elim hres
end
end T5
namespace T5
open PySem PySem.Spec PyProof.Rows L2
variable [TabC]
/-! ### a == b by the class's own __eq__ -/
def eEqC (c : String) (m : MF) (ma mb : ME) : ME := fun env st => (ma env st).bind fun d1 st1 => (mb env st1).bind fun d2 st2 => match insOf st2 d1, insOf st2 d2 with
  | some (c1, _, _), some (c2, _, _) => if c1 = c ∧ c2 = c then (noEx (m [d1, d2] st2)).bind fun d st3 => match d with
      | .bl b => .ok (.bl b) st3
      | _ => .bad
    else .bad
  | _, _ => .bad
def rEqC (K : PySem.W.Frag) (mg : Str → Option Value) (C : Addr) (m : MF) : R2 := fun x y H Q => ∃ a b dx dy fs gs, x = .ref a ∧ y = .ref b ∧ H a = some (.ins C dx fs) ∧ H b = some (.ins C dy gs) ∧ spM K mg 2 m [x, y] H (fun v H' => (∃ t, v = .bl t) ∧ Q v H') (fun _ _ _ => False)
section
variable {X : Cx} {k : Nat} {f C : Addr} {ps : List Str} {m : MF} {c : String} {a b : Expr} {pos : Pos} {ma mb : ME}
theorem op_eqC (F : Fn X.prog X.w X.K X.mg X.base k f ps m) (hl : ps.length = 2) (hs : PySem.W.findIn X.K (.ref C) "__eq__" = some (some (.ref f))) (hf : PySem.W.isFn X.K (.ref f) = true) (hr : Room k X.A) (hgd : Gd X.A) : OpR X (compareOp .Eq) (rEqC X.K X.mg C m) := by
  intro pins s σ H x y v u Q I rx ry h
  obtain ⟨p, q, dx, dy, fs, gs, rfl, rfl, hp, hq, hsp⟩ := h
  cases rx
  cases ry
  obtain ⟨mA, J1, _⟩ := ins_get I.hok hp
  obtain ⟨mB, J2, _⟩ := ins_get I.hok hq
  obtain ⟨od, J1, _⟩ := J1.look
  obtain ⟨od', J2, _⟩ := J2.look
  obtain ⟨mm, hF⟩ := I.fr
  show wpAny (model X.prog X.w) X.A (richCompare .Eq (.ref p) (.ref q)) (EP X pins σ Q) X.xe s
  refine PySem.W.cmp_K (op := .Eq) (tb := .ref C) hr.units0 hF I.ok.mod.kin J1 J2.type (by simp [PySem.W.notFirst]) hs hf ?_
  have rr : Vals [V.ref p, V.ref q] [Value.ref p, Value.ref q] := .cons rfl (.cons rfl .nil)
  rw [← hl] at hsp
  refine wpAny_call (codeAny_mono (F.run hr hgd I.env0 rr hsp) fun res t hres => ?_)
  cases res with
  | error er =>
    obtain ⟨_, _, _, _, _, _, _, _, _, _, _, _, z⟩ := hres
    exact z.elim
  | ok fl =>
    cases fl with
    | ret w =>
      obtain ⟨z, H', I', rz, ⟨tb, ez⟩, ex⟩ := I.after hres
      subst ez
      cases rz
      exact ⟨.bl tb, H', I', rfl, ex⟩
    | next => exact hres.elim
    | brk => exact hres.elim
    | cont => exact hres.elim
theorem tOpC_of {K : PySem.W.Frag} {mg : Str → Option Value} {W : WX} {σ : L2.St} {H : Hp} {Q : VK} (hm : mg (Str.ofString c) = some (.ref C)) (h : tM K mg W (eEqC c m ma mb) σ H Q) : tOp (rEqC K mg C m) (tM K mg W ma) (tM K mg W mb) σ H Q := by
  refine tM_seq h fun d1 x μ1 env st1 H1 r1 re1 h1 a1 => ?_
  refine ⟨μ1, env, st1, r1, re1, (Aft.bind a1).imp fun d2 st2 μ2 H2 x2 r2 a2 y h2 => ?_⟩
  split at a2
  · rename_i c1 ks1 vs1 c2 ks2 vs2 e1 e2
    split at a2
    · rename_i cc
      obtain ⟨rfl, rfl⟩ := cc
      obtain ⟨p, C1, dx, ws, rfl, g1, l1, hp, _⟩ := ins_at r2 (h1.ext x2) e1
      obtain ⟨q, C2, dy, zs, rfl, g2, l2, hq, _⟩ := ins_at r2 h2 e2
      rw [hm] at g1 g2
      cases g1
      cases g2
      refine ⟨p, q, dx, dy, _, _, rfl, rfl, hp, hq, rfl, μ2, st2, [d1, d2], r2, ⟨_, _, rfl, h1.ext x2, _, [], rfl, h2, rfl⟩, ?_⟩
      refine aft_noEx ((Aft.bind a2).imp fun d st3 μ3 H3 x3 r3 a3 v hv => ?_)
      cases d with
      | bl t =>
        cases hv
        exact ⟨⟨t, rfl⟩, a3 μ3 H3 Ext.refl r3 _ rfl⟩
      | _ => exact a3.elim
    · exact a2.elim
  · exact a2.elim
theorem se_eqC (F : Fn X.prog X.w X.K X.mg X.base k f ps m) (hl : ps.length = 2) (hs : PySem.W.findIn X.K (.ref C) "__eq__" = some (some (.ref f))) (hf : PySem.W.isFn X.K (.ref f) = true) (hr : Room k X.A) (hq : Gd X.A) (hm : X.mg (Str.ofString c) = some (.ref C))
    (ha : SE X a ma) (hb : SE X b mb) (hbm : behindInMarks .Eq b = false := by rfl) : SE X (.Compare a [.Eq] [b] pos) (eEqC c m ma mb) := fun pn xe W tk =>
  PE.imp (pe_cmpR (op_eqC (X := X.tr pn xe) F hl hs hf hr hq) (ha pn xe W tk) (hb pn xe W tk) hbm) fun σ H Q h => tOpC_of hm h
end
/-! ### isinstance with an own class -/
structure ClsF (K : PySem.W.Frag) (mg : Str → Option Value) (c : String) (C : Addr) : Prop where
  at_ : mg (Str.ofString c) = some (.ref C)
  cls : Cls K C
  ha : PySem.W.findIn K (.ref C) "__class__" = some (some (.builtin "object.__class__"))
  hn : PySem.W.specialIn K (.builtin "object.__class__") "__get__" = some (some (.builtin "getset_descriptor.__get__"))
  htk : PySem.W.takesIn K (.builtin "object.__class__") = some true
  hm : PySem.W.mroIn K C (.type "object") = some true
  ty : PySem.W.typeIn K (.ref C) = some (.type "type")
/-- the mro of built-in data holds no own class -/
theorem mro_tuple : PySem.fastBuiltinMro "tuple" = some [.type "tuple", .type "object"] := by kernel_rfl
theorem mro_str : PySem.fastBuiltinMro "str" = some [.type "str", .type "object"] := by kernel_rfl
theorem sub_tuple {K : PySem.W.Frag} {C : Addr} : PySem.W.subIn K (.type "tuple") (.ref C) = some false := by
  show (PySem.fastBuiltinMro "tuple").map (·.contains (.ref C)) = _
  rw [mro_tuple]
  rfl
theorem sub_str {K : PySem.W.Frag} {C : Addr} : PySem.W.subIn K (.type "str") (.ref C) = some false := by
  show (PySem.fastBuiltinMro "str").map (·.contains (.ref C)) = _
  rw [mro_str]
  rfl
theorem ClsF.kit {K : PySem.W.Frag} {mg : Str → Option Value} {c : String} {C : Addr} (F : ClsF K mg c C) {T : String} (h : PySem.W.subIn K (.type T) (.ref C) = some false) : PySem.W.kitOne K (.type T) (.ref C) = some false := by
  have e : (PySem.W.clsIn K C).isSome = true := by
    have z := F.hm
    unfold PySem.W.mroIn at z
    cases q : PySem.W.clsIn K C with
    | none => rw [q] at z; cases z
    | some => rfl
  unfold PySem.W.kitOne
  rw [if_neg (show ¬ (Value.type T == Value.ref C) = true from fun z => by cases beq_iff_eq.mp z)]
  show (if ((PySem.W.clsIn K C).isSome && PySem.W.typeIn K (.ref C) == some (.type "type")) = true then PySem.W.subIn K (.type T) (.ref C) else none) = _
  rw [e, F.ty, if_pos (by rw [Bool.true_and]; exact beq_self_eq_true _)]
  exact h
/-- isinstance(e, c): an instance of c itself, or of a built-in type -/
def fIsiC (c : String) : BF := fun st ds => match ds with
  | [d, .cls c'] => if c' = c then (match insOf st d with
    | some (c2, _, _) => if c2 = c then some (.bl true) else none
    | none => (match d with
      | .tup _ => some (.bl false)
      | .str _ => some (.bl false)
      | _ => none)) else none
  | _ => none
section
variable {X : Cx} {K : PySem.W.Frag} {mg : Str → Option Value} {c : String} {C : Addr} {e : Expr} {es : List Expr} {ma : MA} {p pos : Pos} {x : Str}
theorem se_cls (hg : Gl X x) (hm : X.mg x = some (.ref C)) (hx : x = Str.ofString c := by rfl) (hdb : (x == ("__debug__" : Str)) = false := by decide) : SE X (.Name x pos) (eC (.cls c)) := fun pn xe W tk => by
  refine PE.imp (pe_glob (X := X.tr pn xe) (v := .ref C) hg hm rfl hdb) fun σ H Q h => ?_
  obtain ⟨μ, env, st, r, re, a⟩ := h
  exact a μ H Ext.refl r _ ⟨C, rfl, hx ▸ hm⟩
theorem calld_isiC (F : ClsF K mg c C) : CallD K mg (rIsi K) (fIsiC c) := by
  intro μ H st ds d vs Q r hv e q
  unfold fIsiC at e
  split at e
  · rename_i d1 c'
    split at e
    · rename_i cc
      subst cc
      obtain ⟨v, v2, rfl, h1, C2, rfl, h2⟩ := repL2 hv
      rw [F.at_] at h2
      cases h2
      split at e
      · rename_i c2 ks vs e1
        split at e
        · rename_i cc
          subst cc
          cases e
          obtain ⟨a, C2, dx, ws, rfl, g, l, hh, _⟩ := ins_at r h1 e1
          rw [F.at_] at g
          cases g
          refine ⟨_, _, .ref C, .ref C, true, rfl, .own C, .base (.ins hh F.cls F.ha F.hn F.htk F.hm), ?_, q H _ Ext.refl r rfl⟩
          unfold PySem.W.kitOne
          rw [if_pos (beq_self_eq_true _)]
        · cases e
      · split at e
        · cases e
          obtain ⟨a, xs, rfl, _, hh, _⟩ := h1
          exact ⟨_, _, .type "tuple", .ref C, false, rfl, .own C, .base (.tup hh), F.kit sub_tuple, q H _ Ext.refl r rfl⟩
        · cases e
          cases (show v = V.str (toStr _) from h1)
          exact ⟨_, _, .type "str", .ref C, false, rfl, .own C, .base (.str _), F.kit sub_str, q H _ Ext.refl r rfl⟩
        · cases e
    · cases e
  · cases e
theorem se_isiC (F : ClsF X.K X.mg c C) (hg : Gl X "isinstance") (hm : X.mg "isinstance" = none) (ha : SA X (e :: es) ma)
    (he : starEach (e :: es) X.env = (false, eval e X.env) :: starEach es X.env := by rfl) (hpl : (backTo pos (starEach es X.env)).any (·.1) = false := by rfl) : SE X (.Call (.Name "isinstance" p) (e :: es) [] pos) (eCB (fIsiC c) ma) :=
  se_callB (fun _ _ => call_isi) (calld_isiC F) hg hm PyProof.Rows.boot_isinstance ha (by decide) (by decide) he hpl
end
/-! ### max(a, b, c) -/
def fMax3 : BF := fun _ ds => match ds with
  | [.int i, .int j, .int k] => some (.int (max (max i j) k))
  | _ => none
section
variable {X : Cx} {K : PySem.W.Frag} {mg : Str → Option Value} {e : Expr} {es : List Expr} {ma : MA} {p pos : Pos}
theorem calld_max3 : CallD K mg (rNuC3 nuMax3) fMax3 := by
  intro μ H st ds d vs Q r hv e q
  unfold fMax3 at e
  split at e
  · rename_i i j k
    cases e
    obtain ⟨v, _, e1, h1, v2, _, e2, h2, v3, _, e3, h3, e4⟩ := hv
    cases h1
    cases h2
    cases h3
    subst e1 e2 e3
    cases e4
    refine ⟨_, _, _, .int (max (max i j) k), rfl, ?_, q H _ Ext.refl r rfl⟩
    have h2 : ∀ a b : Int, nuMax2 (.int a) (.int b) = some (.int (max a b)) := fun a b => by
      show some (if decide (a < b) = true then V.int b else V.int a) = some (.int (max a b))
      by_cases c : a < b
      · simp [c, Int.max_eq_right (Int.le_of_lt c)]
      · simp [c, Int.max_eq_left (Int.not_lt.mp c)]
    unfold nuMax3
    rw [h2]
    exact h2 _ _
  · cases e
theorem se_max3 (hc : X.calm = true) (hg : Gl X "max") (hm : X.mg "max" = none) (ha : SA X (e :: es) ma) (he : starEach (e :: es) X.env = (false, eval e X.env) :: starEach es X.env := by rfl) (hpl : (backTo pos (starEach es X.env)).any (·.1) = false := by rfl) : SE X (.Call (.Name "max" p) (e :: es) [] pos) (eCB fMax3 ma) :=
  se_callB (fun pn xe => call_max3Nu (X := X.tr pn xe) hc) calld_max3 hg hm (by decide +kernel) ha (by decide) (by decide) he hpl
end
end T5
namespace T5
open PySem PySem.Spec PyProof.Rows L2
variable [TabC]
theorem fn_mkN {P : Program} {w : World} {K : PySem.W.Frag} {mg : Str → Option Value} {base : Heap} {x qual : Str} {pa : Arguments} {bd : List Stmt} {sc : Scope} {f : Addr} {fd : FuncData} {N ps : List Str} {k n j : Nat} (mb : MS) (hn : N.length = n) (hj : ps.length = j) (F : FunD K x qual pa bd sc [] [] f fd) (S : FnScope N ps sc) (hb : Binds K fd ps [])
    (h : ∀ (cdv : Value) (A : Around) (outer : List Env) (s : Shared) (H : Hp) (E : XK), codeV K f = cdv → Room k (A.deeper (envOfC qual sc s.heap.objs.size f cdv)) → Gd (A.deeper (envOfC qual sc s.heap.objs.size f cdv)) → SSs (cxOf (L2.CX P w) P w K mg base N qual sc f cdv A outer s H E) bd mb) :
    Fn P w K mg base (k + 1) f ps (runF n j mb) := by
  subst hn hj
  exact fn_mk F S hb h
end T5
namespace T5
open PySem PySem.Spec PyProof.Rows L2
variable [TabC]
/-! ### what the top has written: facts beside He's -/
inductive Fx where
  | isc (x : Str)
def Fx.ok (K : PySem.W.Frag) : Fx → Bool
  | .isc x => He.eqO (PySem.W.findIn K (.ref (He.ga K x)) "__class__") (some (some (.builtin "object.__class__"))) && (He.eqO (PySem.W.specialIn K (.builtin "object.__class__") "__get__") (some (some (.builtin "getset_descriptor.__get__"))) &&
      (decide (PySem.W.takesIn K (.builtin "object.__class__") = some true) && (decide (PySem.W.mroIn K (He.ga K x) (.type "object") = some true) && decide (PySem.W.typeIn K (.ref (He.ga K x)) = some (.type "type")))))
theorem isc_ok {K : PySem.W.Frag} {mg : Str → Option Value} {c : String} (g : mg (Str.ofString c) = some (.ref (He.ga K (Str.ofString c)))) (l : Cls K (He.ga K (Str.ofString c))) (h : (Fx.isc (Str.ofString c)).ok K = true) : ClsF K mg c (He.ga K (Str.ofString c)) := by
  obtain ⟨h1, h⟩ := He.ba h
  obtain ⟨h2, h⟩ := He.ba h
  obtain ⟨h3, h⟩ := He.ba h
  obtain ⟨h4, h5⟩ := He.ba h
  exact ⟨g, l, He.eqO_ok h1, He.eqO_ok h2, of_decide_eq_true h3, of_decide_eq_true h4, of_decide_eq_true h5⟩
abbrev AlX : Type := He.AlD × Bool
def obsX (fa : List He.Fa) (fn : List He.DefD) (fx : List Fx) (K : PySem.W.Frag) : AlX := (He.obsD fa fn K, fx.all fun f => f.ok K)
def valX (fn : List He.DefD) : AlX := (He.valD fn, true)
def obsXG (n : Nat) (fa : List He.Fa) (fn : List He.DefD) (fx : List Fx) (g : Addr → Option Obj) : AlX := obsX fa fn fx (He.frG g (He.asD g n))
def hookX (n : Nat) (fa : List He.Fa) (fn : List He.DefD) (fx : List Fx) : PySem.W.Hook where
  α := AlX
  obs := fun s => obsXG n fa fn fx s.heap.get?
  val := fun _ => valX fn
  says := fun _ h => ∃ K : PySem.W.Frag, K.In h ∧ obsX fa fn fx K = valX fn
  of := fun _ _ e => ⟨_, He.frG_in, e⟩
  keeps := fun _ _ _ ⟨K, a, c⟩ k => ⟨K, PySem.W.Frag.In.keeps a k, c⟩
theorem obsX_eq {n : Nat} {fa : List He.Fa} {fn : List He.DefD} {fx : List Fx} {g : Addr → Option Obj} {s : Shared} (h : ∀ a, g a = s.heap.get? a) : obsXG n fa fn fx g = (hookX n fa fn fx).obs s := by
  have e : g = s.heap.get? := funext h
  subst e
  rfl
section
variable {fa : List He.Fa} {fn : List He.DefD} {fx : List Fx} {K : PySem.W.Frag}
theorem says_d (c : obsX fa fn fx K = valX fn) : He.SaysD fa fn K := congrArg (fun z : AlX => z.1) c
theorem says_x (c : obsX fa fn fx K = valX fn) (i : Nat) {f : Fx} (h : fx[i]? = some f := by rfl) : f.ok K = true :=
  List.all_eq_true.mp (show (fx.all fun f => f.ok K) = true from congrArg (fun z : AlX => z.2) c) f (List.mem_of_getElem? h)
end
/-! ### the law's own def -/
theorem rep_ints {K : PySem.W.Frag} {mg : Str → Option Value} {μ : Mu} {H : Hp} : ∀ ns : List Int, RepL K mg μ H (ns.map D.int) (ns.map V.int)
  | [] => rfl
  | n :: ns => ⟨.int n, _, rfl, rfl, rep_ints ns⟩
/-- the script as data: frozen, or a list -/
def isScr (ns : List Int) (d : D) : Prop := d = .scr (ns.map .int) ∨ d = .lst (ns.map .int)
theorem law_spT {K : PySem.W.Frag} {mg : Str → Option Value} {m : MF} {H : Hp} {a : Addr} {ns : List Int} (hT : ∀ p ∈ TabC.T, H p.1 = some (.tbl #[])) (hS : SqL K H a (ns.map V.int)) (h : ∀ d, isScr ns d → ∃ st', m [d] [] = .ok (.bl true) st') :
    spM K mg 1 m [.ref a] H (fun v _ => v = .bl true) (fun _ _ _ => False) := by
  have r : Rel K mg ⟨[], [], TabC.T⟩ H [] := ⟨rfl, List.nodup_nil, fun n o b h1 _ => by simp at h1, fun b hb => by simp at hb, fun b hb => by simp at hb, fun p hp => LamX.TabS.nil (hT p hp), rfl, fun b hb => by simp at hb⟩
  have nz : ∀ u : HO, (∀ ps, u ≠ .tbl ps) → H a = some u → a ∉ (⟨[], [], TabC.T⟩ : Mu) := fun u hu e z => by
    rcases z with z | z | ⟨q, z⟩
    · exact nomatch z
    · exact nomatch z
    · have := hT _ z
      rw [show H (a, q).1 = H a from rfl, e] at this
      exact hu _ (Option.some.inj this)
  have rp : ∃ d, isScr ns d ∧ Rep K mg ⟨[], [], TabC.T⟩ H d (.ref a) := by
    rcases hS with (hS | ⟨o, hS⟩) | hS
    · exact ⟨_, .inr rfl, a, ns.map V.int, rfl, nz _ (fun _ z => HO.noConfusion z) hS, hS, rep_ints ns⟩
    · exact ⟨_, .inl rfl, a, ns.map V.int, rfl, .inl ⟨nz _ (fun _ z => HO.noConfusion z) hS, o, hS⟩, rep_ints ns⟩
    · exact ⟨_, .inl rfl, a, ns.map V.int, rfl, .inr (.inr hS), rep_ints ns⟩
  obtain ⟨d, hd, rp⟩ := rp
  obtain ⟨st', e⟩ := h d hd
  refine ⟨rfl, ⟨[], [], TabC.T⟩, [], [d], r, ⟨_, [], rfl, rp, rfl⟩, ?_⟩
  rw [e]
  intro μ' H' x r' v hv
  exact hv
theorem hidT_of9 {h : Heap} {H : Hp} {b : Addr} {o : Obj} (e : h.get? b = some o) (n : H b = none) : (hidT h H).get? b = some o := hidT_get e n
/-- the law's run: m at the script gives True; cs: code objects and their tables -/
theorem law_run {P : Program} {w : World} {K : PySem.W.Frag} {mg mb : Str → Option Value} {k : Nat} {fa a : Addr} {cs : List (Addr × Addr)} {x : Str} {m : MF} {s1 : Shared} {vs : List Value} {ns : List Int}
    (KX : K.In s1.heap) (hns : s1.heap.Ns mainGlobals mg) (hb : s1.heap.Ns builtinsNs mb) (hbb : ∀ x : Str, x ≠ "__name__" → mb x = bootBuiltins x) (hlim : s1.heap.NoLimit) (hg : s1.gens = #[])
    (hT : ∀ p ∈ cs, s1.heap.get? p.2 = some { cls := .none, data := .fields #[] }) (nT : ∀ p ∈ cs, K.lookup p.2 = none) (C : ∀ p ∈ cs, PySem.W.CodeHd s1.heap p.1 p.2) (hTC : ∀ p ∈ TabC.T, ∃ c, (c, p.1) ∈ cs)
    (hbm : ∃ (bm : Addr) (ob : Obj), mg "__builtins__" = some (.ref bm) ∧ bm ≠ builtinsNs ∧ s1.heap.get? bm = some ob ∧ ob.cls = .type "module" ∧ ob.dict = some builtinsNs ∧ ob.data = .plain)
    (ha : s1.heap.get? a = some { cls := .type "list", data := .seq vs.toArray }) (hi : IntsAre vs ns) (hl : ns.length ≤ sizeLine) (hr : Room k callerA)
    (F : ∀ base : Heap, K.In base → base.Ns mainGlobals mg → (∀ p ∈ cs, LamX.TabB base mg p.1 p.2) → Fn P w K mg base k fa [x] m) (hm : ∀ d, isScr ns d → ∃ st', m [d] [] = .ok (.bl true) st') :
    codeAny (model P w) callerA (.call (.ref fa) ⟨[.ref a], []⟩) (fun r s' => r = .ok (.ret (.bool true)) ∧ OldK s1.heap s'.heap ∧ s'.os = s1.os ∧ AllBare s'.gens) s1 := by
  have rv := vals_ints hi
  have tab : ∀ b : Addr, b ∈ cs.map (·.2) → s1.heap.get? b = some { cls := .none, data := .fields #[] } := fun b z => by
    obtain ⟨p, hp, rfl⟩ := List.mem_map.mp z
    exact hT p hp
  have aNot : a ∉ cs.map (·.2) := fun z => by
    have q := tab a z
    rw [ha] at q
    exact nomatch congrArg Obj.data (Option.some.inj q)
  have inT : ∀ p ∈ cs, p.2 ∈ cs.map (·.2) := fun p hp => List.mem_map.mpr ⟨p, hp, rfl⟩
  have go : ∀ H : Hp, (∀ p ∈ cs, H p.2 = some (.tbl #[])) → (∀ b, H b = none ∨ b ∈ cs.map (·.2) ∨ ∃ o xs, H b = some (.frz o (.lst xs))) → SqL K H a (ns.map V.int) → HOk P w H s1.heap → (∀ b, H b ≠ none → b = a ∨ b ∈ cs.map (·.2)) → (H a ≠ none → K.lookup a = none) →
      codeAny (model P w) callerA (.call (.ref fa) ⟨[.ref a], []⟩) (fun r s' => r = .ok (.ret (.bool true)) ∧ OldK s1.heap s'.heap ∧ s'.os = s1.os ∧ AllBare s'.gens) s1 := by
    intro H hH hO hS hok hA hK
    -- what is neither the script nor a table isn't tracked
    have un : ∀ {b : Addr} {o : Obj}, s1.heap.get? b = some o → (∀ us n, o.data ≠ .seq us n) → o.data ≠ .fields #[] → H b = none := fun {b o} e n1 n2 => by
      cases q : H b with
      | none => rfl
      | some u =>
        rcases hA b (by rw [q]; exact fun z => nomatch z) with z | z
        · rw [z, ha] at e
          cases e
          exact absurd rfl (n1 _ _)
        · rw [tab b z] at e
          cases e
          exact absurd rfl n2
    have unD : ∀ {b : Addr} {o : Obj} {es : Array DictEntry} {ep : Nat}, s1.heap.get? b = some o → o.data = .dict es ep → H b = none := fun {b o es ep} e d => un e (fun us n z => by rw [d] at z; cases z) fun z => by rw [d] at z; cases z
    have ns2 : ∀ {b : Addr} {f : Str → Option Value}, s1.heap.Ns b f → (hidT s1.heap H).Ns b f := fun {b f} ⟨o, es, ep, e, d, r⟩ => ⟨o, es, ep, hidT_of9 e (unD e d), d, r⟩
    have hKb : K.In (hidT s1.heap H) := fun b o e => hidT_of9 (KX b o e) (by
      cases q : H b with
      | none => rfl
      | some u =>
        rcases hA b (by rw [q]; exact fun z => nomatch z) with z | z
        · rw [z] at e q
          have w0 := hK (by rw [q]; exact fun z => nomatch z)
          rw [w0] at e
          cases e
        · obtain ⟨p, hp, rfl⟩ := List.mem_map.mp z
          rw [nT p hp] at e
          cases e)
    have hM : L2.Mod K mg (hidT s1.heap H) := ⟨hKb, ns2 hns, ⟨mb, ns2 hb, hbb⟩, let ⟨mc, l1, l2⟩ := hlim; ⟨mc, ns2 l1, l2⟩⟩
    have TB : ∀ p ∈ cs, LamX.TabB (hidT s1.heap H) mg p.1 p.2 := fun p hp => by
      have at0 := hT p hp
      refine ⟨?_, ?_, fun z => ?_⟩
      · obtain ⟨o, us, file, tf, flags, tg, inF, text, tt, e1, r1, r2, r3, r4, r5, r6, r7, r8, hne⟩ := C p hp
        refine ⟨o, us, file, tf, flags, tg, inF, text, tt, hidT_of9 e1 (un e1 (fun us n z => by rw [r2] at z; cases z) fun z => ?_), r1, r2, r3, r4, r5, r6, r7, r8, hne⟩
        rw [r2] at z
        cases z
        simp at r3
      · obtain ⟨bm, ob, b1, b2, b3, b4, b5, b6⟩ := hbm
        have g0 : bm ≠ mainGlobals := fun q => by
          obtain ⟨o, es, ep, e, hd, _⟩ := hns
          rw [q, e] at b3
          cases b3
          rw [hd] at b6
          cases b6
        have p0 : bm ≠ p.2 := fun q => by
          rw [q, at0] at b3
          cases b3
          cases b6
        exact ⟨bm, ob, b1, b2, g0, p0, hidT_of9 b3 (un b3 (fun us n z => by rw [b6] at z; cases z) fun z => by rw [b6] at z; cases z), b4, b5, b6⟩
      · obtain ⟨o, es, ep, e, hd, _⟩ := hns
        rw [z, at0] at e
        cases e
        cases hd
    have e0 : Env0 P w K mg (hidT s1.heap H) callerA [] s1 H := ⟨rfl, hM, fun b o e => of_hidT e, Nat.le_of_eq (hidT_size _ _), trivial, fun b hb => absurd (show b ∈ ([] : List Addr) from hb) (by simp), hok, .of_eq hg⟩
    have hT2 : ∀ p ∈ TabC.T, H p.1 = some (.tbl #[]) := fun p hp => by
      obtain ⟨c, hc⟩ := hTC p hp
      exact hH _ hc
    refine codeAny_mono ((F _ hKb (ns2 hns) TB).run hr rfl e0 (us := [Value.ref a]) (vs := [V.ref a]) (.cons rfl .nil) (law_spT hT2 hS hm)) fun r s' h => ?_
    cases r with
    | error e =>
      obtain ⟨_, _, _, _, _, _, _, _, _, _, _, _, z⟩ := h
      exact z.elim
    | ok fl =>
      cases fl with
      | next => exact False.elim h
      | brk => exact False.elim h
      | cont => exact False.elim h
      | ret u =>
        obtain ⟨v, H', os, bare, kept, hok', r', q⟩ := h
        obtain rfl : v = .bl true := q
        obtain rfl : u = Value.bool true := r'
        have key : ∀ b o, b ∉ cs.map (·.2) → s1.heap.get? b = some o → s'.heap.get? b = some o := fun b o nb e => by
          cases q : H b with
          | none => exact kept.keep b o e q (fun z => nomatch (show b ∈ ([] : List Addr) from z)) (fun z => nomatch z)
          | some u =>
            rcases hO b with z | z | ⟨ob, xs, z⟩
            · rw [q] at z; cases z
            · exact absurd z nb
            · obtain ⟨e1, _⟩ := hok b _ z
              obtain ⟨e2, _⟩ := hok' b _ (kept.frzs b ob _ z)
              rw [e] at e1; cases e1
              exact e2
        have grown : ∀ p ∈ cs, ∃ more : Array Value, s'.heap.get? p.2 = some { cls := .none, data := .fields more } := fun p hp => by
          obtain ⟨more, z⟩ := kept.tbls p.2 #[] (hH p hp)
          exact ⟨_, hok' p.2 _ z⟩
        refine ⟨rfl, ⟨fun b o e => ?_, fun b o e => ?_⟩, os, bare⟩
        · by_cases hb : b ∈ cs.map (·.2)
          · obtain ⟨p, hp, rfl⟩ := List.mem_map.mp hb
            obtain ⟨more, hmo⟩ := grown p hp
            rw [hT p hp] at e
            cases e
            exact .inr (.inl ⟨((C p hp).tab (hT p hp)).isCodeTable, rfl, #[], more, rfl, by rw [Array.empty_append]; exact hmo⟩)
          · exact .inl (key b o hb e)
        · by_cases hb : b ∈ cs.map (·.2)
          · obtain ⟨p, hp, rfl⟩ := List.mem_map.mp hb
            obtain ⟨more, hmo⟩ := grown p hp
            exact ⟨_, hmo⟩
          · exact ⟨o, key b o hb e⟩
  cases hk : K.lookup a with
  | some o =>
    have e := KX a o hk
    rw [ha] at e
    cases e
    refine go (fun b => if b ∈ cs.map (·.2) then some (.tbl #[]) else none) (fun p hp => if_pos (inT p hp)) (fun b => ?_) (.inr ⟨_, vs.toArray, _, hk, rfl, rfl, rfl, by rw [List.size_toArray, hi.length]; exact hl, by simpa using rv⟩) (fun b u z => ?_) (fun b z => ?_) fun z => absurd (show (if a ∈ cs.map (·.2) then some (HO.tbl #[]) else none) = none from if_neg aNot) z
    · by_cases hb : b ∈ cs.map (·.2)
      · exact .inr (.inl hb)
      · exact .inl (if_neg hb)
    · by_cases hb : b ∈ cs.map (·.2)
      · have z' := (if_pos hb).symm.trans z
        cases z'
        exact tab b hb
      · exact nomatch (if_neg hb).symm.trans z
    · by_cases hb : b ∈ cs.map (·.2)
      · exact .inr hb
      · exact absurd (if_neg hb) z
  | none =>
    refine go (fun b => if b = a then some (.frz { cls := .type "list", data := .seq vs.toArray } (.lst (ns.map V.int))) else if b ∈ cs.map (·.2) then some (.tbl #[]) else none) (fun p hp => (if_neg (fun z => aNot (by rw [← z]; exact inT p hp))).trans (if_pos (inT p hp))) (fun b => ?_)
      (.inl (.inr ⟨{ cls := .type "list", data := .seq vs.toArray }, if_pos rfl⟩)) (fun b u z => ?_) (fun b z => ?_) fun _ => hk
    · by_cases hb : b = a
      · exact .inr (.inr ⟨_, _, if_pos hb⟩)
      · by_cases hb2 : b ∈ cs.map (·.2)
        · exact .inr (.inl hb2)
        · exact .inl ((if_neg hb).trans (if_neg hb2))
    · by_cases hb : b = a
      · have z' := (if_pos hb).symm.trans z
        cases z'
        rw [hb]
        exact ⟨ha, by rw [List.length_map]; exact hl, vs, _, rv, ha⟩
      · have z1 := (if_neg hb).symm.trans z
        by_cases hb2 : b ∈ cs.map (·.2)
        · have z' := (if_pos hb2).symm.trans z1
          cases z'
          exact tab b hb2
        · exact nomatch (if_neg hb2).symm.trans z1
    · by_cases hb : b = a
      · exact .inl hb
      · by_cases hb2 : b ∈ cs.map (·.2)
        · exact .inr hb2
        · exact absurd ((if_neg hb).trans (if_neg hb2)) z
/-- the law's end -/
theorem walk_ofX {l : PySem.W.OpenLaw} {n k : Nat} {q : Program} {loose : List Str} {XP : (Str → Option Value) → Heap → Prop} {YP : World → Heap → Prop} {d : DefRec} {x : Str}
    (hn : l.most = some n) (hn2 : n ≤ sizeLine) (hdf : d.params.defaults = []) (hr : Room k callerA)
    (F : ∀ (w : World) (mg : Str → Option Value) (fa : Addr) (h : Heap), YP w h → h.Ns mainGlobals mg → mg d.name = some (.ref fa) →
      ∃ (T : TabC) (K : PySem.W.Frag) (m : MF) (cs : List (Addr × Addr)), K.In h ∧ (∀ p ∈ cs, h.get? p.2 = some { cls := .none, data := .fields #[] }) ∧ (∀ p ∈ cs, K.lookup p.2 = none) ∧ (∀ p ∈ cs, PySem.W.CodeHd h p.1 p.2) ∧ (∀ p ∈ T.T, ∃ c, (c, p.1) ∈ cs) ∧
        (∀ ns : List Int, ns.length ≤ n → ∀ d, isScr ns d → ∃ st', m [d] [] = .ok (.bl true) st') ∧
        ∀ base : Heap, K.In base → base.Ns mainGlobals mg → (∀ p ∈ cs, LamX.TabB base mg p.1 p.2) → @Fn T l.prog w K mg base k fa [x] m) :
    PySem.W.WalkO q loose XP YP l.row.toRowW d [] (fun f vs => PySem.call f vs) := by
  refine Att.attach_call hn hdf fun w s0 s1 mg mb fa o pm cd doc a vs ns G Y ho hd hcd hmg hobj hints hlen hg => ?_
  obtain ⟨T, K, m, cs, KX, hT, nT, C, hTC, hm, hF⟩ := F w mg fa _ Y G.T.g hmg
  exact @law_run T _ _ _ _ _ _ _ _ _ _ _ _ _ _ KX G.T.g G.T.b G.T.builtins G.T.nolimit hg hT nT C hTC G.T.bmain hobj hints (Nat.le_trans hlen hn2) hr hF (hm ns hlen)
end T5
namespace T5
open PySem PySem.Spec PyProof.Rows L2
/-- no tables, where nothing else is said -/
instance (priority := low) noTab : TabC := ⟨[]⟩
/-! ### reckoning: what each form comes to, when env and store are given -/
section
variable {env : DEnv} {st : Store} {ma mb mc m mo mi mv : ME} {a b c : MS} {ca cb cc : MT} {as : MA} {g : MG0} {gs : MGs0} {n : Nat}
@[simp] theorem q_var {i : Nat} {d : D} (h : env[i]? = some (some d)) : eVar i env st = .ok d st := by unfold eVar; rw [h]
@[simp] theorem q_c {d : D} : eC d env st = .ok d st := rfl
@[simp] theorem q_seq : sSeq a b env st = (a env st).seq b := rfl
@[simp] theorem q_asg : sAsg m g env st = (m env st).toS env fun d st1 => match g d env with
  | some e => .nx e st1
  | none => .bad := rfl
@[simp] theorem q_pass : sPass env st = .nx env st := rfl
@[simp] theorem q_ret : sRet m env st = (m env st).toS env fun d st1 => .rt d st1 := rfl
@[simp] theorem q_retN : sRetN env st = .rt .non st := rfl
@[simp] theorem q_exp : sExp m env st = (m env st).toS env fun _ st1 => .nx env st1 := rfl
@[simp] theorem q_if : sIf cc a b env st = (cc env st).toS env fun d st1 => if d = true then a env st1 else b env st1 := rfl
@[simp] theorem q_never : sNever env st = .bad := rfl
@[simp] theorem q_brk : sBrk env st = .bk env st := rfl
@[simp] theorem q_for {mi : MI} : sFor mi g b env st = (mi env st).toS env fun ds st1 => loopS g b ds env st1 := rfl
@[simp] theorem q_gN {i : Nat} {d : D} : gN i d env = some (env.set i (some d)) := rfl
@[simp] theorem q_gTt {l : List D} : gT gs (.tup l) env = gs l env := rfl
@[simp] theorem q_gsN : gsNil [] env = some env := rfl
@[simp] theorem q_gsC {d : D} {l : List D} : gsCons g gs (d :: l) env = (g d env).bind fun e => gs l e := rfl
@[simp] theorem q_bin {f : BO} : eBin f ma mb env st = (ma env st).bind fun d1 st1 => (mb env st1).bind fun d2 st2 => ofO (f st2 d1 d2) st2 := rfl
@[simp] theorem q_chain {f f' : BO} : eChain f f' ma mb mc env st = (ma env st).bind fun d1 st1 => (mb env st1).bind fun d2 st2 => (ofO (f st2 d1 d2) st2).bind fun z st2' => match z with
  | .bl true => (mc env st2').bind fun d3 st3 => ofO (f' st3 d2 d3) st3
  | .bl false => .ok (.bl false) st2'
  | _ => .bad := rfl
@[simp] theorem q_cb {f : BF} : eCB f as env st = (as env st).bind fun ds st1 => ofO (f st1 ds) st1 := rfl
@[simp] theorem q_call {f : MF} : eCall f as env st = (as env st).bind fun ds st1 => f ds st1 := rfl
@[simp] theorem q_anil : aNil env st = .ok [] st := rfl
@[simp] theorem q_acons : aCons m as env st = (m env st).bind fun d st1 => (as env st1).bind fun ds st2 => .ok (d :: ds) st2 := rfl
@[simp] theorem q_tup : eTup as env st = (as env st).bind fun ds st1 => if ds.length ≤ 1000 then .ok (.tup ds) st1 else .bad := rfl
@[simp] theorem q_lst : eLst as env st = (as env st).bind fun ds st1 => if ds.length ≤ 1000 then .ok (.lst ds) st1 else .bad := rfl
@[simp] theorem q_lstM : eLstM as env st = (as env st).bind fun ds st1 => if ds.length ≤ 1000 then .ok (.obj st1.length) (st1 ++ [.lst ds]) else .bad := rfl
@[simp] theorem q_cTru : cTru m env st = (m env st).bind fun d st1 => ofO (bTru st1 d) st1 := rfl
@[simp] theorem q_cBool : cBool m env st = (m env st).bind fun d st1 => match d with
  | .bl b => .ok b st1
  | _ => .bad := rfl
@[simp] theorem q_cAnd : cAnd ca cb env st = (ca env st).bind fun c st1 => if c = true then cb env st1 else .ok false st1 := rfl
@[simp] theorem q_cOr : cOr ca cb env st = (ca env st).bind fun c st1 => if c = true then .ok true st1 else cb env st1 := rfl
@[simp] theorem q_cNot : cNot ca env st = (ca env st).bind fun c st1 => .ok (!c) st1 := rfl
@[simp] theorem q_eAnd : eAnd ma mb env st = (ma env st).bind fun d st1 => match d with
  | .bl true => mb env st1
  | .bl false => .ok (.bl false) st1
  | _ => .bad := rfl
@[simp] theorem q_eOr : eOr ma mb env st = (ma env st).bind fun d st1 => match d with
  | .bl true => .ok (.bl true) st1
  | .bl false => mb env st1
  | _ => .bad := rfl
@[simp] theorem q_eNot : eNot m env st = (m env st).bind fun d st1 => match d with
  | .bl b => .ok (.bl (!b)) st1
  | _ => .bad := rfl
@[simp] theorem q_eIf : eIf cc ma mb env st = (cc env st).bind fun d st1 => if d = true then ma env st1 else mb env st1 := rfl
@[simp] theorem q_mth {f : MethF} : eMthL f mo as env st = (mo env st).bind fun d st1 => if (lstOf st1 d).isSome = true then (as env st1).bind fun ds st2 => (match f st2 d ds with
  | some (d', st3) => .ok d' st3
  | none => .bad) else .bad := rfl
@[simp] theorem q_set : sSet mv mo mi env st = (mv env st).toS env fun v st1 => (mo env st1).toS env fun o st2 => (mi env st2).toS env fun i st3 => match bSet st3 o i v with
  | some st4 => .nx env st4
  | none => .bad := rfl
@[simp] theorem q_aug {i : Nat} {f : BO} {d : D} (h : env[i]? = some (some d)) : sAug i f m env st = (m env st).toS env fun d2 st1 => (match f st1 d d2 with
  | some d3 => .nx (env.set i (some d3)) st1
  | none => .bad) := by unfold sAug; rw [h] <;> rfl
@[simp] theorem q_par2 {i j : Nat} : sPar2 i j as env st = (as env st).toS env fun ds st1 => match ds with
  | [a, b] => .nx ((env.set i (some a)).set j (some b)) st1
  | _ => .bad := rfl
@[simp] theorem q_par3 {i j k : Nat} : sPar3 i j k as env st = (as env st).toS env fun ds st1 => match ds with
  | [a, b, c] => .nx (((env.set i (some a)).set j (some b)).set k (some c)) st1
  | _ => .bad := rfl
@[simp] theorem q_oN : oNone env st = .ok none st := rfl
@[simp] theorem q_oS : oSome m env st = (m env st).bind fun d st1 => match d with
  | .int i => .ok (some i) st1
  | _ => .bad := rfl
@[simp] theorem q_sl {lo hi : MO} : eSl m lo hi env st = (m env st).bind fun d st1 => (lo env st1).bind fun l st2 => (hi env st2).bind fun h st3 => ofO (bSl st3 d l h) st3 := rfl
@[simp] theorem q_iSeqT {l : List D} (h : m env st = .ok (.tup l) st) : iSeq m env st = .ok l st := by unfold iSeq; rw [h]; rfl
@[simp] theorem q_iSeqL {l : List D} (h : m env st = .ok (.lst l) st) : iSeq m env st = .ok l st := by unfold iSeq; rw [h]; rfl
@[simp] theorem q_cYes : cYes env st = .ok true st := rfl
/-! operators -/
variable {i j : Int}
@[simp] theorem v_addI : bAdd st (.int i) (.int j) = some (.int (i + j)) := rfl
@[simp] theorem v_addI' : bAddI st (.int i) (.int j) = some (.int (i + j)) := rfl
@[simp] theorem v_subI : bSub st (.int i) (.int j) = some (.int (i - j)) := rfl
@[simp] theorem v_modI : bMod st (.int i) (.int j) = if j ≠ 0 then some (.int (i.fmod j)) else none := rfl
@[simp] theorem v_lt : bLt st (.int i) (.int j) = some (.bl (decide (i < j))) := rfl
@[simp] theorem v_le : bLe st (.int i) (.int j) = some (.bl (decide (i ≤ j))) := rfl
@[simp] theorem v_gt : bGt st (.int i) (.int j) = some (.bl (decide (j < i))) := rfl
@[simp] theorem v_ge : bGe st (.int i) (.int j) = some (.bl (decide (j ≤ i))) := rfl
@[simp] theorem v_eqI : bEq st (.int i) (.int j) = some (.bl (decide (i = j))) := by
  show some (D.bl (i == j)) = _
  rfl
@[simp] theorem v_neI : bNe st (.int i) (.int j) = some (.bl (!decide (i = j))) := by
  show some (D.bl (!(i == j))) = _
  rfl
@[simp] theorem v_max : fMax st [.int i, .int j] = some (.int (maxI i j)) := rfl
@[simp] theorem v_min : fMin st [.int i, .int j] = some (.int (minI i j)) := rfl
@[simp] theorem v_int : fInt st [.int i] = some (.int i) := rfl
@[simp] theorem v_isi {d : D} {T : String} : fIsi st [d, .ty T] = (tyD st d).bind fun t => (kitB t T).map .bl := rfl
@[simp] theorem v_ixT {l : List D} {i : Int} : bIx st (.tup l) (.int i) = atI l i := rfl
@[simp] theorem v_ixL {l : List D} {i : Int} : bIx st (.lst l) (.int i) = atI l i := rfl
end
@[simp] theorem opt_bind_some {α β : Type} {a : α} {f : α → Option β} : (some a).bind f = f a := rfl
/-- a loop by an invariant -/
theorem loop_inv {g : MG0} {b : MS} (I : Nat → DEnv → Store → Prop) : ∀ {ds : List D} {k : Nat} {env : DEnv} {st : Store}, I k env st →
    (∀ i d env st, ds[i]? = some d → I (k + i) env st → ∃ e1, g d env = some e1 ∧ ∃ e2 st2, (b e1 st = .nx e2 st2 ∨ b e1 st = .ct e2 st2) ∧ I (k + i + 1) e2 st2) → ∃ e' st', loopS g b ds env st = .nx e' st' ∧ I (k + ds.length) e' st'
  | [], k, env, st, h, _ => ⟨env, st, rfl, h⟩
  | d :: ds, k, env, st, h, f => by
    obtain ⟨e1, h1, e2, st2, h2, h3⟩ := f 0 d env st rfl h
    obtain ⟨e', st', h4, h5⟩ := loop_inv I (ds := ds) (k := k + 1) (env := e2) (st := st2) h3 fun i d env st hi hI => by
      have q := f (i + 1) d env st hi (by rw [show k + (i + 1) = k + 1 + i by omega]; exact hI)
      rw [show k + (i + 1) + 1 = k + 1 + i + 1 by omega] at q
      exact q
    refine ⟨e', st', ?_, by rw [show k + (d :: ds).length = k + 1 + ds.length by simp; omega]; exact h5⟩
    unfold loopS
    rw [h1]
    rcases h2 with h2 | h2
    · show (b e1 st).loop _ = _
      rw [h2]
      exact h4
    · show (b e1 st).loop _ = _
      rw [h2]
      exact h4
end T5
namespace T5
open PySem PySem.Spec PyProof.Rows L2
section
variable {st : Store} {env : DEnv}
theorem lc_map {F : D → D} {g : MG0} {ct : MT} {me : ME} : ∀ {ds acc : List D}, (∀ d ∈ ds, ∃ e1, g d env = some e1 ∧ ct e1 st = .ok true st ∧ me e1 st = .ok (F d) st) → acc.length + ds.length ≤ cap → lcLoop g ct me env ds acc st = .ok (acc ++ ds.map F) st
  | [], acc, _, _ => by simp [lcLoop]
  | d :: ds, acc, h, hl => by
    obtain ⟨e1, h1, h2, h3⟩ := h d (List.mem_cons_self ..)
    have hl2 : acc.length ≤ cap := by simp at hl; omega
    unfold lcLoop
    rw [h1]
    simp only [h2, h3, bind_ok, if_true, if_pos hl2]
    rw [lc_map (ds := ds) (acc := acc ++ [F d]) (fun d hd => h d (List.mem_cons_of_mem _ hd)) (by simp at hl ⊢; omega)]
    simp
/-- plain data: no truth values, short texts of true signs, not deep -/
def okS (s : List Nat) : Bool := s.all (· < 0x110000)
theorem shaped_str {s : List Nat} (h : okS s = true) : SeqAt.shaped (.str (toStr s)) = true := by
  unfold SeqAt.shaped
  simp [PyData.canLay0, PyData.depth, PyData.strOk, toStr]
  simpa [okS] using h
theorem dEq_S {a b : List Nat} (ha : okS a = true) (hb : okS b = true) : dEq st (.str a) (.str b) = some (decide (a = b)) := rfl
theorem o_eqStr (a b : List Nat) : bEq st (.str a) (.str b) = some (.bl (decide (a = b))) := rfl
theorem o_neStr (a b : List Nat) : bNe st (.str a) (.str b) = some (.bl (!decide (a = b))) := rfl
@[simp] theorem v_eqS {a b : List Nat} (ha : okS a = true) (hb : okS b = true) : bEq st (.str a) (.str b) = some (.bl (decide (a = b))) := by unfold bEq; rw [dEq_S ha hb]; rfl
@[simp] theorem v_neS {a b : List Nat} (ha : okS a = true) (hb : okS b = true) : bNe st (.str a) (.str b) = some (.bl (!decide (a = b))) := by unfold bNe; rw [dEq_S ha hb]; rfl
theorem py0_ints : ∀ l : List Int, py0L (l.map D.int) = some (l.map PyData.int)
  | [] => rfl
  | i :: l => by simp [py0L, py0, py0_ints l]
theorem ints_lay : ∀ l : List Int, PyData.canLayAll0 (l.map PyData.int) = true ∧ PyData.depthAll (l.map PyData.int) = 0
  | [] => by simp [PyData.canLayAll0, PyData.depthAll]
  | i :: l => by simp [PyData.canLayAll0, PyData.depthAll, PyData.canLay0, PyData.depth, ints_lay l]
theorem ints_eqv : ∀ a b : List Int, PyData.eqvAll (a.map PyData.int) (b.map PyData.int) = decide (a = b)
  | [], [] => by simp [PyData.eqvAll]
  | [], _ :: _ => by simp [PyData.eqvAll]
  | _ :: _, [] => by simp [PyData.eqvAll]
  | i :: a, j :: b => by
    simp only [List.map_cons, PyData.eqvAll, PyData.eqv, ints_eqv a b]
    by_cases h : i = j <;> by_cases h2 : a = b <;> simp [h, h2]
theorem dEq_tupI (a b : List Int) : dEq st (.tup (a.map .int)) (.tup (b.map .int)) = some (decide (a = b)) := by
  show dEq0 st _ _ = _
  unfold dEq0
  have sh : ∀ l : List Int, SeqAt.shaped (.tuple (l.map PyData.int)) = true := fun l => by
    unfold SeqAt.shaped
    simp [PyData.canLay0, PyData.depth, ints_lay l]
  simp only [py, py0, py0_ints, Option.map_some, opt_bind_some, sh, and_self, if_true]
  simp [PyData.eqv, ints_eqv]
@[simp] theorem v_eqTI (a b : List Int) : bEq st (.tup (a.map .int)) (.tup (b.map .int)) = some (.bl (decide (a = b))) := by unfold bEq; rw [dEq_tupI]; rfl
@[simp] theorem v_lenT {l : List D} : fLen st [.tup l] = some (.int l.length) := rfl
@[simp] theorem v_lenL {l : List D} : fLen st [.lst l] = some (.int l.length) := rfl
@[simp] theorem q_rng1 {as : MA} {j : Int} (h : as env st = .ok [.int j] st) (h1 : -(2 ^ 62) ≤ j ∧ j < 2 ^ 62) : iRng1 as env st = .ok (upTo 0 j.toNat) st := by
  unfold iRng1
  rw [h]
  simp only [bind_ok, if_pos h1]
theorem upTo_get {n i : Nat} {d : D} (h : (upTo 0 n)[i]? = some d) : d = .int i ∧ i < n := by
  unfold upTo at h
  rw [List.getElem?_map] at h
  obtain ⟨a, h1, h2⟩ := Option.map_eq_some_iff.mp h
  obtain ⟨h3, h4⟩ := List.getElem?_eq_some_iff.mp h1
  simp at h3 h4
  subst h4
  exact ⟨by rw [← h2]; simp, h3⟩
@[simp] theorem q_all {l : List D} {bs : List Bool} (h : blsD l = some bs) : fAll st [.lst l] = some (.bl (bs.all id)) := by
  unfold fAll
  simp [h]
@[simp] theorem q_tuple {l : List D} : fTuple st [.lst l] = some (.tup l) := rfl
@[simp] theorem q_tuple' {l : List D} : fTuple st [.tup l] = some (.tup l) := rfl
theorem blsD_map {α : Type} (l : List α) (f : α → Bool) : blsD (l.map fun a => D.bl (f a)) = some (l.map f) := by
  induction l with
  | nil => rfl
  | cons a l ih => simp [blsD, ih]
@[simp] theorem atI_cons0 {d : D} {l : List D} : atI (d :: l) 0 = some d := by
  have : (0 : Int) < l.length + 1 := by omega
  simp [atI, ixN, this]
@[simp] theorem atI_cons1 {d d1 : D} {l : List D} : atI (d :: d1 :: l) 1 = some d1 := by
  have : (1 : Int) < l.length + 1 + 1 := by omega
  simp [atI, ixN, this]
@[simp] theorem atI_cons2 {d d1 d2 : D} {l : List D} : atI (d :: d1 :: d2 :: l) 2 = some d2 := by
  have : (2 : Int) < l.length + 1 + 1 + 1 := by omega
  simp [atI, ixN, this]
theorem atI_nat {l : List D} {i : Nat} {d : D} (h : l[i]? = some d) : atI l (i : Int) = some d := by
  have h1 := (List.getElem?_eq_some_iff.mp h).1
  have h2 : (i : Int) < l.length := by omega
  simp [atI, ixN, h2, h]
end
end T5
namespace T5
open PySem PySem.Spec PyProof.Rows L2
/-! ### what is asked of a run, told forwards -/
def OnR {α : Type} (r : R α) (K : α → Store → Prop) (X : String → List String → List D → Store → Prop) : Prop := match r with
  | .ok a st => K a st
  | .ex c ks vs st => X c ks vs st
  | .bad => False
def OnO {α : Type} (o : Option α) (K : α → Prop) : Prop := ∃ a, o = some a ∧ K a
def OnQ (r : SR) (Q : SR → Prop) : Prop := Q r
def OnB (c : Bool) (P Q : Prop) : Prop := if c = true then P else Q
def Sd (p q : Prop) : Prop := p ∧ q
def SetE (env : DEnv) (i : Nat) (d : D) (K : DEnv → Prop) : Prop := K (env.set i (some d))
def SetS (st : Store) (i : Nat) (o : Ob) (K : Store → Prop) : Prop := K (st.set i o)
def SeqK (b : MS) (Q : SR → Prop) (r : SR) : Prop := match r with
  | .nx e st => OnQ (b e st) Q
  | .bad => False
  | r => Q r
theorem onR_eq {α : Type} {r : R α} {a : α} {st : Store} {K : α → Store → Prop} {X} (h : r = .ok a st) (k : K a st) : OnR r K X := by subst h; exact k
theorem onR_ex {α : Type} {r : R α} {c ks vs} {st : Store} {K : α → Store → Prop} {X} (h : r = .ex c ks vs st) (k : X c ks vs st) : OnR r K X := by subst h; exact k
theorem onO_eq {α : Type} {o : Option α} {a : α} {K : α → Prop} (h : o = some a) (k : K a) : OnO o K := ⟨a, h, k⟩
theorem onB_t {c : Bool} {P Q : Prop} (h : c = true) (p : P) : OnB c P Q := by unfold OnB; rw [if_pos h]; exact p
theorem onB_f {c : Bool} {P Q : Prop} (h : c = false) (q : Q) : OnB c P Q := by unfold OnB; rw [if_neg (by rw [h]; decide)]; exact q
theorem onB_any {c : Bool} {P Q : Prop} (p : c = true → P) (q : c = false → Q) : OnB c P Q := by
  cases c
  · exact q rfl
  · exact p rfl
theorem sd_mk {p q : Prop} (h : p) (k : q) : Sd p q := ⟨h, k⟩
theorem setE_eq {env e1 : DEnv} {i : Nat} {d : D} {K : DEnv → Prop} (h : env.set i (some d) = e1) (k : K e1) : SetE env i d K := by subst h; exact k
theorem setS_eq {st s1 : Store} {i : Nat} {o : Ob} {K : Store → Prop} (h : st.set i o = s1) (k : K s1) : SetS st i o K := by subst h; exact k
theorem seqK_nx {b : MS} {Q : SR → Prop} {e : DEnv} {st : Store} (h : OnQ (b e st) Q) : SeqK b Q (.nx e st) := h
theorem seqK_rt {b : MS} {Q : SR → Prop} {d : D} {st : Store} (h : Q (.rt d st)) : SeqK b Q (.rt d st) := h
theorem seqK_bk {b : MS} {Q : SR → Prop} {e : DEnv} {st : Store} (h : Q (.bk e st)) : SeqK b Q (.bk e st) := h
theorem seqK_ct {b : MS} {Q : SR → Prop} {e : DEnv} {st : Store} (h : Q (.ct e st)) : SeqK b Q (.ct e st) := h
theorem seqK_ex {b : MS} {Q : SR → Prop} {c ks vs} {e : DEnv} {st : Store} (h : Q (.ex c ks vs e st)) : SeqK b Q (.ex c ks vs e st) := h
section
variable {env : DEnv} {st : Store} {ma mb mc m mo mi mv : ME} {a b c : MS} {ca cb cc : MT} {as : MA} {g : MG0} {gs : MGs0} {n : Nat} {X : String → List String → List D → Store → Prop} {Q : SR → Prop}
theorem onR_bind {α β : Type} {r : R α} {f : α → Store → R β} {K : β → Store → Prop} (h : OnR r (fun a st1 => OnR (f a st1) K X) X) : OnR (r.bind f) K X := by
  cases r with
  | ok a st => exact h
  | ex c ks vs st => exact h
  | bad => exact h
theorem onR_imp {α : Type} {r : R α} {K K' : α → Store → Prop} {X' : String → List String → List D → Store → Prop} (h : OnR r K X) (f : ∀ a st, K a st → K' a st) (x : ∀ c ks vs st, X c ks vs st → X' c ks vs st) : OnR r K' X' := by
  cases r with
  | ok a st => exact f _ _ h
  | ex c ks vs st => exact x _ _ _ _ h
  | bad => exact h
theorem onQ_imp {r : SR} {Q' : SR → Prop} (h : OnQ r Q) (f : ∀ r, Q r → Q' r) : OnQ r Q' := f _ h
theorem onR_toS {α : Type} {r : R α} {f : α → Store → SR} (h : OnR r (fun a st1 => OnQ (f a st1) Q) (fun c ks vs st1 => Q (.ex c ks vs env st1))) : OnQ (r.toS env f) Q := by
  cases r with
  | ok a st => exact h
  | ex c ks vs st => exact h
  | bad => exact h.elim
theorem onR_ofO {α : Type} {o : Option α} {K : α → Store → Prop} (h : OnO o fun d => K d st) : OnR (ofO o st) K X := by
  obtain ⟨d, e, k⟩ := h
  rw [e]
  exact k
/-! expressions -/
theorem w_c {d : D} {K} (h : K d st) : OnR (eC d env st) K X := h
theorem w_var {i : Nat} {d : D} {K} (hi : env[i]? = some (some d)) (h : K d st) : OnR (eVar i env st) K X := by
  rw [q_var hi]
  exact h
theorem w_bin {f : BO} {K} (h : OnR (ma env st) (fun d1 st1 => OnR (mb env st1) (fun d2 st2 => OnO (f st2 d1 d2) fun d => K d st2) X) X) : OnR (eBin f ma mb env st) K X := by
  rw [q_bin]
  exact onR_bind (onR_imp h (fun _ _ h => onR_bind (onR_imp h (fun _ _ h => onR_ofO h) fun _ _ _ _ h => h)) fun _ _ _ _ h => h)
theorem w_cb {f : BF} {K} (h : OnR (as env st) (fun ds st1 => OnO (f st1 ds) fun d => K d st1) X) : OnR (eCB f as env st) K X := by
  rw [q_cb]
  exact onR_bind (onR_imp h (fun _ _ h => onR_ofO h) fun _ _ _ _ h => h)
theorem w_call {f : MF} {K} (h : OnR (as env st) (fun ds st1 => OnR (f ds st1) K X) X) : OnR (eCall f as env st) K X := by
  rw [q_call]
  exact onR_bind h
theorem w_nil {K} (h : K [] st) : OnR (aNil env st) K X := h
theorem w_cons {K} (h : OnR (m env st) (fun d st1 => OnR (as env st1) (fun ds st2 => K (d :: ds) st2) X) X) : OnR (aCons m as env st) K X := by
  rw [q_acons]
  exact onR_bind (onR_imp h (fun _ _ h => onR_bind h) fun _ _ _ _ h => h)
theorem w_tup {K} (h : OnR (as env st) (fun ds st1 => Sd (ds.length ≤ 1000) (K (.tup ds) st1)) X) : OnR (eTup as env st) K X := by
  rw [q_tup]
  exact onR_bind (onR_imp h (fun ds _ h => by rw [if_pos h.1]; exact h.2) fun _ _ _ _ h => h)
theorem w_lst {K} (h : OnR (as env st) (fun ds st1 => Sd (ds.length ≤ 1000) (K (.lst ds) st1)) X) : OnR (eLst as env st) K X := by
  rw [q_lst]
  exact onR_bind (onR_imp h (fun ds _ h => by rw [if_pos h.1]; exact h.2) fun _ _ _ _ h => h)
theorem w_lstM {K} (h : OnR (as env st) (fun ds st1 => Sd (ds.length ≤ 1000) (K (.obj st1.length) (st1 ++ [.lst ds]))) X) : OnR (eLstM as env st) K X := by
  rw [q_lstM]
  exact onR_bind (onR_imp h (fun ds _ h => by rw [if_pos h.1]; exact h.2) fun _ _ _ _ h => h)
theorem w_eif {K} (h : OnR (cc env st) (fun c st1 => OnB c (OnR (ma env st1) K X) (OnR (mb env st1) K X)) X) : OnR (eIf cc ma mb env st) K X := by
  rw [q_eIf]
  exact onR_bind (onR_imp h (fun c _ h => by unfold OnB at h; split at h <;> rename_i z <;> simp only [z, if_true, if_false, Bool.false_eq_true] <;> exact h) fun _ _ _ _ h => h)
theorem w_neg {K} (h : OnR (m env st) (fun d st1 => ∃ i, d = .int i ∧ K (.int (-i)) st1) X) : OnR (eNeg m env st) K X := by
  show OnR ((m env st).bind _) K X
  exact onR_bind (onR_imp h (fun d _ ⟨i, e, h⟩ => by subst e; exact h) fun _ _ _ _ h => h)
/-! tests -/
theorem w_tru {K} (h : OnR (m env st) (fun d st1 => OnO (bTru st1 d) fun b => K b st1) X) : OnR (cTru m env st) K X := by
  rw [q_cTru]
  exact onR_bind (onR_imp h (fun _ _ h => onR_ofO h) fun _ _ _ _ h => h)
theorem w_bool {K} (h : OnR (m env st) (fun d st1 => ∃ b, d = .bl b ∧ K b st1) X) : OnR (cBool m env st) K X := by
  rw [q_cBool]
  exact onR_bind (onR_imp h (fun d _ ⟨b, e, h⟩ => by subst e; exact h) fun _ _ _ _ h => h)
theorem w_and {K} (h : OnR (ca env st) (fun c st1 => OnB c (OnR (cb env st1) K X) (K false st1)) X) : OnR (cAnd ca cb env st) K X := by
  rw [q_cAnd]
  exact onR_bind (onR_imp h (fun c _ h => by unfold OnB at h; split at h <;> rename_i z <;> simp only [z, if_true, if_false, Bool.false_eq_true] <;> exact h) fun _ _ _ _ h => h)
theorem w_or {K} (h : OnR (ca env st) (fun c st1 => OnB c (K true st1) (OnR (cb env st1) K X)) X) : OnR (cOr ca cb env st) K X := by
  rw [q_cOr]
  exact onR_bind (onR_imp h (fun c _ h => by unfold OnB at h; split at h <;> rename_i z <;> simp only [z, if_true, if_false, Bool.false_eq_true] <;> exact h) fun _ _ _ _ h => h)
theorem w_not {K} (h : OnR (ca env st) (fun c st1 => K (!c) st1) X) : OnR (cNot ca env st) K X := by
  rw [q_cNot]
  exact onR_bind (onR_imp h (fun _ _ h => h) fun _ _ _ _ h => h)
theorem w_yes {K : Bool → Store → Prop} (h : K true st) : OnR (cYes env st) K X := h
theorem w_eand {K} (h : OnR (ma env st) (fun d st1 => ∃ b, d = .bl b ∧ OnB b (OnR (mb env st1) K X) (K (.bl false) st1)) X) : OnR (eAnd ma mb env st) K X := by
  rw [q_eAnd]
  exact onR_bind (onR_imp h (fun d _ ⟨b, e, h⟩ => by subst e; cases b <;> exact h) fun _ _ _ _ h => h)
theorem w_eor {K} (h : OnR (ma env st) (fun d st1 => ∃ b, d = .bl b ∧ OnB b (K (.bl true) st1) (OnR (mb env st1) K X)) X) : OnR (eOr ma mb env st) K X := by
  rw [q_eOr]
  exact onR_bind (onR_imp h (fun d _ ⟨b, e, h⟩ => by subst e; cases b <;> exact h) fun _ _ _ _ h => h)
theorem w_enot {K} (h : OnR (m env st) (fun d st1 => ∃ b, d = .bl b ∧ K (.bl (!b)) st1) X) : OnR (eNot m env st) K X := by
  rw [q_eNot]
  exact onR_bind (onR_imp h (fun d _ ⟨b, e, h⟩ => by subst e; exact h) fun _ _ _ _ h => h)
theorem w_bl {b : Bool} {P : Bool → Prop} (h : P b) : ∃ b', D.bl b = .bl b' ∧ P b' := ⟨b, rfl, h⟩
theorem w_in {i : Int} {P : Int → Prop} (h : P i) : ∃ i', D.int i = .int i' ∧ P i' := ⟨i, rfl, h⟩
theorem w_chain {f f' : BO} {K} (h : OnR (ma env st) (fun d1 st1 => OnR (mb env st1) (fun d2 st2 => OnO (f st2 d1 d2) fun z => ∃ b, z = .bl b ∧ OnB b (OnR (mc env st2) (fun d3 st3 => OnO (f' st3 d2 d3) fun d => K d st3) X) (K (.bl false) st2)) X) X) : OnR (eChain f f' ma mb mc env st) K X := by
  rw [q_chain]
  refine onR_bind (onR_imp h (fun _ _ h => onR_bind (onR_imp h (fun _ _ h => ?_) fun _ _ _ _ h => h)) fun _ _ _ _ h => h)
  obtain ⟨z, e, b, ez, h⟩ := h
  subst ez
  rw [e, ofO_some, bind_ok]
  cases b
  · exact h
  · have h' : OnR (mc env _) (fun d3 st3 => OnO (f' st3 _ d3) fun d => K d st3) X := h
    exact onR_bind (onR_imp h' (fun _ _ h => onR_ofO h) fun _ _ _ _ h => h)
/-! slices, methods -/
theorem w_oN {K : Option Int → Store → Prop} (h : K none st) : OnR (oNone env st) K X := h
theorem w_oS {K : Option Int → Store → Prop} (h : OnR (m env st) (fun d st1 => ∃ i, d = .int i ∧ K (some i) st1) X) : OnR (oSome m env st) K X := by
  rw [q_oS]
  exact onR_bind (onR_imp h (fun d _ ⟨i, e, h⟩ => by subst e; exact h) fun _ _ _ _ h => h)
theorem w_sl {lo hi : MO} {K} (h : OnR (m env st) (fun d st1 => OnR (lo env st1) (fun l st2 => OnR (hi env st2) (fun h st3 => OnO (bSl st3 d l h) fun d => K d st3) X) X) X) : OnR (eSl m lo hi env st) K X := by
  rw [q_sl]
  exact onR_bind (onR_imp h (fun _ _ h => onR_bind (onR_imp h (fun _ _ h => onR_bind (onR_imp h (fun _ _ h => onR_ofO h) fun _ _ _ _ h => h)) fun _ _ _ _ h => h)) fun _ _ _ _ h => h)
theorem w_mth {f : MethF} {K} (h : OnR (mo env st) (fun d st1 => Sd ((lstOf st1 d).isSome = true) (OnR (as env st1) (fun ds st2 => OnO (f st2 d ds) fun p => K p.1 p.2) X)) X) : OnR (eMthL f mo as env st) K X := by
  rw [q_mth]
  refine onR_bind (onR_imp h (fun d _ h => ?_) fun _ _ _ _ h => h)
  rw [if_pos h.1]
  refine onR_bind (onR_imp h.2 (fun ds _ h => ?_) fun _ _ _ _ h => h)
  obtain ⟨p, e, h⟩ := h
  rw [e]
  exact h
theorem o_app {l : List D} {x : D} {i : Nat} {K : D × Store → Prop} (hs : st[i]? = some (.lst l)) (hl : l.length ≤ cap) (h : SetS st i (.lst (l ++ [x])) fun s => K (.non, s)) : OnO (fApp st (.obj i) [x]) K := by
  refine ⟨(.non, st.set i (.lst (l ++ [x]))), ?_, h⟩
  unfold fApp
  simp only [hs, if_pos hl]
/-! statements -/
theorem s_seq (h : OnQ (a env st) (SeqK b Q)) : OnQ (sSeq a b env st) Q := by
  rw [q_seq]
  revert h
  generalize a env st = r
  intro h
  cases r with
  | nx e st => exact h
  | rt d st => exact h
  | bk e st => exact h
  | ct e st => exact h
  | ex c ks vs e st => exact h
  | bad => exact h.elim
theorem s_pass (h : Q (.nx env st)) : OnQ (sPass env st) Q := h
theorem s_brk (h : Q (.bk env st)) : OnQ (sBrk env st) Q := h
theorem s_cnt (h : Q (.ct env st)) : OnQ (sCnt env st) Q := h
theorem s_ret (h : OnR (m env st) (fun d st1 => Q (.rt d st1)) (fun c ks vs st1 => Q (.ex c ks vs env st1))) : OnQ (sRet m env st) Q := by
  rw [q_ret]
  exact onR_toS h
theorem s_retN (h : Q (.rt .non st)) : OnQ (sRetN env st) Q := h
theorem s_exp (h : OnR (m env st) (fun _ st1 => Q (.nx env st1)) (fun c ks vs st1 => Q (.ex c ks vs env st1))) : OnQ (sExp m env st) Q := by
  rw [q_exp]
  exact onR_toS h
theorem s_asg {i : Nat} (h : OnR (m env st) (fun d st1 => SetE env i d fun e => Q (.nx e st1)) (fun c ks vs st1 => Q (.ex c ks vs env st1))) : OnQ (sAsg m (gN i) env st) Q := by
  rw [q_asg]
  exact onR_toS h
/-- what a target makes of the slots -/
def TgE (g : MG0) (d : D) (env : DEnv) (K : DEnv → Prop) : Prop := ∃ e, g d env = some e ∧ K e
def TgsE (g : MGs0) (ds : List D) (env : DEnv) (K : DEnv → Prop) : Prop := ∃ e, g ds env = some e ∧ K e
theorem tg_n {i : Nat} {d : D} {K : DEnv → Prop} (h : SetE env i d K) : TgE (gN i) d env K := ⟨_, rfl, h⟩
theorem tg_t {l : List D} {K : DEnv → Prop} (h : TgsE gs l env K) : TgE (gT gs) (.tup l) env K := h
theorem tgs_n {K : DEnv → Prop} (h : K env) : TgsE gsNil [] env K := ⟨_, rfl, h⟩
theorem tgs_c {d : D} {l : List D} {K : DEnv → Prop} (h : TgE g d env fun e => TgsE gs l e K) : TgsE (gsCons g gs) (d :: l) env K := by
  obtain ⟨e, h1, e2, h2, k⟩ := h
  exact ⟨e2, by rw [q_gsC, h1]; exact h2, k⟩
theorem s_asgT {gs : MGs0} (h : OnR (m env st) (fun d st1 => TgE (gT gs) d env fun e => Q (.nx e st1)) (fun c ks vs st1 => Q (.ex c ks vs env st1))) : OnQ (sAsg m (gT gs) env st) Q := by
  rw [q_asg]
  refine onR_toS (onR_imp h (fun d _ h => ?_) fun _ _ _ _ h => h)
  obtain ⟨e, h1, k⟩ := h
  rw [h1]
  exact k
theorem s_if (h : OnR (cc env st) (fun d st1 => OnB d (OnQ (a env st1) Q) (OnQ (b env st1) Q)) (fun c ks vs st1 => Q (.ex c ks vs env st1))) : OnQ (sIf cc a b env st) Q := by
  rw [q_if]
  refine onR_toS (onR_imp h (fun d _ h => ?_) fun _ _ _ _ h => h)
  unfold OnB at h
  split at h <;> rename_i z <;> simp only [z, if_true, if_false, Bool.false_eq_true] <;> exact h
theorem s_aug {i : Nat} {f : BO} {d : D} (hi : env[i]? = some (some d)) (h : OnR (m env st) (fun d2 st1 => OnO (f st1 d d2) fun d3 => SetE env i d3 fun e => Q (.nx e st1)) (fun c ks vs st1 => Q (.ex c ks vs env st1))) : OnQ (sAug i f m env st) Q := by
  rw [q_aug hi]
  refine onR_toS (onR_imp h (fun d _ h => ?_) fun _ _ _ _ h => h)
  obtain ⟨e, h1, k⟩ := h
  rw [h1]
  exact k
theorem s_par2 {i j : Nat} (h : OnR (as env st) (fun ds st1 => ∃ x y, ds = [x, y] ∧ SetE env i x fun e => SetE e j y fun e => Q (.nx e st1)) (fun c ks vs st1 => Q (.ex c ks vs env st1))) : OnQ (sPar2 i j as env st) Q := by
  rw [q_par2]
  refine onR_toS (onR_imp h (fun d _ h => ?_) fun _ _ _ _ h => h)
  obtain ⟨x, y, e, k⟩ := h
  subst e
  exact k
theorem s_par3 {i j k : Nat} (h : OnR (as env st) (fun ds st1 => ∃ x y z, ds = [x, y, z] ∧ SetE env i x fun e => SetE e j y fun e => SetE e k z fun e => Q (.nx e st1)) (fun c ks vs st1 => Q (.ex c ks vs env st1))) : OnQ (sPar3 i j k as env st) Q := by
  rw [q_par3]
  refine onR_toS (onR_imp h (fun d _ h => ?_) fun _ _ _ _ h => h)
  obtain ⟨x, y, z, e, k⟩ := h
  subst e
  exact k
theorem w_two {x y : D} {P : D → D → Prop} (h : P x y) : ∃ x' y', [x, y] = [x', y'] ∧ P x' y' := ⟨x, y, rfl, h⟩
theorem w_three {x y z : D} {P : D → D → D → Prop} (h : P x y z) : ∃ x' y' z', [x, y, z] = [x', y', z'] ∧ P x' y' z' := ⟨x, y, z, rfl, h⟩
/-! loops -/
theorem s_for {mi : MI} (h : OnR (mi env st) (fun ds st1 => OnQ (loopS g b ds env st1) Q) (fun c ks vs st1 => Q (.ex c ks vs env st1))) : OnQ (sFor mi g b env st) Q := by
  rw [q_for]
  exact onR_toS h
/-- behind a turn of a loop -/
def TurnK (J : DEnv → Store → Prop) (Q : SR → Prop) (r : SR) : Prop := match r with
  | .nx e st => J e st
  | .ct e st => J e st
  | .bk e st => Q (.nx e st)
  | .bad => False
  | r => Q r
theorem turn_nx {J : DEnv → Store → Prop} {e : DEnv} (h : J e st) : TurnK J Q (.nx e st) := h
theorem turn_ct {J : DEnv → Store → Prop} {e : DEnv} (h : J e st) : TurnK J Q (.ct e st) := h
theorem turn_bk {J : DEnv → Store → Prop} {e : DEnv} (h : Q (.nx e st)) : TurnK J Q (.bk e st) := h
theorem turn_rt {J : DEnv → Store → Prop} {d : D} (h : Q (.rt d st)) : TurnK J Q (.rt d st) := h
theorem turn_ex {J : DEnv → Store → Prop} {c ks vs} {e : DEnv} (h : Q (.ex c ks vs e st)) : TurnK J Q (.ex c ks vs e st) := h
theorem onQ_loop {r : SR} {k : DEnv → Store → SR} (h : OnQ r (TurnK (fun e st => OnQ (k e st) Q) Q)) : OnQ (r.loop k) Q := by
  cases r with
  | nx e st => exact h
  | rt d st => exact h
  | bk e st => exact h
  | ct e st => exact h
  | ex c ks vs e st => exact h
  | bad => exact h.elim
/-- a loop over data: what stands ahead of each turn, by what is left -/
theorem l_over {α : Type} {enc : α → D} (I : List α → DEnv → Store → Prop) : ∀ {xs : List α} {env : DEnv} {st : Store}, I xs env st →
    (∀ x xs env st, I (x :: xs) env st → TgE g (enc x) env fun e => OnQ (b e st) (TurnK (I xs) Q)) → (∀ env st, I [] env st → Q (.nx env st)) → OnQ (loopS g b (xs.map enc) env st) Q
  | [], env, st, h, _, f => f env st h
  | x :: xs, env, st, h, hb, f => by
    obtain ⟨e, h1, h2⟩ := hb x xs env st h
    rw [List.map_cons]
    unfold loopS
    rw [h1]
    refine onQ_loop (onQ_imp h2 fun r hr => ?_)
    cases r with
    | nx e st => exact l_over I hr hb f
    | ct e st => exact l_over I hr hb f
    | rt d st => exact hr
    | bk e st => exact hr
    | ex c ks vs e st => exact hr
    | bad => exact hr.elim
/-- the same of any data, with the turn's number -/
theorem l_num (I : Nat → DEnv → Store → Prop) : ∀ {ds : List D} {k : Nat} {env : DEnv} {st : Store}, I k env st →
    (∀ i d env st, ds[i]? = some d → I (k + i) env st → TgE g d env fun e => OnQ (b e st) (TurnK (I (k + i + 1)) Q)) → (∀ env st, I (k + ds.length) env st → Q (.nx env st)) → OnQ (loopS g b ds env st) Q
  | [], k, env, st, h, _, f => f env st h
  | d :: ds, k, env, st, h, hb, f => by
    obtain ⟨e, h1, h2⟩ := hb 0 d env st rfl h
    unfold loopS
    rw [h1]
    refine onQ_loop (onQ_imp h2 fun r hr => ?_)
    have q : ∀ e st, I (k + 1) e st → OnQ (loopS g b ds e st) Q := fun e st h => l_num I (k := k + 1) h (fun i d env st hi hI => by
      have q := hb (i + 1) d env st hi (by rw [show k + (i + 1) = k + 1 + i by omega]; exact hI)
      rw [show k + (i + 1) + 1 = k + 1 + i + 1 by omega] at q
      exact q) fun env st h => f env st (by rw [show k + (d :: ds).length = k + 1 + ds.length by simp; omega]; exact h)
    cases r with
    | nx e st => exact q e st hr
    | ct e st => exact q e st hr
    | rt d st => exact hr
    | bk e st => exact hr
    | ex c ks vs e st => exact hr
    | bad => exact hr.elim
/-- a while by a measure -/
theorem l_while (I : Nat → DEnv → Store → Prop) : ∀ {k n : Nat} {env : DEnv} {st : Store}, k < n → I k env st →
    (∀ k env st, I k env st → OnR (cc env st) (fun c st1 => OnB c (OnQ (b env st1) (TurnK (fun e s => ∃ j, j < k ∧ I j e s) Q)) (Q (.nx env st1))) (fun c ks vs st1 => Q (.ex c ks vs env st1))) → OnQ (whileS cc b n env st) Q
  | k, 0, env, st, hk, _, _ => absurd hk (Nat.not_lt_zero _)
  | k, n + 1, env, st, hk, h, hb => by
    unfold whileS
    refine onR_toS (onR_imp (hb k env st h) (fun c st1 h => ?_) fun _ _ _ _ h => h)
    cases c with
    | false => exact h
    | true =>
      have h' : OnQ (b env st1) (TurnK (fun e s => ∃ j, j < k ∧ I j e s) Q) := h
      refine onQ_loop (onQ_imp h' fun r hr => ?_)
      cases r with
      | nx e st => obtain ⟨j, hj, hI⟩ := hr; exact l_while I (by omega) hI hb
      | ct e st => obtain ⟨j, hj, hI⟩ := hr; exact l_while I (by omega) hI hb
      | rt d st => exact hr
      | bk e st => exact hr
      | ex c ks vs e st => exact hr
      | bad => exact hr.elim
theorem s_while {n : Nat} (h : OnQ (whileS cc b n env st) Q) : OnQ (sWhile n cc b env st) Q := h
/-! what is walked -/
theorem i_tup {l : List D} {K : List D → Store → Prop} (h : K l st) : OnR (match D.tup l with
  | .tup l => R.ok l st
  | .lst l => .ok l st
  | .scr l => .ok l st
  | _ => .bad) K X := h
def SeqE (d : D) (K : List D → Prop) : Prop := match d with
  | .tup l => K l
  | .lst l => K l
  | .scr l => K l
  | _ => False
theorem seqE_t {l : List D} {K : List D → Prop} (h : K l) : SeqE (.tup l) K := h
theorem seqE_l {l : List D} {K : List D → Prop} (h : K l) : SeqE (.lst l) K := h
theorem seqE_s {l : List D} {K : List D → Prop} (h : K l) : SeqE (.scr l) K := h
theorem i_seq {K : List D → Store → Prop} (h : OnR (m env st) (fun d st1 => SeqE d fun l => K l st1) X) : OnR (iSeq m env st) K X := by
  unfold iSeq
  refine onR_bind (onR_imp h (fun d _ h => ?_) fun _ _ _ _ h => h)
  cases d <;> first | exact h | exact h.elim
def numb (l : List D) : List D := l.zipIdx.map fun p => .tup [.int (p.2 : Nat), p.1]
theorem i_en {K : List D → Store → Prop} (h : OnR (m env st) (fun d st1 => SeqE d fun l => K (numb l) st1) X) : OnR (iEn m env st) K X := by
  unfold iEn
  refine onR_bind (onR_imp h (fun d _ h => ?_) fun _ _ _ _ h => h)
  cases d <;> first | exact h | exact h.elim
theorem i_rng1 {K : List D → Store → Prop} (h : OnR (as env st) (fun ds st1 => ∃ j, ds = [.int j] ∧ Sd (-(2 ^ 62) ≤ j ∧ j < 2 ^ 62) (K (upTo 0 j.toNat) st1)) X) : OnR (iRng1 as env st) K X := by
  unfold iRng1
  refine onR_bind (onR_imp h (fun d _ h => ?_) fun _ _ _ _ h => h)
  obtain ⟨j, e, hj, k⟩ := h
  subst e
  simp only [if_pos hj]
  exact k
theorem i_rng2 {K : List D → Store → Prop} (h : OnR (as env st) (fun ds st1 => ∃ i j, ds = [.int i, .int j] ∧ Sd ((-(2 ^ 62) ≤ i ∧ i < 2 ^ 62) ∧ -(2 ^ 62) ≤ j ∧ j < 2 ^ 62) (K (upTo i (j - i).toNat) st1)) X) : OnR (iRng2 as env st) K X := by
  unfold iRng2
  refine onR_bind (onR_imp h (fun d _ h => ?_) fun _ _ _ _ h => h)
  obtain ⟨i, j, e, hj, k⟩ := h
  subst e
  simp only [if_pos hj]
  exact k
theorem w_i1 {i : Int} {P : Int → Prop} (h : P i) : ∃ j, [D.int i] = [.int j] ∧ P j := ⟨i, rfl, h⟩
theorem w_i2 {i j : Int} {P : Int → Int → Prop} (h : P i j) : ∃ i' j', [D.int i, .int j] = [.int i', .int j'] ∧ P i' j' := ⟨i, j, rfl, h⟩
/-! defs -/
theorem f_run {N n : Nat} {b : MS} {ds : List D} {K : D → Store → Prop} (hl : ds.length = n) (h : OnQ (b (ds.map some ++ List.replicate (N - n) none) st) (fun r => match r with
  | .nx _ st1 => K .non st1
  | .rt d st1 => K d st1
  | .ex c ks us _ st1 => X c ks us st1
  | _ => False)) : OnR (runF N n b ds st) K X := by
  unfold runF
  rw [if_pos hl]
  revert h
  generalize b _ st = r
  intro h
  cases r <;> first | exact h | exact h.elim
/-- what is told of a def's end -/
def EndK (K : D → Store → Prop) (X : String → List String → List D → Store → Prop) (r : SR) : Prop := match r with
  | .nx _ st1 => K .non st1
  | .rt d st1 => K d st1
  | .ex c ks us _ st1 => X c ks us st1
  | _ => False
theorem f_runK {N n : Nat} {b : MS} {ds : List D} {K : D → Store → Prop} (hl : ds.length = n) (h : OnQ (b (ds.map some ++ List.replicate (N - n) none) st) (EndK K X)) : OnR (runF N n b ds st) K X := by
  refine f_run hl ?_
  revert h
  generalize b _ st = r
  intro h
  cases r <;> exact h
theorem end_nx {K : D → Store → Prop} {e : DEnv} (h : K .non st) : EndK K X (.nx e st) := h
theorem end_rt {K : D → Store → Prop} {d : D} (h : K d st) : EndK K X (.rt d st) := h
theorem end_ex {K : D → Store → Prop} {e : DEnv} {c ks vs} (h : X c ks vs st) : EndK K X (.ex c ks vs e st) := h
theorem f_fin {f : MF} {ds : List D} {K : D → Store → Prop} (h : OnR (f ds st) (fun d st1 => Sd (st.length ≤ st1.length) (Sd ((st1.take st.length).all (clO st.length) = true) (Sd (clD st.length d = true) (K d (st1.take st.length))))) (fun c ks vs st1 => st.length ≤ st1.length ∧ (st1.take st.length).all (clO st.length) = true ∧ clL st.length vs = true ∧ X c ks vs (st1.take st.length))) : OnR (fin f ds st) K X := by
  unfold fin
  revert h
  generalize f ds st = r
  intro h
  cases r with
  | ok d st1 =>
    obtain ⟨h1, h2, h3, h4⟩ := h
    simp only [if_pos (And.intro h1 h2), if_pos h3]
    exact h4
  | ex c ks vs st1 =>
    obtain ⟨h1, h2, h3, h4⟩ := h
    simp only [if_pos (And.intro h1 (And.intro h2 h3))]
    exact h4
  | bad => exact h.elim
/-- list comprehensions -/
theorem w_lc {mi : MI} {g : MG0} {ct : MT} {me : ME} {own : List Nat} {K : D → Store → Prop} (h : OnR (mi env st) (fun ds st1 => ∃ ys st2, lcLoop g ct me (wipeD env own) ds [] st1 = .ok ys st2 ∧ K (.lst ys) st2) X) : OnR (eLc mi g ct me own env st) K X := by
  unfold eLc
  refine onR_bind (onR_imp h (fun ds st1 h => ?_) fun _ _ _ _ h => h)
  obtain ⟨ys, st2, e, k⟩ := h
  rw [e]
  exact k
theorem w_lcM {mi : MI} {g : MG0} {ct : MT} {me : ME} {own : List Nat} {K : D → Store → Prop} (h : OnR (mi env st) (fun ds st1 => ∃ ys st2, lcLoop g ct me (wipeD env own) ds [] st1 = .ok ys st2 ∧ K (.obj st2.length) (st2 ++ [.lst ys])) X) : OnR (eLcM mi g ct me own env st) K X := by
  unfold eLcM
  refine onR_bind (onR_imp h (fun ds st1 h => ?_) fun _ _ _ _ h => h)
  obtain ⟨ys, st2, e, k⟩ := h
  rw [e]
  exact k
/-- a comprehension over data that yields f of each x that p lets by -/
theorem lc_mapP {α : Type} {enc : α → D} {g : MG0} {ct : MT} {me : ME} (p : α → Bool) (f : α → D) : ∀ {xs : List α} {acc : List D}, (∀ x ∈ xs, TgE g (enc x) env fun e => OnR (ct e st) (fun c s => s = st ∧ c = p x ∧ (c = true → OnR (me e st) (fun d s => s = st ∧ d = f x) fun _ _ _ _ => False)) fun _ _ _ _ => False) → acc.length + xs.length ≤ cap →
    lcLoop g ct me env (xs.map enc) acc st = .ok (acc ++ (xs.filter p).map f) st
  | [], acc, _, _ => by simp [lcLoop]
  | x :: xs, acc, h, hl => by
    obtain ⟨e, h1, h2⟩ := h x (List.mem_cons_self ..)
    rw [List.map_cons]
    unfold lcLoop
    rw [h1]
    simp only
    have hl2 : acc.length ≤ cap := by simp at hl; omega
    revert h2
    generalize ct e st = r
    intro h2
    cases r with
    | bad => exact h2.elim
    | ex => exact h2.elim
    | ok c s =>
      obtain ⟨e1, e2, h3⟩ := h2
      rw [bind_ok, e1, e2]
      rw [e2] at h3
      cases hp : p x with
      | false =>
        rw [if_neg (by decide), List.filter_cons_of_neg (by rw [hp]; decide)]
        exact lc_mapP p f (fun x hx => h x (List.mem_cons_of_mem _ hx)) (by simp at hl; omega)
      | true =>
        rw [if_pos rfl, List.filter_cons_of_pos hp]
        have h4 := h3 hp
        revert h4
        generalize me e st = r
        intro h4
        cases r with
        | bad => exact h4.elim
        | ex => exact h4.elim
        | ok d s =>
          obtain ⟨e3, e4⟩ := h4
          rw [bind_ok, e3, e4, if_pos hl2, lc_mapP p f (acc := acc ++ [f x]) (fun x hx => h x (List.mem_cons_of_mem _ hx)) (by simp at hl ⊢; omega)]
          simp
end
end T5
namespace T5
open PySem PySem.Spec PyProof.Rows L2
theorem nb_t {c : Bool} (h : c = false) : (!c) = true := by rw [h]; rfl
theorem nb_f {c : Bool} (h : c = true) : (!c) = false := by rw [h]; rfl
theorem onB_dec {p : Prop} [Decidable p] {P Q : Prop} (h : p → P) (k : ¬ p → Q) : OnB (decide p) P Q := onB_any (fun z => h (of_decide_eq_true z)) (fun z => k (of_decide_eq_false z))
theorem onB_not {c : Bool} {P Q : Prop} (h : OnB c Q P) : OnB (!c) P Q := by cases c <;> exact h
section
variable {st : Store} {i j : Int} {K : D → Prop}
theorem o_addI (h : K (.int (i + j))) : OnO (bAdd st (.int i) (.int j)) K := ⟨_, rfl, h⟩
theorem o_addI2 (h : K (.int (i + j))) : OnO (bAddI st (.int i) (.int j)) K := ⟨_, rfl, h⟩
theorem o_subI (h : K (.int (i - j))) : OnO (bSub st (.int i) (.int j)) K := ⟨_, rfl, h⟩
theorem o_lt (h : K (.bl (decide (i < j)))) : OnO (bLt st (.int i) (.int j)) K := ⟨_, rfl, h⟩
theorem o_le (h : K (.bl (decide (i ≤ j)))) : OnO (bLe st (.int i) (.int j)) K := ⟨_, rfl, h⟩
theorem o_gt (h : K (.bl (decide (j < i)))) : OnO (bGt st (.int i) (.int j)) K := ⟨_, rfl, h⟩
theorem o_ge (h : K (.bl (decide (j ≤ i)))) : OnO (bGe st (.int i) (.int j)) K := ⟨_, rfl, h⟩
theorem o_eqI (h : K (.bl (decide (i = j)))) : OnO (bEq st (.int i) (.int j)) K := ⟨_, rfl, h⟩
theorem o_neI (h : K (.bl (!decide (i = j)))) : OnO (bNe st (.int i) (.int j)) K := ⟨_, rfl, h⟩
theorem o_max (h : K (.int (maxI i j))) : OnO (fMax st [.int i, .int j]) K := ⟨_, rfl, h⟩
theorem o_min (h : K (.int (minI i j))) : OnO (fMin st [.int i, .int j]) K := ⟨_, rfl, h⟩
theorem o_int (h : K (.int i)) : OnO (fInt st [.int i]) K := ⟨_, rfl, h⟩
theorem o_lenL {l : List D} (h : K (.int (l.length : Int))) : OnO (fLen st [.lst l]) K := ⟨_, rfl, h⟩
theorem o_lenT {l : List D} (h : K (.int (l.length : Int))) : OnO (fLen st [.tup l]) K := ⟨_, rfl, h⟩
theorem o_tuple {l : List D} (h : K (.tup l)) : OnO (fTuple st [.lst l]) K := ⟨_, rfl, h⟩
theorem o_isNon {d : D} (h : K (.bl (isNon d))) : OnO (bIs st d .non) K := ⟨_, rfl, h⟩
theorem o_isnNon {d : D} (h : K (.bl (!isNon d))) : OnO (bIsNot st d .non) K := ⟨_, rfl, h⟩
theorem o_isBl {a b : Bool} (h : K (.bl (decide (a = b)))) : OnO (bIs st (.bl a) (.bl b)) K := ⟨_, rfl, h⟩
theorem o_isnBl {a b : Bool} (h : K (.bl (!decide (a = b)))) : OnO (bIsNot st (.bl a) (.bl b)) K := ⟨_, rfl, h⟩
theorem o_tbl {b : Bool} {K : Bool → Prop} (h : K b) : OnO (bTru st (.bl b)) K := ⟨_, rfl, h⟩
theorem o_slL {l : List D} {lo hi : Option Int} (h : K (.lst (cutD l lo hi))) : OnO (bSl st (.lst l) lo hi) K := ⟨_, rfl, h⟩
theorem o_slT {l : List D} {lo hi : Option Int} (h : K (.tup (cutD l lo hi))) : OnO (bSl st (.tup l) lo hi) K := ⟨_, rfl, h⟩
theorem o_addT {a b : List D} (h : Sd (a.length + b.length ≤ cap) (K (.tup (a ++ b)))) : OnO (bAdd st (.tup a) (.tup b)) K := by
  refine ⟨_, ?_, h.2⟩
  show (if a.length + b.length ≤ cap then _ else _) = _
  rw [if_pos h.1]
theorem o_addL {a b : List D} (h : Sd (a.length + b.length ≤ cap) (K (.lst (a ++ b)))) : OnO (bAdd st (.lst a) (.lst b)) K := by
  refine ⟨_, ?_, h.2⟩
  show (if a.length + b.length ≤ cap then some (D.lst (a ++ b)) else none) = _
  rw [if_pos h.1]
theorem o_ixT {l : List D} {k : Nat} {d : D} (hd : l[k]? = some d) (h : K d) : OnO (bIx st (.tup l) (.int (k : Int))) K := ⟨_, atI_nat hd, h⟩
theorem o_ixL {l : List D} {k : Nat} {d : D} (hd : l[k]? = some d) (h : K d) : OnO (bIx st (.lst l) (.int (k : Int))) K := ⟨_, atI_nat hd, h⟩
theorem o_ixT0 {l : List D} {a : D} (h : K a) : OnO (bIx st (.tup (a :: l)) (.int 0)) K := ⟨_, atI_cons0, h⟩
theorem o_ixT1 {l : List D} {a b : D} (h : K b) : OnO (bIx st (.tup (a :: b :: l)) (.int 1)) K := ⟨_, atI_cons1, h⟩
theorem o_ixT2 {l : List D} {a b c : D} (h : K c) : OnO (bIx st (.tup (a :: b :: c :: l)) (.int 2)) K := ⟨_, atI_cons2, h⟩
theorem o_ixL0 {l : List D} {a : D} (h : K a) : OnO (bIx st (.lst (a :: l)) (.int 0)) K := ⟨_, atI_cons0, h⟩
theorem o_ixL1 {l : List D} {a b : D} (h : K b) : OnO (bIx st (.lst (a :: b :: l)) (.int 1)) K := ⟨_, atI_cons1, h⟩
theorem o_ixL2 {l : List D} {a b c : D} (h : K c) : OnO (bIx st (.lst (a :: b :: c :: l)) (.int 2)) K := ⟨_, atI_cons2, h⟩
end
/-! ### == of plain data -/
mutual
def shD : Nat → D → Bool
  | _, .non => true
  | _, .bl _ => true
  | _, .int _ => true
  | _, .str s => okS s
  | 0, .tup _ => false
  | 0, .lst _ => false
  | k + 1, .tup l => shL k l
  | k + 1, .lst l => shL k l
  | _, _ => false
def shL : Nat → List D → Bool
  | _, [] => true
  | k, d :: ds => shD k d && shL k ds
end
mutual
def eqD : D → D → Bool
  | .non, .non => true
  | .bl a, .bl b => a == b
  | .bl a, .int j => (if a then 1 else 0) == j
  | .int i, .bl b => i == (if b then 1 else 0)
  | .int i, .int j => decide (i = j)
  | .str x, .str y => decide (x = y)
  | .tup a, .tup b => eqL a b
  | .lst a, .lst b => eqL a b
  | _, _ => false
def eqL : List D → List D → Bool
  | [], [] => true
  | x :: xs, y :: ys => eqD x y && eqL xs ys
  | _, _ => false
end
mutual
theorem shD_ok : ∀ {k : Nat} {d : D}, shD k d = true → ∃ p, py0 d = some p ∧ PyData.canLay0 p = true ∧ PyData.depth p ≤ k
  | k, .non, _ => ⟨_, rfl, rfl, Nat.zero_le _⟩
  | k, .bl _, _ => ⟨_, rfl, rfl, Nat.zero_le _⟩
  | k, .int _, _ => ⟨_, rfl, rfl, Nat.zero_le _⟩
  | k, .str s, h => by
    refine ⟨_, rfl, ?_, Nat.zero_le _⟩
    have h' : okS s = true := by cases k <;> simpa [shD] using h
    simp [PyData.canLay0, PyData.strOk, toStr]
    simpa [okS] using h'
  | 0, .tup _, h => by simp [shD] at h
  | 0, .lst _, h => by simp [shD] at h
  | k + 1, .tup l, h => by
    obtain ⟨ps, h1, h2, h3⟩ := shL_ok (k := k) (ds := l) (by simpa [shD] using h)
    exact ⟨.tuple ps, by simp [py0, h1], by simpa [PyData.canLay0] using h2, by simp only [PyData.depth]; omega⟩
  | k + 1, .lst l, h => by
    obtain ⟨ps, h1, h2, h3⟩ := shL_ok (k := k) (ds := l) (by simpa [shD] using h)
    exact ⟨.list ps, by simp [py0, h1], by simpa [PyData.canLay0] using h2, by simp only [PyData.depth]; omega⟩
  | 0, .ty _, h => by simp [shD] at h
  | 0, .scr _, h => by simp [shD] at h
  | 0, .obj _, h => by simp [shD] at h
  | 0, .dic _ _ _, h => by simp [shD] at h
  | 0, .ins _ _ _, h => by simp [shD] at h
  | 0, .exc _ _ _, h => by simp [shD] at h
  | 0, .cls _, h => by simp [shD] at h
  | 0, .fn _ _ _ _ _, h => by simp [shD] at h
  | _ + 1, .ty _, h => by simp [shD] at h
  | _ + 1, .scr _, h => by simp [shD] at h
  | _ + 1, .obj _, h => by simp [shD] at h
  | _ + 1, .dic _ _ _, h => by simp [shD] at h
  | _ + 1, .ins _ _ _, h => by simp [shD] at h
  | _ + 1, .exc _ _ _, h => by simp [shD] at h
  | _ + 1, .cls _, h => by simp [shD] at h
  | _ + 1, .fn _ _ _ _ _, h => by simp [shD] at h
theorem shL_ok : ∀ {k : Nat} {ds : List D}, shL k ds = true → ∃ ps, py0L ds = some ps ∧ PyData.canLayAll0 ps = true ∧ PyData.depthAll ps ≤ k
  | k, [], _ => ⟨[], rfl, rfl, Nat.zero_le _⟩
  | k, d :: ds, h => by
    have h' : shD k d = true ∧ shL k ds = true := by simpa [shL] using h
    obtain ⟨p, h1, h2, h3⟩ := shD_ok h'.1
    obtain ⟨ps, h4, h5, h6⟩ := shL_ok h'.2
    exact ⟨p :: ps, by simp [py0L, h1, h4], by simp [PyData.canLayAll0, h2, h5], by simp only [PyData.depthAll]; omega⟩
end
mutual
theorem eqv_eqD : ∀ {a b : D} {p q : PyData}, py0 a = some p → py0 b = some q → PyData.eqv p q = eqD a b
  | .tup l, .tup m, p, q, h1, h2 => by
    simp only [py0, Option.map_eq_some_iff] at h1 h2
    obtain ⟨ps, h1, rfl⟩ := h1
    obtain ⟨qs, h2, rfl⟩ := h2
    simp only [PyData.eqv, eqD]
    exact eqv_eqL h1 h2
  | .lst l, .lst m, p, q, h1, h2 => by
    simp only [py0, Option.map_eq_some_iff] at h1 h2
    obtain ⟨ps, h1, rfl⟩ := h1
    obtain ⟨qs, h2, rfl⟩ := h2
    simp only [PyData.eqv, eqD]
    exact eqv_eqL h1 h2
  | .tup l, .lst m, p, q, h1, h2 => by
    simp only [py0, Option.map_eq_some_iff] at h1 h2
    obtain ⟨ps, h1, rfl⟩ := h1
    obtain ⟨qs, h2, rfl⟩ := h2
    simp [PyData.eqv, eqD]
  | .lst l, .tup m, p, q, h1, h2 => by
    simp only [py0, Option.map_eq_some_iff] at h1 h2
    obtain ⟨ps, h1, rfl⟩ := h1
    obtain ⟨qs, h2, rfl⟩ := h2
    simp [PyData.eqv, eqD]
  | .tup l, .non, p, q, h1, h2 | .tup l, .bl _, p, q, h1, h2 | .tup l, .int _, p, q, h1, h2 | .tup l, .str _, p, q, h1, h2 => by
    simp only [py0, Option.map_eq_some_iff, Option.some.injEq] at h1 h2
    obtain ⟨ps, h1, rfl⟩ := h1
    subst h2
    simp [PyData.eqv, eqD]
  | .lst l, .non, p, q, h1, h2 | .lst l, .bl _, p, q, h1, h2 | .lst l, .int _, p, q, h1, h2 | .lst l, .str _, p, q, h1, h2 => by
    simp only [py0, Option.map_eq_some_iff, Option.some.injEq] at h1 h2
    obtain ⟨ps, h1, rfl⟩ := h1
    subst h2
    simp [PyData.eqv, eqD]
  | .non, .tup l, p, q, h1, h2 | .bl _, .tup l, p, q, h1, h2 | .int _, .tup l, p, q, h1, h2 | .str _, .tup l, p, q, h1, h2 => by
    simp only [py0, Option.map_eq_some_iff, Option.some.injEq] at h1 h2
    obtain ⟨ps, h2, rfl⟩ := h2
    subst h1
    simp [PyData.eqv, eqD]
  | .non, .lst l, p, q, h1, h2 | .bl _, .lst l, p, q, h1, h2 | .int _, .lst l, p, q, h1, h2 | .str _, .lst l, p, q, h1, h2 => by
    simp only [py0, Option.map_eq_some_iff, Option.some.injEq] at h1 h2
    obtain ⟨ps, h2, rfl⟩ := h2
    subst h1
    simp [PyData.eqv, eqD]
  | .non, .non, p, q, h1, h2 | .non, .bl _, p, q, h1, h2 | .non, .int _, p, q, h1, h2 | .non, .str _, p, q, h1, h2
  | .bl _, .non, p, q, h1, h2 | .bl _, .bl _, p, q, h1, h2 | .bl _, .int _, p, q, h1, h2 | .bl _, .str _, p, q, h1, h2
  | .int _, .non, p, q, h1, h2 | .int _, .bl _, p, q, h1, h2 | .int _, .str _, p, q, h1, h2
  | .str _, .non, p, q, h1, h2 | .str _, .bl _, p, q, h1, h2 | .str _, .int _, p, q, h1, h2 => by
    simp only [py0, Option.some.injEq] at h1 h2
    subst h1 h2
    simp [PyData.eqv, eqD]
  | .int i, .int j, p, q, h1, h2 => by
    simp only [py0, Option.some.injEq] at h1 h2
    subst h1 h2
    simp only [PyData.eqv, eqD]
    rfl
  | .str x, .str y, p, q, h1, h2 => by
    simp only [py0, Option.some.injEq] at h1 h2
    subst h1 h2
    simp only [PyData.eqv, eqD]
    by_cases e : x = y
    · simp [e]
    · have : ¬ toStr x = toStr y := fun z => e (toStr_inj z)
      simp [e, this]
  | .ty _, _, p, q, h1, h2 | .scr _, _, p, q, h1, h2 | .obj _, _, p, q, h1, h2 | .dic _ _ _, _, p, q, h1, h2 | .ins _ _ _, _, p, q, h1, h2 | .exc _ _ _, _, p, q, h1, h2 | .cls _, _, p, q, h1, h2 | .fn _ _ _ _ _, _, p, q, h1, h2 => by simp [py0] at h1
  | _, .ty _, p, q, h1, h2 | _, .scr _, p, q, h1, h2 | _, .obj _, p, q, h1, h2 | _, .dic _ _ _, p, q, h1, h2 | _, .ins _ _ _, p, q, h1, h2 | _, .exc _ _ _, p, q, h1, h2 | _, .cls _, p, q, h1, h2 | _, .fn _ _ _ _ _, p, q, h1, h2 => by simp [py0] at h2
theorem eqv_eqL : ∀ {a b : List D} {p q : List PyData}, py0L a = some p → py0L b = some q → PyData.eqvAll p q = eqL a b
  | [], [], p, q, h1, h2 => by
    simp only [py0L, Option.some.injEq] at h1 h2
    subst h1 h2
    rfl
  | [], d :: ds, p, q, h1, h2 => by
    simp only [py0L, Option.some.injEq, Option.bind_eq_some_iff, Option.map_eq_some_iff] at h1 h2
    obtain ⟨x, _, y, _, rfl⟩ := h2
    subst h1
    rfl
  | d :: ds, [], p, q, h1, h2 => by
    simp only [py0L, Option.some.injEq, Option.bind_eq_some_iff, Option.map_eq_some_iff] at h1 h2
    obtain ⟨x, _, y, _, rfl⟩ := h1
    subst h2
    rfl
  | d :: ds, e :: es, p, q, h1, h2 => by
    simp only [py0L, Option.bind_eq_some_iff, Option.map_eq_some_iff] at h1 h2
    obtain ⟨x, hx, xs, hxs, rfl⟩ := h1
    obtain ⟨y, hy, ys, hys, rfl⟩ := h2
    simp only [PyData.eqvAll, eqL]
    rw [eqv_eqD hx hy, eqv_eqL hxs hys]
end
theorem dEq_sh {st : Store} {a b : D} (ha : shD 64 a = true) (hb : shD 64 b = true) : dEq st a b = some (eqD a b) := by
  obtain ⟨p, h1, h2, h3⟩ := shD_ok ha
  obtain ⟨q, h4, h5, h6⟩ := shD_ok hb
  have e1 : py st a = some p := by cases a <;> first | exact h1 | (simp [py0] at h1)
  have e2 : py st b = some q := by cases b <;> first | exact h4 | (simp [py0] at h4)
  have go : dEq0 st a b = some (eqD a b) := by
    unfold dEq0
    rw [e1, e2]
    have s1 : SeqAt.shaped p = true := by unfold SeqAt.shaped; simp [h2, h3]
    have s2 : SeqAt.shaped q = true := by unfold SeqAt.shaped; simp [h5, h6]
    simp only [opt_bind_some, s1, s2, and_self, if_true, eqv_eqD h1 h4]
  unfold dEq
  split
  · rename_i x y
    by_cases z : x = y
    · subst z; simp [eqD]
    · simp [eqD, z]
  · exact go
section
variable {st : Store} {K : D → Prop} {a b : D}
theorem o_eqD (ha : shD 64 a = true) (hb : shD 64 b = true) (h : K (.bl (eqD a b))) : OnO (bEq st a b) K := ⟨_, by unfold bEq; rw [dEq_sh ha hb]; rfl, h⟩
theorem o_neD (ha : shD 64 a = true) (hb : shD 64 b = true) (h : K (.bl (!eqD a b))) : OnO (bNe st a b) K := ⟨_, by unfold bNe; rw [dEq_sh ha hb]; rfl, h⟩
theorem shL_map {α : Type} {enc : α → D} {k : Nat} {l : List α} (h : ∀ x ∈ l, shD k (enc x) = true) : shL k (l.map enc) = true := by
  induction l with
  | nil => rfl
  | cons x l ih =>
    rw [List.map_cons]
    unfold shL
    rw [h x (List.mem_cons_self ..), ih fun y hy => h y (List.mem_cons_of_mem _ hy)]
    rfl
theorem eqL_map {α : Type} [DecidableEq α] {enc : α → D} (h : ∀ x y, eqD (enc x) (enc y) = decide (x = y)) : ∀ (l m : List α), eqL (l.map enc) (m.map enc) = decide (l = m)
  | [], [] => by simp [eqL]
  | [], _ :: _ => by simp [eqL]
  | _ :: _, [] => by simp [eqL]
  | x :: l, y :: m => by
    simp only [List.map_cons, eqL, h, eqL_map h l m]
    by_cases h1 : x = y <;> by_cases h2 : l = m <;> simp [h1, h2]
end
section
variable {st : Store} {K : D → Prop} {i j : Int}
theorem o_lenS {l : List D} (h : K (.int (l.length : Int))) : OnO (fLen st [.scr l]) K := ⟨_, rfl, h⟩
theorem o_div (h : Sd (CDivN i j) (K (.int (i.fdiv j)))) : OnO (bDiv st (.int i) (.int j)) K := by
  refine ⟨_, ?_, h.2⟩
  show (if CDivN i j then some (D.int (i.fdiv j)) else none) = _
  rw [if_pos h.1]
theorem o_mod (h : Sd (j ≠ 0) (K (.int (i.fmod j)))) : OnO (bMod st (.int i) (.int j)) K := by
  refine ⟨_, ?_, h.2⟩
  show (if j ≠ 0 then some (D.int (i.fmod j)) else none) = _
  rw [if_pos h.1]
theorem o_mul (h : Sd (CMul i j) (K (.int (i * j)))) : OnO (bMul st (.int i) (.int j)) K := by
  refine ⟨_, ?_, h.2⟩
  show (if CMul i j then some (D.int (i * j)) else none) = _
  rw [if_pos h.1]
end
end T5
namespace T5
open PySem PySem.Spec PyProof.Rows L2
variable [TabC]
/-! ### own exceptions: their making, raise -/
/-- a base class b of own exceptions, without an __init__ of its own -/
structure BaseI (K : PySem.W.Frag) (mg : Str → Option Value) (b : Str) (B : Addr) : Prop where
  at_ : mg b = some (.ref B)
  ga : PySem.W.specialIn K (.ref B) "__getattribute__" = some (some (.builtin "type.__getattribute__"))
  ty : PySem.W.typeIn K (.ref B) = some (.type "type")
  rd : PySem.W.readsIn K B (.type "type") = true
  ini : PySem.W.findCls K (.ref B) (.type "type") "__init__" = some (.val (.builtin "ValueError.__init__"))
section
variable {X : Cx} {e : Expr} {es : List Expr} {ta : TA} {p1 p2 pos : Pos} {b : Str} {B : Addr}
/-- b.__init__(self, ..) -/
theorem pe_baseI {pl : Sem Bool} (hg : Gl X b) (F : BaseI X.K X.mg b B) (ha : PA X (e :: es) ta) (hdb : (b == ("__debug__" : Str)) = false)
    (hc : eval (.Call (.Attribute (.Name b p1) "__init__" p2) (e :: es) [] pos) X.env = (do
      let ov ← eval (.Name b p1) X.env
      standAt p2.atName
      let (f, first) ← holding [ov] (getMethod ov "__init__" pl)
      callWith pos f first (backTo pos (starEach (e :: es) X.env)) (backToKw pos (keywordEach [] X.env))) := by rfl)
    (he : starEach (e :: es) X.env = (false, eval e X.env) :: starEach es X.env := by rfl) (hpl : (backTo pos (starEach es X.env)).any (·.1) = false := by rfl) :
    PE X (.Call (.Attribute (.Name b p1) "__init__" p2) (e :: es) [] pos) (tVeI X.K ta) := by
  constructor
  intro pins s σ H Q I h
  refine PySem.W.methodCall_KW (ld_glob I hg F.at_ ?_ hdb) hc
  obtain ⟨m, fr⟩ := I.fr
  refine PySem.W.method_of_cls fr I.ok.mod.kin F.ga ?_
  refine PySem.W.cls_val fr I.ok.mod.kin F.ty F.rd F.ini (by decide +kernel) ?_
  show wpAny _ _ (callWith pos (Value.builtin "ValueError.__init__") [] (backTo pos (starEach (e :: es) X.env)) []) _ _ _
  refine PyProof.Rows.callWith_method1 (thn (ha.run pos pins _ σ H _ (I.tok _) h) fun us s1 z => ?_) he hpl
  obtain ⟨vs, H1, I1, r1, a, C, ws, ev, hl, T, ea, q⟩ := z
  subst ev
  cases r1 with
  | @cons _ u0 _ ur ra rws =>
    obtain rfl : u0 = Value.ref a := ra
    refine oinit_ok T I1 ea ?_ fun s2 J => ⟨.non, H1, J, rfl, q⟩
    have e1 := Paired.length rws
    have e2 := sizeLine_eq
    omega
end
def spX1 (K : PySem.W.Frag) (f : Str) : Sp := fun vs H Q _ => ∃ (a C : Addr) (y : V), vs = [.ref a, y] ∧ OexC K C ∧ PySem.W.findIn K (.ref C) f = some none ∧ H a = some (exo a C none) ∧
  ∀ dx, H dx = none → dx ≠ a → Q .non (upd (upd H dx (exd dx [(f, y)])) a (exo a C (some dx)))
def spX2 (K : PySem.W.Frag) (f g : Str) : Sp := fun vs H Q _ => ∃ (a C : Addr) (y z : V), vs = [.ref a, y, z] ∧ OexC K C ∧ PySem.W.findIn K (.ref C) f = some none ∧ PySem.W.findIn K (.ref C) g = some none ∧ H a = some (exo a C none) ∧
  ∀ dx, H dx = none → dx ≠ a → Q .non (upd (upd (upd H dx (exd dx [(f, y)])) a (exo a C (some dx))) dx (exd dx [(g, z), (f, y)]))
def tX1 (K : PySem.W.Frag) (tx f : Str) : TS := tSeq (tDrop (tVeI K (tCons (tVar 0) (tCons (tC (.str tx)) tNil)))) (tOst K f (tVar 0) (tVar 1))
def tX2 (K : PySem.W.Frag) (tx f g : Str) : TS := tSeq (tDrop (tVeI K (tCons (tVar 0) (tCons (tC (.str tx)) tNil)))) (tSeq (tOst K f (tVar 0) (tVar 1)) (tOst K g (tVar 0) (tVar 2)))
section
variable {P : Program} {w : World} {K : PySem.W.Frag} {mg : Str → Option Value} {base : Heap} {qual f g tx : Str} {pa : Arguments} {bd : List Stmt} {sc : Scope} {fI : Addr} {fd : FuncData}
theorem fn_exI1 (tx : Str) (F : FunD K "__init__" qual pa bd sc [] [] fI fd) (S : FnScope ["self", f] ["self", f] sc)
    (hb : ∀ (cdv : Value) (A : Around) (outer : List Env) (s : Shared) (H : Hp) (E : XK), PSs (cxOf (L2.CX P w) P w K mg base ["self", f] qual sc fI cdv A outer s H E) bd (tX1 K tx f)) :
    FnOk P w K mg base (L2.CX P w) 1 fI fd ["self", f] (spX1 K f) := by
  refine F.ok S (fun vs H Q E h => by obtain ⟨a, C, y, rfl, _⟩ := h; rfl) fun cdv A outer s H vs Q E hr hsp => ?_
  obtain ⟨a, C, y, rfl, T, hno, ea, q⟩ := hsp
  refine ⟨_, hb cdv A outer s H E, ?_⟩
  refine ⟨_, rfl, a, C, _, rfl, ?_, T, ea, ?_⟩
  · exact Nat.le_of_ble_eq_true rfl
  · exact ⟨_, rfl, _, rfl, a, C, rfl, T, hno, .inl ⟨ea, fun dx n ne => q dx n ne⟩⟩
theorem fn_exI2 (tx : Str) (F : FunD K "__init__" qual pa bd sc [] [] fI fd) (S : FnScope ["self", f, g] ["self", f, g] sc)
    (hb : ∀ (cdv : Value) (A : Around) (outer : List Env) (s : Shared) (H : Hp) (E : XK), PSs (cxOf (L2.CX P w) P w K mg base ["self", f, g] qual sc fI cdv A outer s H E) bd (tX2 K tx f g)) :
    FnOk P w K mg base (L2.CX P w) 1 fI fd ["self", f, g] (spX2 K f g) := by
  refine F.ok S (fun vs H Q E h => by obtain ⟨a, C, y, z, rfl, _⟩ := h; rfl) fun cdv A outer s H vs Q E hr hsp => ?_
  obtain ⟨a, C, y, z, rfl, T, hno, hno2, ea, q⟩ := hsp
  refine ⟨_, hb cdv A outer s H E, ?_⟩
  refine ⟨_, rfl, a, C, _, rfl, ?_, T, ea, ?_⟩
  · exact Nat.le_of_ble_eq_true rfl
  · refine ⟨_, rfl, _, rfl, a, C, rfl, T, hno, .inl ⟨ea, fun dx n ne => ?_⟩⟩
    exact ⟨_, rfl, _, rfl, a, C, rfl, T, hno2, .inr ⟨dx, [(f, y)], upd_same, by rw [upd_ne ne]; exact upd_same, Nat.le_of_ble_eq_true rfl, q dx n ne⟩⟩
end
end T5
namespace T5
open PySem PySem.Spec PyProof.Rows L2
variable [TabC]
/-! ### raise c(..) -/
structure ExcF (K : PySem.W.Frag) (mg : Str → Option Value) (c : String) (C fI : Addr) : Prop where
  at_ : mg (Str.ofString c) = some (.ref C)
  oex : OexC K C
  ini : PySem.W.findIn K (.ref C) "__init__" = some (some (.ref fI))
  ty : PySem.W.typeIn K (.ref fI) = some (.type "function")
def sRaise (c : String) (ks : List String) (m : MA) : MS := fun env st => (m env st).toS env fun ds st1 => if ds.length = ks.length then .ex c ks.reverse ds.reverse env st1 else .bad
section
variable {X : Cx} {c f g : String} {C fI : Addr} {x : Str} {e : Expr} {es : List Expr} {ma : MA} {p pos pos' : Pos} {fd : FuncData}
theorem ext_xd {K : PySem.W.Frag} {mg : Str → Option Value} {μ : Mu} {H H2 : Hp} {st : Store} {a dx : Addr} {fs : List (Str × V)} (r : Rel K mg μ H st) (ha : H a = none) (hd : H dx = none) (hs : ∀ b o, H b = some o → H2 b = some o) : Same H (upd (del H2 a) dx (.xd fs)) := fun b o eb => by
  rw [upd_ne (ne_of_none eb hd), del_ne (ne_of_none eb ha)]
  exact hs b o eb
theorem ss_raise1 (hc : X.calm = true) (EF : ExcF X.K X.mg c C fI) (hno : PySem.W.findIn X.K (.ref C) (Str.ofString f) = some none) (G : ∃ fd, FnOk X.prog X.w X.K X.mg X.base (L2.CX X.prog X.w) 1 fI fd ["self", Str.ofString f] (spX1 X.K (Str.ofString f)) ∧ Binds X.K fd ["self", Str.ofString f] [])
    (hr : Room 2 X.A) (hg : Gl X x) (ha : SA X (e :: es) ma) (hx : x = Str.ofString c := by rfl) (hdb : (x == ("__debug__" : Str)) = false := by decide)
    (he : starEach (e :: es) X.env = (false, eval e X.env) :: starEach es X.env := by rfl) (hpl : (backTo pos' (starEach es X.env)).any (·.1) = false := by rfl) :
    SS X (.Raise (some (.Call (.Name x p) (e :: es) [] pos')) none pos) (sRaise c [f] ma) := fun pn xe W tk hp => by
  obtain ⟨fd, G, hb⟩ := G
  refine PS.imp (ps_raise (X := X.tr pn xe) hc tk (pmk_oex (X := X.tr pn xe) (CX := L2.CX X.prog X.w) (ds := []) (dvs := []) EF.oex EF.ini EF.ty G hr hb .nil pass_no hg (hx ▸ EF.at_) (ha pn xe W tk) hdb he hpl)) fun En σ H h => ?_
  obtain ⟨μ, env, st, r, re, q⟩ := h
  refine ⟨μ, env, st, r, re, (AftS.ofR re q).imp fun ds st1 μ1 H1 x1 r1 q1 vs hv => ?_⟩
  split at q1
  · rename_i hl
    cases ds with
    | nil => simp at hl
    | cons d ds =>
      cases ds with
      | cons _ _ => simp at hl
      | nil =>
        obtain ⟨v, w, rfl, hv1, hv2⟩ := hv
        have hw : w = [] := hv2
        subst hw
        refine ⟨Nat.le_of_ble_eq_true rfl, fun a na => ⟨a, C, v, rfl, EF.oex, hno, upd_same, fun dx nd ne => ?_⟩⟩
        have nd1 : H1 dx = none := by rwa [upd_ne ne] at nd
        refine ⟨rfl, dx, [(Str.ofString f, v)], upd_same, by rw [upd_ne ne]; exact upd_same, nd1, ?_⟩
        have sm := ext_xd (fs := [(Str.ofString f, v)]) (H2 := upd (upd (upd H1 a (exo a C none)) dx (exd dx [(Str.ofString f, v)])) a (exo a C (some dx))) r1 na nd1 fun b o eb => by
          rw [upd_ne (ne_of_none eb na), upd_ne (ne_of_none eb nd1), upd_ne (ne_of_none eb na)]
          exact eb
        have x2 := Ext.same r1 sm
        exact q1 μ1 _ σ C dx [v] x2 (r1.same sm) ((re.ext x1).ext x2) EF.at_ rfl (by rw [upd_same]; rfl) (r1.nin nd1) ⟨v, [], rfl, hv1.ext x2, rfl⟩
  · exact q1.elim
theorem ss_raise2 (hc : X.calm = true) (EF : ExcF X.K X.mg c C fI) (hno : PySem.W.findIn X.K (.ref C) (Str.ofString f) = some none) (hno2 : PySem.W.findIn X.K (.ref C) (Str.ofString g) = some none)
    (G : ∃ fd, FnOk X.prog X.w X.K X.mg X.base (L2.CX X.prog X.w) 1 fI fd ["self", Str.ofString f, Str.ofString g] (spX2 X.K (Str.ofString f) (Str.ofString g)) ∧ Binds X.K fd ["self", Str.ofString f, Str.ofString g] [])
    (hr : Room 2 X.A) (hg : Gl X x) (ha : SA X (e :: es) ma) (hx : x = Str.ofString c := by rfl) (hdb : (x == ("__debug__" : Str)) = false := by decide)
    (he : starEach (e :: es) X.env = (false, eval e X.env) :: starEach es X.env := by rfl) (hpl : (backTo pos' (starEach es X.env)).any (·.1) = false := by rfl) :
    SS X (.Raise (some (.Call (.Name x p) (e :: es) [] pos')) none pos) (sRaise c [f, g] ma) := fun pn xe W tk hp => by
  obtain ⟨fd, G, hb⟩ := G
  refine PS.imp (ps_raise (X := X.tr pn xe) hc tk (pmk_oex (X := X.tr pn xe) (CX := L2.CX X.prog X.w) (ds := []) (dvs := []) EF.oex EF.ini EF.ty G hr hb .nil pass_no hg (hx ▸ EF.at_) (ha pn xe W tk) hdb he hpl)) fun En σ H h => ?_
  obtain ⟨μ, env, st, r, re, q⟩ := h
  refine ⟨μ, env, st, r, re, (AftS.ofR re q).imp fun ds st1 μ1 H1 x1 r1 q1 vs hv => ?_⟩
  split at q1
  · rename_i hl
    match ds, hl, hv, q1 with
    | [d, d'], _, ⟨v, w, e1, hv1, v', w', e2, hv2, hv3⟩, q1 =>
      have hw : w' = [] := hv3
      subst hw e2 e1
      refine ⟨Nat.le_of_ble_eq_true rfl, fun a na => ⟨a, C, v, v', rfl, EF.oex, hno, hno2, upd_same, fun dx nd ne => ?_⟩⟩
      have nd1 : H1 dx = none := by rwa [upd_ne ne] at nd
      refine ⟨rfl, dx, [(Str.ofString g, v'), (Str.ofString f, v)], by rw [upd_ne (Ne.symm ne)]; exact upd_same, upd_same, nd1, ?_⟩
      have sm := ext_xd (fs := [(Str.ofString g, v'), (Str.ofString f, v)]) (H2 := upd (upd (upd (upd H1 a (exo a C none)) dx (exd dx [(Str.ofString f, v)])) a (exo a C (some dx))) dx (exd dx [(Str.ofString g, v'), (Str.ofString f, v)])) r1 na nd1 fun b o eb => by
        rw [upd_ne (ne_of_none eb nd1), upd_ne (ne_of_none eb na), upd_ne (ne_of_none eb nd1), upd_ne (ne_of_none eb na)]
        exact eb
      have x2 := Ext.same r1 sm
      exact q1 μ1 _ σ C dx [v', v] x2 (r1.same sm) ((re.ext x1).ext x2) EF.at_ rfl (by rw [upd_same]; rfl) (r1.nin nd1) ⟨v', [v], rfl, hv2.ext x2, v, [], rfl, hv1.ext x2, rfl⟩
    | [], hl, _, _ => simp at hl
    | [_], hl, _, _ => simp at hl
    | _ :: _ :: _ :: _, hl, _, _ => simp at hl
  · exact q1.elim
end
end T5
namespace T5
open PySem PySem.Spec PyProof.Rows L2
variable [TabC]
/-! ### try: .. except (A, B) as n: x = n, the exception kept as a value -/
section
variable {X : Cx} {pins : List (Addr × Obj)} {σ : L2.St} {H : Hp} {s : Shared} {a C dx : Addr} {oe : Obj} {vs : Array Value}
theorem exV_ne {o : HO} (h : ∀ φ, o ≠ .ext φ) : o ≠ exV a C dx := h _
/-- an exception's object is known from now on -/
theorem Inv.track (J : Inv X pins σ H s) (e0 : s.heap.get? a = some oe) (ed : oe.data = .fields vs) (ez : Zc (.ref C) (some dx) oe) (na : H a = none) (nL : a ≠ X.env.locals) (n0 : X.s_0.heap.get? a = none) (nP : ∀ p ∈ X.pn ++ pins, p.1 ≠ a) :
    Inv X pins σ (upd H a (exV a C dx)) s := by
  have ne : ∀ {b : Addr} {u : HO}, H b = some u → b ≠ a := fun z => ne_of_none z na
  have old : ∀ {b : Addr} {o : Obj}, X.s_0.heap.get? b = some o → b ≠ a := fun {b o} z w => by
    rw [w, n0] at z
    cases z
  refine ⟨J.ok, J.os, J.bare, ⟨J.base.keep, J.base.slot, fun b o z n x => ?_, J.base.there, fun b xs z => ?_, fun b o u z => ?_, fun b ps z => ?_⟩, J.loc, J.cell, ?_, fun x c z => ?_, fun p hp => ?_, fun b u z => ?_, J.len⟩
  · rw [upd_ne (old z)]
    exact J.base.free b o z n x
  · have w := J.base.tups b xs z
    rw [upd_ne (ne w)]
    exact w
  · have w := J.base.frzs b o u z
    rw [upd_ne (ne w)]
    exact w
  · obtain ⟨m, w⟩ := J.base.tbls b ps z
    exact ⟨m, by rw [upd_ne (ne w)]; exact w⟩
  · rw [upd_ne (Ne.symm nL)]
    exact J.free
  · have nc : c ≠ a := fun w => by
      obtain ⟨v, o, q1, q2⟩ := J.cell x c z
      rw [w, e0] at q1
      cases q1
      rw [ed] at q2
      cases q2
    rw [upd_ne nc]
    exact J.freeC x c z
  · obtain ⟨q1, q2, q3, q4, q5⟩ := J.pin p hp
    exact ⟨q1, by rw [upd_ne (nP p hp)]; exact q2, q3, q4, q5⟩
  · by_cases hb : b = a
    · subst hb
      rw [upd_same] at z
      cases z
      exact ⟨⟨oe, vs, e0, ez, ed⟩, ⟨oe, e0⟩, fun h1 h2 ⟨o, w, q1, q2, q3⟩ k => ⟨o, w, k _ q1, q2, q3⟩⟩
    · rw [upd_ne hb] at z
      refine (J.hok b u z).stay (fun c v _ w => w) (fun c w => ?_) fun c xs w => ?_
      · rw [upd_ne (ne w)]
        exact w
      · rw [upd_ne (ne w)]
        exact w
theorem flying_push {B : Heap} {l : List Env} {Z : Obj → Prop} {h : Heap} {o : Obj} (x : HandSPX.FlyingZ B l a Z h) : HandSPX.FlyingZ B l a Z (h.push o) := by
  obtain ⟨f1, f2, f3, oe, vs, T, oT, ts, g1, g2, g3, g4, g5, g6, g7, g8⟩ := x
  exact ⟨fun b u z => Heap.get?_push_of_some _ (f1 b u z), f2, Heap.FunFrames.of_keeps (fun b u z _ => ⟨u, Heap.get?_push_of_some _ z, rfl⟩) f3, oe, vs, T, oT, ts, Heap.get?_push_of_some _ g1, g2, g3, g4, g5, g6, Heap.get?_push_of_some _ g7, g8⟩
end
/-- what the clause wishes of an exception of the body: i is the name's slot, j that of what keeps it -/
def wHold (K : PySem.W.Frag) (c1 c2 : Value) (i j : Nat) (D : Ends) : WX := fun cls d σ H =>
  ∃ C dx, cls = .ref C ∧ d = some dx ∧ PySem.W.exmAny K cls [c1, c2] = some true ∧ ∀ a, H a = none → D.nx (((σ.set i (some (.ref a))).set j (some (.ref a))).set i none) (upd H a (exV a C dx))
section
variable {X : Cx} {xA xB n x : Str} {c1 c2 : Addr} {i j : Nat} {body : List Stmt} {k0 : Nat} {pos p1 p2 p3 p4 p5 p6 p7 : Pos} {tb : WX → TS}
theorem ps_try_hold (hs : X.stack = X.env :: X.outer) (hf : X.env.frame = some X.env.locals) (hex : X.ex = []) (hN : X.N.Nodup) (hi : X.N[i]? = some n) (hj : X.N[j]? = some x) (hij : i ≠ j) (hln : X.env.kindOf n = some .local) (hlx : X.env.kindOf x = some .local)
    (hA : Gl X xA) (mA : X.mg xA = some (.ref c1)) (hB : Gl X xB) (mB : X.mg xB = some (.ref c2)) (dA : (xA == ("__debug__" : Str)) = false) (dB : (xB == ("__debug__" : Str)) = false) (dn : (n == ("__debug__" : Str)) = false) (dn2 : (n == ("__classdict__" : Str)) = false)
    (hst : ∀ (a : Addr) (pn : List (Addr × Obj)), swapsWith (.Name n p4) (some (.Name x p5)) p6.line (X.suite a pn).env = pure false)
    (hsp : ∀ (a : Addr) (oe : Obj), backTo p3 (starEach [.Name xA p1, .Name xB p2] X.env) = [(false, eval (.Name xA p1) X.env), (false, eval (.Name xB p2) X.env)])
    (hb : ∀ (W : WX) (pn : List (Addr × Obj)) (xe : Value → Shared → Prop), Takes (X.tr pn xe) W → PassesOwn (model X.prog X.w) X.A X.env xe → PSs (X.tr pn xe) body (tb W)) :
    PS X (.Try body [.ExceptHandler (some (.Tuple [.Name xA p1, .Name xB p2] k0 p3)) (some n) [.Assign [.Name x p5] (.Name n p4) p6] p7] [] [] pos) (fun D σ H => tb (wHold X.K (.ref c1) (.ref c2) i j D) D σ H) := by
  constructor
  intro pins s σ H D I h
  have ok := I.ok
  have fr := ok.frames
  rw [hs] at fr
  refine wpAny_Try_except (wpAny_mono ((hb (wHold X.K (.ref c1) (.ref c2) i j D) (X.pn ++ pins) _ (fun u s2 air => ?hit) PassesOwn.looking).run [] s σ H D (I.toTry _) h) (fun f s1 q => ?thr) (fun _ _ z => z))
  case thr =>
    cases f <;> first
      | (obtain ⟨σ1, H1, I1, q1⟩ := q; exact wpAny_execs_nil ⟨σ1, H1, I1.ofTry ok, q1⟩)
      | (obtain ⟨σ1, H1, I1, q1⟩ := q; exact ⟨σ1, H1, I1.ofTry ok, q1⟩)
      | (obtain ⟨v, σ1, H1, I1, r1, q1⟩ := q; exact ⟨v, σ1, H1, I1.ofTry ok, r1, q1⟩)
  case hit =>
    obtain ⟨a, B, sI, pins2, σ2, H2, cls, d, rfl, I2, ground, slots, sky, na, os, bare, C, dx, rfl, rfl, match_, wish⟩ := air
    have I3 : Inv X pins σ2 H2 sI := I2.ofTry ok
    rw [show (X.tr (X.pn ++ pins) _).stack = X.env :: X.outer from hs] at sky
    refine Sky.land Zc.steady fr hf sky fun h3 fl3 up3 => ?_
    obtain ⟨oe, vs, at3, z3, d3⟩ := fl3.there
    have nfr : a ∉ frs (X.env :: X.outer) := fun m => by
      obtain ⟨_, o, e, nf⟩ := fl3.2.2.1.mem m
      rw [at3] at e
      cases e
      exact nf _ d3
    have nLoc : a ≠ X.env.locals := fun z => nfr (List.mem_filterMap.mpr ⟨X.env, List.mem_cons_self, by rw [hf, z]⟩)
    have nOut : a ∉ X.fs := fun m => by
      obtain ⟨e, he, q⟩ := List.mem_filterMap.mp m
      exact nfr (List.mem_filterMap.mpr ⟨e, List.mem_cons_of_mem _ he, q⟩)
    have gr : ∀ b o, sI.heap.get? b = some o → b ∉ frs X.stack → b ≠ a := fun b o e m z => by
      have w := ground b o e m
      rw [z, fl3.2.1] at w
      cases w
    have n0 : X.s_0.heap.get? a = none := by
      cases e : X.s_0.heap.get? a with
      | none => rfl
      | some o =>
        obtain ⟨o2, w⟩ := I3.base.there a o e (by rw [hex]; exact fun z => nomatch z)
        exact absurd rfl (gr a o2 w (by rw [hs]; exact nfr))
    have nP : ∀ p ∈ X.pn ++ pins, p.1 ≠ a := fun p hp => by
      obtain ⟨q1, q2, q3, q4, _⟩ := I3.pin p hp
      refine gr p.1 p.2 q1 fun m => ?_
      rcases List.mem_cons.mp (I3.stkSub _ m) with z | z
      · exact q3 z
      · exact q4 z
    -- the state on the ground, at any heap behind
    have land : ∀ {h : Heap}, HandSPX.FlyingZ B (X.env :: X.outer) a (Zc (.ref C) (some dx)) h → s2.heap.UpToSlots h → Inv X pins σ2 H2 { s2 with heap := h } := fun fl up => I3.landed ground fl.1 (slots.trans up) os bare
    have K3 : X.K.In h3 := (land fl3 up3).kIn
    have up4 : s2.heap.UpToSlots (h3.push { cls := .type "tuple", data := .seq [Value.ref c1, Value.ref c2].toArray }) := up3.trans (Heap.UpToSlots.of_keeps fun b o e => Heap.get?_push_of_some _ e)
    have fl4 := flying_push (o := { cls := .type "tuple", data := .seq [Value.ref c1, Value.ref c2].toArray }) fl3
    obtain ⟨oe4, vs4, at4, z4, d4⟩ := fl4.there
    refine wpAny_handleBy_cons (codeAny_handlers_test (wpAny_Tuple_spliced ?_)) (by intro q; cases q)
    have S3 := (land fl3 up3).suite at3 d3 na nLoc nOut
    rw [hsp a oe]
    refine Calls.spliced_cons (ld_glob (X := X.suite a ((a, oe) :: (X.pn ++ pins))) S3 hA mA ?_ dA)
    refine Calls.spliced_cons (ld_glob (X := X.suite a ((a, oe) :: (X.pn ++ pins))) S3 hB mB ?_ dB)
    refine Calls.spliced_nil ⟨Nat.le_of_ble_eq_true rfl, ?_⟩
    have LT : PySem.W.Looks (model X.prog X.w) (h3.push { cls := .type "tuple", data := .seq [Value.ref c1, Value.ref c2].toArray }) (typeOf (.ref a)) (.ref C) := fun _ _ _ _ k q => wpAny_typeOf_ref (k _ _ at4) (by rw [z4.1]; exact q)
    have LM := PySem.W.exm_tup2 (M := model X.prog X.w) (tp := h3.objs.size) ((land fl4 up4).kIn) LT (Heap.get?_push_size _ rfl) match_
    refine LM.here (codeAny_handlers_suite_as (HandSPX.lands_againZ fl4 fun h5 fl5 up5 => ?_))
    obtain ⟨oe5, vs5, at5, z5, d5⟩ := fl5.there
    have S5 := (land fl5 (up4.trans up5)).suite at5 d5 na nLoc nOut
    refine store_ok (X := X.suite a ((a, oe5) :: (X.pn ++ pins))) (v := .ref a) S5 hN hi (.inl hln) rfl (fun s6 S6 => ?_) (.inr hln)
    have hn6 : (σ2.set i (some (V.ref a)))[i]? = some (some (V.ref a)) := List.getElem?_set_self (by rw [S5.len]; exact (List.getElem?_eq_some_iff.mp hi).1)
    have bd := pss_one (ps_set (X := X.suite a ((a, oe5) :: (X.pn ++ pins))) (pos := p6) (pos' := p5) (i := j) hN hj (.inl hlx) (pe_var (pos := p4) (i := i) hi (.inl hln) dn dn2) (hst a _) (.inr hlx))
    refine wpAny_mono (bd.run [] s6 _ H2 { nx := fun σ7 H7 => σ7 = (σ2.set i (some (V.ref a))).set j (some (V.ref a)) ∧ H7 = H2, rt := fun _ _ => False } S6 ⟨_, hn6, rfl, rfl⟩) (fun f s7 q => ?_) fun _ _ z => False.elim z
    cases f with
    | next =>
      obtain ⟨σ7, H7, S7, e1, e2⟩ := q
      subst e1 e2
      obtain ⟨w1, w2, _⟩ := S7.pin (a, oe5) (List.mem_append.mpr (.inl List.mem_cons_self))
      have J7 : Inv X pins _ _ s7 := Inv.track (S7.unsuite ok) w1 d5 z5 w2 nLoc n0 nP
      exact gone_ok J7 hN hi hln fun s8 J8 => ⟨_, _, J8, wish a na⟩
    | brk => obtain ⟨_, _, _, z⟩ := q; exact z.elim
    | cont => obtain ⟨_, _, _, z⟩ := q; exact z.elim
    | ret u => obtain ⟨_, _, _, _, _, z⟩ := q; exact z.elim
end
end T5
namespace T5
open PySem PySem.Spec PyProof.Rows L2
variable [TabC]
/-! ### isinstance of an exception that is kept, its fields -/
section
open PySem.W PySem.Calls
variable {prog : Program} {w : World} {A : Around} {E : Value → Shared → Prop} {s : Shared} {K : Frag} {x D : Addr} {ox : Obj} {od : Option Obj}
theorem find_cls_any (C : ExcC K D) : findObj K D od "__class__" = some (.bind (.builtin "getset_descriptor.__get__") (.builtin "object.__class__")) := by
  obtain ⟨cd, hc, _⟩ := any_some C.hd
  unfold findObj
  rw [hc, Option.bind_some, C.ha, Option.bind_some]
  simp [C.hn, C.ht]
theorem cls_of_exc {Q : Option Value → Shared → Prop} (C : ExcC K D) (X : K.In s.heap) (I : InstAt s.heap x ox D od) (h : Q (some (.ref D)) { s with toks := s.toks + 1 }) : wpAny (model prog w) A (getAttr? (.ref x) "__class__") Q E s := by
  obtain ⟨hp, g, d, t, os⟩ := s
  have Lt := I.type (M := model prog w)
  have Lg := looks_findIn (M := model prog w) X C.hg
  have Lk := looks_findIn (M := model prog w) X C.hk
  have Lf := looks_find (M := model prog w) X I (find_cls_any C)
  have Ls : Looks (model prog w) hp (isInstance (.ref x) (.type "BaseException")) true := Lt.andThen (looks_subIn X C.hs)
  have n0 : (false && onTheHeap (Value.builtin "BaseException.__getattribute__")) = false := rfl
  have n2 : (Value.builtin "BaseException.__getattribute__" == Value.builtin "object.__getattribute__") = false := by decide +kernel
  have n1 : (onTheHeap (Value.ref D) && Value.builtin "BaseException.__getattribute__" == Value.builtin "object.__getattribute__") = false := by rw [n2]; rfl
  unfold getAttr? getAttrBy? getAttrBy
  refine wpAny_bind (wpAny_mkText (wpAny_bind (wpAny_attempt (wpAny_holding (wpAny_bind (Lt.at (wpAny_bind (Lg.at ?_))))))))
  show wpAny _ _ (if (onTheHeap (Value.ref D) && Value.builtin "BaseException.__getattribute__" == Value.builtin "object.__getattribute__") = true then _ else _) _ _ _
  rw [n1, if_neg Bool.false_ne_true]
  unfold getAttrByItsOwn hookBefore
  refine wpAny_bind ?_
  rw [if_pos (show onTheHeap (Value.ref D) = true from rfl)]
  refine Lk.at (wpAny_bind (wpAny_attempt (wpAny_holding ?_)))
  unfold callGetattribute
  rw [n0, if_neg Bool.false_ne_true]
  unfold boundAndCalled
  rw [PySem.F.excAttr_ValueError.ga.bind (.ref x)]
  refine wpAny_bind (wpAny_pure ?_)
  show wpAny _ _ (call (.builtin "BaseException.__getattribute__") [.ref x, .str "__class__" t]) _ _ _
  refine wpAny_call (codeAny_call_builtin PySem.F.excAttr_ValueError.ga.plain PySem.F.entry_bexc_ga (@check_slot (model prog w) _ _ ⟨hp, g, d, t + 1, os⟩ "BaseException.__getattribute__" "BaseException" "__getattribute__" (.ref x) [.str "__class__" t] [] _ (by decide +kernel) (by decide +kernel) Ls (PySem.F.args_bexc_ga (.ref x) (.str "__class__" t)) ?_))
  unfold Builtin.«object.__getattribute__»
  refine wpAny_bind (wpAny_of_eq (a := ((Value.ref x : Value), [Value.str "__class__" t])) (by first | rfl | (simp only [slotArgs]; rfl)) (wpAny_bind (wpAny_pure (wpAny_bind (Lt.at (wpAny_bind (Lf.at ?_)))))))
  show wpAny _ _ (holding [Value.builtin "object.__class__"] (call (.builtin "getset_descriptor.__get__") [.builtin "object.__class__", .ref x, .ref D]) >>= ret) _ _ _
  refine wpAny_bind (wpAny_holding (wpAny_call (class_get (s := ⟨hp, g, d, t + 1, os⟩) (ox := ox) (od := od) X I C.hm (wpAny_pure ?_))))
  show wpAny _ _ (handedOut (.ref D)) _ _ _
  rw [handedOut_of (v := .ref D) rfl]
  first
    | exact wpAny_pure (wpAny_pure h)
    | exact wpAny_pure h
    | exact wpAny_pure (wpAny_bind (wpAny_pure (wpAny_pure h)))
theorem kitx_exc (C : ExcC K D) : KitX K (.ref x) (.ref D) (fun h => ∃ od, InstAt h x ox D od) where
  ty := fun _ _ _ ⟨_, I⟩ => I.type
  it := fun _ _ X _ => by
    obtain ⟨cd, hc, _⟩ := any_some C.hd
    unfold clsIn at hc
    split at hc
    · rename_i c1 d1 cd1 sl1 ho
      intro A1 Q1 E1 s1 k q
      unfold isType loadHead
      exact wpAny_bind (wpAny_loadPart (k _ _ (X _ _ ho)) (wpAny_pure q))
    · cases hc
  ne := fun h tp dd its n sl X htp => by
    obtain ⟨cd, hc, _⟩ := any_some C.hd
    refine Bool.eq_false_iff.mpr fun q => ?_
    have e : D = tp := Value.ref.inj (beq_iff_eq.mp q)
    subst e
    unfold clsIn at hc
    split at hc
    · rename_i c1 d1 cd1 sl1 ho
      have z := (X _ _ ho).symm.trans htp
      cases z
    · cases hc
  ca := fun X ⟨_, I⟩ k => cls_of_exc C X I k
end
/-- what the top says of an exception class, for its kept instances -/
structure ExcK (K : PySem.W.Frag) (mg : Str → Option Value) (c : String) (C : Addr) : Prop where
  at_ : mg (Str.ofString c) = some (.ref C)
  ec : ExcC K C
section
variable {X : Cx} {pins : List (Addr × Obj)} {σ : L2.St} {H : Hp} {s : Shared} {a C dx : Addr}
theorem exV_at (I : Inv X pins σ H s) (h : H a = some (exV a C dx)) (hd : ∃ fs, H dx = some (.xd fs)) : ∃ oe o, PySem.W.InstAt s.heap a oe C (some o) := by
  have z : ObjOk X.prog X.w H s.heap a (.ext fun h => ∃ (oe : Obj) (vs : Array Value), h.get? a = some oe ∧ Zc (.ref C) (some dx) oe ∧ oe.data = .fields vs) := I.hok a _ h
  obtain ⟨⟨oe, vs, e1, ⟨e2, e3⟩, e4⟩, _⟩ := z
  obtain ⟨fs, hd⟩ := hd
  have y : ObjOk X.prog X.w H s.heap dx (.xd fs) := I.hok dx _ hd
  obtain ⟨mA, ⟨o, es, ep, ho, _⟩, _⟩ := y
  exact ⟨oe, o, e1, e2, by unfold PySem.W.notCls; rw [e4] <;> rfl, by rw [e3]; exact ho⟩
/-- isinstance(e, c) -/
def rIsX (K : PySem.W.Frag) : List V → Hp → VK → Prop := fun xs H Q => ∃ (a C dx : Addr) (fs : List (Str × V)) (c : V) (cv : Value) (b : Bool), xs = [.ref a, c] ∧ H a = some (exV a C dx) ∧ H dx = some (.xd fs) ∧ ExcC K C ∧ (∀ u, RelV c u → u = cv) ∧ PySem.W.kitOne K (.ref C) cv = some b ∧ Q (.bl b) H
theorem call_isX : CallR X (.builtin "isinstance") (rIsX X.K) := by
  intro pins s σ H xs us Q I r h
  obtain ⟨a, C, dx, fs, c, cv, b, rfl, ha, hd, EC, hcv, hk, q⟩ := h
  cases r with
  | cons rx rr =>
    cases rr with
    | cons rt rr =>
      cases rr
      cases rx
      have ec := hcv _ rt
      subst ec
      obtain ⟨oe, o, J⟩ := exV_at I ha ⟨fs, hd⟩
      exact PySem.W.kia_one (kitx_exc EC) I.kIn ⟨some o, J⟩ hk (fun z => nomatch z) fun tk => ⟨.bl b, H, I.kept (t' := tk) fun _ _ z => z, rfl, q⟩
end
end T5
namespace T5
open PySem PySem.Spec PyProof.Rows L2
variable [TabC]
/-! ### kept exceptions as data: try, isinstance, fields -/
def sTry (cs : List String) (i j : Nat) (m : MS) : MS := fun env st => match m env st with
  | .ex c ks vs e st1 => if cs.contains c = true then .nx (((e.set i (some (.exc c ks vs))).set j (some (.exc c ks vs))).set i none) st1 else .bad
  | r => r
section
variable {X : Cx} {xA xB n x : Str} {c1 c2 : Addr} {i j : Nat} {body : List Stmt} {k0 : Nat} {pos p1 p2 p3 p4 p5 p6 p7 : Pos} {m : MS} {cs : List String}
theorem ss_try (hs : X.stack = X.env :: X.outer) (hf : X.env.frame = some X.env.locals) (hex : X.ex = []) (hN : X.N.Nodup) (hi : X.N[i]? = some n) (hj : X.N[j]? = some x) (hij : i ≠ j) (hln : X.env.kindOf n = some .local) (hlx : X.env.kindOf x = some .local)
    (hA : Gl X xA) (mA : X.mg xA = some (.ref c1)) (hB : Gl X xB) (mB : X.mg xB = some (.ref c2)) (hcs : ∀ c ∈ cs, ∃ C, X.mg (Str.ofString c) = some (.ref C) ∧ PySem.W.exmAny X.K (.ref C) [.ref c1, .ref c2] = some true) (hb : SSs X body m)
    (dA : (xA == ("__debug__" : Str)) = false := by decide) (dB : (xB == ("__debug__" : Str)) = false := by decide) (dn : (n == ("__debug__" : Str)) = false := by decide) (dn2 : (n == ("__classdict__" : Str)) = false := by decide)
    (hst : ∀ (a : Addr) (pn : List (Addr × Obj)), swapsWith (.Name n p4) (some (.Name x p5)) p6.line (X.suite a pn).env = pure false := by intro _ _; rfl)
    (hsp : ∀ (a : Addr) (oe : Obj), backTo p3 (starEach [.Name xA p1, .Name xB p2] X.env) = [(false, eval (.Name xA p1) X.env), (false, eval (.Name xB p2) X.env)] := by intro _ _; rfl) :
    SS X (.Try body [.ExceptHandler (some (.Tuple [.Name xA p1, .Name xB p2] k0 p3)) (some n) [.Assign [.Name x p5] (.Name n p4) p6] p7] [] [] pos) (sTry cs i j m) := fun pn xe W tk hp => by
  refine PS.imp (ps_try_hold (X := X.tr pn xe) (tb := fun W => tS X.K X.mg W m) hs hf hex hN hi hj hij hln hlx hA mA hB mB dA dB dn dn2 (fun a pn' => hst a pn') hsp (fun W pn' xe' tk' hp' => hb pn' xe' W tk' hp')) fun D σ H h => ?_
  obtain ⟨μ, env, st, r, re, q⟩ := h
  refine ⟨μ, env, st, r, re, ?_⟩
  unfold sTry at q
  cases e : m env st with
  | nx e1 st1 => rw [e] at q; exact q
  | rt d st1 => rw [e] at q; exact q
  | bk e1 st1 => rw [e] at q; exact q
  | ct e1 st1 => rw [e] at q; exact q
  | bad => rw [e] at q; exact q
  | ex c ks vs e1 st1 =>
    rw [e] at q
    simp only at q
    split at q
    · rename_i hc
      intro μ1 H1 σ1 C dx us x1 r1 re1 g1 l1 d1 n1 q1
      obtain ⟨C', g2, me⟩ := hcs c (by simpa using hc)
      rw [g1] at g2
      cases g2
      refine ⟨C, dx, rfl, rfl, me, fun a na => ?_⟩
      have sm := same_upd (o := exV a C dx) na
      have x2 := Ext.same r1 sm
      have rx : Rep X.K X.mg μ1 (upd H1 a (exV a C dx)) (.exc c ks vs) (.ref a) := ⟨a, C, dx, us, rfl, r1.nin na, g1, l1, upd_same, n1, by rw [upd_ne (ne_of_none d1 na)]; exact d1, q1.ext x2⟩
      exact q μ1 _ _ (x1.trans x2) (r1.same sm) ((((re1.ext x2).set rx i).set rx j).none i none)
    · exact q.elim
end
/-! isinstance of a kept exception -/
abbrev Tbl := List (String × Bool × String × Bool)
def lkT (tb : Tbl) (c : String) (k : Bool) (n : String) : Option D := (tb.find? fun e => e.1 == c && e.2.1 == k && e.2.2.1 == n).map fun e => .bl e.2.2.2
def fIsX (tb : Tbl) : BF := fun _ ds => match ds with
  | [.exc c _ _, .cls n] => lkT tb c true n
  | [.exc c _ _, .ty n] => lkT tb c false n
  | _ => none
def TblOk (K : PySem.W.Frag) (mg : Str → Option Value) (tb : Tbl) : Prop := ∀ e ∈ tb, ∃ C, mg (Str.ofString e.1) = some (.ref C) ∧ ExcC K C ∧
  if e.2.1 = true then ∃ C', mg (Str.ofString e.2.2.1) = some (.ref C') ∧ PySem.W.kitOne K (.ref C) (.ref C') = some e.2.2.2 else PySem.W.kitOne K (.ref C) (.type e.2.2.1) = some e.2.2.2
theorem lkT_mem {tb : Tbl} {c n : String} {k : Bool} {d : D} (h : lkT tb c k n = some d) : ∃ b, (c, k, n, b) ∈ tb ∧ d = .bl b := by
  obtain ⟨e, h1, rfl⟩ := Option.map_eq_some_iff.mp h
  have h2 := List.find?_some h1
  simp only [Bool.and_eq_true, beq_iff_eq] at h2
  obtain ⟨⟨rfl, rfl⟩, rfl⟩ := h2
  exact ⟨e.2.2.2, List.mem_of_find?_eq_some h1, rfl⟩
section
variable {X : Cx} {K : PySem.W.Frag} {mg : Str → Option Value} {tb : Tbl} {e : Expr} {es : List Expr} {ma : MA} {m : ME} {p pos : Pos}
theorem calld_isX (F : TblOk K mg tb) : CallD K mg (rIsX K) (fIsX tb) := by
  intro μ H st ds d vs Q r hv e q
  unfold fIsX at e
  split at e
  · rename_i c ks us n
    obtain ⟨b, hm, rfl⟩ := lkT_mem e
    obtain ⟨C, g, ec, z⟩ := F _ hm
    rw [if_pos rfl] at z
    obtain ⟨C', g', kt⟩ := z
    obtain ⟨v, v2, rfl, h1, C2, rfl, h2⟩ := repL2 hv
    obtain ⟨a, C3, dx, ws, rfl, n1, g1, l1, e1, n2, e2, h3⟩ := h1
    cases h2.symm.trans g'
    cases g1.symm.trans g
    exact ⟨a, _, dx, _, _, .ref _, b, rfl, e1, e2, ec, fun u hu => hu, kt, q H _ Ext.refl r rfl⟩
  · rename_i c ks us n
    obtain ⟨b, hm, rfl⟩ := lkT_mem e
    obtain ⟨C, g, ec, z⟩ := F _ hm
    have z : PySem.W.kitOne K (.ref C) (.type n) = some b := z
    obtain ⟨v, v2, rfl, h1, h2⟩ := repL2 hv
    have h2' : v2 = .ty n := h2
    subst h2'
    obtain ⟨a, C3, dx, ws, rfl, n1, g1, l1, e1, n2, e2, h3⟩ := h1
    cases g1.symm.trans g
    exact ⟨a, _, dx, _, _, .type n, b, rfl, e1, e2, ec, fun u hu => hu, z, q H _ Ext.refl r rfl⟩
  · cases e
theorem se_isX (F : TblOk X.K X.mg tb) (hg : Gl X "isinstance") (hm : X.mg "isinstance" = none) (ha : SA X (e :: es) ma)
    (he : starEach (e :: es) X.env = (false, eval e X.env) :: starEach es X.env := by rfl) (hpl : (backTo pos (starEach es X.env)).any (·.1) = false := by rfl) : SE X (.Call (.Name "isinstance" p) (e :: es) [] pos) (eCB (fIsX tb) ma) :=
  se_callB (fun _ _ => call_isX) (calld_isX F) hg hm PyProof.Rows.boot_isinstance ha (by decide) (by decide) he hpl
/-! e.f of a kept exception -/
def eXf (cs : List String) (f : String) (m : ME) : ME := fun env st => (m env st).bind fun d st1 => match d with
  | .exc c ks vs => if cs.contains c = true then ofO (lookF f ks vs) st1 else .bad
  | _ => .bad
/-- the reading -/
def tXv (K : PySem.W.Frag) (n : Str) (te : TE) : TE := fun σ H Q => te σ H fun x H1 => ∃ (a C dx : Addr) (fs : List (Str × V)) (v : V), x = .ref a ∧ H1 a = some (exV a C dx) ∧ H1 dx = some (.xd fs) ∧ ExcC K C ∧ PySem.W.findIn K (.ref C) n = some none ∧ fs.lookup n = some v ∧ Q v H1
theorem pe_xv {te : TE} {n : Str} (he : PE X e te) (hb : attributeBase e n X.env (eval e X.env) = eval e X.env := by rfl) : PE X (.Attribute e n pos) (tXv X.K n te) := by
  constructor
  intro pins s σ H Q I h
  refine attr_of hb (thn (he.run pins s σ H _ I h) fun u s1 z => ?_)
  obtain ⟨x, H1, I1, rx, a, C, dx, fs, v, rfl, ha, hd, EC, hno, l, q⟩ := z
  obtain rfl : u = Value.ref a := rx
  have y : ObjOk X.prog X.w H1 s1.heap a (.ext fun h => ∃ (oe : Obj) (vs : Array Value), h.get? a = some oe ∧ Zc (.ref C) (some dx) oe ∧ oe.data = .fields vs) := I1.hok a _ ha
  obtain ⟨⟨oe, vs, e1, ⟨e2, e3⟩, e4⟩, _⟩ := y
  have w : ObjOk X.prog X.w H1 s1.heap dx (.xd fs) := I1.hok dx _ hd
  obtain ⟨mA, hns, hr⟩ := w
  obtain ⟨od, ho, hl⟩ := lookIn_ns hns
  obtain ⟨u, hu, ru⟩ := RelO.some_of (v := v) (o := mA n) (by rw [← l]; exact hr n)
  have J : PySem.W.InstAt s1.heap a oe C (some od) := ⟨e1, e2, by unfold PySem.W.notCls; rw [e4] <;> rfl, by rw [e3]; exact ho⟩
  exact PySem.HandSPX.exc_get I1.kIn J EC.hg EC.hk EC.hs (PySem.W.findObj_own EC.hd hno rfl (by rw [hl, hu])) (handed_of ru) ⟨v, H1, I1.tok _, ru, q⟩
theorem se_xf {cs : List String} {f : String} {fs : Str} (he : SE X e m) (hcs : ∀ c ∈ cs, ∃ C, X.mg (Str.ofString c) = some (.ref C) ∧ ExcC X.K C ∧ PySem.W.findIn X.K (.ref C) fs = some none) (hf : fs = Str.ofString f := by rfl)
    (hb : attributeBase e fs X.env (eval e X.env) = eval e X.env := by rfl) : SE X (.Attribute e fs pos) (eXf cs f m) := fun pn xe W tk => by
  refine PE.imp (pe_xv (X := X.tr pn xe) (he pn xe W tk) hb) fun σ H Q h => ?_
  refine tM_seq h fun d v μ env st H1 r re hd a => ?_
  cases d with
  | exc c ks vs =>
    simp only at a
    split at a
    · rename_i hc
      cases e2 : lookF f ks vs with
      | none => rw [e2] at a; exact a.elim
      | some d2 =>
        rw [e2] at a
        obtain ⟨C, g, EC, hno⟩ := hcs c (by simpa using hc)
        obtain ⟨b, C3, dx, ws, rfl, n1, g1, l1, e1, n2, e3, h3⟩ := hd
        cases g1.symm.trans g
        obtain ⟨w, e4, e5⟩ := lookF_of h3 e2
        exact ⟨b, _, dx, _, w, rfl, e1, e3, EC, hno, by rw [hf]; exact e4, a μ H1 Ext.refl r w e5⟩
    · exact a.elim
  | _ => exact a.elim
end
end T5
namespace T5
open PySem PySem.Spec PyProof.Rows L2 LamX
variable [TabC]
/-! ### x(lambda: e): what stands in the slots is carried along -/
def pairsE : DEnv → L2.St → List (D × V)
  | some d :: e, some v :: s => (d, v) :: pairsE e s
  | _ :: e, _ :: s => pairsE e s
  | _, _ => []
def Cov (env : DEnv) (σ : L2.St) : Prop := env.length = σ.length ∧ ∀ (i : Nat) (d : D), env[i]? = some (some d) → ∃ v, σ[i]? = some (some v)
section
variable {K : PySem.W.Frag} {mg : Str → Option Value} {μ : Mu} {H : Hp}
theorem renv_pairs : ∀ {env : DEnv} {σ : L2.St}, REnv K mg μ H env σ → RepL K mg μ H ((pairsE env σ).map (·.1)) ((pairsE env σ).map (·.2)) ∧ Cov env σ
  | [], [], r => ⟨rfl, rfl, fun i d h => by simp at h⟩
  | [], _ :: _, r => by have := r.len; simp at this
  | _ :: _, [], r => by have := r.len; simp at this
  | o :: e, u :: s, r => by
    have r' : REnv K mg μ H e s := ⟨by have := r.len; simpa using this, fun i d h => by
      have := r.at_ (i + 1) d (by simpa using h)
      simpa using this⟩
    obtain ⟨h1, h2⟩ := renv_pairs r'
    refine ⟨?_, r.len, fun i d h => let ⟨v, h, _⟩ := r.at_ i d h; ⟨v, h⟩⟩
    cases o with
    | none => cases u <;> exact h1
    | some d =>
      obtain ⟨v, e1, e2⟩ := r.at_ 0 d rfl
      have e3 : u = some v := by simpa using e1
      subst e3
      exact ⟨v, _, rfl, e2, h1⟩
theorem pairs_renv : ∀ {env : DEnv} {σ : L2.St}, Cov env σ → RepL K mg μ H ((pairsE env σ).map (·.1)) ((pairsE env σ).map (·.2)) → REnv K mg μ H env σ
  | [], [], c, h => ⟨rfl, fun i d h => by simp at h⟩
  | [], _ :: _, c, h => by have := c.1; simp at this
  | _ :: _, [], c, h => by have := c.1; simp at this
  | o :: e, u :: s, c, h => by
    have c' : Cov e s := ⟨by have := c.1; simpa using this, fun i d h => by
      have := c.2 (i + 1) d (by simpa using h)
      simpa using this⟩
    cases o with
    | none =>
      have h' : RepL K mg μ H ((pairsE e s).map (·.1)) ((pairsE e s).map (·.2)) := by cases u <;> exact h
      have r := pairs_renv c' h'
      refine ⟨c.1, fun i d hi => ?_⟩
      cases i with
      | zero => simp at hi
      | succ i => simpa using r.at_ i d (by simpa using hi)
    | some d =>
      obtain ⟨v, hv⟩ := c.2 0 d rfl
      have e3 : u = some v := by simpa using hv
      subst e3
      obtain ⟨v', w, e4, h1, h2⟩ := h
      cases e4
      have r := pairs_renv c' h2
      refine ⟨c.1, fun i d' hi => ?_⟩
      cases i with
      | zero =>
        have : d = d' := by simpa using hi
        subst this
        exact ⟨v, rfl, h1⟩
      | succ i => simpa using r.at_ i d' (by simpa using hi)
end
open Classical in
/-- a call of the lambda that this def got -/
noncomputable def eThunk (fn : D) (mt : Store → R D) : ME := fun env st => if env[0]? = some (some fn) then mt st else .bad
noncomputable def eHeard (hS : (Store → R D) → Store → R D) (mE : ME) : ME := fun env st => noEx (hS (fun st1 => mE env st1) st)
section
variable {X : Cx} {pins : List (Addr × Obj)} {σ : L2.St} {H HZ : Hp} {s : Shared}
/-- the lambda is made; nothing but the table at P changes -/
theorem lam_make3 {c P : Addr} {params : Arguments} {body : Expr} {scope : Scope} {pos : Pos} {E : Value → Shared → Prop} {Q : Value → Shared → Prop} (I : Inv X pins σ H s) (TB : TabB X.base X.mg c P) (hcode : X.env.code = .ref c)
    (hT : TabS H P (X.env.qual ++ "<lambda>")) (hdef : defaultsOf params X.env = ([], [])) (hfree : ∀ y ∈ scope.names, y.2 = .free → ∃ c, X.env.cells.lookup y.1 = some c)
    (h : ∀ (f c' : Addr) (pm ctv : Value) (H1 : Hp) (s' : Shared), Inv X pins σ H1 s' → (∀ b o, b ≠ P → H b = some o → H1 b = some o) → TabS H1 P (X.env.qual ++ "<lambda>") →
      s'.heap.get? f = some (PySem.W.kla_obj "<lambda>" (X.env.qual ++ "<lambda>") params body scope (cloFrom X.env.cells scope.names []) pm c' ctv) → H1 f = none → f ∉ frs X.stack → H1 c' = some (CodeO c' (X.env.qual ++ "<lambda>")) → Q (.ref f) s') :
    wpAny (model X.prog X.w) X.A (eval (.Lambda params body scope pos) X.env) Q E s := by
  obtain ⟨ps, hP, ht, ha⟩ := hT
  refine PySem.W.kla_eval hdef ?_
  have bP : s.heap.BuiltinsAt X.mg P := TB.bm.keeps I.bk
  have gP : s.heap.get? P = some { cls := .none, data := .fields ps } := I.hok P _ hP
  have nofr : ∀ f, s.heap.objs.size ≤ f → f ∉ frs X.stack := fun f hf z => by
    rcases List.mem_cons.mp (I.stkSub _ z) with e | e
    · exact absurd (Nat.lt_of_lt_of_le (e ▸ I.lt) hf) (Nat.lt_irrefl _)
    · exact I.nofs hf e
  cases hc : codeAmong pos ps.toList with
  | some cv =>
    obtain ⟨c', e, hco⟩ := ha pos cv hc
    subst e
    refine PySem.W.kla_makeFunctionHit (mg := X.mg) (c := c) (P := P) (ps := ps) (closure_ok hfree) I.ok.glob (I.mod.glob.keeps I.bk) hcode (TB.code.keeps I.bk) gP ht hc bP fun ctv h' tk hx hsz => ?_
    refine h h'.objs.size c' ((X.mg "__name__").getD .none) ctv H _ (I.kept (t' := tk) fun b o e => Heap.get?_push_of_some _ (hx b o e)) (fun _ _ _ e => e) ⟨ps, hP, ht, ha⟩ (Heap.get?_push_size _ rfl) (I.hok.fresh hsz) (nofr _ hsz) hco
  | none =>
    refine PySem.W.kla_makeFunction (mg := X.mg) (c := c) (P := P) (ps := ps) (closure_ok hfree) I.ok.glob (I.mod.glob.keeps I.bk) hcode (TB.code.keeps I.bk) gP ht hc TB.gP bP fun c' ctv h' tk hx hge hlt hrec htb => ?_
    obtain ⟨c2, oc, vs, t, e2, hoc, hd, hv⟩ := hrec
    cases e2
    have hsz : s.heap.objs.size ≤ h'.objs.size := by omega
    have nC : H c' = none := I.hok.fresh hge
    have I1 := inv_table (t' := tk) (more := #[rawInt pos.line, rawInt pos.col, .ref c']) (h' := h'.push (PySem.W.kla_obj "<lambda>" (X.env.qual ++ "<lambda>") params body scope (cloFrom X.env.cells scope.names []) ((X.mg "__name__").getD .none) c' ctv)) I hP
      (fun b o hb e => Heap.get?_push_of_some _ (hx b o hb e)) (Heap.get?_push_of_some _ htb) hge ⟨oc, vs, t, Heap.get?_push_of_some _ hoc, hd, hv⟩
    have kp : ∀ b o, b ≠ P → H b = some o → upd (upd H P (.tbl (ps ++ #[rawInt pos.line, rawInt pos.col, .ref c']))) c' (CodeO c' (X.env.qual ++ "<lambda>")) b = some o := fun b o n e => by
      rw [upd_ne (ne_of_none e nC), upd_ne n]
      exact e
    refine h h'.objs.size c' ((X.mg "__name__").getD .none) ctv _ _ I1 kp ?_ (Heap.get?_push_size _ rfl) ?_ (nofr _ hsz) upd_same
    · have eL : (ps ++ #[rawInt pos.line, rawInt pos.col, .ref c']).toList = ps.toList ++ [rawInt pos.line, rawInt pos.col, .ref c'] := by simp
      refine ⟨_, by rw [upd_ne (ne_of_none hP nC), upd_same], by rw [eL]; exact PySem.TriplesOk_snoc _ _ _ _ ht, fun p' cv hcv => ?_⟩
      rw [eL] at hcv
      rcases among_app _ ht hcv with z | z
      · obtain ⟨c0, e1, e2⟩ := ha p' cv z
        refine ⟨c0, e1, kp _ _ (fun w => ?_) e2⟩
        rw [w, hP] at e2
        exact codeO_ne _ (Option.some.inj e2).symm
      · exact ⟨c', z, upd_same⟩
    · rw [upd_ne (Nat.ne_of_gt hlt), upd_ne (Nat.ne_of_gt (Nat.lt_of_lt_of_le (Heap.lt_size gP) hsz))]
      exact I.hok.fresh hsz
/-- its call there; what is wished of exceptions may look at the slots -/
theorem pe_actS {CXg : CXT} {Eg : XK} {Ng : List Str} {qg : Str} {sg : Scope} {g f c' : Addr} {cdg pm ctv : Value} {params : Arguments} {body : Expr} {scope : Scope} {k i : Nat} {a : Str} {pn : List (Addr × Obj)} {xe : Value → Shared → Prop} {W : WX} {tb : XK → TE} {p1 p2 : Pos}
    (I : Inv X pins σ H s) (L : LamS X.env.scope scope) (hf : s.heap.get? f = some (PySem.W.kla_obj "<lambda>" (X.env.qual ++ "<lambda>") params body scope (cloFrom X.env.cells scope.names []) pm c' ctv)) (hfn : H f = none) (hfr : f ∉ frs X.stack)
    (hbind : bindArgs (PySem.W.kla_fn "<lambda>" (X.env.qual ++ "<lambda>") params body scope (cloFrom X.env.cells scope.names []) pm (.ref c') ctv) ⟨[], []⟩ = pure [])
    (tk : Takes ((cxOf CXg X.prog X.w X.K X.mg X.base Ng qg sg g cdg X.A X.stack s H Eg).tr pn xe) W) (hr : Room (k + 1) (X.A.deeper (envOfC qg sg s.heap.objs.size g cdg))) (hq0 : Gd X.A)
    (hbody : ∀ (A : Around) (outer : List Env) (s1 : Shared) (H1 : Hp) (E : XK), Room k (A.deeper (lamEnv X scope s1.heap.objs.size f c')) → Gd (A.deeper (lamEnv X scope s1.heap.objs.size f c')) → PE (lamCx X A outer s1 H1 E scope f c') body (tb E))
    (hN : Ng[i]? = some a) (hv : Vis sg a) (hd : (a == ("__debug__" : Str)) = false) (hcd : (a == ("__classdict__" : Str)) = false) :
    PE ((cxOf CXg X.prog X.w X.K X.mg X.base Ng qg sg g cdg X.A X.stack s H Eg).tr pn xe) (.Call (.Name a p1) [] [] p2)
      (fun σZ HZ Q => σZ[i]? = some (some (.ref f)) ∧ HZ c' = some (CodeO c' (X.env.qual ++ "<lambda>")) ∧ tb (fun cls d H' => W cls d σZ H') σ HZ Q) := by
  constructor
  intro pinsZ sZ σZ HZ Q IZ h
  obtain ⟨hs, hc, ht⟩ := h
  refine wpAny_Call_Name_kw (thn ((pe_var (pos := p1) (i := i) hN hv hd hcd).run pinsZ sZ σZ HZ (fun v H1 => v = .ref f ∧ H1 = HZ) IZ ⟨.ref f, hs, rfl, rfl⟩) fun u s1 z => ?_)
  obtain ⟨v, H1, I1, r1, rfl, rfl⟩ := z
  obtain rfl : u = Value.ref f := r1
  have at1 : s1.heap.get? f = some (PySem.W.kla_obj "<lambda>" (X.env.qual ++ "<lambda>") params body scope (cloFrom X.env.cells scope.names []) pm c' ctv) := I1.base.keep f _ hf hfn hfr (fun z => nomatch (show f ∈ ([] : List Addr) from z))
  refine PySem.W.callWith_F0 ⟨_, _, _, _, at1⟩ ?_
  have un : Un (frs X.stack) [] H H1 s.heap s1.heap := I1.base
  obtain ⟨⟨oc, vs, t, hoc, hdc, hvc⟩, _, _⟩ := I1.hok c' _ hc
  have rc : codeAny (model X.prog X.w) (X.A.deeper (envOfC qg sg s.heap.objs.size g cdg)) (.call (.ref f) ⟨[], []⟩) (CR (L2.CX X.prog X.w) (envOfC qg sg s.heap.objs.size g cdg :: X.stack) X.prog X.w H1 s1 Q (fun cls d H' => W cls d σZ H')) s1 := by
    refine PySem.W.kla_callFunE hr.depth at1 rfl L.co L.gen rfl ⟨c', oc, vs, t, rfl, hoc, hdc, hvc⟩ ?_
    rw [hbind]
    refine wpAny_pure (wpAny_newFunctionEnv (fun y hy => (L.own y hy).2) (fun y hy => absurd hy (by simp)) (fun h1 hns hsb => ⟨I1.nolimit.fresh _ hsb, ?_⟩) L.kind)
    have kp : ∀ b o, s1.heap.get? b = some o → h1.get? b = some o := fun b o e => hsb.extBut b o (Nat.ne_of_lt (Heap.lt_size e)) (Heap.get?_push_of_some _ e)
    have J := lam_start2 (E := fun cls d H' => W cls d σZ H') (c' := c') (f := f) (tk := s1.toks + ([] : List (Str × Value)).length) I L I1.env0 hr.hd un hns kp
    refine PySem.W.kla_codeExpr (wpAny_mono ((hbody _ _ s1 H1 _ (hr.deeper _) hq0).run [] _ _ H1 Q J ht) (fun v s' hq => ?_) fun e s' hq => hq)
    obtain ⟨w', H', J', rv, q⟩ := hq
    exact ⟨w', H', J'.os, J'.bare, J'.base, J'.hok, rv, q⟩
  refine wpAny_call (codeAny_mono rc fun r s' hq => ?_)
  cases r with
  | error e => exact tk _ _ (XE.of_call I1 (fun _ _ _ z => z) hq)
  | ok fl =>
    cases fl with
    | ret u => exact I1.after hq
    | next => exact False.elim hq
    | brk => exact False.elim hq
    | cont => exact False.elim hq
end
section
variable {X : Cx}
theorem rel_tab {K : PySem.W.Frag} {mg : Str → Option Value} {μ : Mu} {H H1 : Hp} {st : Store} {P : Addr} {q : Str} (r : Rel K mg μ H st) (hm : (P, q) ∈ TabC.T) (hu : ∀ p ∈ TabC.T, p.1 = P → p.2 = q) (k : ∀ b o, b ≠ P → H b = some o → H1 b = some o) (t : TabS H1 P q) :
    Ext μ H μ H1 ∧ Rel K mg μ H1 st := by
  have tP : μ.isT P := ⟨q, by rw [r.tc]; exact hm⟩
  obtain ⟨ps, hP, _⟩ := r.tab (P, q) (by rw [r.tc]; exact hm)
  have nl : ∀ {n : Nat} {a : Addr}, μ.get n = some a → a ≠ P := fun hn z => by
    obtain ⟨u, hu, n1, _⟩ := r.plain hn
    rw [z, show H P = _ from hP] at hu
    exact n1 _ (Option.some.inj hu).symm
  have x : Ext μ H μ H1 := ⟨⟨[], by simp⟩, fun _ h => h, fun a o n e => ⟨n, k a o (fun z => n (by rw [z]; exact .inr (.inr tP))) e⟩, fun a ha => by
    obtain ⟨o, e⟩ := r.held a ha
    rw [e]
    exact k a o (fun z => (r.rt a ha).1 (by rw [z]; exact tP)) e, rfl⟩
  refine ⟨x, r.len, r.nd, fun n o a h1 h2 => ?_, r.apart, fun a ha => ?_, fun p hp => ?_, r.tc, fun a ha => ⟨(r.rt a ha).1, fun φ z => ?_⟩⟩
  · obtain ⟨u, hu, _⟩ := r.plain h2
    exact (r.ob n o a h1 h2).ext x ((k a u (nl h2) hu).trans hu.symm)
  · obtain ⟨o, e⟩ := r.held a ha
    exact ⟨o, k a o (fun z => (r.rt a ha).1 (by rw [z]; exact tP)) e⟩
  · have hp' : p ∈ TabC.T := by rw [← r.tc]; exact hp
    by_cases z : p.1 = P
    · rw [z, hu p hp' z]
      exact t
    · obtain ⟨ps2, a1, a2, a3⟩ := r.tab p hp
      refine ⟨ps2, k _ _ z a1, a2, fun pos cv hc => ?_⟩
      obtain ⟨c, e1, e2⟩ := a3 pos cv hc
      refine ⟨c, e1, k _ _ (fun w => ?_) e2⟩
      rw [w, show H P = _ from hP] at e2
      exact codeO_ne _ (Option.some.inj e2).symm
  · obtain ⟨o, e⟩ := r.held a ha
    rw [k a o (fun z => (r.rt a ha).1 (by rw [z]; exact tP)) e] at z
    cases z
    exact (r.rt a ha).2 φ e
/-- x(lambda: body) -/
theorem se_heard {x a : Str} {g c P : Addr} {k N : Nat} {pg : Arguments} {bg : List Stmt} {sg : Scope} {cdg : Value} {Ng : List Str} {params : Arguments} {body : Expr} {scope : Scope} {mE : ME} {bS : ME → MS} {hS : (Store → R D) → Store → R D} {p lpos pos : Pos}
    (hg : Gl X x) (hm : X.mg x = some (.ref g)) (G : ∃ fd, FunD X.K x x pg bg sg [] [] g fd ∧ L2.Binds X.K fd [a] []) (hcdg : codeV X.K g = cdg) (Sg : FnScope Ng [a] sg) (hNl : Ng.length = N) (hNg : Ng[0]? = some a) (hva : Vis sg a)
    (hG : ∀ (s : Shared) (H : Hp) (mt : ME), Room (k + 1) (X.A.deeper (envOfC x sg s.heap.objs.size g cdg)) → Gd (X.A.deeper (envOfC x sg s.heap.objs.size g cdg)) → (∀ p1 p2, SE (cxOf (L2.CX X.prog X.w) X.prog X.w X.K X.mg X.base Ng x sg g cdg X.A X.stack s H fun _ _ _ => False) (.Call (.Name a p1) [] [] p2) mt) → SSs (cxOf (L2.CX X.prog X.w) X.prog X.w X.K X.mg X.base Ng x sg g cdg X.A X.stack s H fun _ _ _ => False) bg (bS mt))
    (hR : ∀ (fn : D) (mt : Store → R D) (st : Store), hS mt st = .bad ∨ runF N 1 (bS (eThunk fn mt)) [fn] st = hS mt st)
    (TB : TabB X.base X.mg c P) (hcode : X.env.code = .ref c) (hmT : (P, X.env.qual ++ "<lambda>") ∈ TabC.T) (hu : ∀ p ∈ TabC.T, p.1 = P → p.2 = X.env.qual ++ "<lambda>") (hr : Room (k + 2) X.A) (hq : Gd X.A) (L : LamS X.env.scope scope) (hdef : defaultsOf params X.env = ([], []))
    (hbind : ∀ (q : Str) (cl : List (Str × Addr)) (pm cv ctv : Value), bindArgs (PySem.W.kla_fn "<lambda>" q params body scope cl pm cv ctv) ⟨[], []⟩ = pure [])
    (hbody : ∀ (A : Around) (outer : List Env) (s : Shared) (H : Hp) (E : XK) (f c' : Addr), Room k (A.deeper (lamEnv X scope s.heap.objs.size f c')) → Gd (A.deeper (lamEnv X scope s.heap.objs.size f c')) → SE (lamCx X A outer s H E scope f c') body mE)
    (hdb : (x == ("__debug__" : Str)) = false := by decide) (hd : (a == ("__debug__" : Str)) = false := by decide) (hcd : (a == ("__classdict__" : Str)) = false := by decide) :
    SE X (.Call (.Name x p) [.Lambda params body scope lpos] [] pos) (eHeard hS mE) := fun pn xe W tk => by
  constructor
  intro pins s σ H Q I h
  obtain ⟨μ, env, st, r, re, a0⟩ := h
  obtain ⟨fd, GF, hb⟩ := G
  have kp0 := GF.kp
  obtain ⟨oc, od, dV, kV, doc, pm0, an, cdv, ct, osl, rfl, lk, hcd0, _, _⟩ := GF.ex
  have ecd : cdg = cdv := by rw [← hcdg]; unfold codeV; rw [lk]
  subst ecd
  refine wpAny_Call_Name_kw (ld_glob (X := X.tr pn xe) I hg hm ?_ hdb)
  refine PySem.W.callWith_K (h₀ := X.base) I.ok.mod.kin kp0 ?_ (by rfl) (by rfl)
  show wpAny _ _ (spliced ((false, eval (.Lambda params body scope lpos) X.env) :: backTo pos (starEach [] X.env))) _ _ s
  have tS0 : TabS H P (X.env.qual ++ "<lambda>") := r.tab _ (by rw [r.tc]; exact hmT)
  refine Calls.spliced_cons (lam_make3 (X := X.tr pn xe) I TB hcode tS0 hdef (L.has I.ok.ofTry) fun f c' pm' ctv H1 s' I1 kp T1 hf hfn hfr hco => ?_)
  refine Calls.spliced_nil ⟨I1.kIn, ?_⟩
  obtain ⟨x1, r1⟩ := rel_tab r hmT hu kp T1
  have re1 := re.ext x1
  obtain ⟨rp, cov⟩ := renv_pairs re1
  have nC : c' ∉ μ := fun z => by
    rcases z with z | z | ⟨q, z⟩
    · obtain ⟨n, hn⟩ := List.mem_iff_getElem?.mp z
      obtain ⟨u, hu2, _, n2⟩ := r1.plain (show μ.get n = some c' from hn)
      rw [hco] at hu2
      exact n2 _ (Option.some.inj hu2).symm
    · exact (r1.rt _ z).2 _ hco
    · obtain ⟨ps, z2, _⟩ := r1.tab _ z
      rw [show H1 (c', q).1 = H1 c' from rfl, hco] at z2
      exact codeO_ne _ (Option.some.inj z2)
  have fnR : Rep X.K X.mg μ H1 (.fn f c' (X.env.qual ++ "<lambda>") ((pairsE env σ).map (·.1)) ((pairsE env σ).map (·.2))) (.ref f) := ⟨rfl, nC, hco, rp⟩
  have rc : codeAny (model X.prog X.w) X.A (.call (.ref g) ⟨[.ref f], []⟩) (CR (L2.CX X.prog X.w) X.stack X.prog X.w H1 s' Q (fun _ _ _ => False)) s' := by
    refine run_ofS (N := Ng) (ps := [a]) (us := [.ref f]) (vs := [.ref f]) lk hcd0 Sg hr I1.env0 (hb s' [.ref f] I1.kIn rfl) (.cons rfl .nil) rfl fun hr' => ?_
    have bd := hG s' H1 (eThunk (.fn f c' (X.env.qual ++ "<lambda>") ((pairsE env σ).map (·.1)) ((pairsE env σ).map (·.2))) fun st1 => mE env st1) hr' hq fun p1 p2 pn2 xe2 W2 tk2 => ?_
    · refine ⟨_, bd [] (cxOf (L2.CX X.prog X.w) X.prog X.w X.K X.mg X.base Ng x sg g cdg X.A X.stack s' H1 fun _ _ _ => False).xe (fun _ _ _ _ => False) (takes_of rfl rfl rfl rfl) (passes_of rfl), ?_⟩
      refine ⟨μ, [some (.fn f c' (X.env.qual ++ "<lambda>") ((pairsE env σ).map (·.1)) ((pairsE env σ).map (·.2)))] ++ List.replicate (Ng.length - 1) none, st, r1, ?_, ?_⟩
      · exact renv_start (ds := [.fn f c' (X.env.qual ++ "<lambda>") ((pairsE env σ).map (·.1)) ((pairsE env σ).map (·.2))]) (vs := [.ref f]) ⟨.ref f, [], rfl, fnR, rfl⟩
      · have a1 := aft_noEx (W' := fun _ _ _ _ => False) (σ' := σ) (a0.ext x1)
        rcases hR (.fn f c' (X.env.qual ++ "<lambda>") ((pairsE env σ).map (·.1)) ((pairsE env σ).map (·.2))) (fun st1 => mE env st1) st with hR0 | hR0
        · rw [hR0] at a1
          exact a1.elim
        rw [← hR0] at a1
        unfold runF at a1
        rw [if_pos (show [D.fn f c' (X.env.qual ++ "<lambda>") ((pairsE env σ).map (·.1)) ((pairsE env σ).map (·.2))].length = 1 from rfl), ← hNl] at a1
        show AftS X.K X.mg _ _ μ H1 (bS _ (List.map some [_] ++ List.replicate (Ng.length - 1) none) st)
        revert a1
        generalize bS _ (List.map some [_] ++ List.replicate (Ng.length - 1) none) st = z
        intro a1
        cases z with
        | nx e1 st1 => exact fun μ' H' σ' y q1 q2 => a1 μ' H' y q1 _ rfl
        | rt d st1 => exact fun μ' H' v y q1 q2 => a1 μ' H' y q1 v q2
        | ex c ks us e1 st1 => exact fun μ' H' σ' C dx us y q1 q2 q3 q4 q5 q6 q7 => a1 μ' H' C dx us y q1 q3 q4 q5 q6 q7
        | bk e1 st1 => exact a1.elim
        | ct e1 st1 => exact a1.elim
        | bad => exact a1.elim
    · refine PE.imp (pe_actS (X := X.tr pn xe) (i := 0) (k := k) (W := W2) (tb := fun E => tM X.K X.mg (fun c d _ H' => E c d H') mE) I1 L hf hfn hfr (hbind _ _ _ _ _) tk2 hr' hq (fun A outer s2 H2 E hr2 hq2 => hbody A outer s2 H2 E f c' hr2 hq2 [] _ _ (takes_of rfl rfl rfl rfl)) hNg hva hd hcd) fun σZ HZ Qz hz => ?_
      obtain ⟨μZ, envZ, stZ, rZ, reZ, aZ⟩ := hz
      unfold eThunk at aZ
      split at aZ
      · rename_i e0
        obtain ⟨v, hv0, eq, nq, hq, hp⟩ := reZ.at_ 0 _ e0
        subst eq
        exact ⟨hv0, hq, μZ, env, stZ, rZ, pairs_renv cov hp, aZ.imp fun _ _ _ _ _ _ z => z⟩
      · exact aZ.elim
  refine wpAny_call (codeAny_mono rc fun r2 s2 hq => ?_)
  cases r2 with
  | error e =>
    obtain ⟨_, _, _, _, _, _, _, _, _, _, _, _, z⟩ := hq
    exact z.elim
  | ok fl =>
    cases fl with
    | ret u => exact I1.after hq
    | next => exact False.elim hq
    | brk => exact False.elim hq
    | cont => exact False.elim hq
end
end T5
namespace T5
open PySem PySem.Spec PyProof.Rows L2
variable [TabC]
/-! ### count and index of a list of flat things -/
def cntF (x : D) (l : List D) : Nat := l.countP fun y => eqF y x
def idxF (x : D) (l : List D) : Option Nat := l.findIdx? fun y => eqF y x
def fCnt : MethF := fun st d ds => match ds with
  | [x] => (lstOf st d).bind fun l => if flatD x = true ∧ l.all flatD = true then some (.int (cntF x l : Nat), st) else none
  | _ => none
def fIdx : MethF := fun st d ds => match ds with
  | [x] => (lstOf st d).bind fun l => if flatD x = true ∧ l.all flatD = true then (idxF x l).map fun i => (.int (i : Nat), st) else none
  | _ => none
end T5
namespace T5
open PySem PySem.Spec PyProof.Rows L2
variable [TabC]
section
variable {X : Cx}
theorem eqU_flat {y z : V} {u : Value} (r : RelV z u) (f : flatV z = true) : eqU y u = eqV z y := eqU_of r f
theorem countU : ∀ {ys : List V} {its : List Value} {y : V}, Vals ys its → ys.all flatV = true → its.countP (eqU y) = ys.countP fun z => eqV z y
  | [], [], _, _, _ => rfl
  | z :: ys, u :: its, y, .cons r t, f => by
    have f' : flatV z = true ∧ ys.all flatV = true := by simpa using f
    rw [List.countP_cons, List.countP_cons, countU t f'.2, eqU_flat r f'.1]
def rCntF (K : PySem.W.Frag) : V → List V → Hp → VK → Prop := fun x xs H Q => ∃ (a : Addr) (ys : List V) (y : V), x = .ref a ∧ xs = [y] ∧ SqL K H a ys ∧ flatV y = true ∧ ys.all flatV = true ∧ Q (.int (ys.countP fun z => eqV z y : Nat)) H
theorem mt_cntF : MtR X "list.count" (rCntF X.K) := by
  intro pins s σ H x xs v us Q I rx rxs h
  obtain ⟨a, ys, y, rfl, rfl, hs, fy, fys, q⟩ := h
  cases rx
  obtain ⟨u, rfl, ry⟩ := rxs.one
  obtain ⟨its, rv, ⟨⟨cls, dd, data, sl⟩, n, ho, hc, hdn, hd⟩, hlen⟩ := I.list hs
  simp only at hc hd
  subst hc hd
  refine call_meets PySem.F.slot_list_count ⟨_, ho, rfl⟩ PySem.F.entry_list_count (PySem.F.args_list_count_2 _ _) (SeqAt.list_countAt a its.toArray n dd sl u (eqU y)) ⟨ho, fun w hw => mem_eqAt ry fy rv fys w (by simpa using hw), ?_⟩
  refine ⟨.int (ys.countP fun z => eqV z y : Nat), H, I.tok _, ⟨s.toks, ?_⟩, q⟩
  show Value.int ((its.toArray.toList.countP (eqU y) : Nat) : Int) s.toks = _
  rw [countU rv fys]
variable {K : PySem.W.Frag} {mg : Str → Option Value} {o e : Expr} {es : List Expr} {mo : ME} {ma : MA} {apos cpos : Pos}
theorem cntF_rep {μ : Mu} {H : Hp} {x : D} {u : V} (hx : Rep K mg μ H x u) (fx : flatD x = true) : ∀ {l : List D} {vs : List V}, RepL K mg μ H l vs → l.all flatD = true → (vs.countP fun z => eqV z u) = cntF x l
  | [], vs, h, _ => by
    have e : vs = [] := h
    subst e
    rfl
  | d :: ds, vs, ⟨v, r, e, h1, h2⟩, f => by
    subst e
    have f' : flatD d = true ∧ ds.all flatD = true := by simpa using f
    unfold cntF
    rw [List.countP_cons, List.countP_cons, cntF_rep hx fx h2 f'.2, eqF_rep hx h1 fx f'.1]
    rfl
theorem mthd_cnt : MthD K mg (rCntF K) fCnt := by
  intro μ H st st' d d' ds x vs Q r hx hv e q
  unfold fCnt at e
  split at e
  · rename_i y
    obtain ⟨l, e1, e2⟩ := Option.bind_eq_some_iff.mp e
    split at e2
    · rename_i c
      cases e2
      obtain ⟨b, ws, rfl, hb, hl⟩ := lst_at r hx e1
      obtain ⟨v, rfl, hy⟩ := repL1 hv
      refine ⟨b, ws, v, rfl, rfl, .inl (.inl hb), flat_rep hy c.1, flats_rep hl c.2, ?_⟩
      rw [cntF_rep hy c.1 hl c.2]
      exact q μ H _ Ext.refl r rfl
    · cases e2
  · cases e
theorem mthd_idx : MthD K mg (rIndex K) fIdx := by
  intro μ H st st' d d' ds x vs Q r hx hv e q
  unfold fIdx at e
  split at e
  · rename_i y
    obtain ⟨l, e1, e2⟩ := Option.bind_eq_some_iff.mp e
    split at e2
    · rename_i c
      obtain ⟨i, e3, e4⟩ := Option.map_eq_some_iff.mp e2
      cases e4
      obtain ⟨b, ws, rfl, hb, hl⟩ := lst_at r hx e1
      obtain ⟨v, rfl, hy⟩ := repL1 hv
      unfold idxF at e3
      obtain ⟨hi, hp, hno⟩ := List.findIdx?_eq_some_iff_getElem.mp e3
      have gi : l[i]? = some l[i] := List.getElem?_eq_getElem hi
      obtain ⟨w, e5, hw⟩ := hl.get gi
      have fl : ∀ {m : Nat} {z : D}, l[m]? = some z → flatD z = true := fun h => List.all_eq_true.mp c.2 _ (List.mem_of_getElem? h)
      refine ⟨b, ws, v, i, w, rfl, rfl, .inl (.inl hb), flat_rep hy c.1, flats_rep hl c.2, e5, by rw [eqF_rep hy hw c.1 (fl gi)]; exact hp, fun m z hm hz => ?_, q μ H _ Ext.refl r rfl⟩
      have hml : m < l.length := by omega
      have gm : l[m]? = some l[m] := List.getElem?_eq_getElem hml
      obtain ⟨w2, e6, hw2⟩ := hl.get gm
      rw [hz] at e6
      cases e6
      rw [eqF_rep hy hw2 c.1 (fl gm)]
      have := hno m hm
      simpa using this
    · cases e2
  · cases e
theorem se_cnt (ho : SE X o mo) (ha : SA X (e :: es) ma)
    (hbase : attributeBase o "count" X.env (eval o X.env) = eval o X.env := by rfl)
    (hfew : ((backTo cpos (starEach (e :: es) X.env)).all (fun x => !x.1) && (backToKw cpos (keywordEach [] X.env)).all (fun x => x.1.isSome)
      && decide ((e :: es).length + ([] : List Keyword).length + (if ([] : List Keyword).isEmpty then 0 else 1) < 30)) = true := by rfl)
    (hline : (apos.endLine == cpos.line) = true := by rfl) (hs : starEach (e :: es) X.env = (false, eval e X.env) :: starEach es X.env := by rfl) (hplain : (backTo cpos (starEach es X.env)).any (·.1) = false := by rfl) :
    SE X (.Call (.Attribute o "count" apos) (e :: es) [] cpos) (eMthL fCnt mo ma) := se_mthL PySem.F.slot_list_count PySem.F.type_list_count (fun pn xe => mt_cntF (X := X.tr pn xe)) mthd_cnt ho ha hbase hfew hline hs hplain
theorem se_idx (ho : SE X o mo) (ha : SA X (e :: es) ma)
    (hbase : attributeBase o "index" X.env (eval o X.env) = eval o X.env := by rfl)
    (hfew : ((backTo cpos (starEach (e :: es) X.env)).all (fun x => !x.1) && (backToKw cpos (keywordEach [] X.env)).all (fun x => x.1.isSome)
      && decide ((e :: es).length + ([] : List Keyword).length + (if ([] : List Keyword).isEmpty then 0 else 1) < 30)) = true := by rfl)
    (hline : (apos.endLine == cpos.line) = true := by rfl) (hs : starEach (e :: es) X.env = (false, eval e X.env) :: starEach es X.env := by rfl) (hplain : (backTo cpos (starEach es X.env)).any (·.1) = false := by rfl) :
    SE X (.Call (.Attribute o "index" apos) (e :: es) [] cpos) (eMthL fIdx mo ma) := se_mthL PySem.F.slot_list_index PySem.F.type_list_index (fun pn xe => mt_index (X := X.tr pn xe)) mthd_idx ho ha hbase hfew hline hs hplain
end
end T5
namespace T5
open PySem PySem.Spec PyProof.Rows L2
/-! ### repr of plain data -/
/-! ### it fits -/
theorem natAbs_log {i : Int} (h : -10 ^ 30 < i ∧ i < 10 ^ 30) : i.natAbs.log2 < 1920 := by
  have e : i.natAbs < 10 ^ 30 := by omega
  by_cases z : i.natAbs = 0
  · rw [z]; decide
  · have h2 : i.natAbs.log2 < 100 := (Nat.log2_lt z).mpr (Nat.lt_of_lt_of_le e (show 10 ^ 30 ≤ 2 ^ 100 by decide))
    omega
theorem ofNat_len (n : Nat) (h : n < 10 ^ 30) : (Str.ofString (toString (n : Int))).length ≤ 30 := toString_length_le (by omega) (by decide) (by exact_mod_cast h)
theorem int_len {i : Int} (h : -10 ^ 30 < i ∧ i < 10 ^ 30) : (PyData.shown (.int i)).length ≤ 40 := by
  show (Str.ofString (toString i)).length ≤ 40
  cases i with
  | ofNat n =>
    have q : n < 10 ^ 30 := by have := h.2; rw [Int.ofNat_eq_natCast] at this; omega
    have := ofNat_len n q
    exact Nat.le_trans this (by decide)
  | negSucc n =>
    have q : n + 1 < 10 ^ 30 := by have := h.1; rw [Int.negSucc_eq] at this; omega
    have := ofNat_len (n + 1) q
    have e : toString (Int.negSucc n) = "-" ++ toString ((n + 1 : Nat) : Int) := rfl
    have l : ∀ s : String, (Str.ofString s).length = s.toList.length := fun s => by
      rw [TL.len_tl, TL.tl_ofString, List.length_map]
    rw [l] at this ⊢
    rw [e, String.toList_append, List.length_append]
    have : "-".toList.length = 1 := by decide
    omega
variable [TabC]
def pyL (f : D → Option PyData) : List D → Option (List PyData)
  | [] => some []
  | x :: xs => (f x).bind fun a => (pyL f xs).map (a :: ·)
def toPy (st : Store) : Nat → D → Option PyData
  | 0, _ => none
  | n + 1, d => match d with
    | .non => some .none
    | .bl b => some (.bool b)
    | .int i => some (.int i)
    | .str s => some (.str (toStr s))
    | .tup l => (pyL (toPy st n) l).map .tuple
    | .dic false [] [] => some (.dict [])
    | d => (lstOf st d).bind fun l => (pyL (toPy st n) l).map .list
mutual
def okPy : PyData → Bool
  | .none | .bool _ => true
  | .int i => decide (-10 ^ 30 < i ∧ i < 10 ^ 30)
  | .str x => x.cps.toList.all fun c => decide (c < 16 ^ 8)
  | .list xs | .tuple xs => okPyL xs
  | .dict kvs => kvs.isEmpty
def okPyL : List PyData → Bool
  | [] => true
  | x :: xs => okPy x && okPyL xs
end
def fRepr : BF := fun st ds => match ds with
  | [d] => (toPy st 12 d).bind fun p => if okPy p = true ∧ p.bulk ≤ 2 ^ 18 then some (.str p.shown.cps.toList) else none
  | _ => none
mutual
theorem okPy_show : ∀ p : PyData, okPy p = true → p.showable = true ∧ p.leavesShort 40 = true
  | .none, _ => ⟨rfl, rfl⟩
  | .bool _, _ => ⟨rfl, rfl⟩
  | .int i, h => by
    have h' : -10 ^ 30 < i ∧ i < 10 ^ 30 := by simpa only [okPy, decide_eq_true_eq] using h
    exact ⟨by simpa only [PyData.showable, decide_eq_true_eq] using natAbs_log h', by simpa only [PyData.leavesShort, decide_eq_true_eq] using int_len h'⟩
  | .str x, h => ⟨rfl, by simpa only [PyData.leavesShort, okPy] using h⟩
  | .list xs, h => by
    obtain ⟨a, b⟩ := okPyL_show xs (by simpa only [okPy] using h)
    exact ⟨by simpa only [PyData.showable] using a, by simpa only [PyData.leavesShort] using b⟩
  | .tuple xs, h => by
    obtain ⟨a, b⟩ := okPyL_show xs (by simpa only [okPy] using h)
    exact ⟨by simpa only [PyData.showable] using a, by simpa only [PyData.leavesShort] using b⟩
  | .dict [], _ => ⟨rfl, rfl⟩
theorem okPyL_show : ∀ xs : List PyData, okPyL xs = true → PyData.showableAll xs = true ∧ PyData.leavesShortAll 40 xs = true
  | [], _ => ⟨rfl, rfl⟩
  | x :: xs, h => by
    have h' : okPy x = true ∧ okPyL xs = true := by simpa only [okPyL, Bool.and_eq_true] using h
    obtain ⟨a, b⟩ := okPy_show x h'.1
    obtain ⟨c, d⟩ := okPyL_show xs h'.2
    exact ⟨by simp only [PyData.showableAll, a, c, Bool.and_self], by simp only [PyData.leavesShortAll, b, d, Bool.and_self]⟩
end
theorem okPy_fits {p : PyData} (h : okPy p = true) (b : p.bulk ≤ 2 ^ 18) : p.shown.length ≤ sizeLine := by
  have h1 := PyData.shown_le_bulk 40 (by decide) p (okPy_show p h).2
  have h2 : (40 + 2) * p.bulk ≤ 42 * 2 ^ 18 := Nat.mul_le_mul (by omega) b
  rw [sizeLine_eq]
  omega
theorem pyL_depth {f : D → Option PyData} {n : Nat} (hf : ∀ d p, f d = some p → p.depth ≤ n) : ∀ (l : List D) (ps : List PyData), pyL f l = some ps → PyData.depthAll ps ≤ n
  | [], ps, h => by
    cases h
    exact Nat.zero_le _
  | x :: xs, ps, h => by
    obtain ⟨a, e1, e2⟩ := Option.bind_eq_some_iff.mp h
    obtain ⟨r, e3, e4⟩ := Option.map_eq_some_iff.mp e2
    cases e4
    simp only [PyData.depthAll]
    exact Nat.max_le.mpr ⟨hf _ _ e1, pyL_depth hf xs r e3⟩
theorem toPy_depth {st : Store} : ∀ (n : Nat) (d : D) (p : PyData), toPy st n d = some p → p.depth ≤ n
  | 0, _, _, h => nomatch h
  | n + 1, d, p, h => by
    have ih := toPy_depth (st := st) n
    have lst : ∀ {o : Option (List D)}, (o.bind fun l => (pyL (toPy st n) l).map .list) = some p → p.depth ≤ n + 1 := fun h => by
      obtain ⟨l, _, e2⟩ := Option.bind_eq_some_iff.mp h
      obtain ⟨r, e3, e4⟩ := Option.map_eq_some_iff.mp e2
      subst e4
      simp only [PyData.depth]
      exact Nat.succ_le_succ (pyL_depth ih l r e3)
    unfold toPy at h
    split at h
    · cases h; exact Nat.zero_le _
    · cases h; exact Nat.zero_le _
    · cases h; exact Nat.zero_le _
    · cases h; exact Nat.zero_le _
    · obtain ⟨r, e3, e4⟩ := Option.map_eq_some_iff.mp h
      subst e4
      simp only [PyData.depth]
      exact Nat.succ_le_succ (pyL_depth ih _ r e3)
    · cases h
      show (0 : Nat) + 1 ≤ n + 1
      omega
    · exact lst h
/-! ### it is read so -/
/-- the table of modules is a dict -/
def Sys (K : PySem.W.Frag) : Prop := ∃ o, K.lookup sysModules = some o ∧ o.cls = .type "dict"
section
variable {K : PySem.W.Frag} {mg : Str → Option Value} {μ : Mu} {H : Hp} {st : Store} {P : Program} {w : World} {h : Heap}
theorem readsL {f : D → Option PyData} (hf : ∀ d p v u, f d = some p → Rep K mg μ H d v → RelV v u → ∃ as, Reads h u p as ∧ sysModules ∉ as) : ∀ (l : List D) (ps : List PyData) (vs : List V) (us : List Value), pyL f l = some ps → RepL K mg μ H l vs → Vals vs us → ∃ as, ReadsAll h us ps as ∧ sysModules ∉ as
  | [], ps, vs, us, e, r, q => by
    cases e
    have z : vs = [] := r
    subst z
    cases q
    exact ⟨_, .nil, by simp⟩
  | x :: xs, ps, vs, us, e, ⟨v, vr, z, r1, r2⟩, q => by
    subst z
    obtain ⟨a, e1, e2⟩ := Option.bind_eq_some_iff.mp e
    obtain ⟨r, e3, e4⟩ := Option.map_eq_some_iff.mp e2
    cases e4
    cases q with
    | cons q1 q2 =>
      obtain ⟨as, h1, h2⟩ := hf _ _ _ _ e1 r1 q1
      obtain ⟨bs, h3, h4⟩ := readsL hf xs r vr _ e3 r2 q2
      exact ⟨_, .cons h1 h3, fun z => (List.mem_append.mp z).elim h2 h4⟩
theorem reads_of (ok : HOk P w H h) (kin : K.In h) (sy : Sys K) (r : Rel K mg μ H st) : ∀ (n : Nat) (d : D) (p : PyData) (v : V) (u : Value), toPy st n d = some p → Rep K mg μ H d v → RelV v u → ∃ as, Reads h u p as ∧ sysModules ∉ as
  | 0, _, _, _, _, e, _, _ => nomatch e
  | n + 1, d, p, v, u, e, rp, q => by
    have ih := reads_of ok kin sy r n
    have lst : (lstOf st d).bind (fun l => (pyL (toPy st n) l).map .list) = some p → ∃ as, Reads h u p as ∧ sysModules ∉ as := fun e => by
      obtain ⟨l, e1, e2⟩ := Option.bind_eq_some_iff.mp e
      obtain ⟨ps, e3, e4⟩ := Option.map_eq_some_iff.mp e2
      subst e4
      obtain ⟨b, ws, rfl, hb, hl⟩ := lst_at r rp e1
      have q2 : u = .ref b := q
      subst q2
      obtain ⟨_, its, m, rv, ho⟩ := (show ObjOk P w H h b (.lst ws) from ok b _ hb)
      obtain ⟨as, h1, h2⟩ := readsL ih l ps ws its e3 hl rv
      refine ⟨_, .list ho rfl rfl h1, fun z => ?_⟩
      rcases List.mem_cons.mp z with z | z
      · obtain ⟨o, k1, k2⟩ := sy
        rw [← z, kin _ _ k1] at ho
        cases ho
        exact absurd k2 (show ¬ Value.type "list" = Value.type "dict" by decide)
      · exact h2 z
    unfold toPy at e
    split at e
    · cases e
      have z : v = .non := rp
      subst z
      cases (show u = .none from q)
      exact ⟨_, .none, by simp⟩
    · cases e
      rename_i b
      have z : v = .bl b := rp
      subst z
      cases (show u = .bool b from q)
      exact ⟨_, .bool b, by simp⟩
    · cases e
      rename_i i
      have z : v = .int i := rp
      subst z
      obtain ⟨t, z⟩ := (show ∃ t, u = .int i t from q)
      subst z
      exact ⟨_, .int i t, by simp⟩
    · cases e
      rename_i x
      have z : v = .str (toStr x) := rp
      subst z
      obtain ⟨t, z⟩ := (show ∃ t, u = .str (toStr x) t from q)
      subst z
      exact ⟨_, .str _ t, by simp⟩
    · rename_i l
      obtain ⟨ps, e3, e4⟩ := Option.map_eq_some_iff.mp e
      subst e4
      obtain ⟨b, ws, rfl, _, hb, hl⟩ := rp
      have q2 : u = .ref b := q
      subst q2
      obtain ⟨_, its, rv, o, h1, h2, m, h3⟩ := (show ObjOk P w H h b (.tup ws) from ok b _ hb)
      obtain ⟨as, h4, h5⟩ := readsL ih l ps ws its e3 hl rv
      exact ⟨_, .tuple h1 h2 h3 (by simpa using h4), h5⟩
    · cases e
      obtain ⟨b, vs, o, rfl, _, hv, hd, hr⟩ := rp
      have q2 : u = .ref b := q
      subst q2
      have z : vs = [] := hv
      subst z
      rcases hd with ⟨_, kk, _, k1, k2⟩ | ⟨z, _⟩
      · have : kk = [] := List.length_eq_zero_iff.mp k1
        subst this
        subst k2
        obtain ⟨_, sm, us, kv, oo, es, ep, g1, g2, g3, _, g5, _⟩ := dk_rd ok hr
        cases kv
        have e0 : es.toList = [] := by
          cases g6 : es.toList with
          | nil => rfl
          | cons a b => rw [g6] at g5; exact nomatch g5
        refine ⟨_, .dict g1 g2.1 g3 (by rw [e0]; exact .nil) (by rw [e0]; exact .nil), fun z => ?_⟩
        have : sysModules = b := by simpa using z
        rw [this] at sm
        simp at sm
      · exact nomatch z
    · exact lst e
end
/-! ### the rule -/
def rRepr (K : PySem.W.Frag) (mg : Str → Option Value) : List V → Hp → VK → Prop := fun xs H Q => ∃ μ st d p v, Rel K mg μ H st ∧ xs = [v] ∧ Rep K mg μ H d v ∧ toPy st 12 d = some p ∧ okPy p = true ∧ p.bulk ≤ 2 ^ 18 ∧ Q (.str p.shown) H
theorem call_repr {X : Cx} {k : Nat} (hr : Room k X.A) (hq : Gd X.A) (sy : Sys X.K) : CallR X (.builtin "repr") (rRepr X.K X.mg) := by
  intro pins s σ H xs us Q I r h
  obtain ⟨μ, st, d, p, v, r0, rfl, rp, tp, ok, bk, q⟩ := h
  obtain ⟨u, rfl, rv⟩ := r.one
  obtain ⟨as, rd, nm⟩ := reads_of I.hok I.kIn sy r0 12 d p v u tp rp rv
  have sh := (okPy_show p ok).1
  have fit := okPy_fits ok bk
  have dp := toPy_depth 12 d p tp
  have un := hr.units
  have big : ∀ {a : Addr}, u = .ref a → wpAny (model X.prog X.w) X.A (call (.builtin "repr") [u]) (EP X pins σ Q) X.xe s := fun e => by
    subst e
    exact repr_of_reads' rd sh (fun _ => nm) hq (by omega) (fun _ _ e => e) (fun h' t tk hk => ⟨.str p.shown, H, I.kept hk, ⟨t, rfl⟩, q⟩) fit
  cases rd with
  | none => exact PySem.P.repr_of_none ⟨.str _, H, I.tok _, ⟨_, rfl⟩, q⟩
  | bool b => exact PySem.P.repr_of_bool ⟨.str _, H, I.tok _, ⟨_, by cases b <;> rfl⟩, q⟩
  | int i t => exact PySem.P.repr_of_int (by simpa only [PyData.showable, decide_eq_true_eq] using sh) ⟨.str _, H, I.tok _, ⟨_, rfl⟩, q⟩
  | str x t => exact PySem.P.repr_of_str ⟨.str _, H, I.tok _, ⟨_, rfl⟩, q⟩ fit
  | list => exact big rfl
  | tuple => exact big rfl
  | dict => exact big rfl
section
variable {X : Cx} {e : Expr} {es : List Expr} {ma : MA} {p pos : Pos}
theorem calld_repr {K : PySem.W.Frag} {mg : Str → Option Value} : CallD K mg (rRepr K mg) fRepr := by
  intro μ H st ds d vs Q r hv e q
  unfold fRepr at e
  split at e
  · rename_i x
    obtain ⟨y, e1, e2⟩ := Option.bind_eq_some_iff.mp e
    split at e2
    · rename_i c
      cases e2
      obtain ⟨v, rfl, hx⟩ := repL1 hv
      refine ⟨μ, st, x, y, v, r, rfl, hx, e1, c.1, c.2, q H _ Ext.refl r ?_⟩
      show V.str y.shown = .str (toStr y.shown.cps.toList)
      rw [show toStr y.shown.cps.toList = y.shown from TL.mk_tl y.shown]
    · cases e2
  · cases e
theorem se_repr {k : Nat} (sy : Sys X.K) (hr : Room k X.A) (hq : Gd X.A) (hg : Gl X "repr") (hm : X.mg "repr" = none) (ha : SA X (e :: es) ma) (he : starEach (e :: es) X.env = (false, eval e X.env) :: starEach es X.env := by rfl) (hpl : (backTo pos (starEach es X.env)).any (·.1) = false := by rfl) : SE X (.Call (.Name "repr" p) (e :: es) [] pos) (eCB fRepr ma) :=
  se_callB (id := "repr") (fun pn xe => call_repr (X := X.tr pn xe) hr hq sy) calld_repr hg hm rfl ha (by decide) (by decide) he hpl
/-- {} that no one changes -/
theorem se_dlit0 : SE X (.Dict [] [] p) (eC (.dic false [] [])) := fun pn xe W tk => PE.imp pe_dnewK fun σ H Q h p hp => by
  obtain ⟨μ, env, st, r, re, a⟩ := h
  have s := same_upd (o := HO.dK []) hp
  exact a μ _ (Ext.same r s) (r.same s) _ ⟨p, [], .dK [], rfl, r.nin hp, rfl, .inl ⟨rfl, [], rfl, rfl, rfl⟩, .inl upd_same⟩
end
end T5
namespace T5
open PySem PySem.Spec PyProof.Rows L2
/-! ### the head of laws with exceptions and lambdas -/
inductive Fy where
  | isc (x : Str) | sys | base (x : Str) | exk (x : Str) | any (c a b : Str) | kitC (c n : Str) (r : Bool) | kitT (c : Str) (n : String) (r : Bool) | prop (x f : Str) | self1 (x : Str) | noSeq (x : Str) | noNe (x : Str) | exkK (x : Str) | baseT (n : String)
abbrev keT : List Value := [.type "KeyError", .type "LookupError", .type "Exception", .type "BaseException", .type "object"]
def kexB (K : PySem.W.Frag) (C : Addr) : Bool := match K.lookup C with
  | some ⟨.type "type", _, .cls cd, sl⟩ => (match cd.mro, sl.toList with
    | .ref C' :: bm, [_, _, _, _, some (.builtin n), _] => C' == C && n == "LookupError.__new__" && !cd.hasDel && cd.hasDict && bm == keT
    | _, _ => false)
  | _ => false
def oexB (K : PySem.W.Frag) (C : Addr) : Bool := match K.lookup C with
  | some ⟨.type "type", _, .cls cd, sl⟩ => (match cd.mro, sl.toList with
    | .ref C' :: bm, [_, _, _, _, some (.builtin n), _] => C' == C && n == "ValueError.__new__" && !cd.hasDel && cd.hasDict && PySem.HandSPX.refsVE bm
    | _, _ => false)
  | _ => false
theorem oexB_ok {K : PySem.W.Frag} {C : Addr} (q : oexB K C = true) : ∃ nm q N bs bm sn sub ab col dd k0 k1 k2 k3 k5, K.lookup C = some (excClassObj nm q C N bs bm true sn sub ab col dd k0 k1 k2 k3 k5 "ValueError.__new__") ∧ PySem.HandSPX.refsVE bm = true := by
  unfold oexB at q
  split at q
  · rename_i dd cd sl ho
    split at q
    · rename_i C' bm k0 k1 k2 k3 n k5 hm hs
      simp only [Bool.and_eq_true, beq_iff_eq, Bool.not_eq_true'] at q
      obtain ⟨⟨⟨⟨rfl, rfl⟩, hdel⟩, hd⟩, hv⟩ := q
      obtain ⟨nm, bs, mro, ns, qn, hd2, sn, sub, ab, col, del⟩ := cd
      dsimp only at hm hdel hd
      subst hm hdel hd
      have hsl : sl = #[k0, k1, k2, k3, some (.builtin "ValueError.__new__"), k5] := by
        obtain ⟨l⟩ := sl
        simp only at hs
        rw [hs]
      subst hsl
      exact ⟨nm, qn, ns, bs, bm, sn, sub, ab, col, dd, k0, k1, k2, k3, k5, ho, hv⟩
    · cases q
  · cases q
def exkR (K : PySem.W.Frag) (x : Str) : Bool := (He.eqO (PySem.W.findIn K (.ref (He.ga K x)) "__setattr__") (some (some (.builtin "object.__setattr__"))) && (decide (PySem.W.subIn K (.ref (He.ga K x)) (.type "BaseException") = some true) &&
      (decide (PySem.W.typeIn K (.ref (He.ga K x)) = some (.type "type")) && (PySem.W.keepIn K (.ref (He.ga K x)) &&
      (He.eqO (PySem.W.findIn K (.ref (He.ga K x)) "__getattribute__") (some (some (.builtin "BaseException.__getattribute__"))) && (He.eqO (PySem.W.findIn K (.ref (He.ga K x)) "__getattr__") (some none) &&
      (PySem.W.hasDictIn K (He.ga K x) && (He.eqO (PySem.W.findIn K (.ref (He.ga K x)) "__class__") (some (some (.builtin "object.__class__"))) && (He.eqO (PySem.W.specialIn K (.builtin "object.__class__") "__get__") (some (some (.builtin "getset_descriptor.__get__"))) &&
      (decide (PySem.W.takesIn K (.builtin "object.__class__") = some true) && (decide (PySem.W.mroIn K (He.ga K x) (.type "object") = some true) &&
      (He.eqO (PySem.W.findIn K (.ref (He.ga K x)) "__init__") (some (some (.ref (He.ma K (He.ga K x) "__init__")))) && decide (PySem.W.typeIn K (.ref (He.ma K (He.ga K x) "__init__")) = some (.type "function"))))))))))))))
def Fy.ok (K : PySem.W.Frag) : Fy → Bool
  | .isc x => (Fx.isc x).ok K
  | .sys => (match K.lookup sysModules with
    | some o => decide (o.cls = .type "dict")
    | none => false)
  | .base x => He.eqO (PySem.W.specialIn K (.ref (He.ga K x)) "__getattribute__") (some (some (.builtin "type.__getattribute__"))) && (decide (PySem.W.typeIn K (.ref (He.ga K x)) = some (.type "type")) &&
      (PySem.W.readsIn K (He.ga K x) (.type "type") && (match PySem.W.findCls K (.ref (He.ga K x)) (.type "type") "__init__" with
        | some (.val (.builtin n)) => n == "ValueError.__init__"
        | _ => false)))
  | .exk x => oexB K (He.ga K x) && exkR K x
  | .any c a b => decide (PySem.W.exmAny K (.ref (He.ga K c)) [.ref (He.ga K a), .ref (He.ga K b)] = some true)
  | .kitC c n r => decide (PySem.W.kitOne K (.ref (He.ga K c)) (.ref (He.ga K n)) = some r)
  | .kitT c n r => decide (PySem.W.kitOne K (.ref (He.ga K c)) (.type n) = some r)
  | .prop x f => He.eqO (PySem.W.findIn K (.ref (He.ga K x)) f) (some (some (.ref (He.ma K (He.ga K x) f)))) && (He.eqO (PySem.W.specialIn K (.ref (He.ma K (He.ga K x) f)) "__get__") (some (some (.builtin "property.__get__"))) &&
      (decide (PySem.W.takesIn K (.ref (He.ma K (He.ga K x) f)) = some true) && (match PySem.W.recIn K (He.ma K (He.ga K x) f) "property" with
        | some (.ref _ :: _) => true
        | _ => false)))
  | .self1 x => PySem.W.selfFirst K (He.ga K x)
  | .noSeq x => PySem.W.noSeq K (He.ga K x)
  | .noNe x => He.eqO (PySem.W.findIn K (.ref (He.ga K x)) "__ne__") (some (some (.builtin "object.__ne__")))
  | .exkK x => kexB K (He.ga K x) && exkR K x
  | .baseT n => (match PySem.W.findCls K (.type n) (.type "type") "__init__" with
    | some (.val (.builtin m)) => m == n ++ ".__init__"
    | _ => false)
/-- a property's getter -/
def pAd (K : PySem.W.Frag) (C : Addr) (f : Str) : Addr := match PySem.W.recIn K (He.ma K C f) "property" with
  | some (.ref g :: _) => g
  | _ => 0
def dAd (K : PySem.W.Frag) (p : Str × Option Str) : Addr := match p.2 with
  | none => He.ga K p.1
  | some m => pAd K (He.ga K p.1) m
def fnWA (K : PySem.W.Frag) (a : Addr) : He.FnW := match K.lookup a with
  | some ⟨_, _, .func fd, _⟩ => some (fd.name, fd.qualname, fd.params, fd.body, fd.scope, fd.globals, fd.closure, fd.builtins)
  | _ => none
def okA (K : PySem.W.Frag) (a : Addr) (d : He.DefD) : Bool := PySem.W.keepIn K (.ref a) && (match K.lookup a with
  | some ⟨_, _, .func fd, _⟩ => PySem.W.codeIn K fd.code d.qual && (He.dflB K fd.defaults (d.dvs K) && He.kwdB K fd.kwdefaults (d.kws K))
  | _ => false)
theorem funA {K : PySem.W.Frag} {a : Addr} {d : He.DefD} (e : fnWA K a = d.val) (c : okA K a d = true) : ∃ fd, FunD K d.name d.qual d.params d.body d.scope (d.dvs K) (d.kws K) a fd := by
  obtain ⟨kp, c2⟩ := He.ba c
  unfold fnWA at e
  cases q : K.lookup a with
  | none =>
    rw [q] at c2
    cases c2
  | some o =>
    obtain ⟨oc, od, dt, osl⟩ := o
    rw [q] at c2 e
    cases dt with
    | func fd =>
      obtain ⟨n1, n2, n3, n4, n5, n6, n7, n8, n9, n10, n11, n12, n13, n14, n15⟩ := fd
      have e2 : (some (n1, n2, n3, n4, n5, n6, n7, n15) : He.FnW) = some (d.name, d.qual, d.params, .stmts d.body, d.scope, mainGlobals, [], builtinsNs) := e
      simp only [Option.some.injEq, Prod.mk.injEq] at e2
      obtain ⟨h1, h2, h3, h4, h5, h6, h7, h8⟩ := e2
      subst h1 h2 h3 h4 h5 h6 h7 h8
      have c3 : (PySem.W.codeIn K n13 d.qual && (He.dflB K n8 (d.dvs K) && He.kwdB K n9 (d.kws K))) = true := c2
      obtain ⟨k1, k2⟩ := He.ba c3
      obtain ⟨k3, k4⟩ := He.ba k2
      exact ⟨_, ⟨oc, od, n8, n9, n10, n11, n12, n13, n14, osl, rfl, q, k1, He.dflB_ok k3, He.kwdB_ok k4⟩, kp⟩
    | _ => cases c2
theorem fnIn_of {K : PySem.W.Frag} {x q : Str} {pa : Arguments} {bd : List Stmt} {sc : Scope} {dv : List V} {kw : List (Str × V)} {f : Addr} (h : ∃ fd, FunD K x q pa bd sc dv kw f fd) : PySem.W.fnIn K f = true := by
  obtain ⟨fd, F⟩ := h
  obtain ⟨oc, od, dV, kV, doc, pm, an, cdv, ct, osl, _, lk, _⟩ := F.ex
  unfold PySem.W.fnIn
  rw [lk]
section
variable {K : PySem.W.Frag} {mg : Str → Option Value}
theorem iscY {c : String} (g : mg (Str.ofString c) = some (.ref (He.ga K (Str.ofString c)))) (l : Cls K (He.ga K (Str.ofString c))) (h : (Fy.isc (Str.ofString c)).ok K = true) : ClsF K mg c (He.ga K (Str.ofString c)) := isc_ok g l h
theorem sys_ok (h : Fy.sys.ok K = true) : Sys K := by
  unfold Fy.ok at h
  cases e : K.lookup sysModules with
  | none => rw [e] at h; cases h
  | some o => rw [e] at h; exact ⟨o, e, of_decide_eq_true h⟩
theorem base_ok {x : Str} (g : mg x = some (.ref (He.ga K x))) (h : (Fy.base x).ok K = true) : BaseI K mg x (He.ga K x) := by
  obtain ⟨h1, h⟩ := He.ba h
  obtain ⟨h2, h⟩ := He.ba h
  obtain ⟨h3, h4⟩ := He.ba h
  refine ⟨g, He.eqO_ok h1, of_decide_eq_true h2, h3, ?_⟩
  split at h4
  · rename_i n e
    rw [e, beq_iff_eq.mp h4]
  · cases h4
theorem exk_ok {x : String} (g : mg (Str.ofString x) = some (.ref (He.ga K (Str.ofString x)))) (h : (Fy.exk (Str.ofString x)).ok K = true) :
    ExcF K mg x (He.ga K (Str.ofString x)) (He.ma K (He.ga K (Str.ofString x)) "__init__") ∧ ExcC K (He.ga K (Str.ofString x)) := by
  obtain ⟨h1, h⟩ := He.ba h
  obtain ⟨h2, h⟩ := He.ba h
  obtain ⟨h3, h⟩ := He.ba h
  obtain ⟨h4, h⟩ := He.ba h
  obtain ⟨h5, h⟩ := He.ba h
  obtain ⟨h6, h⟩ := He.ba h
  obtain ⟨h7, h⟩ := He.ba h
  obtain ⟨h8, h⟩ := He.ba h
  obtain ⟨h9, h⟩ := He.ba h
  obtain ⟨h10, h⟩ := He.ba h
  obtain ⟨h11, h⟩ := He.ba h
  obtain ⟨h12, h⟩ := He.ba h
  obtain ⟨h13, h14⟩ := He.ba h
  exact ⟨⟨g, ⟨oexB_ok h1, He.eqO_ok h2, of_decide_eq_true h3, of_decide_eq_true h4, h5⟩, He.eqO_ok h13, of_decide_eq_true h14⟩,
    ⟨He.eqO_ok h6, He.eqO_ok h7, of_decide_eq_true h3, h8, He.eqO_ok h9, He.eqO_ok h10, of_decide_eq_true h11, of_decide_eq_true h12⟩⟩
theorem any_ok {c a b : Str} (h : (Fy.any c a b).ok K = true) : PySem.W.exmAny K (.ref (He.ga K c)) [.ref (He.ga K a), .ref (He.ga K b)] = some true := of_decide_eq_true h
theorem kitC_ok {c n : Str} {r : Bool} (h : (Fy.kitC c n r).ok K = true) : PySem.W.kitOne K (.ref (He.ga K c)) (.ref (He.ga K n)) = some r := of_decide_eq_true h
theorem kitT_ok {c : Str} {n : String} {r : Bool} (h : (Fy.kitT c n r).ok K = true) : PySem.W.kitOne K (.ref (He.ga K c)) (.type n) = some r := of_decide_eq_true h
end
section
variable {K : PySem.W.Frag}
theorem prop_ok {x f : Str} (h : (Fy.prop x f).ok K = true) : PropOf K (He.ga K x) f (He.ma K (He.ga K x) f) (pAd K (He.ga K x) f) := by
  obtain ⟨h1, h⟩ := He.ba h
  obtain ⟨h2, h⟩ := He.ba h
  obtain ⟨h3, h4⟩ := He.ba h
  refine ⟨He.eqO_ok h1, He.eqO_ok h2, of_decide_eq_true h3, ?_⟩
  unfold pAd
  split at h4
  · rename_i g r e
    exact ⟨r, by rw [e]⟩
  · cases h4
theorem self1_ok {x : Str} (h : (Fy.self1 x).ok K = true) : PySem.W.selfFirst K (He.ga K x) = true := h
theorem noSeq_ok {x : Str} (h : (Fy.noSeq x).ok K = true) : PySem.W.noSeq K (He.ga K x) = true := h
theorem noNe_ok {x : Str} (h : (Fy.noNe x).ok K = true) : PySem.W.findIn K (.ref (He.ga K x)) "__ne__" = some (some (.builtin "object.__ne__")) := He.eqO_ok h
end
/-! ### defs with lambdas: code objects, their tables -/
abbrev DefA : Type := Str × Option Str
def cA (K : PySem.W.Frag) (p : DefA) : Addr := match codeV K (He.fAd K p) with
  | .ref c => c
  | _ => 0
def tA (K : PySem.W.Frag) (p : DefA) : Addr := match K.lookup (cA K p) with
  | some ⟨_, _, .fields vs, _⟩ => (match (vs[11]? : Option Value) with
    | some (.ref P) => P
    | _ => 0)
  | _ => 0
def isTab (o : Obj) : Bool := match o with
  | ⟨.none, none, .fields ⟨[]⟩, ⟨[]⟩⟩ => true
  | _ => false
theorem isTab_ok {o : Obj} (h : isTab o = true) : o = { cls := .none, data := .fields #[] } := by
  unfold isTab at h
  split at h
  · rfl
  · cases h
def lamOk (K : PySem.W.Frag) (p : DefA) : Bool := decide (codeV K (He.fAd K p) = .ref (cA K p)) && (PySem.W.codeHdIn K (cA K p) (tA K p) && (K.lookup (tA K p)).isNone)
def tabsB (g : Addr → Option Obj) (K : PySem.W.Frag) (l : List DefA) : Bool := l.all fun p => match g (tA K p) with
  | some o => isTab o
  | none => false
def nodB : List Addr → Bool
  | [] => true
  | a :: r => !(r.contains a) && nodB r
theorem nodB_ok : ∀ {l : List Addr}, nodB l = true → l.Nodup
  | [], _ => List.nodup_nil
  | a :: r, h => by
    obtain ⟨h1, h2⟩ := He.ba h
    refine List.nodup_cons.mpr ⟨fun z => ?_, nodB_ok h2⟩
    simp [z] at h1
abbrev AlL : Type := (He.AlD × List He.FnW) × Bool
def obsL (fa : List He.Fa) (fn : List He.DefD) (fx : List Fy) (lam : List DefA) (pn : List He.DefD) (K : PySem.W.Frag) : AlL := ((He.obsD fa fn K, pn.map fun d => fnWA K (dAd K d.at_)), ((fx.all fun f => f.ok K) && (lam.all (fun p => lamOk K p) && nodB (lam.map (tA K)))) && pn.all fun d => okA K (dAd K d.at_) d)
def frL (n : Nat) (g : Addr → Option Obj) : PySem.W.Frag := He.frG g ((sysModules :: cStatics :: He.asD g n).filter fun a => match g a with
  | some o => !(isTab o)
  | none => true)
def obsLG (n : Nat) (fa : List He.Fa) (fn : List He.DefD) (fx : List Fy) (lam : List DefA) (pn : List He.DefD) (g : Addr → Option Obj) : AlL × Bool := (obsL fa fn fx lam pn (frL n g), tabsB g (frL n g) lam)
structure SaysL (fa : List He.Fa) (fn : List He.DefD) (fx : List Fy) (lam : List DefA) (pn : List He.DefD) (K : PySem.W.Frag) : Prop where
  eq : obsL fa fn fx lam pn K = ((He.valD fn, pn.map He.DefD.val), true)
def hookL (n : Nat) (fa : List He.Fa) (fn : List He.DefD) (fx : List Fy) (lam : List DefA) (pn : List He.DefD) : PySem.W.Hook where
  α := AlL × Bool
  obs := fun s => obsLG n fa fn fx lam pn s.heap.get?
  val := fun _ => (((He.valD fn, pn.map He.DefD.val), true), true)
  says := fun _ h => ∃ K : PySem.W.Frag, K.In h ∧ SaysL fa fn fx lam pn K ∧ ∀ p ∈ lam, h.get? (tA K p) = some { cls := .none, data := .fields #[] }
  of := fun _ s e => ⟨frL n s.heap.get?, He.frG_in, ⟨congrArg (fun z : AlL × Bool => z.1) e⟩, fun p hp => by
    have h2 := List.all_eq_true.mp (congrArg (fun z : AlL × Bool => z.2) e) p hp
    split at h2
    · rename_i o ho
      rw [ho, isTab_ok h2]
    · cases h2⟩
  keeps := fun _ _ _ ⟨K, a, c, t⟩ k => ⟨K, PySem.W.Frag.In.keeps a k, c, fun p hp => k _ _ (t p hp)⟩
theorem obsL_eq {n : Nat} {fa : List He.Fa} {fn : List He.DefD} {fx : List Fy} {lam : List DefA} {pn : List He.DefD} {g : Addr → Option Obj} {s : Shared} (h : ∀ a, g a = s.heap.get? a) : obsLG n fa fn fx lam pn g = (hookL n fa fn fx lam pn).obs s := by
  have e : g = s.heap.get? := funext h
  subst e
  rfl
section
variable {fa : List He.Fa} {fn : List He.DefD} {fx : List Fy} {lam : List DefA} {pn : List He.DefD} {K : PySem.W.Frag}
theorem SaysL.d (c : SaysL fa fn fx lam pn K) : He.SaysD fa fn K := congrArg (fun z : AlL => z.1.1) c.eq
theorem SaysL.b (c : SaysL fa fn fx lam pn K) : (((fx.all fun f => f.ok K) && (lam.all (fun p => lamOk K p) && nodB (lam.map (tA K)))) && pn.all fun d => okA K (dAd K d.at_) d) = true := congrArg (fun z : AlL => z.2) c.eq
theorem SaysL.x (c : SaysL fa fn fx lam pn K) (i : Nat) {f : Fy} (h : fx[i]? = some f := by rfl) : f.ok K = true :=
  List.all_eq_true.mp (He.ba (He.ba c.b).1).1 f (List.mem_of_getElem? h)
theorem SaysL.l (c : SaysL fa fn fx lam pn K) {p : DefA} (h : p ∈ lam) : lamOk K p = true :=
  List.all_eq_true.mp (He.ba (He.ba (He.ba c.b).1).2).1 p h
theorem SaysL.nd (c : SaysL fa fn fx lam pn K) : (lam.map (tA K)).Nodup := nodB_ok (He.ba (He.ba (He.ba c.b).1).2).2
theorem SaysL.p (c : SaysL fa fn fx lam pn K) (i : Nat) {d : He.DefD} (h : pn[i]? = some d := by rfl) : ∃ fd, FunD K d.name d.qual d.params d.body d.scope (d.dvs K) (d.kws K) (dAd K d.at_) fd := by
  have e : (pn.map fun d => fnWA K (dAd K d.at_)) = pn.map He.DefD.val := congrArg (fun z : AlL => z.1.2) c.eq
  have e2 : (pn.map fun d => fnWA K (dAd K d.at_))[i]? = (pn.map He.DefD.val)[i]? := by rw [e]
  rw [List.getElem?_map, List.getElem?_map, h] at e2
  exact funA (Option.some.inj e2) (List.all_eq_true.mp (He.ba c.b).2 d (List.mem_of_getElem? h))
end
/-- what a def's lambdas lean on -/
structure LamF [TabC] (K : PySem.W.Frag) (mg : Str → Option Value) (base : Heap) (f : Addr) (q : Str) (c P : Addr) : Prop where
  code : codeV K f = .ref c
  tb : LamX.TabB base mg c P
  mem : (P, q) ∈ TabC.T
  un : ∀ p ∈ TabC.T, p.1 = P → p.2 = q
section
variable {fa : List He.Fa} {fn : List He.DefD} {fx : List Fy} {lam : List DefA} {pn : List He.DefD} {K : PySem.W.Frag} {mg : Str → Option Value} {base h : Heap}
/-- the tables by def; qs: the names of their lambdas -/
abbrev tabsC (K : PySem.W.Frag) (lq : List (DefA × Str)) : TabC := ⟨lq.map fun p => (tA K p.1, p.2)⟩
theorem nodup_get {α β : Type} {f : α → β} : ∀ {l : List α}, (l.map f).Nodup → ∀ {x y : α}, x ∈ l → y ∈ l → f x = f y → x = y
  | [], _, _, _, hx, _, _ => nomatch hx
  | a :: r, n, x, y, hx, hy, e => by
    have n' : f a ∉ r.map f ∧ (r.map f).Nodup := List.nodup_cons.mp n
    obtain ⟨n1, n2⟩ := n'
    rcases List.mem_cons.mp hx with hx | hx
    · rcases List.mem_cons.mp hy with hy | hy
      · rw [hx, hy]
      · rw [hx] at e
        exact (n1 (List.mem_map.mpr ⟨y, hy, e.symm⟩)).elim
    · rcases List.mem_cons.mp hy with hy | hy
      · rw [hy] at e
        exact (n1 (List.mem_map.mpr ⟨x, hx, e⟩)).elim
      · exact nodup_get n2 hx hy e
theorem lamF_of {lq : List (DefA × Str)} (c : SaysL fa fn fx (lq.map (·.1)) pn K) (hb : ∀ p ∈ lq.map (fun p => (cA K p.1, tA K p.1)), LamX.TabB base mg p.1 p.2) {p : DefA} {q : Str} (hp : (p, q) ∈ lq) : @LamF (tabsC K lq) K mg base (He.fAd K p) q (cA K p) (tA K p) := by
  have hm : p ∈ lq.map (·.1) := List.mem_map.mpr ⟨(p, q), hp, rfl⟩
  obtain ⟨h1, _⟩ := He.ba (c.l hm)
  refine @LamF.mk (tabsC K lq) _ _ _ _ _ _ _ (of_decide_eq_true h1) (hb (cA K p, tA K p) (List.mem_map.mpr ⟨(p, q), hp, rfl⟩)) (show (tA K p, q) ∈ (tabsC K lq).T from List.mem_map.mpr ⟨(p, q), hp, rfl⟩) fun z hz e => ?_
  obtain ⟨⟨p', q'⟩, h3, rfl⟩ := List.mem_map.mp hz
  have nd : (lq.map fun z => tA K z.1).Nodup := by
    have := c.nd
    rwa [List.map_map] at this
  have := nodup_get (f := fun z : DefA × Str => tA K z.1) nd h3 hp e
  rw [Prod.mk.injEq] at this
  exact this.2
/-- the facts about tables that the law's end wants -/
theorem tabs_end {lq : List (DefA × Str)} (X : K.In h) (c : SaysL fa fn fx (lq.map (·.1)) pn K) (t : ∀ p ∈ lq.map (·.1), h.get? (tA K p) = some { cls := .none, data := .fields #[] }) :
    (∀ p ∈ lq.map (fun p => (cA K p.1, tA K p.1)), h.get? p.2 = some { cls := .none, data := .fields #[] }) ∧ (∀ p ∈ lq.map (fun p => (cA K p.1, tA K p.1)), K.lookup p.2 = none) ∧ (∀ p ∈ lq.map (fun p => (cA K p.1, tA K p.1)), PySem.W.CodeHd h p.1 p.2) ∧
      (∀ p ∈ (tabsC K lq).T, ∃ c, (c, p.1) ∈ lq.map (fun p => (cA K p.1, tA K p.1))) := by
  have go : ∀ {p : DefA × Str}, p ∈ lq → lamOk K p.1 = true := fun hp => c.l (List.mem_map.mpr ⟨_, hp, rfl⟩)
  refine ⟨fun p hp => ?_, fun p hp => ?_, fun p hp => ?_, fun p hp => ?_⟩
  · obtain ⟨z, hz, rfl⟩ := List.mem_map.mp hp
    exact t _ (List.mem_map.mpr ⟨_, hz, rfl⟩)
  · obtain ⟨z, hz, rfl⟩ := List.mem_map.mp hp
    exact Option.isNone_iff_eq_none.mp (He.ba (He.ba (go hz)).2).2
  · obtain ⟨z, hz, rfl⟩ := List.mem_map.mp hp
    exact PySem.W.codeHd_of_K X (He.ba (He.ba (go hz)).2).1
  · obtain ⟨z, hz, rfl⟩ := List.mem_map.mp hp
    exact ⟨_, List.mem_map.mpr ⟨z, hz, rfl⟩⟩
end
end T5
namespace T5
open PySem PySem.Spec PyProof.Rows L2
variable [TabC]
/-! ### len, in, [], + by the class's own methods -/
def asInt (r : R D) : R D := (noEx r).bind fun v st => match v with
  | .int n => if 0 ≤ n ∧ n < 2 ^ 63 then .ok (.int n) st else .bad
  | _ => .bad
def asBl (r : R D) : R D := (noEx r).bind fun v st => match v with
  | .bl b => .ok (.bl b) st
  | _ => .bad
def eLenC (c : String) (m : MF) (ma : MA) : ME := fun env st => (ma env st).bind fun ds st1 => match ds with
  | [d] => (match insOf st1 d with
    | some (c1, _, _) => if c1 = c then asInt (m [d] st1) else .bad
    | none => ofO (fLen st1 [d]) st1)
  | _ => .bad
def eInC (c : String) (m : MF) (ma mb : ME) : ME := fun env st => (ma env st).bind fun d1 st1 => (mb env st1).bind fun d2 st2 => match insOf st2 d2 with
  | some (c1, _, _) => if c1 = c then asBl (m [d2, d1] st2) else .bad
  | none => ofO (bIn st2 d1 d2) st2
def eIxC (c : String) (m : MF) (ma mb : ME) : ME := fun env st => (ma env st).bind fun d1 st1 => (mb env st1).bind fun d2 st2 => match insOf st2 d1 with
  | some (c1, _, _) => if c1 = c then m [d1, d2] st2 else .bad
  | none => ofO (bIx st2 d1 d2) st2
def eAddC (c : String) (m : MF) (ma mb : ME) : ME := fun env st => (ma env st).bind fun d1 st1 => (mb env st1).bind fun d2 st2 => match insOf st2 d1, insOf st2 d2 with
  | some (c1, _, _), some (c2, _, _) => if c1 = c ∧ c2 = c then m [d1, d2] st2 else .bad
  | none, none => ofO (bAdd st2 d1 d2) st2
  | _, _ => .bad
section
variable {X : Cx} {k : Nat} {f C : Addr} {ps : List Str} {m : MF} {c : String} {a b : Expr} {es : List Expr} {e : Expr} {pos p : Pos} {ma mb : ME} {mA : MA} {K : PySem.W.Frag} {mg : Str → Option Value}
theorem aft_asInt {W W' : WX} {σ σ' : L2.St} {μ : Mu} {H : Hp} {r : R D} {Q : VK} (h : Aft K mg W σ μ H (asInt r) fun d _ μ' H' => ∀ v, Rep K mg μ' H' d v → Q v H') : Aft K mg W' σ' μ H r fun d _ μ' H' => ∀ v, Rep K mg μ' H' d v → ∃ n, v = .int n ∧ (0 ≤ n ∧ n < 2 ^ 63) ∧ Q v H' := by
  refine aft_noEx ((Aft.bind h).imp fun d st3 μ3 H3 x3 r3 a3 v hv => ?_)
  cases d with
  | int n =>
    have hv : v = V.int n := hv
    by_cases z : 0 ≤ n ∧ n < 2 ^ 63
    · simp only [if_pos z] at a3
      subst hv
      exact ⟨n, rfl, z, a3 μ3 H3 Ext.refl r3 _ rfl⟩
    · simp only [if_neg z] at a3
      exact a3.elim
  | _ => exact a3.elim
theorem aft_asBl {W W' : WX} {σ σ' : L2.St} {μ : Mu} {H : Hp} {r : R D} {Q : VK} (h : Aft K mg W σ μ H (asBl r) fun d _ μ' H' => ∀ v, Rep K mg μ' H' d v → Q v H') : Aft K mg W' σ' μ H r fun d _ μ' H' => ∀ v, Rep K mg μ' H' d v → (∃ t, v = .bl t) ∧ Q v H' := by
  refine aft_noEx ((Aft.bind h).imp fun d st3 μ3 H3 x3 r3 a3 v hv => ?_)
  cases d with
  | bl t =>
    cases hv
    exact ⟨⟨t, rfl⟩, a3 μ3 H3 Ext.refl r3 _ rfl⟩
  | _ => exact a3.elim
/-! len -/
def rLenC (K : PySem.W.Frag) (mg : Str → Option Value) (C : Addr) (m : MF) : List V → Hp → VK → Prop := fun xs H Q => ∃ a dx fs, xs = [V.ref a] ∧ H a = some (.ins C dx fs) ∧ spM K mg 1 m xs H (fun v H' => ∃ n, v = .int n ∧ (0 ≤ n ∧ n < 2 ^ 63) ∧ Q v H') (fun _ _ _ => False)
theorem call_lenC (F : Fn X.prog X.w X.K X.mg X.base k f ps m) (hl : ps.length = 1) (hs : PySem.W.findIn X.K (.ref C) "__len__" = some (some (.ref f))) (hf : PySem.W.isFn X.K (.ref f) = true) (hr : Room (k + 1) X.A) (hgd : Gd X.A) : CallR X (.builtin "len") (rLenC X.K X.mg C m) := by
  intro pins s σ H xs us Q I r h
  obtain ⟨p, dx, fs, rfl, hp, hsp⟩ := h
  obtain ⟨u, rfl, ru⟩ := vals1 r
  cases ru
  obtain ⟨mA, J1, _⟩ := ins_get I.hok hp
  obtain ⟨od, J1, _⟩ := J1.look
  obtain ⟨mm, hF⟩ := I.fr
  refine PySem.W.len_K hF I.ok.mod.kin J1 hs hf ?_
  rw [← hl] at hsp
  refine wpAny_call (codeAny_mono (F.run hr.in1 hgd I.env0.in1 (show Vals [V.ref p] [Value.ref p] from .cons rfl .nil) hsp) fun res t hres => ?_)
  cases res with
  | error er =>
    obtain ⟨_, _, _, _, _, _, _, _, _, _, _, _, z⟩ := hres
    exact z.elim
  | ok fl =>
    cases fl with
    | ret w =>
      obtain ⟨z, H', I', rz, ⟨n, ez, hn, q⟩⟩ := I.after hres
      subst ez
      obtain ⟨t', rfl⟩ := rz
      exact ⟨hn, .int n, H', I'.tok _, ⟨_, rfl⟩, q⟩
    | next => exact hres.elim
    | brk => exact hres.elim
    | cont => exact hres.elim
theorem se_lenC (F : Fn X.prog X.w X.K X.mg X.base k f ps m) (hl : ps.length = 1) (hs : PySem.W.findIn X.K (.ref C) "__len__" = some (some (.ref f))) (hf : PySem.W.isFn X.K (.ref f) = true) (hr : Room (k + 1) X.A) (hq : Gd X.A) (hc : X.mg (Str.ofString c) = some (.ref C)) (hg : Gl X "len") (hm : X.mg "len" = none) (ha : SA X (e :: es) mA)
    (he : starEach (e :: es) X.env = (false, eval e X.env) :: starEach es X.env := by rfl) (hpl : (backTo pos (starEach es X.env)).any (·.1) = false := by rfl) : SE X (.Call (.Name "len" p) (e :: es) [] pos) (eLenC c m mA) := fun pn xe W tk =>
  PE.imp (pe_callB (X := X.tr pn xe) ((call_lenC (X := X.tr pn xe) F hl hs hf hr hq).or (call_len.or call_lenR)) hg hm PySem.boot_len (ha pn xe W tk) (by decide) (by decide) he hpl) fun σ H Q h => tMA_run h fun ds vs μ env st H1 r1 re hv a => by
    have one : ∃ d, ds = [d] := by
      cases ds with
      | nil => exact a.elim
      | cons d r => cases r with
        | nil => exact ⟨d, rfl⟩
        | cons => exact a.elim
    obtain ⟨d, rfl⟩ := one
    obtain ⟨v, rfl, hd⟩ := repL1 hv
    cases e1 : insOf st d with
    | none =>
      simp only [e1] at a
      refine .inr ?_
      cases e2 : fLen st [d] with
      | none => rw [e2] at a; exact a.elim
      | some d' =>
        rw [e2] at a
        exact calld_len μ H1 st [d] d' [v] Q r1 hv e2 fun H' v x' r' h' => a μ H' x' r' v h'
    | some q =>
      obtain ⟨c', ks, ds⟩ := q
      simp only [e1] at a
      by_cases cc : c' = c
      · subst cc
        rw [if_pos rfl] at a
        obtain ⟨x, C', dx, vs, rfl, g, l, hh, hl2⟩ := ins_at r1 hd e1
        rw [show (X.tr pn xe).mg = X.mg from rfl, hc] at g
        cases g
        exact .inl ⟨x, dx, _, rfl, hh, rfl, μ, st, [d], r1, ⟨_, [], rfl, hd, rfl⟩, aft_asInt a⟩
      · rw [if_neg cc] at a
        exact a.elim
/-! in -/
def rInC (K : PySem.W.Frag) (mg : Str → Option Value) (C : Addr) (m : MF) : R2 := fun x y H Q => ∃ b dy gs, y = .ref b ∧ H b = some (.ins C dy gs) ∧ spM K mg 2 m [y, x] H (fun v H' => (∃ t, v = .bl t) ∧ Q v H') (fun _ _ _ => False)
theorem op_inC (F : Fn X.prog X.w X.K X.mg X.base k f ps m) (hl : ps.length = 2) (hs : PySem.W.findIn X.K (.ref C) "__contains__" = some (some (.ref f))) (hf : PySem.W.isFn X.K (.ref f) = true) (hr : Room k X.A) (hgd : Gd X.A) : OpR X (compareOp .In) (rInC X.K X.mg C m) := by
  intro pins s σ H x y v u Q I rx ry h
  obtain ⟨q, dy, gs, rfl, hq, hsp⟩ := h
  cases ry
  obtain ⟨mA, J1, _⟩ := ins_get I.hok hq
  obtain ⟨od, J1, _⟩ := J1.look
  obtain ⟨mm, hF⟩ := I.fr
  refine PySem.W.in_K hF I.ok.mod.kin J1 hs hf ?_
  rw [← hl] at hsp
  refine wpAny_call (codeAny_mono (F.run hr hgd I.env0 (show Vals [V.ref q, x] [Value.ref q, v] from .cons rfl (.cons rx .nil)) hsp) fun res t hres => ?_)
  cases res with
  | error er =>
    obtain ⟨_, _, _, _, _, _, _, _, _, _, _, _, z⟩ := hres
    exact z.elim
  | ok fl =>
    cases fl with
    | ret w =>
      obtain ⟨z, H', I', rz, ⟨tb, ez⟩, ex⟩ := I.after hres
      subst ez
      cases rz
      exact wpAny_truthy_bool ⟨.bl tb, H', I', rfl, ex⟩
    | next => exact hres.elim
    | brk => exact hres.elim
    | cont => exact hres.elim
theorem tInC_of {W : WX} {σ : L2.St} {H : Hp} {Q : VK} (hm : mg (Str.ofString c) = some (.ref C)) (h : tM K mg W (eInC c m ma mb) σ H Q) : tOp (fun x y H Q => rInC K mg C m x y H Q ∨ rInA K false x y H Q) (tM K mg W ma) (tM K mg W mb) σ H Q := by
  refine tM_seq h fun d1 x μ1 env st1 H1 r1 re1 h1 a1 => ?_
  refine ⟨μ1, env, st1, r1, re1, (Aft.bind a1).imp fun d2 st2 μ2 H2 x2 r2 a2 y h2 => ?_⟩
  cases e2 : insOf st2 d2 with
  | none =>
    simp only [e2] at a2
    refine .inr ?_
    cases q : bIn st2 d1 d2 with
    | none => rw [q] at a2; exact a2.elim
    | some d =>
      rw [q] at a2
      exact opd_in μ2 H2 st2 d1 d2 d x y Q r2 (h1.ext x2) h2 q fun H' v e r' h' => a2 μ2 H' e r' v h'
  | some q =>
    obtain ⟨c2, ks2, vs2⟩ := q
    simp only [e2] at a2
    by_cases cc : c2 = c
    · subst cc
      rw [if_pos rfl] at a2
      obtain ⟨q, C2, dy, zs, rfl, g2, l2, hq, _⟩ := ins_at r2 h2 e2
      rw [hm] at g2
      cases g2
      exact .inl ⟨q, dy, _, rfl, hq, rfl, μ2, st2, [d2, d1], r2, ⟨_, _, rfl, h2, _, [], rfl, h1.ext x2, rfl⟩, aft_asBl a2⟩
    · rw [if_neg cc] at a2
      exact a2.elim
theorem se_inC (F : Fn X.prog X.w X.K X.mg X.base k f ps m) (hl : ps.length = 2) (hs : PySem.W.findIn X.K (.ref C) "__contains__" = some (some (.ref f))) (hf : PySem.W.isFn X.K (.ref f) = true) (hr : Room k X.A) (hq : Gd X.A) (hm : X.mg (Str.ofString c) = some (.ref C))
    (ha : SE X a ma) (hb : SE X b mb) (hbm : behindInMarks .In b = false := by rfl) : SE X (.Compare a [.In] [b] pos) (eInC c m ma mb) := fun pn xe W tk =>
  PE.imp (pe_cmpR ((op_inC (X := X.tr pn xe) F hl hs hf hr hq).or (opr_in (X := X.tr pn xe) hr)) (ha pn xe W tk) (hb pn xe W tk) hbm) fun σ H Q h => tInC_of hm h
/-! [] -/
theorem se_ixC (F : Fn X.prog X.w X.K X.mg X.base k f ps m) (hl : ps.length = 2) (hs : PySem.W.findIn X.K (.ref C) "__getitem__" = some (some (.ref f))) (hfi : PySem.W.fnIn X.K f = true) (hf : PySem.W.isFn X.K (.ref f) = true) (hr : Room (k + 1) X.A) (hq : Gd X.A) (hm : X.mg (Str.ofString c) = some (.ref C))
    (ha : SE X a ma) (hb : SE X b mb) (hp : PlainIx b) (hsl : ∀ o i, subscripted b true o i = runValue (.builtin "lifetime.subscript" ⟨[o, i], []⟩)) : SE X (.Subscript a b pos) (eIxC c m ma mb) := fun pn xe W tk => by
  constructor
  intro pins s σ H Q I h
  refine Subscript_ (binT (ha pn xe W tk) (hb pn xe W tk) I (R := fun x y H2 => (∃ p dx fs, x = V.ref p ∧ H2 p = some (.ins C dx fs) ∧ spM X.K X.mg 2 m [x, y] H2 Q (fun c d H' => W c d σ H')) ∨ rIxA X.K x y H2 Q) ?_ fun v u s2 x y H2 I2 rx ry q => ?_)
  · refine tM_seq h fun d1 x μ1 env st1 H1 r1 re1 h1 a1 => ?_
    refine ⟨μ1, env, st1, r1, re1, (Aft.bind a1).imp fun d2 st2 μ2 H2 x2 r2 a2 y h2 => ?_⟩
    cases e1 : insOf st2 d1 with
    | none =>
      simp only [e1] at a2
      refine .inr ?_
      cases q : bIx st2 d1 d2 with
      | none => rw [q] at a2; exact a2.elim
      | some d =>
        rw [q] at a2
        exact opd_ix μ2 H2 st2 d1 d2 d x y Q r2 (h1.ext x2) h2 q fun H' v e r' h' => a2 μ2 H' e r' v h'
    | some q =>
      obtain ⟨c1, ks1, vs1⟩ := q
      simp only [e1] at a2
      by_cases cc : c1 = c
      · subst cc
        rw [if_pos rfl] at a2
        obtain ⟨q, C2, dy, zs, rfl, g2, l2, hq, _⟩ := ins_at r2 (h1.ext x2) e1
        rw [hm] at g2
        cases g2
        exact .inl ⟨q, dy, _, rfl, hq, rfl, μ2, st2, [d1, d2], r2, ⟨_, _, rfl, h1.ext x2, _, [], rfl, h2, rfl⟩, a2⟩
      · rw [if_neg cc] at a2
        exact a2.elim
  · rcases q with ⟨p, dx, fs, rfl, hp2, hsp⟩ | q
    · cases rx
      obtain ⟨mA, J1, _⟩ := ins_get I2.hok hp2
      obtain ⟨od, J1, _⟩ := J1.look
      obtain ⟨mm, hF⟩ := I2.fr
      refine PySem.W.sub_K hF I2.ok.mod.kin J1 hs hfi hf ?_ (hsl _ _)
      rw [← hl] at hsp
      refine wpAny_call (codeAny_mono (F.run hr.in1 hq I2.env0.in1 (show Vals [V.ref p, y] [Value.ref p, u] from .cons rfl (.cons ry .nil)) hsp) fun res t hres => ?_)
      cases res with
      | error er => exact passAt tk σ pins H2 s2 er t I2 hres
      | ok fl =>
        cases fl with
        | ret w => exact I2.after hres
        | next => exact hres.elim
        | brk => exact hres.elim
        | cont => exact hres.elim
    · exact ((ix_dict (X := X.tr pn xe) (hu_of hr)).or ix_seq) a b pins s2 σ H2 x y v u Q I2 rx ry q (hp _ _)
/-! + -/
theorem rel_noNot {z : V} {w : Value} (h : RelV z w) : w ≠ .notImplemented := by
  intro e
  subst e
  cases z <;> first | (obtain ⟨_, h⟩ := h; exact Value.noConfusion h) | (cases h; done)
theorem cmpBack_of {Q : Value → Shared → Prop} {w : Value} {s : Shared} (h : w ≠ .notImplemented) (q : Q w s) : PySem.W.CmpBack Q w s := by
  unfold PySem.W.CmpBack
  cases w <;> first | exact q | exact absurd rfl h
theorem se_addC (F : Fn X.prog X.w X.K X.mg X.base k f ps m) (hl : ps.length = 2) (hs : PySem.W.findIn X.K (.ref C) "__add__" = some (some (.ref f))) (hf : PySem.W.isFn X.K (.ref f) = true) (hsf : PySem.W.selfFirst X.K C = true) (hr : Room k X.A) (hq : Gd X.A) (hm : X.mg (Str.ofString c) = some (.ref C))
    (ha : SE X a ma) (hb : SE X b mb) : SE X (.BinOp a .Add b pos) (eAddC c m ma mb) := fun pn xe W tk => by
  constructor
  intro pins s σ H Q I h
  refine wpAny_BinOp (bin (ha pn xe W tk) (hb pn xe W tk) I (R := fun x y H2 => (∃ p q dx dy fs gs, x = V.ref p ∧ y = V.ref q ∧ H2 p = some (.ins C dx fs) ∧ H2 q = some (.ins C dy gs) ∧ spM X.K X.mg 2 m [x, y] H2 Q (fun c d H' => W c d σ H')) ∨ rAddA X.K x y H2 Q) ?_ fun v u s2 x y H2 I2 rx ry q => ?_)
  · refine tM_seq h fun d1 x μ1 env st1 H1 r1 re1 h1 a1 => ?_
    refine ⟨μ1, env, st1, r1, re1, (Aft.bind a1).imp fun d2 st2 μ2 H2 x2 r2 a2 y h2 => ?_⟩
    cases e1 : insOf st2 d1 with
    | none =>
      cases e2 : insOf st2 d2 with
      | none =>
        simp only [e1, e2] at a2
        refine .inr ?_
        cases q : bAdd st2 d1 d2 with
        | none => rw [q] at a2; exact a2.elim
        | some d =>
          rw [q] at a2
          exact opd_add μ2 H2 st2 d1 d2 d x y Q r2 (h1.ext x2) h2 q fun H' v e r' h' => a2 μ2 H' e r' v h'
      | some => simp only [e1, e2] at a2; exact a2.elim
    | some q =>
      obtain ⟨c1, ks1, vs1⟩ := q
      cases e2 : insOf st2 d2 with
      | none => simp only [e1, e2] at a2; exact a2.elim
      | some q =>
        obtain ⟨c2, ks2, vs2⟩ := q
        simp only [e1, e2] at a2
        by_cases cc : c1 = c ∧ c2 = c
        · rw [if_pos cc] at a2
          obtain ⟨rfl, rfl⟩ := cc
          obtain ⟨p, C1, dx, ws, rfl, g1, l1, hp, _⟩ := ins_at r2 (h1.ext x2) e1
          obtain ⟨q, C2, dy, zs, rfl, g2, l2, hq, _⟩ := ins_at r2 h2 e2
          rw [hm] at g1 g2
          cases g1
          cases g2
          exact .inl ⟨p, q, dx, dy, _, _, rfl, rfl, hp, hq, rfl, μ2, st2, [d1, d2], r2, ⟨_, _, rfl, h1.ext x2, _, [], rfl, h2, rfl⟩, a2⟩
        · rw [if_neg cc] at a2
          exact a2.elim
  · rcases q with ⟨p, q, dx, dy, fs, gs, rfl, rfl, hp2, hq2, hsp⟩ | q
    · cases rx
      cases ry
      obtain ⟨mA, J1, _⟩ := ins_get I2.hok hp2
      obtain ⟨mB, J2, _⟩ := ins_get I2.hok hq2
      obtain ⟨od, J1, _⟩ := J1.look
      obtain ⟨od', J2, _⟩ := J2.look
      obtain ⟨mm, hF⟩ := I2.fr
      refine PySem.W.binop_K hF I2.ok.mod.kin J1 J2.type hsf hs hf ?_
      rw [← hl] at hsp
      refine wpAny_call (codeAny_mono (F.run hr hq I2.env0 (show Vals [V.ref p, V.ref q] [Value.ref p, Value.ref q] from .cons rfl (.cons rfl .nil)) hsp) fun res t hres => ?_)
      cases res with
      | error er => exact passAt tk σ pins H2 s2 er t I2 hres
      | ok fl =>
        cases fl with
        | ret w =>
          obtain ⟨z, H', I', rz, ex⟩ := I2.after hres
          exact cmpBack_of (rel_noNot rz) ⟨z, H', I', rz, ex⟩
        | next => exact hres.elim
        | brk => exact hres.elim
        | cont => exact hres.elim
    · exact opr_add (X := X.tr pn xe) pins s2 σ H2 x y v u Q I2 rx ry q
end
end T5
namespace T5
section
open PySem PySem.W PySem.Calls PyProof.Rows Builtin
variable {prog : Program} {w : World} {A : Around} {E : Value → Shared → Prop} {s : Shared} {K : Frag} {x y C L f : Addr} {h₀ : Heap} {m : Str → Option Value} {ox : Obj} {od : Option Obj}
theorem sub_obj {M : Model} (X : K.In s.heap) (I : InstAt s.heap x ox C od) (hp : plainOver K C = true) : Looks M s.heap (isInstance (.ref x) (.type "object")) true := by
  obtain ⟨cd, hc, ho⟩ := any_some hp
  have ne : cd.mro.isEmpty = false := by cases q : cd.mro with | nil => rw [q] at ho; cases ho | cons _ _ => rfl
  exact I.type.andThen (looks_mroIn X (by unfold mroIn; rw [hc, Option.bind_some, if_neg (by rw [ne]; decide), only_has ho]))
theorem ifBoundB_K {M : Model} {name : Str} {id : String} {T : String} {args : List Value} {Q : Option Value → Shared → Prop} (X : K.In s.heap) (I : InstAt s.heap x ox C od) (hs : findIn K (.ref C) name = some (some (.builtin id))) (S : Slot T name id)
    (h : wpAny M A (call (.builtin id) (.ref x :: args)) (fun v => Q (some v)) E s) : wpAny M A (callSpecialIfBound? (.ref x) name args) Q E s := by
  simp only [callSpecialIfBound?, bindSpecialIfBound?]
  refine wpAny_holding (wpAny_bind (wpAny_bind (wpAny_bind (I.type.here ((looks_findIn X hs).here ?_)))))
  simp only [S.bind]
  refine wpAny_bind (wpAny_askSetting (wpAny_ite ?_))
  have fin : wpAny M A (call (.builtin id) ([.ref x] ++ args) >>= fun v => pure (some v)) Q E s := wpAny_bind (wpAny_mono h (fun v s' h' => wpAny_pure h') fun _ _ h' => h')
  split
  · exact wpAny_bind (wpAny_pure (wpAny_pure fin))
  · exact wpAny_tryCatch (wpAny_bind (wpAny_pure (wpAny_pure fin)))
theorem objNe_K (X : K.In s.heap) (I : InstAt s.heap x ox C od) (hs : findIn K (.ref C) "__eq__" = some (some (.ref f))) (hf : isFn K (.ref f) = true) (hu : A.units < cLine) {Q : Fin → Shared → Prop}
    (hcall : wpAny (model prog w) A (call (.ref f) [.ref x, .ref y]) (fun v s' => ∃ b, v = .bool b ∧ Q (.done (.ret (.bool (!b)))) s') E s) :
    wpAny (model prog w) A (Builtin.«object.__ne__» ⟨[.ref x, .ref y], []⟩) Q E s := by
  obtain ⟨h, g, d, t, os⟩ := s
  unfold Builtin.«object.__ne__»
  repeat (first
    | with_reducible refine wpAny_cRoomFor hu ?_
    | (refine wpAny_bind (m := callSpecialIfBound? (.ref x) (Str.ofString "__eq__") [.ref y])
        (ifBound_K X I hs hf (wpAny_mono hcall (fun r s' hr => by
          obtain ⟨b, rfl, hq⟩ := hr
          repeat (first | exact hq | exact wpAny_pure hq | exact wpAny_truthy_bool hq | (refine wpAny_bind (m := truthy (.bool _)) (wpAny_truthy_bool ?_)) | wp_step)) fun _ _ e => e)))
    | wp_step)
theorem ne_K {Q : Value → Shared → Prop} (hu : A.units + 1 < cLine) (hF : Fr h₀ L s.heap m) (X₀ : K.In h₀) (I : InstAt s.heap x ox C od) (hp : plainOver K C = true) (hb : Looks (model prog w) s.heap (typeOf (.ref y)) (.ref C))
    (hne : findIn K (.ref C) "__ne__" = some (some (.builtin "object.__ne__"))) (hs : findIn K (.ref C) "__eq__" = some (some (.ref f))) (hf : isFn K (.ref f) = true)
    (h : wpAny (model prog w) A.in1 (call (.ref f) [.ref x, .ref y]) (fun v s' => ∃ b, v = .bool b ∧ Q (.bool (!b)) s') E s) : wpAny (model prog w) A (richCompare .NotEq (.ref x) (.ref y)) Q E s := by
  have X := X₀.keeps hF.keep
  have hu' : A.in1.units < cLine := hu
  have one : wpAny (model prog w) A (tryCompare (.ref x) "__ne__" (.ref y)) (fun r s' => ∃ v, r = some v ∧ Q v s') E s := by
    simp only [tryCompare]
    refine wpAny_bind (ifBoundB_K X I hne PySem.F.cmp_object.ne (wpAny_call (codeAny_call_builtin PySem.F.cmp_object.ne.plain PySem.F.cmpEntry_ne
      (check_slot PySem.F.cmpKind_ne PySem.F.cmpSplit_ne (sub_obj X I hp) (PySem.F.cmpArgs_ne _ _) (objNe_K (A := A.in1) X I hs hf hu' (wpAny_mono h (fun v s' hv => ?_) fun _ _ e => e))))))
    obtain ⟨b, rfl, hq⟩ := hv
    first | exact ⟨b, rfl, wpAny_pure ⟨_, rfl, hq⟩⟩ | exact ⟨b, rfl, wpAny_pure (wpAny_pure ⟨_, rfl, hq⟩)⟩ | exact ⟨b, rfl, ⟨_, rfl, hq⟩⟩
  unfold richCompare
  simp only [oneThing_ref]
  refine wpAny_holding (wpAny_bind (wpAny_cRoomFor (Nat.lt_of_succ_lt hu) ?_))
  rw [cmpInfo_NotEq]
  dsimp only
  refine wpAny_bind (I.type.here (wpAny_bind (hb.here ?_)))
  rw [show (Value.ref C != Value.ref C) = false from by simp]
  simp only [Bool.false_eq_true, if_false]
  refine wpAny_bind (wpAny_pure ?_)
  simp only [Bool.false_eq_true, if_false]
  refine wpAny_bind (wpAny_mono one (fun r s' z => ?_) fun _ _ e => e)
  obtain ⟨v, rfl, hq⟩ := z
  exact wpAny_pure hq
end
open PySem PySem.Spec PyProof.Rows L2
variable [TabC]
/-! ### == and != of two of one class by its __eq__; else of data -/
def notBl (r : R D) : R D := (noEx r).bind fun v st => match v with
  | .bl b => .ok (.bl (!b)) st
  | _ => .bad
def eEqD (c : String) (m : MF) (ma mb : ME) : ME := fun env st => (ma env st).bind fun d1 st1 => (mb env st1).bind fun d2 st2 => match insOf st2 d1, insOf st2 d2 with
  | some (c1, _, _), some (c2, _, _) => if c1 = c ∧ c2 = c then asBl (m [d1, d2] st2) else .bad
  | none, none => ofO (bEq st2 d1 d2) st2
  | _, _ => .bad
def eNeD (c : String) (m : MF) (ma mb : ME) : ME := fun env st => (ma env st).bind fun d1 st1 => (mb env st1).bind fun d2 st2 => match insOf st2 d1, insOf st2 d2 with
  | some (c1, _, _), some (c2, _, _) => if c1 = c ∧ c2 = c then notBl (m [d1, d2] st2) else .bad
  | none, none => ofO (bNe st2 d1 d2) st2
  | _, _ => .bad
section
variable {X : Cx} {k : Nat} {f C : Addr} {ps : List Str} {m : MF} {c : String} {a b : Expr} {pos : Pos} {ma mb : ME} {K : PySem.W.Frag} {mg : Str → Option Value}
theorem aft_notBl {W W' : WX} {σ σ' : L2.St} {μ : Mu} {H : Hp} {r : R D} {Q : VK} (h : Aft K mg W σ μ H (notBl r) fun d _ μ' H' => ∀ v, Rep K mg μ' H' d v → Q v H') : Aft K mg W' σ' μ H r fun d _ μ' H' => ∀ v, Rep K mg μ' H' d v → ∃ t, v = .bl t ∧ Q (.bl (!t)) H' := by
  refine aft_noEx ((Aft.bind h).imp fun d st3 μ3 H3 x3 r3 a3 v hv => ?_)
  cases d with
  | bl t =>
    cases hv
    exact ⟨t, rfl, a3 μ3 H3 Ext.refl r3 _ rfl⟩
  | _ => exact a3.elim
def rNeC (K : PySem.W.Frag) (mg : Str → Option Value) (C : Addr) (m : MF) : R2 := fun x y H Q => ∃ a b dx dy fs gs, x = .ref a ∧ y = .ref b ∧ H a = some (.ins C dx fs) ∧ H b = some (.ins C dy gs) ∧ spM K mg 2 m [x, y] H (fun v H' => ∃ t, v = .bl t ∧ Q (.bl (!t)) H') (fun _ _ _ => False)
theorem op_neC (F : Fn X.prog X.w X.K X.mg X.base k f ps m) (hl : ps.length = 2) (hs : PySem.W.findIn X.K (.ref C) "__eq__" = some (some (.ref f))) (hf : PySem.W.isFn X.K (.ref f) = true) (hne : PySem.W.findIn X.K (.ref C) "__ne__" = some (some (.builtin "object.__ne__"))) (hpo : PySem.W.plainOver X.K C = true) (hr : Room (k + 1) X.A) (hgd : Gd X.A) : OpR X (compareOp .NotEq) (rNeC X.K X.mg C m) := by
  intro pins s σ H x y v u Q I rx ry h
  obtain ⟨p, q, dx, dy, fs, gs, rfl, rfl, hp, hq, hsp⟩ := h
  cases rx
  cases ry
  obtain ⟨mA, J1, _⟩ := ins_get I.hok hp
  obtain ⟨mB, J2, _⟩ := ins_get I.hok hq
  obtain ⟨od, J1, _⟩ := J1.look
  obtain ⟨od', J2, _⟩ := J2.look
  obtain ⟨mm, hF⟩ := I.fr
  show wpAny (model X.prog X.w) X.A (richCompare .NotEq (.ref p) (.ref q)) (EP X pins σ Q) X.xe s
  refine ne_K (hu_of hr) hF I.ok.mod.kin J1 hpo J2.type hne hs hf ?_
  rw [← hl] at hsp
  refine wpAny_call (codeAny_mono (F.run hr.in1 hgd I.env0.in1 (show Vals [V.ref p, V.ref q] [Value.ref p, Value.ref q] from .cons rfl (.cons rfl .nil)) hsp) fun res t hres => ?_)
  cases res with
  | error er =>
    obtain ⟨_, _, _, _, _, _, _, _, _, _, _, _, z⟩ := hres
    exact z.elim
  | ok fl =>
    cases fl with
    | ret w =>
      obtain ⟨z, H', I', rz, tb, ez, ex⟩ := I.after hres
      subst ez
      cases rz
      exact ⟨tb, rfl, .bl (!tb), H', I', rfl, ex⟩
    | next => exact hres.elim
    | brk => exact hres.elim
    | cont => exact hres.elim
theorem tEqD_of {W : WX} {σ : L2.St} {H : Hp} {Q : VK} {r : R2} (hd : OpD K mg r bEq) (hm : mg (Str.ofString c) = some (.ref C)) (h : tM K mg W (eEqD c m ma mb) σ H Q) : tOp (fun x y H Q => rEqC K mg C m x y H Q ∨ r x y H Q) (tM K mg W ma) (tM K mg W mb) σ H Q := by
  refine tM_seq h fun d1 x μ1 env st1 H1 r1 re1 h1 a1 => ?_
  refine ⟨μ1, env, st1, r1, re1, (Aft.bind a1).imp fun d2 st2 μ2 H2 x2 r2 a2 y h2 => ?_⟩
  cases e1 : insOf st2 d1 with
  | none =>
    cases e2 : insOf st2 d2 with
    | none =>
      simp only [e1, e2] at a2
      refine .inr ?_
      cases q : bEq st2 d1 d2 with
      | none => rw [q] at a2; exact a2.elim
      | some d =>
        rw [q] at a2
        exact hd μ2 H2 st2 d1 d2 d x y Q r2 (h1.ext x2) h2 q fun H' v e r' h' => a2 μ2 H' e r' v h'
    | some => simp only [e1, e2] at a2; exact a2.elim
  | some q =>
    obtain ⟨c1, ks1, vs1⟩ := q
    cases e2 : insOf st2 d2 with
    | none => simp only [e1, e2] at a2; exact a2.elim
    | some q =>
      obtain ⟨c2, ks2, vs2⟩ := q
      simp only [e1, e2] at a2
      by_cases cc : c1 = c ∧ c2 = c
      · rw [if_pos cc] at a2
        obtain ⟨rfl, rfl⟩ := cc
        obtain ⟨p, C1, dx, ws, rfl, g1, l1, hp, _⟩ := ins_at r2 (h1.ext x2) e1
        obtain ⟨q, C2, dy, zs, rfl, g2, l2, hq, _⟩ := ins_at r2 h2 e2
        rw [hm] at g1 g2
        cases g1
        cases g2
        exact .inl ⟨p, q, dx, dy, _, _, rfl, rfl, hp, hq, rfl, μ2, st2, [d1, d2], r2, ⟨_, _, rfl, h1.ext x2, _, [], rfl, h2, rfl⟩, aft_asBl a2⟩
      · rw [if_neg cc] at a2
        exact a2.elim
theorem tNeD_of {W : WX} {σ : L2.St} {H : Hp} {Q : VK} {r : R2} (hd : OpD K mg r bNe) (hm : mg (Str.ofString c) = some (.ref C)) (h : tM K mg W (eNeD c m ma mb) σ H Q) : tOp (fun x y H Q => rNeC K mg C m x y H Q ∨ r x y H Q) (tM K mg W ma) (tM K mg W mb) σ H Q := by
  refine tM_seq h fun d1 x μ1 env st1 H1 r1 re1 h1 a1 => ?_
  refine ⟨μ1, env, st1, r1, re1, (Aft.bind a1).imp fun d2 st2 μ2 H2 x2 r2 a2 y h2 => ?_⟩
  cases e1 : insOf st2 d1 with
  | none =>
    cases e2 : insOf st2 d2 with
    | none =>
      simp only [e1, e2] at a2
      refine .inr ?_
      cases q : bNe st2 d1 d2 with
      | none => rw [q] at a2; exact a2.elim
      | some d =>
        rw [q] at a2
        exact hd μ2 H2 st2 d1 d2 d x y Q r2 (h1.ext x2) h2 q fun H' v e r' h' => a2 μ2 H' e r' v h'
    | some => simp only [e1, e2] at a2; exact a2.elim
  | some q =>
    obtain ⟨c1, ks1, vs1⟩ := q
    cases e2 : insOf st2 d2 with
    | none => simp only [e1, e2] at a2; exact a2.elim
    | some q =>
      obtain ⟨c2, ks2, vs2⟩ := q
      simp only [e1, e2] at a2
      by_cases cc : c1 = c ∧ c2 = c
      · rw [if_pos cc] at a2
        obtain ⟨rfl, rfl⟩ := cc
        obtain ⟨p, C1, dx, ws, rfl, g1, l1, hp, _⟩ := ins_at r2 (h1.ext x2) e1
        obtain ⟨q, C2, dy, zs, rfl, g2, l2, hq, _⟩ := ins_at r2 h2 e2
        rw [hm] at g1 g2
        cases g1
        cases g2
        exact .inl ⟨p, q, dx, dy, _, _, rfl, rfl, hp, hq, rfl, μ2, st2, [d1, d2], r2, ⟨_, _, rfl, h1.ext x2, _, [], rfl, h2, rfl⟩, aft_notBl a2⟩
      · rw [if_neg cc] at a2
        exact a2.elim
theorem se_eqCD (F : Fn X.prog X.w X.K X.mg X.base k f ps m) (hl : ps.length = 2) (hs : PySem.W.findIn X.K (.ref C) "__eq__" = some (some (.ref f))) (hf : PySem.W.isFn X.K (.ref f) = true) (hr : Room k X.A) (hq : Gd X.A) (hm : X.mg (Str.ofString c) = some (.ref C))
    (ha : SE X a ma) (hb : SE X b mb) : SE X (.Compare a [.Eq] [b] pos) (eEqD c m ma mb) := fun pn xe W tk =>
  PE.imp (pe_cmpR ((op_eqC (X := X.tr pn xe) F hl hs hf hr hq).or ((op_eqD (X := X.tr pn xe) hr.units).or L2.op_eq)) (ha pn xe W tk) (hb pn xe W tk) (nm b)) fun σ H Q h => tEqD_of opd_eq hm h
theorem se_neCD (F : Fn X.prog X.w X.K X.mg X.base k f ps m) (hl : ps.length = 2) (hs : PySem.W.findIn X.K (.ref C) "__eq__" = some (some (.ref f))) (hf : PySem.W.isFn X.K (.ref f) = true) (hne : PySem.W.findIn X.K (.ref C) "__ne__" = some (some (.builtin "object.__ne__"))) (hpo : Cls X.K C) (hr : Room (k + 1) X.A) (hq : Gd X.A) (hm : X.mg (Str.ofString c) = some (.ref C))
    (ha : SE X a ma) (hb : SE X b mb) : SE X (.Compare a [.NotEq] [b] pos) (eNeD c m ma mb) := fun pn xe W tk =>
  PE.imp (pe_cmpR ((op_neC (X := X.tr pn xe) F hl hs hf hne hpo.po hr hq).or ((op_neD (X := X.tr pn xe) hr.units).or L2.op_ne)) (ha pn xe W tk) (hb pn xe W tk) (nm b)) fun σ H Q h => tNeD_of opd_ne hm h
end
end T5
namespace T5
open PySem PySem.Spec PyProof.Rows L2
variable [TabC]
/-! ### tuple(range(n)) -/
def eTupRg (ma : ME) : ME := fun env st => (ma env st).bind fun d st1 => match d with
  | .int n => if n ≤ cap ∧ -(2 ^ 62) ≤ n then .ok (.tup (upTo 0 n.toNat)) st1 else .bad
  | _ => .bad
section
variable {X : Cx} {p pos : Pos}
theorem se_tupRg {a : Expr} {ma : ME} {p2 pos2 : Pos} (hc : X.calm = true) (hg : Gl X "tuple") (hm : X.mg "tuple" = none) (hg2 : Gl X "range") (hm2 : X.mg "range" = none) (ha : SE X a ma)
    (na : starEach [a] X.env = (false, eval a X.env) :: starEach [] X.env := by rfl) (na2 : starEach [.Call (.Name "range" p2) [a] [] pos2] X.env = (false, eval (.Call (.Name "range" p2) [a] [] pos2) X.env) :: starEach [] X.env := by rfl) : SE X (.Call (.Name "tuple" p) [.Call (.Name "range" p2) [a] [] pos2] [] pos) (eTupRg ma) := fun pn xe W tk => by
  refine PE.imp (pe_tupRg (X := X.tr pn xe) hc hg hm (prg_1 (X := X.tr pn xe) hg2 hm2 (ha pn xe W tk) na) na2) fun σ H Q h => ?_
  refine tM_seq h fun d v μ env st H1 r re hv a => ?_
  cases d with
  | int n =>
    cases hv
    have a : Aft X.K X.mg W σ μ H1 (if n ≤ cap ∧ -(2 ^ 62) ≤ n then .ok (.tup (upTo 0 n.toNat)) st else .bad) (fun d x μ' H' => ∀ (v : V), Rep X.K X.mg μ' H' d v → Q v H') := a
    by_cases c : n ≤ cap ∧ -(2 ^ 62) ≤ n
    · rw [if_pos c] at a
      have hc : n ≤ 16000000 := c.1
      have hc2 := c.2
      refine ⟨n, rfl, ⟨by omega, by omega, by omega, by omega, by omega⟩, fun o ho => ?_⟩
      have e1 : rgV 0 n = (List.range n.toNat).map fun (i : Nat) => V.int (0 + (i : Int)) := by
        unfold rgV
        rw [Int.sub_zero]
      refine a _ _ (Ext.same r (same_upd ho)) (r.same (same_upd ho)) _ (rep_newT r ho ?_)
      rw [e1]
      exact upTo_rep 0 _
    · rw [if_neg c] at a
      exact a.elim
  | _ => exact a.elim
end
/-! ### own comparisons as tests -/
theorem tst_bool {K : PySem.W.Frag} {mg : Str → Option Value} {W : WX} {m : ME} {σ : L2.St} {H : Hp} {Q : Bool → Hp → Prop} (h : tMT K mg W (cBool m) σ H Q) : tM K mg W m σ H (fun x H' => ∃ k, x = .bl k ∧ Q k H') := by
  obtain ⟨μ, env, st, r, re, a⟩ := h
  refine ⟨μ, env, st, r, re, (Aft.bind a).imp fun d st1 μ1 H1 x r1 a1 v hv => ?_⟩
  cases d with
  | bl c =>
    cases hv
    exact ⟨c, rfl, a1 μ1 H1 Ext.refl r1⟩
  | _ => exact a1.elim
section
variable {X : Cx} {k : Nat} {f C : Addr} {ps : List Str} {m : MF} {c : String} {a b : Expr} {pos : Pos} {ma mb : ME}
theorem st_inC (F : Fn X.prog X.w X.K X.mg X.base k f ps m) (hl : ps.length = 2) (hs : PySem.W.findIn X.K (.ref C) "__contains__" = some (some (.ref f))) (hf : PySem.W.isFn X.K (.ref f) = true) (hr : Room k X.A) (hq : Gd X.A) (hm : X.mg (Str.ofString c) = some (.ref C))
    (ha : SE X a ma) (hb : SE X b mb) (hbm : behindInMarks .In b = false := by rfl) : ST X (.Compare a [.In] [b] pos) (cBool (eInC c m ma mb)) := fun pn xe W tk =>
  PT.imp (pt_cmpR ((op_inC (X := X.tr pn xe) F hl hs hf hr hq).or (opr_in (X := X.tr pn xe) hr)) (ha pn xe W tk) (hb pn xe W tk) hbm) fun σ H Q h => tInC_of hm (tst_bool h)
theorem st_eqCD (F : Fn X.prog X.w X.K X.mg X.base k f ps m) (hl : ps.length = 2) (hs : PySem.W.findIn X.K (.ref C) "__eq__" = some (some (.ref f))) (hf : PySem.W.isFn X.K (.ref f) = true) (hr : Room k X.A) (hq : Gd X.A) (hm : X.mg (Str.ofString c) = some (.ref C))
    (ha : SE X a ma) (hb : SE X b mb) : ST X (.Compare a [.Eq] [b] pos) (cBool (eEqD c m ma mb)) := fun pn xe W tk =>
  PT.imp (pt_cmpR ((op_eqC (X := X.tr pn xe) F hl hs hf hr hq).or ((op_eqD (X := X.tr pn xe) hr.units).or L2.op_eq)) (ha pn xe W tk) (hb pn xe W tk) (nm b)) fun σ H Q h => tEqD_of opd_eq hm (tst_bool h)
theorem st_neCD (F : Fn X.prog X.w X.K X.mg X.base k f ps m) (hl : ps.length = 2) (hs : PySem.W.findIn X.K (.ref C) "__eq__" = some (some (.ref f))) (hf : PySem.W.isFn X.K (.ref f) = true) (hne : PySem.W.findIn X.K (.ref C) "__ne__" = some (some (.builtin "object.__ne__"))) (hpo : Cls X.K C) (hr : Room (k + 1) X.A) (hq : Gd X.A) (hm : X.mg (Str.ofString c) = some (.ref C))
    (ha : SE X a ma) (hb : SE X b mb) : ST X (.Compare a [.NotEq] [b] pos) (cBool (eNeD c m ma mb)) := fun pn xe W tk =>
  PT.imp (pt_cmpR ((op_neC (X := X.tr pn xe) F hl hs hf hne hpo.po hr hq).or ((op_neD (X := X.tr pn xe) hr.units).or L2.op_ne)) (ha pn xe W tk) (hb pn xe W tk) (nm b)) fun σ H Q h => tNeD_of opd_ne hm (tst_bool h)
end
end T5
namespace T5.G
open PySem PySem.Spec PyProof.Rows L2
noncomputable section
/-- _law_begun -/
def b__law_begun : MS := (sSeq (sAsg (eBin bAdd (eC (.int 15485863)) (eBin bMul (eC (.int 613)) (eCB fLen (aCons (eVar 0) aNil)))) (gN 1))
  (sSeq (sFor (iEn (eVar 0)) (gT (gsCons (gN 2) (gsCons (gN 3) gsNil))) (sAsg (eBin bMod (eCB fInt (aCons (eBin bAdd (eBin bAdd (eBin bMul (eVar 1) (eC (.int 48271))) (eVar 3)) (eBin bMul (eC (.int 32452843)) (eVar 2))) aNil)) (eC (.int 2305843009213693951))) (gN 1)))
  (sRet (eDisp [((eC (.str [103, 114, 101, 97, 116])), (eLcM (iSeq (eVar 0)) (gN 3) (cBool (eBin bGe (eVar 3) (eBin bPow (eC (.int 10)) (eC (.int 18))))) (eVar 3) [3])), ((eC (.str [110, 117, 109, 98, 101, 114])), (eVar 1)), ((eC (.str [116, 117, 114, 110])), (eC (.int 0)))]))))
def f__law_begun : MF := runF 4 1 b__law_begun
theorem len__law_begun : ∀ ds st, ds.length ≠ 1 → f__law_begun ds st = .bad := runF_len
/-- is_integer -/
def b_is_integer : MS := (sRet (eAnd (eCB fIsi (aCons (eVar 0) (aCons (eC (.ty "int")) aNil))) (eAnd (eNot (eCB fIsi (aCons (eVar 0) (aCons (eC (.ty "bool")) aNil)))) (eChain bLe bLe (eVar 1) (eVar 0) (eVar 2)))))
def f_is_integer : MF := runF 3 3 b_is_integer
theorem len_is_integer : ∀ ds st, ds.length ≠ 3 → f_is_integer ds st = .bad := runF_len
abbrev z_is_edit_0 : MS := (sRet (eAnd (eCall f_is_integer (aCons (eBin bIx (eVar 0) (eC (.int 1))) (aCons (eC (.int 0)) (aCons (eC (.int 999)) aNil)))) (eCall f_is_integer (aCons (eBin bIx (eVar 0) (eC (.int 2))) (aCons (eC (.int 1)) (aCons (eC (.int 9)) aNil))))))
abbrev z_is_edit_1 : MS := (sSeq (sIf (cAnd (cBool (eBin bNe (eBin bIx (eVar 0) (eC (.int 0))) (eC (.str [105, 110])))) (cBool (eBin bNe (eBin bIx (eVar 0) (eC (.int 0))) (eC (.str [111, 117, 116]))))) (sRet (eC (.bl false))) sPass)
  z_is_edit_0)
def b_is_edit : MS := (sSeq (sIf (cOr (cNot (cTru (eCB fIsi (aCons (eVar 0) (aCons (eC (.ty "tuple")) aNil))))) (cOr (cBool (eBin bNe (eCB fLen (aCons (eVar 0) aNil)) (eC (.int 3)))) (cNot (cTru (eCB fIsi (aCons (eBin bIx (eVar 0) (eC (.int 0))) (aCons (eC (.ty "str")) aNil))))))) (sRet (eC (.bl false))) sPass)
  z_is_edit_1)
def f_is_edit : MF := runF 1 1 b_is_edit
theorem len_is_edit : ∀ ds st, ds.length ≠ 1 → f_is_edit ds st = .bad := runF_len
abbrev z_need_log_0 : MS := (sIf (cNot (cTru (eCall f_is_edit (aCons (eVar 2) aNil)))) (sRaise "BadLog" ["place"] (aCons (eVar 1) aNil)) sPass)
abbrev z_need_log_1 : MS := (sSeq (sFor (iEn (eVar 0)) (gT (gsCons (gN 1) (gsCons (gN 2) gsNil))) z_need_log_0)
  (sRet (eVar 0)))
def b_need_log : MS := (sSeq (sIf (cOr (cNot (cTru (eCB fIsi (aCons (eVar 0) (aCons (eC (.ty "tuple")) aNil))))) (cBool (eBin bGt (eCB fLen (aCons (eVar 0) aNil)) (eC (.int 40))))) (sRaise "BadLog" ["place"] (aCons (eC .non) aNil)) sPass)
  z_need_log_1)
def f_need_log : MF := runF 3 1 b_need_log
theorem len_need_log : ∀ ds st, ds.length ≠ 1 → f_need_log ds st = .bad := runF_len
/-- log_cost -/
def b_log_cost : MS := (sRet (eCB fSum (aCons (eLc (iSeq (eCall f_need_log (aCons (eVar 0) aNil))) (gN 1) cYes (eBin bIx (eVar 1) (eC (.int 2))) [1]) aNil)))
def f_log_cost : MF := runF 2 1 b_log_cost
theorem len_log_cost : ∀ ds st, ds.length ≠ 1 → f_log_cost ds st = .bad := runF_len
/-- need_edit -/
def b_need_edit : MS := (sSeq (sIf (cNot (cTru (eCall f_is_edit (aCons (eVar 0) aNil)))) (sRaise "BadEdit" ["given"] (aCons (eVar 0) aNil)) sPass)
  (sRet (eVar 0)))
def f_need_edit : MF := runF 1 1 b_need_edit
theorem len_need_edit : ∀ ds st, ds.length ≠ 1 → f_need_edit ds st = .bad := runF_len
/-- _law_draw -/
def b__law_draw : MS := (sSeq (sAsg (eBin bIx (eVar 0) (eC (.str [103, 114, 101, 97, 116]))) (gN 2))
  (sSeq (sWhile 1000 (cAnd (cBool (eBin bNe (eVar 2) (eLst aNil))) (cBool (eBin bEq (eBin bIx (eVar 2) (eC (.int 0))) (eC (.int 0))))) (sExp (eMthL fPop (eVar 2) (aCons (eC (.int 0)) aNil))))
  (sSeq (sIf (cBool (eBin bNe (eVar 2) (eLst aNil))) (sSeq (sAsg (eBin bMod (eCB fInt (aCons (eBin bIx (eVar 2) (eC (.int 0))) aNil)) (eVar 1)) (gN 3))
  (sSeq (sSet (eBin bDiv (eBin bIx (eVar 2) (eC (.int 0))) (eVar 1)) (eVar 2) (eC (.int 0)))
  (sRet (eVar 3)))) sPass)
  (sSeq (sSet (eBin bAdd (eBin bIx (eVar 0) (eC (.str [116, 117, 114, 110]))) (eC (.int 1))) (eVar 0) (eC (.str [116, 117, 114, 110])))
  (sSeq (sAsg (eBin bAdd (eBin bMul (eBin bIx (eVar 0) (eC (.str [110, 117, 109, 98, 101, 114]))) (eC (.int 2862933555777941757))) (eC (.int 3037000493))) (gN 4))
  (sSeq (sAsg (eBin bAdd (eVar 4) (eBin bMul (eC (.int 49979687)) (eBin bIx (eVar 0) (eC (.str [116, 117, 114, 110]))))) (gN 4))
  (sSeq (sSet (eBin bMod (eCB fInt (aCons (eVar 4) aNil)) (eC (.int 2305843009213693951))) (eVar 0) (eC (.str [110, 117, 109, 98, 101, 114])))
  (sRet (eBin bMod (eCB fInt (aCons (eBin bDiv (eBin bIx (eVar 0) (eC (.str [110, 117, 109, 98, 101, 114]))) (eC (.int 1299709))) aNil)) (eVar 1))))))))))
def f__law_draw : MF := runF 5 2 b__law_draw
theorem len__law_draw : ∀ ds st, ds.length ≠ 2 → f__law_draw ds st = .bad := runF_len
/-- _law_log -/
def b__law_log : MS := (sSeq (sAsg (eLstM aNil) (gN 3))
  (sSeq (sFor (iRng1 (aCons (eCall f__law_draw (aCons (eVar 0) (aCons (eBin bAdd (eVar 2) (eC (.int 1))) aNil))) aNil)) (gN 4) (sSeq (sAsg (eBin bAdd (eC (.int 1)) (eCall f__law_draw (aCons (eVar 0) (aCons (eBin bIx (eLst (aCons (eC (.int 1)) (aCons (eC (.int 3)) (aCons (eC (.int 9)) aNil)))) (eCall f__law_draw (aCons (eVar 0) (aCons (eC (.int 3)) aNil)))) aNil)))) (gN 5))
  (sIf (cAnd (cBool (eBin bEq (eCall f__law_draw (aCons (eVar 0) (aCons (eC (.int 2)) aNil))) (eC (.int 0)))) (cBool (eBin bGt (eVar 1) (eC (.int 0))))) (sSeq (sAsg (eCall f__law_draw (aCons (eVar 0) (aCons (eVar 1) aNil))) (gN 6))
  (sSeq (sAsg (eCB fMin (aCons (eVar 5) (aCons (eBin bSub (eVar 1) (eVar 6)) aNil))) (gN 5))
  (sSeq (sExp (eMthL fApp (eVar 3) (aCons (eTup (aCons (eC (.str [111, 117, 116])) (aCons (eVar 6) (aCons (eVar 5) aNil)))) aNil)))
  (sAsg (eBin bSub (eVar 1) (eVar 5)) (gN 1))))) (sSeq (sExp (eMthL fApp (eVar 3) (aCons (eTup (aCons (eC (.str [105, 110])) (aCons (eCall f__law_draw (aCons (eVar 0) (aCons (eBin bAdd (eVar 1) (eC (.int 1))) aNil))) (aCons (eVar 5) aNil)))) aNil)))
  (sAsg (eBin bAdd (eVar 1) (eVar 5)) (gN 1))))))
  (sRet (eCB fTuple (aCons (eVar 3) aNil)))))
def f__law_log : MF := fin (runF 7 3 b__law_log)
theorem len__law_log : ∀ ds st, ds.length ≠ 3 → f__law_log ds st = .bad := fin_len runF_len
/-- _law_among -/
def b__law_among : MS := (sRet (eBin bIx (eVar 1) (eCall f__law_draw (aCons (eVar 0) (aCons (eCB fLen (aCons (eVar 1) aNil)) aNil)))))
def f__law_among : MF := runF 2 2 b__law_among
theorem len__law_among : ∀ ds st, ds.length ≠ 2 → f__law_among ds st = .bad := runF_len
/-- need_length -/
def b_need_length : MS := (sIf (cNot (cTru (eCall f_is_integer (aCons (eVar 0) (aCons (eC (.int 0)) (aCons (eC (.int 100)) aNil)))))) (sRaise "BadLength" ["given"] (aCons (eVar 0) aNil)) sPass)
def f_need_length : MF := runF 1 1 b_need_length
theorem len_need_length : ∀ ds st, ds.length ≠ 1 → f_need_length ds st = .bad := runF_len
abbrev z_grown_0 : MS := (sAug 0 bAddI (eIf (cBool (eBin bEq (eVar 3) (eC (.str [105, 110])))) (eVar 5) (eNeg (eVar 5))))
abbrev z_grown_1 : MS := (sSeq (sIf (cBool (eBin bGt (eBin bAdd (eVar 4) (eIf (cBool (eBin bEq (eVar 3) (eC (.str [111, 117, 116])))) (eVar 5) (eC (.int 0)))) (eVar 0))) (sRaise "OutOfText" ["place"] (aCons (eVar 2) aNil)) sPass)
  z_grown_0)
def b_grown : MS := (sSeq (sFor (iEn (eVar 1)) (gT (gsCons (gN 2) (gsCons (gT (gsCons (gN 3) (gsCons (gN 4) (gsCons (gN 5) gsNil)))) gsNil))) z_grown_1)
  (sRet (eVar 0)))
def f_grown : MF := runF 6 2 b_grown
theorem len_grown : ∀ ds st, ds.length ≠ 2 → f_grown ds st = .bad := runF_len
abbrev z_length_behind_0 : MS := (sRet (eCall f_grown (aCons (eVar 0) (aCons (eCall f_need_log (aCons (eVar 1) aNil)) aNil))))
def b_length_behind : MS := (sSeq (sExp (eCall f_need_length (aCons (eVar 0) aNil)))
  z_length_behind_0)
def f_length_behind : MF := runF 2 2 b_length_behind
theorem len_length_behind : ∀ ds st, ds.length ≠ 2 → f_length_behind ds st = .bad := runF_len
abbrev z_reach_of_0 : MS := (sAug 2 bAddI (eIf (cBool (eBin bEq (eVar 3) (eC (.str [105, 110])))) (eVar 5) (eNeg (eVar 5))))
abbrev z_reach_of_1 : MS := (sSeq (sAsg (eCB fMax (aCons (eVar 1) (aCons (eBin bSub (eBin bAdd (eVar 4) (eIf (cBool (eBin bEq (eVar 3) (eC (.str [111, 117, 116])))) (eVar 5) (eC (.int 0)))) (eVar 2)) aNil))) (gN 1))
  z_reach_of_0)
abbrev z_reach_of_2 : MS := (sSeq (sFor (iSeq (eVar 0)) (gT (gsCons (gN 3) (gsCons (gN 4) (gsCons (gN 5) gsNil)))) z_reach_of_1)
  (sRet (eVar 1)))
def b_reach_of : MS := (sSeq (sAsg (eTup (aCons (eC (.int 0)) (aCons (eC (.int 0)) aNil))) (gT (gsCons (gN 1) (gsCons (gN 2) gsNil))))
  z_reach_of_2)
def f_reach_of : MF := runF 6 1 b_reach_of
theorem len_reach_of : ∀ ds st, ds.length ≠ 1 → f_reach_of ds st = .bad := runF_len
/-- reach -/
def b_reach : MS := (sRet (eCall f_reach_of (aCons (eCall f_need_log (aCons (eVar 0) aNil)) aNil)))
def f_reach : MF := runF 1 1 b_reach
theorem len_reach : ∀ ds st, ds.length ≠ 1 → f_reach ds st = .bad := runF_len
abbrev z_law_rows_0 : MS := (sAsg (eBin bAdd (eBin bAdd (eBin bAdd (eBin bAdd (eSl (eVar 2) oNone (oSome (eVar 5))) (eLst (aCons (eLst (aCons (eBin bIx (eBin bIx (eVar 2) (eVar 5)) (eC (.int 0))) (aCons (eLst aNil) aNil))) aNil))) (eVar 7)) (eLst (aCons (eLst (aCons (eLst aNil) (aCons (eBin bIx (eBin bIx (eVar 2) (eVar 5)) (eC (.int 1))) aNil))) aNil))) (eSl (eVar 2) (oSome (eBin bAdd (eVar 5) (eC (.int 1)))) oNone)) (gN 2))
abbrev z_law_rows_1 : MS := (sPar2 9 10 (aCons (eBin bAdd (eVar 9) (eBin bIx (eVar 11) (eC (.int 0)))) (aCons (eBin bAdd (eVar 10) (eBin bIx (eVar 11) (eC (.int 1)))) aNil)))
abbrev z_law_rows_2 : MS := (sAsg (eBin bAdd (eBin bAdd (eSl (eVar 2) oNone (oSome (eVar 5))) (eLst (aCons (eLst (aCons (eVar 9) (aCons (eVar 10) aNil))) aNil))) (eSl (eVar 2) (oSome (eBin bAdd (eBin bAdd (eVar 5) (eVar 6)) (eC (.int 1)))) oNone)) (gN 2))
abbrev z_law_rows_3 : MS := (sSeq (sFor (iSeq (eSl (eVar 2) (oSome (eVar 5)) (oSome (eBin bAdd (eBin bAdd (eVar 5) (eVar 6)) (eC (.int 1)))))) (gN 11) z_law_rows_1)
  z_law_rows_2)
abbrev z_law_rows_4 : MS := (sIf (cBool (eBin bEq (eVar 4) (eC (.str [105, 110])))) (sSeq (sAsg (eLc (iRng1 (aCons (eBin bSub (eVar 6) (eC (.int 1))) aNil)) (gN 8) cYes (eLst (aCons (eLst aNil) (aCons (eLst aNil) aNil))) [8]) (gN 7))
  z_law_rows_0) (sSeq (sPar2 9 10 (aCons (eLst aNil) (aCons (eLst aNil) aNil)))
  z_law_rows_3))
abbrev z_law_rows_5 : MS := (sSeq (sFor (iSeq (eVar 1)) (gT (gsCons (gN 4) (gsCons (gN 5) (gsCons (gN 6) gsNil)))) z_law_rows_4)
  (sRet (eVar 2)))
def b__law_rows : MS := (sSeq (sAsg (eLc (iRng1 (aCons (eBin bAdd (eVar 0) (eC (.int 1))) aNil)) (gN 3) cYes (eLst (aCons (eLst (aCons (eVar 3) aNil)) (aCons (eLst (aCons (eVar 3) aNil)) aNil))) [3]) (gN 2))
  z_law_rows_5)
def f__law_rows : MF := runF 12 2 b__law_rows
theorem len__law_rows : ∀ ds st, ds.length ≠ 2 → f__law_rows ds st = .bad := runF_len
abbrev z_law_chart_0 : MS := (sFor (iSeq (eBin bIx (eVar 6) (eC (.int 1)))) (gN 7) (sSet (eVar 5) (eVar 4) (eVar 7)))
abbrev z_law_chart_1 : MS := (sSeq (sFor (iSeq (eBin bIx (eVar 6) (eC (.int 0)))) (gN 7) (sSet (eVar 5) (eVar 3) (eVar 7)))
  z_law_chart_0)
abbrev z_law_chart_2 : MS := (sRet (eTup (aCons (eBin bSub (eCB fLen (aCons (eVar 2) aNil)) (eC (.int 1))) (aCons (eCB fTuple (aCons (eLc (iSeq (eVar 8)) (gN 5) cYes (eBin bIx (eVar 3) (eVar 5)) [5]) aNil)) (aCons (eCB fTuple (aCons (eLc (iSeq (eVar 8)) (gN 5) cYes (eBin bIx (eVar 4) (eVar 5)) [5]) aNil)) aNil)))))
abbrev z_law_chart_3 : MS := (sSeq (sAsg (eLstRg (eBin bAdd (eVar 0) (eC (.int 1)))) (gN 8))
  z_law_chart_2)
abbrev z_law_chart_4 : MS := (sSeq (sFor (iEn (eVar 2)) (gT (gsCons (gN 5) (gsCons (gN 6) gsNil))) z_law_chart_1)
  z_law_chart_3)
def b__law_chart : MS := (sSeq (sAsg (eTup (aCons (eCall f__law_rows (aCons (eVar 0) (aCons (eVar 1) aNil))) (aCons (eDnew false) (aCons (eDnew false) aNil)))) (gT (gsCons (gN 2) (gsCons (gN 3) (gsCons (gN 4) gsNil)))))
  z_law_chart_4)
def f__law_chart : MF := fin (runF 9 2 b__law_chart)
theorem len__law_chart : ∀ ds st, ds.length ≠ 2 → f__law_chart ds st = .bad := fin_len runF_len
abbrev z_is_mark_0 : MS := (sRet (eAnd (eCB fIsi (aCons (eBin bIx (eVar 1) (eC (.int 1))) (aCons (eC (.ty "str")) aNil))) (eBin bIn (eBin bIx (eVar 1) (eC (.int 1))) (eTup (aCons (eC (.str [108, 101, 102, 116])) (aCons (eC (.str [114, 105, 103, 104, 116])) aNil))))))
def b_is_mark : MS := (sSeq (sIf (cOr (cNot (cTru (eCB fIsi (aCons (eVar 1) (aCons (eC (.ty "tuple")) aNil))))) (cOr (cBool (eBin bNe (eCB fLen (aCons (eVar 1) aNil)) (eC (.int 2)))) (cNot (cTru (eCall f_is_integer (aCons (eBin bIx (eVar 1) (eC (.int 0))) (aCons (eC (.int 0)) (aCons (eVar 0) aNil)))))))) (sRet (eC (.bl false))) sPass)
  z_is_mark_0)
def f_is_mark : MF := runF 2 2 b_is_mark
theorem len_is_mark : ∀ ds st, ds.length ≠ 2 → f_is_mark ds st = .bad := runF_len
/-- need_mark -/
def b_need_mark : MS := (sIf (cNot (cTru (eCall f_is_mark (aCons (eVar 0) (aCons (eVar 1) aNil))))) (sRaise "BadMark" ["given"] (aCons (eVar 1) aNil)) sPass)
def f_need_mark : MF := runF 2 2 b_need_mark
theorem len_need_mark : ∀ ds st, ds.length ≠ 2 → f_need_mark ds st = .bad := runF_len
abbrev z_gap_behind_0 : MS := (sRet (eIf (cBool (eBin bLe (eVar 1) (eVar 4))) (eVar 1) (eCB fMax (aCons (eVar 4) (aCons (eBin bSub (eVar 1) (eVar 5)) aNil)))))
abbrev z_gap_behind_1 : MS := (sSeq (sIf (cBool (eBin bEq (eVar 3) (eC (.str [105, 110])))) (sRet (eIf (cOr (cBool (eBin bLt (eVar 1) (eVar 4))) (cAnd (cBool (eBin bEq (eVar 1) (eVar 4))) (cBool (eBin bEq (eVar 2) (eC (.str [108, 101, 102, 116])))))) (eVar 1) (eBin bAdd (eVar 1) (eVar 5)))) sPass)
  z_gap_behind_0)
def b_gap_behind : MS := (sSeq (sAsg (eVar 0) (gT (gsCons (gN 3) (gsCons (gN 4) (gsCons (gN 5) gsNil)))))
  z_gap_behind_1)
def f_gap_behind : MF := runF 6 3 b_gap_behind
theorem len_gap_behind : ∀ ds st, ds.length ≠ 3 → f_gap_behind ds st = .bad := runF_len
abbrev z_carried_0 : MS := (sAsg (eCall f_gap_behind (aCons (eVar 3) (aCons (eVar 1) (aCons (eVar 2) aNil)))) (gN 1))
def b_carried : MS := (sSeq (sFor (iSeq (eVar 0)) (gN 3) z_carried_0)
  (sRet (eVar 1)))
def f_carried : MF := runF 4 3 b_carried
theorem len_carried : ∀ ds st, ds.length ≠ 3 → f_carried ds st = .bad := runF_len
abbrev z_carry_0 : MS := (sRet (eTup (aCons (eCall f_carried (aCons (eVar 1) (aCons (eBin bIx (eVar 2) (eC (.int 0))) (aCons (eBin bIx (eVar 2) (eC (.int 1))) aNil)))) (aCons (eBin bIx (eVar 2) (eC (.int 1))) aNil))))
abbrev z_carry_1 : MS := (sSeq (sExp (eCall f_grown (aCons (eVar 0) (aCons (eVar 1) aNil))))
  z_carry_0)
abbrev z_carry_2 : MS := (sSeq (sExp (eCall f_need_mark (aCons (eVar 0) (aCons (eVar 2) aNil))))
  z_carry_1)
abbrev z_carry_3 : MS := (sSeq (sExp (eCall f_need_log (aCons (eVar 1) aNil)))
  z_carry_2)
def b_carry : MS := (sSeq (sExp (eCall f_need_length (aCons (eVar 0) aNil)))
  z_carry_3)
def f_carry : MF := runF 3 3 b_carry
theorem len_carry : ∀ ds st, ds.length ≠ 3 → f_carry ds st = .bad := runF_len
abbrev z_law_any_chart_0 : MS := (sExp (eMthL fApp (eVar 3) (aCons (eBin bAdd (eCB fMax (aCons (eBin bIx (eVar 3) (eNeg (eC (.int 1)))) (aCons (eVar 6) aNil))) (eCall f__law_draw (aCons (eVar 0) (aCons (eBin bIx (eLst (aCons (eC (.int 1)) (aCons (eC (.int 2)) (aCons (eC (.int 3)) aNil)))) (eCall f__law_draw (aCons (eVar 0) (aCons (eC (.int 3)) aNil)))) aNil)))) aNil)))
abbrev z_law_any_chart_1 : MS := (sSeq (sExp (eMthL fApp (eVar 2) (aCons (eVar 6) aNil)))
  z_law_any_chart_0)
abbrev z_law_any_chart_2 : MS := (sSeq (sIf (cBool (eBin bEq (eVar 5) (eC (.int 0)))) (sAsg (eBin bAdd (eBin bIx (eVar 3) (eNeg (eC (.int 1)))) (eC (.int 1))) (gN 6)) (sIf (cBool (eBin bEq (eVar 5) (eC (.int 1)))) (sAsg (eBin bAdd (eVar 6) (eCall f__law_draw (aCons (eVar 0) (aCons (eBin bSub (eBin bAdd (eBin bIx (eVar 3) (eNeg (eC (.int 1)))) (eC (.int 2))) (eVar 6)) aNil)))) (gN 6)) (sIf (cBool (eBin bLt (eVar 5) (eC (.int 4)))) (sAsg (eCB fMin (aCons (eBin bAdd (eVar 6) (eC (.int 1))) (aCons (eBin bIx (eVar 3) (eNeg (eC (.int 1)))) aNil))) (gN 6)) sPass)))
  z_law_any_chart_1)
abbrev z_law_any_chart_3 : MS := (sSeq (sPar2 5 6 (aCons (eCall f__law_draw (aCons (eVar 0) (aCons (eC (.int 6)) aNil))) (aCons (eBin bIx (eVar 2) (eNeg (eC (.int 1)))) aNil)))
  z_law_any_chart_2)
abbrev z_law_any_chart_4 : MS := (sRet (eTup (aCons (eBin bIx (eVar 3) (eNeg (eC (.int 1)))) (aCons (eCB fTuple (aCons (eVar 2) aNil)) (aCons (eCB fTuple (aCons (eVar 3) aNil)) aNil)))))
abbrev z_law_any_chart_5 : MS := (sSeq (sFor (iRng1 (aCons (eCall f__law_draw (aCons (eVar 0) (aCons (eBin bAdd (eVar 1) (eC (.int 1))) aNil))) aNil)) (gN 4) z_law_any_chart_3)
  z_law_any_chart_4)
def b__law_any_chart : MS := (sSeq (sPar2 2 3 (aCons (eLstM (aCons (eC (.int 0)) aNil)) (aCons (eLstM (aCons (eCall f__law_draw (aCons (eVar 0) (aCons (eC (.int 4)) aNil))) aNil)) aNil)))
  z_law_any_chart_5)
def f__law_any_chart : MF := fin (runF 7 2 b__law_any_chart)
theorem len__law_any_chart : ∀ ds st, ds.length ≠ 2 → f__law_any_chart ds st = .bad := fin_len runF_len
abbrev z_is_row_0 : MS := (sRet (eCB fAll (aCons (eLc (iSeq (eVar 0)) (gN 1) cYes (eAnd (eCB fIsi (aCons (eVar 1) (aCons (eC (.ty "int")) aNil))) (eNot (eCB fIsi (aCons (eVar 1) (aCons (eC (.ty "bool")) aNil))))) [1]) aNil)))
def b_is_row : MS := (sSeq (sIf (cOr (cNot (cTru (eCB fIsi (aCons (eVar 0) (aCons (eC (.ty "tuple")) aNil))))) (cNot (cBool (eChain bLe bLe (eC (.int 1)) (eCB fLen (aCons (eVar 0) aNil)) (eC (.int 101)))))) (sRet (eC (.bl false))) sPass)
  z_is_row_0)
def f_is_row : MF := runF 2 1 b_is_row
theorem len_is_row : ∀ ds st, ds.length ≠ 1 → f_is_row ds st = .bad := runF_len
abbrev z_is_gap_right_0 : MS := (sRet (eOr (eBin bLt (eVar 3) (eBin bSub (eCB fLen (aCons (eVar 1) aNil)) (eC (.int 1)))) (eBin bEq (eBin bIx (eVar 2) (eVar 3)) (eVar 0))))
abbrev z_is_gap_right_1 : MS := (sSeq (sIf (cAnd (cBool (eBin bGt (eVar 3) (eC (.int 0)))) (cBool (eBin bGt (eBin bIx (eVar 1) (eVar 3)) (eBin bAdd (eBin bIx (eVar 2) (eBin bSub (eVar 3) (eC (.int 1)))) (eC (.int 1)))))) (sRet (eC (.bl false))) sPass)
  z_is_gap_right_0)
abbrev z_is_gap_right_2 : MS := (sSeq (sIf (cAnd (cBool (eBin bGt (eVar 3) (eC (.int 0)))) (cOr (cBool (eBin bLt (eBin bIx (eVar 1) (eVar 3)) (eBin bIx (eVar 1) (eBin bSub (eVar 3) (eC (.int 1)))))) (cBool (eBin bLt (eBin bIx (eVar 2) (eVar 3)) (eBin bIx (eVar 2) (eBin bSub (eVar 3) (eC (.int 1)))))))) (sRet (eC (.bl false))) sPass)
  z_is_gap_right_1)
def b_is_gap_right : MS := (sSeq (sIf (cOr (cBool (eBin bGt (eBin bIx (eVar 1) (eVar 3)) (eBin bIx (eVar 2) (eVar 3)))) (cAnd (cBool (eBin bEq (eVar 3) (eC (.int 0)))) (cBool (eBin bNe (eBin bIx (eVar 1) (eC (.int 0))) (eC (.int 0)))))) (sRet (eC (.bl false))) sPass)
  z_is_gap_right_2)
def f_is_gap_right : MF := runF 4 4 b_is_gap_right
theorem len_is_gap_right : ∀ ds st, ds.length ≠ 4 → f_is_gap_right ds st = .bad := runF_len
abbrev z_Chart_init_0 : MS := (sIf (cNot (cTru (eCall f_is_gap_right (aCons (eVar 1) (aCons (eVar 2) (aCons (eVar 3) (aCons (eVar 4) aNil))))))) (sRaise "BadChart" ["place"] (aCons (eVar 4) aNil)) sPass)
abbrev z_Chart_init_1 : MS := (sFldD "Chart" "own_signs" (eVar 0) (eSl (eVar 2) (oSome (eC (.int 1))) oNone))
abbrev z_Chart_init_2 : MS := (sSeq (sFldD "Chart" "own_rights" (eVar 0) (eVar 3))
  z_Chart_init_1)
abbrev z_Chart_init_3 : MS := (sSeq (sFldD "Chart" "own_lefts" (eVar 0) (eVar 2))
  z_Chart_init_2)
abbrev z_Chart_init_4 : MS := (sSeq (sFldD "Chart" "own_many" (eVar 0) (eVar 1))
  z_Chart_init_3)
abbrev z_Chart_init_5 : MS := (sSeq (sFor (iRng1 (aCons (eCB fLen (aCons (eVar 2) aNil)) aNil)) (gN 4) z_Chart_init_0)
  z_Chart_init_4)
abbrev z_Chart_init_6 : MS := (sSeq (sIf (cBool (eBin bNe (eCB fLen (aCons (eVar 2) aNil)) (eCB fLen (aCons (eVar 3) aNil)))) (sRaise "BadChart" ["place"] (aCons (eC .non) aNil)) sPass)
  z_Chart_init_5)
def b_Chart_init : MS := (sSeq (sIf (cOr (cNot (cTru (eCall f_is_integer (aCons (eVar 1) (aCons (eC (.int 0)) (aCons (eC (.int 500)) aNil)))))) (cOr (cNot (cTru (eCall f_is_row (aCons (eVar 2) aNil)))) (cNot (cTru (eCall f_is_row (aCons (eVar 3) aNil)))))) (sRaise "BadChart" ["place"] (aCons (eC .non) aNil)) sPass)
  z_Chart_init_6)
def f_Chart_init : MF := runF 5 4 b_Chart_init
theorem len_Chart_init : ∀ ds st, ds.length ≠ 4 → f_Chart_init ds st = .bad := runF_len
/-- Chart.many -/
def b_Chart_many : MS := (sRet (eFld "Chart" "own_many" (eVar 0)))
def f_Chart_many : MF := runF 1 1 b_Chart_many
theorem len_Chart_many : ∀ ds st, ds.length ≠ 1 → f_Chart_many ds st = .bad := runF_len
/-- Chart.lefts -/
def b_Chart_lefts : MS := (sRet (eFld "Chart" "own_lefts" (eVar 0)))
def f_Chart_lefts : MF := runF 1 1 b_Chart_lefts
theorem len_Chart_lefts : ∀ ds st, ds.length ≠ 1 → f_Chart_lefts ds st = .bad := runF_len
/-- Chart.rights -/
def b_Chart_rights : MS := (sRet (eFld "Chart" "own_rights" (eVar 0)))
def f_Chart_rights : MF := runF 1 1 b_Chart_rights
theorem len_Chart_rights : ∀ ds st, ds.length ≠ 1 → f_Chart_rights ds st = .bad := runF_len
abbrev z_chart_by_0 : MS := (sRet (eCall (fin (mkF "Chart" f_Chart_init)) (aCons (eVar 2) (aCons (eVar 3) (aCons (eCB fTuple (aCons (eLc (iRng1 (aCons (eBin bAdd (eVar 0) (eC (.int 1))) aNil)) (gN 4) cYes (eCall f_carried (aCons (eVar 1) (aCons (eVar 4) (aCons (eC (.str [114, 105, 103, 104, 116])) aNil)))) [4]) aNil)) aNil)))))
abbrev z_chart_by_1 : MS := (sSeq (sAsg (eCB fTuple (aCons (eLc (iRng1 (aCons (eBin bAdd (eVar 0) (eC (.int 1))) aNil)) (gN 4) cYes (eCall f_carried (aCons (eVar 1) (aCons (eVar 4) (aCons (eC (.str [108, 101, 102, 116])) aNil)))) [4]) aNil)) (gN 3))
  z_chart_by_0)
def b_chart_by : MS := (sSeq (sAsg (eCall f_grown (aCons (eVar 0) (aCons (eVar 1) aNil))) (gN 2))
  z_chart_by_1)
def f_chart_by : MF := runF 5 2 b_chart_by
theorem len_chart_by : ∀ ds st, ds.length ≠ 2 → f_chart_by ds st = .bad := runF_len
abbrev z_chart_of_0 : MS := (sRet (eCall f_chart_by (aCons (eVar 0) (aCons (eCall f_need_log (aCons (eVar 1) aNil)) aNil))))
def b_chart_of : MS := (sSeq (sExp (eCall f_need_length (aCons (eVar 0) aNil)))
  z_chart_of_0)
def f_chart_of : MF := runF 2 2 b_chart_of
theorem len_chart_of : ∀ ds st, ds.length ≠ 2 → f_chart_of ds st = .bad := runF_len
/-- Chart.__len__ -/
def b_Chart_len : MS := (sRet (eCB fLen (aCons (eFld "Chart" "own_signs" (eVar 0)) aNil)))
def f_Chart_len : MF := runF 1 1 b_Chart_len
theorem len_Chart_len : ∀ ds st, ds.length ≠ 1 → f_Chart_len ds st = .bad := runF_len
abbrev z_Chart_getitem_0 : MS := (sRet (eIf (cBool (eBin bEq (eBin bIx (eVar 1) (eC (.int 1))) (eC (.str [108, 101, 102, 116])))) (eBin bIx (eFld "Chart" "own_lefts" (eVar 0)) (eBin bIx (eVar 1) (eC (.int 0)))) (eBin bIx (eFld "Chart" "own_rights" (eVar 0)) (eBin bIx (eVar 1) (eC (.int 0))))))
def b_Chart_getitem : MS := (sSeq (sIf (cNot (cTru (eCall f_is_mark (aCons (eBin bSub (eCB fLen (aCons (eFld "Chart" "own_lefts" (eVar 0)) aNil)) (eC (.int 1))) (aCons (eVar 1) aNil))))) (sRaise "Missing" ["given"] (aCons (eVar 1) aNil)) sPass)
  z_Chart_getitem_0)
def f_Chart_getitem : MF := runF 2 2 b_Chart_getitem
theorem len_Chart_getitem : ∀ ds st, ds.length ≠ 2 → f_Chart_getitem ds st = .bad := runF_len
/-- _law_stay -/
def b__law_stay : MS := (sRet (eLc (iRng1 (aCons (eBin bSub (eCB fLen (aCons (eBin bIx (eVar 0) (eC (.int 1))) aNil)) (eC (.int 1))) aNil)) (gN 1) (cBool (eBin bEq (eBin bIx (eBin bIx (eVar 0) (eC (.int 1))) (eBin bAdd (eVar 1) (eC (.int 1)))) (eBin bAdd (eBin bIx (eBin bIx (eVar 0) (eC (.int 2))) (eVar 1)) (eC (.int 1))))) (eVar 1) [1]))
def f__law_stay : MF := runF 2 1 b__law_stay
theorem len__law_stay : ∀ ds st, ds.length ≠ 1 → f__law_stay ds st = .bad := runF_len
abbrev z_Chart_contains_0 : MS := (sRet (eBin bEq (eBin bIx (eFld "Chart" "own_lefts" (eVar 0)) (eBin bAdd (eVar 1) (eC (.int 1)))) (eBin bAdd (eBin bIx (eFld "Chart" "own_rights" (eVar 0)) (eVar 1)) (eC (.int 1)))))
def b_Chart_contains : MS := (sSeq (sIf (cNot (cTru (eCall f_is_integer (aCons (eVar 1) (aCons (eC (.int 0)) (aCons (eBin bSub (eCB fLen (aCons (eFld "Chart" "own_lefts" (eVar 0)) aNil)) (eC (.int 2))) aNil)))))) (sRet (eC (.bl false))) sPass)
  z_Chart_contains_0)
def f_Chart_contains : MF := runF 2 2 b_Chart_contains
theorem len_Chart_contains : ∀ ds st, ds.length ≠ 2 → f_Chart_contains ds st = .bad := runF_len
abbrev z_same_chart_0 : MS := (sRet (eCall f_chart_by (aCons (eVar 0) (aCons (eTup aNil) aNil))))
def b_same_chart : MS := (sSeq (sExp (eCall f_need_length (aCons (eVar 0) aNil)))
  z_same_chart_0)
def f_same_chart : MF := runF 1 1 b_same_chart
theorem len_same_chart : ∀ ds st, ds.length ≠ 1 → f_same_chart ds st = .bad := runF_len
abbrev z_Chart_eq_0 : MS := (sRet (eAnd (eBin bEq (eFld "Chart" "own_lefts" (eVar 0)) (eFld "Chart" "own_lefts" (eVar 1))) (eBin bEq (eFld "Chart" "own_rights" (eVar 0)) (eFld "Chart" "own_rights" (eVar 1)))))
def b_Chart_eq : MS := (sSeq (sIf (cOr (cNot (cTru (eCB (fIsiC "Chart") (aCons (eVar 1) (aCons (eC (.cls "Chart")) aNil))))) (cBool (eBin bNe (eFld "Chart" "own_many" (eVar 0)) (eFld "Chart" "own_many" (eVar 1))))) (sRet (eC (.bl false))) sPass)
  z_Chart_eq_0)
def f_Chart_eq : MF := runF 2 2 b_Chart_eq
theorem len_Chart_eq : ∀ ds st, ds.length ≠ 2 → f_Chart_eq ds st = .bad := runF_len
abbrev z_Chart_add_0 : MS := (sRet (eCall (fin (mkF "Chart" f_Chart_init)) (aCons (eFld "Chart" "own_many" (eVar 1)) (aCons (eVar 2) (aCons (eCB fTuple (aCons (eLc (iSeq (eFld "Chart" "own_rights" (eVar 0))) (gN 3) cYes (eBin bIx (eFld "Chart" "own_rights" (eVar 1)) (eVar 3)) [3]) aNil)) aNil)))))
abbrev z_Chart_add_1 : MS := (sSeq (sAsg (eCB fTuple (aCons (eLc (iSeq (eFld "Chart" "own_lefts" (eVar 0))) (gN 3) cYes (eBin bIx (eFld "Chart" "own_lefts" (eVar 1)) (eVar 3)) [3]) aNil)) (gN 2))
  z_Chart_add_0)
def b_Chart_add : MS := (sSeq (sIf (cBool (eBin bNe (eFld "Chart" "own_many" (eVar 0)) (eBin bSub (eCB fLen (aCons (eFld "Chart" "own_lefts" (eVar 1)) aNil)) (eC (.int 1))))) (sRaise "Unlike" ["one", "other"] (aCons (eFld "Chart" "own_many" (eVar 0)) (aCons (eBin bSub (eCB fLen (aCons (eFld "Chart" "own_lefts" (eVar 1)) aNil)) (eC (.int 1))) aNil))) sPass)
  z_Chart_add_1)
def f_Chart_add : MF := runF 4 2 b_Chart_add
theorem len_Chart_add : ∀ ds st, ds.length ≠ 2 → f_Chart_add ds st = .bad := runF_len
/-- need_listed -/
def b_need_listed : MS := (sIf (cNot (cTru (eCall f_is_integer (aCons (eVar 0) (aCons (eC (.int 0)) (aCons (eC (.int 3)) aNil)))))) (sRaise "BadLength" ["given"] (aCons (eVar 0) aNil)) sPass)
def f_need_listed : MF := runF 1 1 b_need_listed
theorem len_need_listed : ∀ ds st, ds.length ≠ 1 → f_need_listed ds st = .bad := runF_len
abbrev z_law_rewritten_0 : MS := (sAsg (eIf (cBool (eBin bEq (eVar 4) (eC (.int 0)))) (eBin bAdd (eVar 7) (eVar 2)) (eVar 2)) (gN 2))
abbrev z_law_rewritten_1 : MS := (sSeq (sAsg (eLst (aCons (eTup (aCons (eC (.str [105, 110])) (aCons (eVar 6) (aCons (eC (.int 2)) aNil)))) (aCons (eTup (aCons (eC (.str [111, 117, 116])) (aCons (eVar 6) (aCons (eC (.int 1)) aNil)))) (aCons (eTup (aCons (eC (.str [111, 117, 116])) (aCons (eVar 6) (aCons (eC (.int 1)) aNil)))) aNil)))) (gN 7))
  z_law_rewritten_0)
abbrev z_law_rewritten_2 : MS := (sAsg (eBin bAdd (eBin bAdd (eSl (eVar 2) oNone (oSome (eVar 4))) (eLst (aCons (eTup (aCons (eVar 8) (aCons (eVar 6) (aCons (eC (.int 1)) aNil)))) (aCons (eTup (aCons (eVar 8) (aCons (eBin bAdd (eVar 6) (eCB fInt (aCons (eBin bEq (eVar 8) (eC (.str [105, 110]))) aNil))) (aCons (eBin bSub (eVar 9) (eC (.int 1))) aNil)))) aNil)))) (eSl (eVar 2) (oSome (eBin bAdd (eVar 4) (eC (.int 1)))) oNone)) (gN 2))
abbrev z_law_rewritten_3 : MS := (sAsg (eBin bAdd (eBin bAdd (eSl (eVar 2) oNone (oSome (eVar 4))) (eLst (aCons (eVar 11) (aCons (eTup (aCons (eBin bIx (eVar 10) (eC (.int 0))) (aCons (eBin bAdd (eBin bIx (eVar 10) (eC (.int 1))) (eVar 7)) (aCons (eBin bIx (eVar 10) (eC (.int 2))) aNil)))) aNil)))) (eSl (eVar 2) (oSome (eBin bAdd (eVar 4) (eC (.int 2)))) oNone)) (gN 2))
abbrev z_law_rewritten_4 : MS := (sIf (cAnd (cBool (eBin bEq (eBin bIx (eVar 10) (eC (.int 0))) (eC (.str [105, 110])))) (cBool (eBin bLt (eBin bAdd (eBin bIx (eVar 11) (eC (.int 1))) (eIf (cBool (eBin bEq (eBin bIx (eVar 11) (eC (.int 0))) (eC (.str [111, 117, 116])))) (eBin bIx (eVar 11) (eC (.int 2))) (eC (.int 0)))) (eBin bIx (eVar 10) (eC (.int 1)))))) (sSeq (sAsg (eIf (cBool (eBin bEq (eBin bIx (eVar 11) (eC (.int 0))) (eC (.str [105, 110])))) (eBin bIx (eVar 11) (eC (.int 2))) (eNeg (eBin bIx (eVar 11) (eC (.int 2))))) (gN 7))
  z_law_rewritten_3) sPass)
abbrev z_law_rewritten_5 : MS := (sIf (cAnd (cBool (eBin bEq (eVar 5) (eC (.int 0)))) (cBool (eBin bLt (eCB fLen (aCons (eVar 2) aNil)) (eC (.int 38))))) (sSeq (sAsg (eCall f__law_draw (aCons (eVar 0) (aCons (eC (.int 3)) aNil))) (gN 6))
  z_law_rewritten_1) (sIf (cAnd (cBool (eBin bLt (eVar 4) (eCB fLen (aCons (eVar 2) aNil)))) (cAnd (cBool (eBin bGt (eBin bIx (eBin bIx (eVar 2) (eVar 4)) (eC (.int 2))) (eC (.int 1)))) (cBool (eBin bLt (eCB fLen (aCons (eVar 2) aNil)) (eC (.int 39)))))) (sSeq (sAsg (eBin bIx (eVar 2) (eVar 4)) (gT (gsCons (gN 8) (gsCons (gN 6) (gsCons (gN 9) gsNil)))))
  z_law_rewritten_2) (sIf (cBool (eBin bLt (eBin bAdd (eVar 4) (eC (.int 1))) (eCB fLen (aCons (eVar 2) aNil)))) (sSeq (sPar2 10 11 (aCons (eBin bIx (eVar 2) (eVar 4)) (aCons (eBin bIx (eVar 2) (eBin bAdd (eVar 4) (eC (.int 1)))) aNil)))
  z_law_rewritten_4) sPass)))
abbrev z_law_rewritten_6 : MS := (sSeq (sPar2 4 5 (aCons (eCall f__law_draw (aCons (eVar 0) (aCons (eBin bAdd (eCB fLen (aCons (eVar 2) aNil)) (eC (.int 1))) aNil))) (aCons (eCall f__law_draw (aCons (eVar 0) (aCons (eC (.int 4)) aNil))) aNil)))
  z_law_rewritten_5)
abbrev z_law_rewritten_7 : MS := (sSeq (sFor (iRng1 (aCons (eBin bAdd (eC (.int 1)) (eCall f__law_draw (aCons (eVar 0) (aCons (eC (.int 4)) aNil)))) aNil)) (gN 3) z_law_rewritten_6)
  (sRet (eCB fTuple (aCons (eVar 2) aNil))))
def b__law_rewritten : MS := (sSeq (sAsg (eCB fList (aCons (eVar 1) aNil)) (gN 2))
  z_law_rewritten_7)
def f__law_rewritten : MF := runF 12 2 b__law_rewritten
theorem len__law_rewritten : ∀ ds st, ds.length ≠ 2 → f__law_rewritten ds st = .bad := runF_len
abbrev z_law_other_log_0 : MS := (sRet (eBin bAdd (eBin bAdd (eSl (eVar 2) oNone (oSome (eVar 4))) (eTup (aCons (eCall f__law_among (aCons (eVar 0) (aCons (eVar 8) aNil))) aNil))) (eSl (eVar 2) (oSome (eBin bAdd (eVar 4) (eC (.int 1)))) oNone)))
abbrev z_law_other_log_1 : MS := (sSeq (sAsg (eBin bAdd (eVar 8) (eLst (aCons (eTup (aCons (eBin bIx (eLst (aCons (eC (.str [105, 110])) (aCons (eC (.str [111, 117, 116])) aNil))) (eCall f__law_draw (aCons (eVar 0) (aCons (eC (.int 2)) aNil)))) (aCons (eVar 6) (aCons (eVar 7) aNil)))) aNil))) (gN 8))
  z_law_other_log_0)
abbrev z_law_other_log_2 : MS := (sSeq (sAsg (eLst (aCons (eTup (aCons (eVar 5) (aCons (eBin bAdd (eVar 6) (eC (.int 1))) (aCons (eVar 7) aNil)))) (aCons (eTup (aCons (eVar 5) (aCons (eCB fMax (aCons (eC (.int 0)) (aCons (eBin bSub (eVar 6) (eC (.int 1))) aNil))) (aCons (eVar 7) aNil)))) (aCons (eTup (aCons (eVar 5) (aCons (eVar 6) (aCons (eBin bAdd (eC (.int 1)) (eCall f__law_draw (aCons (eVar 0) (aCons (eC (.int 9)) aNil)))) aNil)))) aNil)))) (gN 8))
  z_law_other_log_1)
abbrev z_law_other_log_3 : MS := (sSeq (sAsg (eBin bIx (eVar 2) (eVar 4)) (gT (gsCons (gN 5) (gsCons (gN 6) (gsCons (gN 7) gsNil)))))
  z_law_other_log_2)
abbrev z_law_other_log_4 : MS := (sSeq (sAsg (eCall f__law_draw (aCons (eVar 0) (aCons (eCB fLen (aCons (eVar 2) aNil)) aNil))) (gN 4))
  z_law_other_log_3)
abbrev z_law_other_log_5 : MS := (sSeq (sIf (cBool (eBin bEq (eVar 3) (eC (.int 4)))) (sRet (eCall f__law_log (aCons (eVar 0) (aCons (eVar 1) (aCons (eC (.int 8)) aNil))))) sPass)
  z_law_other_log_4)
abbrev z_law_other_log_6 : MS := (sSeq (sIf (cOr (cBool (eBin bLt (eVar 3) (eC (.int 2)))) (cBool (eBin bEq (eVar 2) (eTup aNil)))) (sRet (eCall f__law_rewritten (aCons (eVar 0) (aCons (eVar 2) aNil)))) sPass)
  z_law_other_log_5)
def b__law_other_log : MS := (sSeq (sAsg (eCall f__law_draw (aCons (eVar 0) (aCons (eC (.int 5)) aNil))) (gN 3))
  z_law_other_log_6)
def f__law_other_log : MF := runF 9 3 b__law_other_log
theorem len__law_other_log : ∀ ds st, ds.length ≠ 3 → f__law_other_log ds st = .bad := runF_len
abbrev z_law_reach_0 : MS := (sAsg (eIf (cBool (eBin bEq (eVar 3) (eC (.str [105, 110])))) (eBin bAdd (eVar 2) (eVar 5)) (eBin bSub (eVar 2) (eVar 5))) (gN 2))
abbrev z_law_reach_1 : MS := (sSeq (sAsg (eCB fMax3 (aCons (eVar 1) (aCons (eBin bSub (eVar 4) (eVar 2)) (aCons (eIf (cBool (eBin bEq (eVar 3) (eC (.str [111, 117, 116])))) (eBin bSub (eBin bAdd (eVar 4) (eVar 5)) (eVar 2)) (eC (.int 0))) aNil)))) (gN 1))
  z_law_reach_0)
abbrev z_law_reach_2 : MS := (sSeq (sFor (iSeq (eVar 0)) (gT (gsCons (gN 3) (gsCons (gN 4) (gsCons (gN 5) gsNil)))) z_law_reach_1)
  (sRet (eVar 1)))
def b__law_reach : MS := (sSeq (sAsg (eTup (aCons (eC (.int 0)) (aCons (eC (.int 0)) aNil))) (gT (gsCons (gN 1) (gsCons (gN 2) gsNil))))
  z_law_reach_2)
def f__law_reach : MF := runF 6 1 b__law_reach
theorem len__law_reach : ∀ ds st, ds.length ≠ 1 → f__law_reach ds st = .bad := runF_len
/-- need_logs -/
def b_need_logs : MS := (sSeq (sExp (eCall f_need_log (aCons (eVar 0) aNil)))
  (sExp (eCall f_need_log (aCons (eVar 1) aNil))))
def f_need_logs : MF := runF 2 2 b_need_logs
theorem len_need_logs : ∀ ds st, ds.length ≠ 2 → f_need_logs ds st = .bad := runF_len
abbrev z_meeting_length_0 : MS := (sRet (eCB fMax (aCons (eCall f_reach_of (aCons (eVar 0) aNil)) (aCons (eCall f_reach_of (aCons (eVar 1) aNil)) aNil))))
def b_meeting_length : MS := (sSeq (sExp (eCall f_need_logs (aCons (eVar 0) (aCons (eVar 1) aNil))))
  z_meeting_length_0)
def f_meeting_length : MF := runF 2 2 b_meeting_length
theorem len_meeting_length : ∀ ds st, ds.length ≠ 2 → f_meeting_length ds st = .bad := runF_len
abbrev z_parting_mark_0 : MS := (sIf (cBool (eBin bNe (eCall f_carried (aCons (eVar 0) (aCons (eVar 2) (aCons (eVar 3) aNil)))) (eCall f_carried (aCons (eVar 1) (aCons (eVar 2) (aCons (eVar 3) aNil)))))) (sRet (eTup (aCons (eVar 2) (aCons (eVar 3) aNil)))) sPass)
abbrev z_parting_mark_1 : MS := (sFor (iSeq (eTup (aCons (eC (.str [108, 101, 102, 116])) (aCons (eC (.str [114, 105, 103, 104, 116])) aNil)))) (gN 3) z_parting_mark_0)
def b_parting_mark : MS := (sSeq (sFor (iRng1 (aCons (eBin bAdd (eCall f_meeting_length (aCons (eVar 0) (aCons (eVar 1) aNil))) (eC (.int 1))) aNil)) (gN 2) z_parting_mark_1)
  (sRet (eC .non)))
def f_parting_mark : MF := runF 4 2 b_parting_mark
theorem len_parting_mark : ∀ ds st, ds.length ≠ 2 → f_parting_mark ds st = .bad := runF_len
/-- alike -/
def b_alike : MS := (sRet (eBin bIs (eCall f_parting_mark (aCons (eVar 0) (aCons (eVar 1) aNil))) (eC .non)))
def f_alike : MF := runF 2 2 b_alike
theorem len_alike : ∀ ds st, ds.length ≠ 2 → f_alike ds st = .bad := runF_len
abbrev z_is_range_0 : MS := (sRet (eAnd (eCall f_is_mark (aCons (eVar 0) (aCons (eSl (eVar 1) oNone (oSome (eC (.int 2)))) aNil))) (eAnd (eCall f_is_mark (aCons (eVar 0) (aCons (eSl (eVar 1) (oSome (eC (.int 2))) oNone) aNil))) (eBin bLe (eBin bIx (eVar 1) (eC (.int 0))) (eBin bIx (eVar 1) (eC (.int 2)))))))
def b_is_range : MS := (sSeq (sIf (cOr (cNot (cTru (eCB fIsi (aCons (eVar 1) (aCons (eC (.ty "tuple")) aNil))))) (cBool (eBin bNe (eCB fLen (aCons (eVar 1) aNil)) (eC (.int 4))))) (sRet (eC (.bl false))) sPass)
  z_is_range_0)
def f_is_range : MF := runF 2 2 b_is_range
theorem len_is_range : ∀ ds st, ds.length ≠ 2 → f_is_range ds st = .bad := runF_len
/-- checked -/
def b_checked : MS := (sSeq (sIf (cNot (cTru (eCall f_is_range (aCons (eVar 0) (aCons (eVar 1) aNil))))) (sRaise "BadRange" ["given"] (aCons (eVar 1) aNil)) sPass)
  (sRet (eVar 1)))
def f_checked : MF := runF 2 2 b_checked
theorem len_checked : ∀ ds st, ds.length ≠ 2 → f_checked ds st = .bad := runF_len
abbrev z_need_range_0 : MS := (sRet (eCall f_checked (aCons (eVar 0) (aCons (eVar 1) aNil))))
def b_need_range : MS := (sSeq (sExp (eCall f_need_length (aCons (eVar 0) aNil)))
  z_need_range_0)
def f_need_range : MF := runF 2 2 b_need_range
theorem len_need_range : ∀ ds st, ds.length ≠ 2 → f_need_range ds st = .bad := runF_len
abbrev z_carry_range_0 : MS := (sRet (eTup (aCons (eIxC "Chart" f_Chart_getitem (eVar 0) (eTup (aCons (eVar 2) (aCons (eVar 3) aNil)))) (aCons (eIxC "Chart" f_Chart_getitem (eVar 0) (eTup (aCons (eVar 4) (aCons (eVar 5) aNil)))) aNil))))
def b_carry_range : MS := (sSeq (sAsg (eCall f_checked (aCons (eLenC "Chart" f_Chart_len (aCons (eVar 0) aNil)) (aCons (eVar 1) aNil))) (gT (gsCons (gN 2) (gsCons (gN 3) (gsCons (gN 4) (gsCons (gN 5) gsNil))))))
  z_carry_range_0)
def f_carry_range : MF := runF 6 2 b_carry_range
theorem len_carry_range : ∀ ds st, ds.length ≠ 2 → f_carry_range ds st = .bad := runF_len
/-- turns_over -/
def b_turns_over : MS := (sSeq (sAsg (eCall f_carry_range (aCons (eVar 0) (aCons (eVar 1) aNil))) (gT (gsCons (gN 2) (gsCons (gN 3) gsNil))))
  (sRet (eBin bGt (eVar 2) (eVar 3))))
def f_turns_over : MF := runF 4 2 b_turns_over
theorem len_turns_over : ∀ ds st, ds.length ≠ 2 → f_turns_over ds st = .bad := runF_len
abbrev z_law_edit_0 : MS := (sRet (eTup (aCons (eC (.str [105, 110])) (aCons (eVar 2) (aCons (eVar 3) aNil)))))
abbrev z_law_edit_1 : MS := (sSeq (sIf (cAnd (cBool (eBin bEq (eCall f__law_draw (aCons (eVar 0) (aCons (eC (.int 2)) aNil))) (eC (.int 0)))) (cBool (eBin bLt (eVar 2) (eVar 1)))) (sRet (eTup (aCons (eC (.str [111, 117, 116])) (aCons (eVar 2) (aCons (eCB fMin (aCons (eVar 3) (aCons (eBin bSub (eVar 1) (eVar 2)) aNil))) aNil))))) sPass)
  z_law_edit_0)
def b__law_edit : MS := (sSeq (sPar2 2 3 (aCons (eCall f__law_draw (aCons (eVar 0) (aCons (eBin bAdd (eVar 1) (eC (.int 1))) aNil))) (aCons (eBin bAdd (eC (.int 1)) (eCall f__law_draw (aCons (eVar 0) (aCons (eC (.int 9)) aNil)))) aNil)))
  z_law_edit_1)
def f__law_edit : MF := runF 4 2 b__law_edit
theorem len__law_edit : ∀ ds st, ds.length ≠ 2 → f__law_edit ds st = .bad := runF_len
abbrev z_still_there_0 : MS := (sRet (eLst (aCons (eTup (aCons (eIf (cBool (eBin bLe (eVar 3) (eVar 5))) (eBin bAdd (eVar 5) (eVar 4)) (eVar 5)) (aCons (eBin bIx (eVar 0) (eC (.int 2))) aNil))) aNil)))
abbrev z_still_there_1 : MS := (sRet (eIf (cBool (eBin bGt (eVar 7) (eC (.int 0)))) (eLst (aCons (eTup (aCons (eCall f_gap_behind (aCons (eVar 1) (aCons (eVar 5) (aCons (eC (.str [108, 101, 102, 116])) aNil)))) (aCons (eVar 7) aNil))) aNil)) (eLst aNil)))
abbrev z_still_there_2 : MS := (sSeq (sAsg (eCB fLen (aCons (eLc (iRng2 (aCons (eVar 5) (aCons (eVar 6) aNil))) (gN 8) (cNot (cBool (eChain bLe bLt (eVar 3) (eVar 8) (eBin bAdd (eVar 3) (eVar 4))))) (eVar 8) [8]) aNil)) (gN 7))
  z_still_there_1)
abbrev z_still_there_3 : MS := (sSeq (sIf (cBool (eBin bEq (eVar 2) (eC (.str [105, 110])))) (sSeq (sIf (cBool (eChain bLt bLt (eVar 5) (eVar 3) (eVar 6))) (sRet (eLst (aCons (eTup (aCons (eVar 5) (aCons (eBin bSub (eVar 3) (eVar 5)) aNil))) (aCons (eTup (aCons (eBin bAdd (eVar 3) (eVar 4)) (aCons (eBin bSub (eVar 6) (eVar 3)) aNil))) aNil)))) sPass)
  z_still_there_0) sPass)
  z_still_there_2)
abbrev z_still_there_4 : MS := (sSeq (sPar2 5 6 (aCons (eBin bIx (eVar 0) (eC (.int 1))) (aCons (eBin bAdd (eBin bIx (eVar 0) (eC (.int 1))) (eBin bIx (eVar 0) (eC (.int 2)))) aNil)))
  z_still_there_3)
def b_still_there : MS := (sSeq (sAsg (eVar 1) (gT (gsCons (gN 2) (gsCons (gN 3) (gsCons (gN 4) gsNil)))))
  z_still_there_4)
def f_still_there : MF := runF 9 2 b_still_there
theorem len_still_there : ∀ ds st, ds.length ≠ 2 → f_still_there ds st = .bad := runF_len
/-- Desk.__init__ -/
def b_Desk_init : MS := (sSeq (sFldD "Desk" "own_length" (eVar 0) (eC (.int 0)))
  (sFldD "Desk" "own_log" (eVar 0) (eTup aNil)))
def f_Desk_init : MF := runF 1 1 b_Desk_init
theorem len_Desk_init : ∀ ds st, ds.length ≠ 1 → f_Desk_init ds st = .bad := runF_len
end
end T5.G
namespace HT
open PySem PySem.Spec PyProof.Rows Builtin
section
variable {prog : Program} {w : World} {A : Around} {E : Value → Shared → Prop} {s : Shared}
theorem sliceApplied_rev {sl : Addr} {vs : Value} {n : Nat} {Q : Int × Int × Nat → Shared → Prop} (hs : s.heap.IsSliceOf sl .none .none vs) (ps : IsPart vs (some (-1))) (h : Q ((n : Int) - 1, -1, n) s) : wpAny (model prog w) A (Builtin.Slice.sliceApplied (.ref sl) (pure (n : Int))) Q E s := by
  obtain ⟨os, hos, hcs, hds⟩ := id hs
  unfold Builtin.Slice.sliceApplied Builtin.Slice.sliceFields
  refine wpAny_bind (wpAny_bind (wpAny_field hos hds (x := .none) rfl (wpAny_bind (wpAny_field hos hds (x := .none) rfl (wpAny_bind (wpAny_field hos hds (x := vs) rfl (wpAny_pure ?_)))))))
  refine wpAny_bind (slicePart_ ps ?_)
  show wpAny _ _ (if ((-1 : Int) == 0) = true then _ else _) _ _ s
  rw [if_neg (by decide)]
  refine wpAny_bind (slicePart_none (wpAny_bind (slicePart_none (wpAny_bind (wpAny_pure ?_)))))
  show wpAny _ _ (match Builtin.Slice.sliceAdjust none none (-1) (n : Int) with | (lo, hi) => pure (lo, (-1 : Int), Builtin.Slice.slicePlaces lo hi (-1))) _ _ s
  have e1 : Builtin.Slice.sliceAdjust none none (-1) (n : Int) = ((n : Int) - 1, -1) := rfl
  rw [e1]
  have e2 : Builtin.Slice.slicePlaces ((n : Int) - 1) (-1) (-1) = n := by
    unfold Builtin.Slice.slicePlaces
    have h1 : ¬ ((-1 : Int) > 0) := by decide
    simp only [h1, if_false]
    by_cases z : (n : Int) - 1 > -1
    · rw [if_pos z, show (-(-1) : Int) = 1 by decide, Int.ediv_one]
      omega
    · rw [if_neg z]
      omega
  show wpAny _ _ (pure ((n : Int) - 1, (-1 : Int), Builtin.Slice.slicePlaces ((n : Int) - 1) (-1) (-1))) _ _ s
  rw [e2]
  exact wpAny_pure h
theorem fm_congr {α β : Type} {f g : α → Option β} : ∀ {l : List α}, (∀ m ∈ l, f m = g m) → l.filterMap f = l.filterMap g
  | [], _ => rfl
  | x :: l, h => by
    rw [List.filterMap_cons, List.filterMap_cons, h x (List.mem_cons_self ..), fm_congr fun m hm => h m (List.mem_cons_of_mem _ hm)]
theorem pick_rev (xs : Array Value) : ((List.range xs.size).filterMap fun (m : Nat) => xs[((xs.size : Int) - 1 + (m : Int) * -1).toNat]?).toArray = xs.toList.reverse.toArray := by
  have := PySem.W.krv_pick xs
  unfold slicePick at this
  rw [PySem.W.krv_bounds] at this
  rw [← this]
  show _ = ((sliceRange ((xs.size : Int) - 1) (-1) (-1)).filterMap (xs[·]?)).toArray
  rw [PySem.W.krv_sliceRange, List.filterMap_map]
  refine congrArg List.toArray (fm_congr fun m hm => ?_)
  have hm := List.mem_range.mp hm
  show xs[((xs.size : Int) - 1 + (m : Int) * -1).toNat]? = xs[xs.size - 1 - m]?
  rw [show ((xs.size : Int) - 1 + (m : Int) * -1).toNat = xs.size - 1 - m by omega]
theorem getItem_tuple_rev {t sl : Addr} {items : Array Value} {vs : Value} {Q : Value → Shared → Prop} (ht : IsTup s.heap t items) (hs : s.heap.IsSliceOf sl .none .none vs) (ps : IsPart vs (some (-1)))
    (h : Q (.ref s.heap.objs.size) { s with heap := s.heap.push { cls := .type "tuple", data := .seq items.toList.reverse.toArray } })
    (hsz : items.size ≤ sizeLine) : wpAny (model prog w) A (getItem (.ref t) (.ref sl)) Q E s := by
  have htake : sizeOk (.seq items.toList.reverse.toArray) := by
    show items.toList.reverse.toArray.size ≤ sizeLine
    rw [List.size_toArray, List.length_reverse, Array.length_toList]
    exact hsz
  obtain ⟨os, hos, hcs, hds⟩ := id hs
  have hTs : s.TypeIs (.ref sl) "slice" := ⟨os, hos, hcs⟩
  unfold getItem
  try with_reducible refine wpAny_holding ?_
  first | refine wpAny_bind (wpAny_pure ?_) | skip
  refine wpAny_bind (wpAny_sequenceKey ht.typeIs (by decide) ?_)
  refine wpAny_bind (wpAny_callSpecial?_slot (name := Str.ofString "__getitem__") ht.typeIs PyProof.Rows.slot_tuple_getitem
    (wpAny_call_entry PyProof.Rows.slot_tuple_getitem ht.typeIs entry_tuple_getitem ?_ (args_tuple_getitem _ _)))
  show wpAny _ _ (Builtin.Tuple.tupleItemsOf (.ref t) >>= _) _ _ s
  refine wpAny_bind (tupleItemsOf_ ht ?_)
  refine wpAny_bind (wpAny_typeOf hTs ?_)
  rw [if_pos (by decide)]
  refine wpAny_bind (sliceApplied_rev hs ps ?_)
  have hno : ¬ ((((items.size : Int) - 1) == 0 && (-1 : Int) == 1 && items.size == items.size) = true) := by
    intro q
    rw [Bool.and_eq_true, Bool.and_eq_true] at q
    exact absurd (eq_of_beq q.1.2) (by decide)
  show wpAny _ _ (if (((items.size : Int) - 1) == 0 && (-1 : Int) == 1 && items.size == items.size) = true then _ else _) _ _ s
  rw [if_neg hno, pick_rev]
  first
    | exact wpAny_bind (m := Builtin.Tuple.tupleExact _) (wpAny_newObj_type (wpAny_pure ⟨_, rfl, wpAny_pure h⟩) htake)
    | exact wpAny_bind (m := Builtin.Tuple.tupleExact _) (wpAny_newObj_type (wpAny_bind (wpAny_pure (wpAny_pure ⟨_, rfl, wpAny_pure h⟩))) htake)
    | exact wpAny_bind (wpAny_bind (m := Builtin.Tuple.tupleExact _) (wpAny_newObj_type (wpAny_pure (wpAny_pure ⟨_, rfl, wpAny_pure h⟩)) htake))
    | exact wpAny_bind (wpAny_bind (m := Builtin.Tuple.tupleExact _) (wpAny_newObj_type (wpAny_pure ⟨_, rfl, wpAny_pure h⟩) htake))
end
end HT
namespace T5
open PySem PySem.Spec PyProof.Rows L2
variable [TabC]
/-! ### xs[::-1] -/
def eRev (m : ME) : ME := fun env st => (m env st).bind fun d st1 => match d with
  | .tup l => .ok (.tup l.reverse) st1
  | d => (match lstOf st1 d with
    | some l => .ok (.lst l.reverse) st1
    | none => .bad)
theorem repL_rev {K : PySem.W.Frag} {mg : Str → Option Value} {μ : Mu} {H : Hp} : ∀ {l : List D} {vs : List V}, RepL K mg μ H l vs → RepL K mg μ H l.reverse vs.reverse
  | [], vs, h => by
    have e : vs = [] := h
    subst e
    exact rfl
  | d :: l, vs, h => by
    obtain ⟨v, r, rfl, h1, h2⟩ := h
    rw [List.reverse_cons, List.reverse_cons]
    exact (repL_rev h2).append ⟨v, [], rfl, h1, rfl⟩
section
variable {X : Cx} {e : Expr} {m : ME} {k : Nat} {p1 p2 p3 pos : Pos}
theorem se_rev (he : SE X e m) : SE X (.Subscript e (.Slice none none (some (.UnaryOp .USub (.Constant (.int 1) k p1) p2)) p3) pos) (eRev m) := fun pn xe W tk => by
  constructor
  intro pins s σ H Q I h
  refine Subscript_ (thn ((he pn xe W tk).run pins s σ H (fun x H1 => (∃ a xs, x = .ref a ∧ SqL X.K H1 a xs ∧ ∀ p, H1 p = none → Q (.ref p) (upd H1 p (.lst xs.reverse))) ∨ (∃ a xs, x = .ref a ∧ SqT X.K H1 a xs ∧ ∀ p, H1 p = none → Q (.ref p) (upd H1 p (.tup xs.reverse)))) I ?_) fun v s1 ⟨x, H1, I1, r1, q1⟩ => ?_)
  · refine tM_seq h fun d v μ env st H1 r re hd a => ?_
    have ls : ∀ l, lstOf st d = some l → Aft X.K X.mg W σ μ H1 (.ok (.lst l.reverse) st) (fun d x μ' H' => ∀ (v : V), Rep X.K X.mg μ' H' d v → Q v H') → ∃ a xs, v = .ref a ∧ SqL X.K H1 a xs ∧ ∀ p, H1 p = none → Q (.ref p) (upd H1 p (.lst xs.reverse)) := fun l e a => by
      obtain ⟨p, vs, rfl, hh, hl⟩ := lst_at r hd e
      exact ⟨p, vs, rfl, .inl (.inl hh), fun q hq => a _ _ (Ext.same r (same_upd hq)) (r.same (same_upd hq)) _ (rep_newL r hq (repL_rev hl))⟩
    cases d with
    | tup l =>
      obtain ⟨p, vs, rfl, _, hh, hl⟩ := hd
      exact .inr ⟨p, vs, rfl, .inl (.inl hh), fun q hq => a _ _ (Ext.same r (same_upd hq)) (r.same (same_upd hq)) _ (rep_newT r hq (repL_rev hl))⟩
    | lst l => exact .inl (ls l rfl a)
    | obj n =>
      cases e1 : lstOf st (.obj n) with
      | none => simp only [e1] at a; exact a.elim
      | some l => simp only [e1] at a; exact .inl (ls l e1 a)
    | _ => exact a.elim
  · have hst : PO (X.tr pn xe) (some (.UnaryOp .USub (.Constant (.int 1) k p1) p2)) (tPart (tUn (rU fun i => .int (-i)) (tC (.int 1)))) := po_some (pe_un un_neg pe_int)
    refine wpAny_Slice (thn (po_none.run pins s1 σ H1 (fun o H2 => o = none ∧ H2 = H1) I1 ⟨rfl, rfl⟩) fun vl s2 ⟨l, H2, I2, pl, el, e2⟩ => ?_)
    subst el e2
    refine thn (po_none.run pins s2 σ H2 (fun o H3 => o = none ∧ H3 = H2) I2 ⟨rfl, rfl⟩) fun vu s3 ⟨u, H3, I3, pu, eu, e3⟩ => ?_
    subst eu e3
    refine thn (hst.run pins s3 σ H3 (fun o H4 => o = some (-1) ∧ H4 = H3) I3 ⟨1, rfl, -1, rfl, rfl, rfl⟩) fun vs s4 ⟨o, H4, I4, ps, eo, e4⟩ => ?_
    subst eo e4
    have I5 : Inv (X.tr pn xe) pins σ H4 { s4 with heap := s4.heap.push { cls := .type "slice", data := .fields #[vl, vu, vs] } } := I4.kept (t' := s4.toks) fun b ob q => Heap.get?_push_of_some _ q
    show wpAny (model X.prog X.w) X.A (subscriptTail e (.Slice none none (some (.UnaryOp .USub (.Constant (.int 1) k p1) p2)) p3) v (.ref s4.heap.objs.size)) (EP (X.tr pn xe) pins σ Q) (X.tr pn xe).xe { s4 with heap := s4.heap.push { cls := .type "slice", data := .fields #[vl, vu, vs] } }
    rcases q1 with ⟨a, xs, ex, hx, q⟩ | ⟨a, xs, ex, hx, q⟩
    · subst ex
      cases r1
      obtain ⟨its, r, ht, hz⟩ := I5.list hx
      have hlen := r.length
      refine tail_any (ops := [.ref a, .ref s4.heap.objs.size]) ht.isList.typeIs (PySem.slot_list_getitem.lookup) ?_ (by with_unfolding_all rfl)
      refine wpAny_getItem_list_slice ht.isList (Heap.IsSliceOf.new _ vl vu vs) pl pu ps (by decide) ?_ (by rw [List.size_toArray]; omega)
      rw [PySem.W.krv_pick]
      refine ⟨.ref _, _, I5.laid (t' := s4.toks) (o := .lst xs.reverse) (fun b ob q => Heap.get?_push_of_some _ q) (Nat.le_refl _) ?_, rfl, q _ (I5.hok.fresh (Nat.le_refl _))⟩
      exact ⟨by rw [List.length_reverse]; exact hz, _, 0, r.reverse, Heap.get?_push_size _ rfl⟩
    · subst ex
      cases r1
      obtain ⟨its, r, ht, hz⟩ := I5.tuple hx
      have hlen := r.length
      cases pl
      cases pu
      refine tail_any (ops := [.ref a, .ref s4.heap.objs.size]) ht.typeIs PyProof.Rows.slot_tuple_getitem.lookup ?_ (by with_unfolding_all rfl)
      refine HT.getItem_tuple_rev ht (Heap.IsSliceOf.new _ .none .none vs) ps ?_ (by rw [List.size_toArray]; omega)
      refine ⟨.ref _, _, I5.laid (t' := s4.toks) (o := .tup xs.reverse) (fun b ob q => Heap.get?_push_of_some _ q) (Nat.le_refl _) ?_, rfl, q _ (I5.hok.fresh (Nat.le_refl _))⟩
      exact ⟨by rw [List.length_reverse]; exact hz, _, r.reverse, IsTup.new _ _⟩
end
end T5
namespace T5.G
open PySem PySem.Spec PyProof.Rows L2
noncomputable section
/-- inverse_of -/
def b_inverse_of : MS := (sRet (eCB fTuple (aCons (eLc (iSeq (eRev (eVar 0))) (gT (gsCons (gN 1) (gsCons (gN 2) (gsCons (gN 3) gsNil)))) cYes (eTup (aCons (eIf (cBool (eBin bEq (eVar 1) (eC (.str [105, 110])))) (eC (.str [111, 117, 116])) (eC (.str [105, 110]))) (aCons (eVar 2) (aCons (eVar 3) aNil)))) [1, 2, 3]) aNil)))
def f_inverse_of : MF := runF 4 1 b_inverse_of
theorem len_inverse_of : ∀ ds st, ds.length ≠ 1 → f_inverse_of ds st = .bad := runF_len
/-- inverse -/
def b_inverse : MS := (sRet (eCall f_inverse_of (aCons (eCall f_need_log (aCons (eVar 0) aNil)) aNil)))
def f_inverse : MF := runF 1 1 b_inverse
theorem len_inverse : ∀ ds st, ds.length ≠ 1 → f_inverse ds st = .bad := runF_len
abbrev z_comes_back_0 : MS := (sRet (eBin bEq (eCall f_carried (aCons (eCall f_inverse_of (aCons (eVar 1) aNil)) (aCons (eVar 3) (aCons (eVar 4) aNil)))) (eBin bIx (eVar 2) (eC (.int 0)))))
def b_comes_back : MS := (sSeq (sAsg (eCall f_carry (aCons (eVar 0) (aCons (eVar 1) (aCons (eVar 2) aNil)))) (gT (gsCons (gN 3) (gsCons (gN 4) gsNil))))
  z_comes_back_0)
def f_comes_back : MF := runF 5 3 b_comes_back
theorem len_comes_back : ∀ ds st, ds.length ≠ 3 → f_comes_back ds st = .bad := runF_len
abbrev z_done_behind_0 : MS := (sRet (eCB fTuple (aCons (eLc (iSeq (eRev (eCall f_still_there (aCons (eVar 0) (aCons (eVar 1) aNil))))) (gT (gsCons (gN 3) (gsCons (gN 4) gsNil))) cYes (eTup (aCons (eC (.str [111, 117, 116])) (aCons (eVar 3) (aCons (eVar 4) aNil)))) [3, 4]) aNil)))
def b_done_behind : MS := (sSeq (sIf (cBool (eBin bEq (eBin bIx (eVar 0) (eC (.int 0))) (eC (.str [105, 110])))) (sRet (eTup (aCons (eTup (aCons (eC (.str [105, 110])) (aCons (eCall f_gap_behind (aCons (eVar 1) (aCons (eBin bIx (eVar 0) (eC (.int 1))) (aCons (eIf (cTru (eVar 2)) (eC (.str [108, 101, 102, 116])) (eC (.str [114, 105, 103, 104, 116]))) aNil)))) (aCons (eBin bIx (eVar 0) (eC (.int 2))) aNil)))) aNil))) sPass)
  z_done_behind_0)
def f_done_behind : MF := runF 5 3 b_done_behind
theorem len_done_behind : ∀ ds st, ds.length ≠ 3 → f_done_behind ds st = .bad := runF_len
abbrev z_both_ways_0 : MS := (sRet (eTup (aCons (eBin bAdd (eTup (aCons (eVar 0) aNil)) (eCall f_done_behind (aCons (eVar 1) (aCons (eVar 0) (aCons (eC (.bl false)) aNil))))) (aCons (eBin bAdd (eTup (aCons (eVar 1) aNil)) (eCall f_done_behind (aCons (eVar 0) (aCons (eVar 1) (aCons (eC (.bl true)) aNil))))) aNil))))
abbrev z_both_ways_1 : MS := (sSeq (sExp (eCall f_need_edit (aCons (eVar 1) aNil)))
  z_both_ways_0)
def b_both_ways : MS := (sSeq (sExp (eCall f_need_edit (aCons (eVar 0) aNil)))
  z_both_ways_1)
def f_both_ways : MF := runF 2 2 b_both_ways
theorem len_both_ways : ∀ ds st, ds.length ≠ 2 → f_both_ways ds st = .bad := runF_len
abbrev z_ways_alike_0 : MS := (sIf (cTru (eCB fAny (aCons (eLc (iRng1 (aCons (eBin bAdd (eVar 4) (eC (.int 1))) aNil)) (gN 6) cYes (eBin bNe (eCall f_carried (aCons (eVar 2) (aCons (eVar 6) (aCons (eVar 5) aNil)))) (eCall f_carried (aCons (eVar 3) (aCons (eVar 6) (aCons (eVar 5) aNil))))) [6]) aNil))) (sRet (eC (.bl false))) sPass)
abbrev z_ways_alike_1 : MS := (sSeq (sFor (iSeq (eTup (aCons (eC (.str [108, 101, 102, 116])) (aCons (eC (.str [114, 105, 103, 104, 116])) aNil)))) (gN 5) z_ways_alike_0)
  (sRet (eC (.bl true))))
abbrev z_ways_alike_2 : MS := (sSeq (sAsg (eCB fMax (aCons (eCall f_reach_of (aCons (eVar 2) aNil)) (aCons (eCall f_reach_of (aCons (eVar 3) aNil)) aNil))) (gN 4))
  z_ways_alike_1)
def b_ways_alike : MS := (sSeq (sAsg (eCall f_both_ways (aCons (eVar 0) (aCons (eVar 1) aNil))) (gT (gsCons (gN 2) (gsCons (gN 3) gsNil))))
  z_ways_alike_2)
def f_ways_alike : MF := runF 7 2 b_ways_alike
theorem len_ways_alike : ∀ ds st, ds.length ≠ 2 → f_ways_alike ds st = .bad := runF_len
end
end T5.G
namespace T5.G
open PySem PySem.Spec PyProof.Rows L2
noncomputable section
def top (i : Nat) : Stmt := PySem.Challenge.pw_tiltmarks_k21_whole_both_ways.main.body.getD i (.Pass ⟨0, 0, 0, 0⟩)
def inCls (i j : Nat) : Stmt := match top i with
  | .ClassDef _ _ _ body _ _ _ _ _ _ _ => body.getD j (.Pass ⟨0, 0, 0, 0⟩)
  | s => s
/-! ### what each def does -/
def cs_ : List String := ["BadEdit", "BadLength", "OutOfText", "BadChart", "BadLog"]
def tb : Tbl := [("BadEdit", true, "Missing", false), ("BadEdit", false, "ValueError", true), ("BadEdit", true, "BadEdit", true), ("BadEdit", true, "BadLog", false), ("BadEdit", true, "BadLength", false), ("BadEdit", true, "BadMark", false), ("BadEdit", true, "BadRange", false), ("BadEdit", true, "BadChart", false), ("BadEdit", true, "OutOfText", false), ("BadEdit", true, "Unlike", false), ("BadLength", true, "Missing", false), ("BadLength", false, "ValueError", true), ("BadLength", true, "BadEdit", false), ("BadLength", true, "BadLog", false), ("BadLength", true, "BadLength", true), ("BadLength", true, "BadMark", false), ("BadLength", true, "BadRange", false), ("BadLength", true, "BadChart", false), ("BadLength", true, "OutOfText", false), ("BadLength", true, "Unlike", false), ("OutOfText", true, "Missing", false), ("OutOfText", false, "ValueError", true), ("OutOfText", true, "BadEdit", false), ("OutOfText", true, "BadLog", false), ("OutOfText", true, "BadLength", false), ("OutOfText", true, "BadMark", false), ("OutOfText", true, "BadRange", false), ("OutOfText", true, "BadChart", false), ("OutOfText", true, "OutOfText", true), ("OutOfText", true, "Unlike", false), ("BadChart", true, "Missing", false), ("BadChart", false, "ValueError", true), ("BadChart", true, "BadEdit", false), ("BadChart", true, "BadLog", false), ("BadChart", true, "BadLength", false), ("BadChart", true, "BadMark", false), ("BadChart", true, "BadRange", false), ("BadChart", true, "BadChart", true), ("BadChart", true, "OutOfText", false), ("BadChart", true, "Unlike", false), ("BadLog", true, "Missing", false), ("BadLog", false, "ValueError", true), ("BadLog", true, "BadEdit", false), ("BadLog", true, "BadLog", true), ("BadLog", true, "BadLength", false), ("BadLog", true, "BadMark", false), ("BadLog", true, "BadRange", false), ("BadLog", true, "BadChart", false), ("BadLog", true, "OutOfText", false), ("BadLog", true, "Unlike", false)]
def xf_given : List String := ["BadEdit", "BadLength"]
def xf_place : List String := ["OutOfText", "BadChart", "BadLog"]
def xf_one : List String := []
def xf_other : List String := []
abbrev s__law_begun : Stmt := (top 44)
theorem sc__law_begun : FnScope ["_law_script", "_law_number", "_law_at", "_law_cell"] ["_law_script"] (defScope s__law_begun) := ⟨rfl, rfl, rfl, by decide +kernel, rfl, by decide +kernel, by decide +kernel⟩
abbrev s__law_draw : Stmt := (top 45)
theorem sc__law_draw : FnScope ["_law_m", "_law_many", "_law_great", "_law_found", "_law_number"] ["_law_m", "_law_many"] (defScope s__law_draw) := ⟨rfl, rfl, rfl, by decide +kernel, rfl, by decide +kernel, by decide +kernel⟩
abbrev s__law_edit : Stmt := (top 50)
theorem sc__law_edit : FnScope ["_law_m", "_law_length", "_law_gap", "_law_many"] ["_law_m", "_law_length"] (defScope s__law_edit) := ⟨rfl, rfl, rfl, by decide +kernel, rfl, by decide +kernel, by decide +kernel⟩
abbrev s_is_integer : Stmt := (top 20)
theorem sc_is_integer : FnScope ["thing", "least", "most"] ["thing", "least", "most"] (defScope s_is_integer) := ⟨rfl, rfl, rfl, by decide +kernel, rfl, by decide +kernel, by decide +kernel⟩
abbrev s_is_edit : Stmt := (top 21)
theorem sc_is_edit : FnScope ["thing"] ["thing"] (defScope s_is_edit) := ⟨rfl, rfl, rfl, by decide +kernel, rfl, by decide +kernel, by decide +kernel⟩
/-- BadEdit -/
abbrev s_BadEdit_init : Stmt := (inCls 2 0)
abbrev s_need_edit : Stmt := (top 22)
theorem sc_need_edit : FnScope ["thing"] ["thing"] (defScope s_need_edit) := ⟨rfl, rfl, rfl, by decide +kernel, rfl, by decide +kernel, by decide +kernel⟩
abbrev s_gap_behind : Stmt := (top 27)
theorem sc_gap_behind : FnScope ["edit", "gap", "lean", "word", "begin", "many"] ["edit", "gap", "lean"] (defScope s_gap_behind) := ⟨rfl, rfl, rfl, by decide +kernel, rfl, by decide +kernel, by decide +kernel⟩
abbrev s_still_there : Stmt := (top 31)
theorem sc_still_there : FnScope ["edit", "other", "word", "gap", "many", "begin", "end", "kept", "sign"] ["edit", "other"] (defScope s_still_there) := ⟨rfl, rfl, rfl, by decide +kernel, rfl, by decide +kernel, by decide +kernel⟩
abbrev s_done_behind : Stmt := (top 32)
theorem sc_done_behind : FnScope ["edit", "other", "is_first", "gap", "many"] ["edit", "other", "is_first"] (defScope s_done_behind) := ⟨rfl, rfl, rfl, by decide +kernel, rfl, by decide +kernel, by decide +kernel⟩
abbrev s_both_ways : Stmt := (top 33)
theorem sc_both_ways : FnScope ["one", "other"] ["one", "other"] (defScope s_both_ways) := ⟨rfl, rfl, rfl, by decide +kernel, rfl, by decide +kernel, by decide +kernel⟩
/-- _law_signs -/
abbrev z_law_signs_0 : MS := (sIf (cBool (eBin bEq (eVar 6) (eC (.str [105, 110])))) (sAsg (eBin bAdd (eBin bAdd (eSl (eVar 3) oNone (oSome (eVar 7))) (eBin bMul (eLst (aCons (eBin bIx (eVar 2) (eVar 4)) aNil)) (eVar 8))) (eSl (eVar 3) (oSome (eVar 7)) oNone)) (gN 3)) (sAsg (eBin bAdd (eSl (eVar 3) oNone (oSome (eVar 7))) (eSl (eVar 3) (oSome (eBin bAdd (eVar 7) (eVar 8))) oNone)) (gN 3)))
abbrev z_law_signs_1 : MS := (sSeq (sAsg (eVar 5) (gT (gsCons (gN 6) (gsCons (gN 7) (gsCons (gN 8) gsNil)))))
  z_law_signs_0)
abbrev z_law_signs_2 : MS := (sSeq (sFor (iEn (eVar 1)) (gT (gsCons (gN 4) (gsCons (gN 5) gsNil))) z_law_signs_1)
  (sRet (eVar 3)))
abbrev s__law_signs : Stmt := (top 51)
def b__law_signs : MS := (sSeq (sAsg (eLstRg (eVar 0)) (gN 3))
  z_law_signs_2)
def f__law_signs : MF := runF 9 3 b__law_signs
theorem len__law_signs : ∀ ds st, ds.length ≠ 3 → f__law_signs ds st = .bad := runF_len
theorem sc__law_signs : FnScope ["_law_length", "_law_row", "_law_names", "_law_signs_here", "_law_k", "_law_edit_here", "_law_word", "_law_at", "_law_many"] ["_law_length", "_law_row", "_law_names"] (defScope s__law_signs) := ⟨rfl, rfl, rfl, by decide +kernel, rfl, by decide +kernel, by decide +kernel⟩
/-- _law_is_within -/
abbrev s__law_is_within : Stmt := (top 52)
def b__law_is_within : MS := (sRet (eAnd (eBin bEq (eBin bIx (eVar 0) (eC (.int 0))) (eC (.str [105, 110]))) (eAnd (eBin bEq (eBin bIx (eVar 1) (eC (.int 0))) (eC (.str [111, 117, 116]))) (eChain bLe bLe (eBin bIx (eVar 1) (eC (.int 1))) (eBin bIx (eVar 0) (eC (.int 1))) (eBin bAdd (eBin bIx (eVar 1) (eC (.int 1))) (eBin bIx (eVar 1) (eC (.int 2))))))))
def f__law_is_within : MF := runF 2 2 b__law_is_within
theorem len__law_is_within : ∀ ds st, ds.length ≠ 2 → f__law_is_within ds st = .bad := runF_len
theorem sc__law_is_within : FnScope ["_law_one", "_law_other"] ["_law_one", "_law_other"] (defScope s__law_is_within) := ⟨rfl, rfl, rfl, by decide +kernel, rfl, by decide +kernel, by decide +kernel⟩
abbrev s_reach_of : Stmt := (top 29)
theorem sc_reach_of : FnScope ["log", "least", "more", "word", "gap", "many"] ["log"] (defScope s_reach_of) := ⟨rfl, rfl, rfl, by decide +kernel, rfl, by decide +kernel, by decide +kernel⟩
abbrev s_carried : Stmt := (top 28)
theorem sc_carried : FnScope ["log", "gap", "lean", "edit"] ["log", "gap", "lean"] (defScope s_carried) := ⟨rfl, rfl, rfl, by decide +kernel, rfl, by decide +kernel, by decide +kernel⟩
abbrev s_ways_alike : Stmt := (top 34)
theorem sc_ways_alike : FnScope ["one", "other", "way", "far", "length", "lean", "gap"] ["one", "other"] (defScope s_ways_alike) := ⟨rfl, rfl, rfl, by decide +kernel, rfl, by decide +kernel, by decide +kernel⟩
abbrev s__law_rows : Stmt := (top 47)
theorem sc__law_rows : FnScope ["_law_length", "_law_log", "_law_rows_here", "_law_gap", "_law_word", "_law_at", "_law_many", "_law_bare", "_law_k", "_law_lefts", "_law_rights", "_law_row"] ["_law_length", "_law_log"] (defScope s__law_rows) := ⟨rfl, rfl, rfl, by decide +kernel, rfl, by decide +kernel, by decide +kernel⟩
abbrev s__law_chart : Stmt := (top 48)
theorem sc__law_chart : FnScope ["_law_length", "_law_log", "_law_rows_here", "_law_lefts", "_law_rights", "_law_gap", "_law_row", "_law_one", "_law_gaps"] ["_law_length", "_law_log"] (defScope s__law_chart) := ⟨rfl, rfl, rfl, by decide +kernel, rfl, by decide +kernel, by decide +kernel⟩
/-- BadLength -/
abbrev s_BadLength_init : Stmt := (inCls 4 0)
abbrev s_need_length : Stmt := (top 24)
theorem sc_need_length : FnScope ["thing"] ["thing"] (defScope s_need_length) := ⟨rfl, rfl, rfl, by decide +kernel, rfl, by decide +kernel, by decide +kernel⟩
/-- OutOfText -/
abbrev s_OutOfText_init : Stmt := (inCls 8 0)
abbrev s_grown : Stmt := (top 26)
theorem sc_grown : FnScope ["length", "log", "place", "word", "gap", "many"] ["length", "log"] (defScope s_grown) := ⟨rfl, rfl, rfl, by decide +kernel, rfl, by decide +kernel, by decide +kernel⟩
abbrev s_is_row : Stmt := (top 38)
theorem sc_is_row : FnScope ["thing", "gap"] ["thing"] (defScope s_is_row) := ⟨rfl, rfl, rfl, by decide +kernel, rfl, by decide +kernel, by decide +kernel⟩
/-- BadChart -/
abbrev s_BadChart_init : Stmt := (inCls 7 0)
abbrev s_is_gap_right : Stmt := (top 39)
theorem sc_is_gap_right : FnScope ["many", "lefts", "rights", "gap"] ["many", "lefts", "rights", "gap"] (defScope s_is_gap_right) := ⟨rfl, rfl, rfl, by decide +kernel, rfl, by decide +kernel, by decide +kernel⟩
abbrev s_Chart_init : Stmt := (inCls 40 0)
theorem sc_Chart_init : FnScope ["self", "many", "lefts", "rights", "gap"] ["self", "many", "lefts", "rights"] (defScope s_Chart_init) := ⟨rfl, rfl, rfl, by decide +kernel, rfl, by decide +kernel, by decide +kernel⟩
abbrev s_chart_by : Stmt := (top 41)
theorem sc_chart_by : FnScope ["length", "log", "many", "lefts", "gap"] ["length", "log"] (defScope s_chart_by) := ⟨rfl, rfl, rfl, by decide +kernel, rfl, by decide +kernel, by decide +kernel⟩
/-- BadLog -/
abbrev s_BadLog_init : Stmt := (inCls 3 0)
abbrev s_need_log : Stmt := (top 23)
theorem sc_need_log : FnScope ["thing", "place", "edit"] ["thing"] (defScope s_need_log) := ⟨rfl, rfl, rfl, by decide +kernel, rfl, by decide +kernel, by decide +kernel⟩
abbrev s_chart_of : Stmt := (top 42)
theorem sc_chart_of : FnScope ["length", "log"] ["length", "log"] (defScope s_chart_of) := ⟨rfl, rfl, rfl, by decide +kernel, rfl, by decide +kernel, by decide +kernel⟩
abbrev s_Chart_eq : Stmt := (inCls 40 9)
theorem sc_Chart_eq : FnScope ["self", "other"] ["self", "other"] (defScope s_Chart_eq) := ⟨rfl, rfl, rfl, by decide +kernel, rfl, by decide +kernel, by decide +kernel⟩
abbrev s__law_among : Stmt := (top 46)
theorem sc__law_among : FnScope ["_law_m", "_law_some"] ["_law_m", "_law_some"] (defScope s__law_among) := ⟨rfl, rfl, rfl, by decide +kernel, rfl, by decide +kernel, by decide +kernel⟩
/-- _law_heard -/
abbrev s__law_heard : Stmt := (top 49)
def b__law_heard (mt : ME) : MS := (sSeq (sAsg (eC .non) (gN 1))
  (sSeq (sTry cs_ 2 1 (sExp mt))
  (sSeq (sIf (cBool (eBin bIs (eVar 1) (eC .non))) (sRet (eC (.str [116, 111, 108, 100]))) sPass)
  (sSeq (sIf (cTru (eCB (fIsX tb) (aCons (eVar 1) (aCons (eC (.cls "Missing")) aNil)))) (sRet (eIf (cTru (eCB (fIsX tb) (aCons (eVar 1) (aCons (eC (.ty "ValueError")) aNil)))) (eC (.str [111, 100, 100])) (eLst (aCons (eC (.str [109, 105, 115, 115, 105, 110, 103])) (aCons (eXf xf_given "given" (eVar 1)) aNil))))) sPass)
  (sSeq (sAsg (eLst (aCons (eCB (fIsX tb) (aCons (eVar 1) (aCons (eC (.cls "BadEdit")) aNil))) (aCons (eCB (fIsX tb) (aCons (eVar 1) (aCons (eC (.cls "BadLog")) aNil))) (aCons (eCB (fIsX tb) (aCons (eVar 1) (aCons (eC (.cls "BadLength")) aNil))) aNil)))) (gN 3))
  (sSeq (sAsg (eBin bAdd (eVar 3) (eLst (aCons (eCB (fIsX tb) (aCons (eVar 1) (aCons (eC (.cls "BadMark")) aNil))) (aCons (eCB (fIsX tb) (aCons (eVar 1) (aCons (eC (.cls "BadRange")) aNil))) (aCons (eCB (fIsX tb) (aCons (eVar 1) (aCons (eC (.cls "BadChart")) aNil))) aNil))))) (gN 3))
  (sSeq (sAsg (eBin bAdd (eVar 3) (eLst (aCons (eCB (fIsX tb) (aCons (eVar 1) (aCons (eC (.cls "OutOfText")) aNil))) (aCons (eCB (fIsX tb) (aCons (eVar 1) (aCons (eC (.cls "Unlike")) aNil))) aNil)))) (gN 3))
  (sSeq (sIf (cBool (eBin bNe (eMthL fCnt (eVar 3) (aCons (eC (.bl true)) aNil)) (eC (.int 1)))) (sRet (eC (.str [111, 100, 100]))) sPass)
  (sSeq (sAsg (eMthL fIdx (eVar 3) (aCons (eC (.bl true)) aNil)) (gN 4))
  (sSeq (sAsg (eBin bIx (eLst (aCons (eC (.str [101, 100, 105, 116])) (aCons (eC (.str [108, 111, 103])) (aCons (eC (.str [108, 101, 110, 103, 116, 104])) (aCons (eC (.str [109, 97, 114, 107])) (aCons (eC (.str [114, 97, 110, 103, 101])) (aCons (eC (.str [99, 104, 97, 114, 116])) (aCons (eC (.str [111, 117, 116])) (aCons (eC (.str [117, 110, 108, 105, 107, 101])) aNil))))))))) (eVar 4)) (gN 5))
  (sSeq (sIf (cBool (eBin bIn (eVar 4) (eTup (aCons (eC (.int 1)) (aCons (eC (.int 5)) (aCons (eC (.int 6)) aNil)))))) (sRet (eLst (aCons (eVar 5) (aCons (eXf xf_place "place" (eVar 1)) aNil)))) sPass)
  (sRet (eIf (cBool (eBin bLt (eVar 4) (eC (.int 7)))) (eLst (aCons (eVar 5) (aCons (eXf xf_given "given" (eVar 1)) aNil))) (eLst (aCons (eVar 5) (aCons (eXf xf_one "one" (eVar 1)) (aCons (eXf xf_other "other" (eVar 1)) aNil)))))))))))))))))
theorem sc__law_heard : FnScope ["_law_call", "_law_caught", "e", "_law_some", "_law_at", "_law_word"] ["_law_call"] (defScope s__law_heard) := ⟨rfl, rfl, rfl, by decide +kernel, rfl, by decide +kernel, by decide +kernel⟩
def h__law_heard (mt : Store → R D) : Store → R D := fun st => match mt st with
  | .ok _ st1 => .ok (.str [116, 111, 108, 100]) st1
  | .ex c ks vs st1 => if c = "BadEdit" ∧ ks = ["given"] ∧ vs.length = 1 then .ok (.lst [.str [101, 100, 105, 116], vs.getD 0 .non]) st1 else if c = "BadLength" ∧ ks = ["given"] ∧ vs.length = 1 then .ok (.lst [.str [108, 101, 110, 103, 116, 104], vs.getD 0 .non]) st1 else if c = "OutOfText" ∧ ks = ["place"] ∧ vs.length = 1 then .ok (.lst [.str [111, 117, 116], vs.getD 0 .non]) st1 else if c = "BadChart" ∧ ks = ["place"] ∧ vs.length = 1 then .ok (.lst [.str [99, 104, 97, 114, 116], vs.getD 0 .non]) st1 else if c = "BadLog" ∧ ks = ["place"] ∧ vs.length = 1 then .ok (.lst [.str [108, 111, 103], vs.getD 0 .non]) st1 else .bad
  | .bad => .bad
theorem hR__law_heard (fn : D) (mt : Store → R D) (st : Store) : h__law_heard mt st = .bad ∨ runF 6 1 (b__law_heard (eThunk fn mt)) [fn] st = h__law_heard mt st := by
  unfold h__law_heard
  have e0 : ∀ r : List (Option D), eThunk fn mt (some fn :: r) st = mt st := fun r => if_pos rfl
  have go : ∀ r : R D, mt st = r → runF 6 1 (b__law_heard (eThunk fn mt)) [fn] st = runF 6 1 (b__law_heard fun _ _ => r) [fn] st := fun r hr => by
    have e1 : eThunk fn mt (some fn :: some .non :: List.replicate 4 none) st = r := (e0 _).trans hr
    show _ = _
    simp only [runF, b__law_heard, sSeq, sAsg, eC, gN, sTry, sExp, R.toS, List.length_cons, List.length_nil, if_true, List.map, List.replicate, List.cons_append, List.nil_append, List.set, Nat.sub_self, SR.seq] at e1 ⊢
    rw [e1]
  cases e : mt st with
  | ok v st1 => exact .inr ((go _ e).trans rfl)
  | bad => exact .inl rfl
  | ex c ks vs st1 =>
    rw [go _ e]
    clear go e0 e
    simp only
    split
    · rename_i z
      obtain ⟨rfl, rfl, z⟩ := z
      match vs, z with
      | [v0], _ => exact .inr rfl
    split
    · rename_i z
      obtain ⟨rfl, rfl, z⟩ := z
      match vs, z with
      | [v0], _ => exact .inr rfl
    split
    · rename_i z
      obtain ⟨rfl, rfl, z⟩ := z
      match vs, z with
      | [v0], _ => exact .inr rfl
    split
    · rename_i z
      obtain ⟨rfl, rfl, z⟩ := z
      match vs, z with
      | [v0], _ => exact .inr rfl
    split
    · rename_i z
      obtain ⟨rfl, rfl, z⟩ := z
      match vs, z with
      | [v0], _ => exact .inr rfl
    exact .inl rfl
/-- _law_moved -/
abbrev s__law_moved : Stmt := (top 53)
def b__law_moved : MS := (sRet (eCB fTuple (aCons (eLc (iSeq (eVar 0)) (gT (gsCons (gN 2) (gsCons (gN 3) (gsCons (gN 4) gsNil)))) cYes (eTup (aCons (eVar 2) (aCons (eBin bAdd (eVar 3) (eVar 1)) (aCons (eVar 4) aNil)))) [2, 3, 4]) aNil)))
def f__law_moved : MF := runF 5 2 b__law_moved
theorem len__law_moved : ∀ ds st, ds.length ≠ 2 → f__law_moved ds st = .bad := runF_len
theorem sc__law_moved : FnScope ["_law_row", "_law_more", "_law_word", "_law_gap", "_law_many"] ["_law_row", "_law_more"] (defScope s__law_moved) := ⟨rfl, rfl, rfl, by decide +kernel, rfl, by decide +kernel, by decide +kernel⟩
/-- law -/
abbrev z_law_0 : MS := (sIf (cBool (eBin bNe (eCB fRepr (aCons (eCall f_ways_alike (aCons (eVar 11) (aCons (eVar 5) aNil))) aNil)) (eCB fRepr (aCons (eVar 8) aNil)))) (sRet (eC (.bl false))) sPass)
abbrev z_law_1 : MS := (sSeq (sIf (cBool (eBin bNe (eCall f_both_ways (aCons (eVar 11) (aCons (eVar 5) aNil))) (eTup (aCons (eCall f__law_moved (aCons (eVar 6) (aCons (eVar 10) aNil))) (aCons (eCall f__law_moved (aCons (eVar 7) (aCons (eVar 10) aNil))) aNil))))) (sRet (eC (.bl false))) sPass)
  z_law_0)
abbrev z_law_2 : MS := (sIf (cBool (eBin bGt (eVar 10) (eC (.int 0)))) (sSeq (sAsg (eCall f__law_moved (aCons (eTup (aCons (eVar 4) (aCons (eVar 5) aNil))) (aCons (eVar 10) aNil))) (gT (gsCons (gN 11) (gsCons (gN 5) gsNil))))
  z_law_1) sPass)
abbrev z_law_3 : MS := (sSeq (sAsg (eIf (cBool (eBin bLt (eVar 2) (eC (.int 4)))) (eCall f__law_among (aCons (eVar 1) (aCons (eLst (aCons (eC (.int 0)) (aCons (eC (.int 90)) (aCons (eC (.int 979)) aNil)))) aNil))) (eC (.int 0))) (gN 10))
  z_law_2)
abbrev z_law_4 : MS := (sSeq (sIf (cBool (eBin bNe (eCB fRepr (aCons (eHeard h__law_heard (eCall f_ways_alike (aCons (eVar 4) (aCons (eVar 9) aNil)))) aNil)) (eCB fRepr (aCons (eLst (aCons (eC (.str [101, 100, 105, 116])) (aCons (eVar 9) aNil))) aNil)))) (sRet (eC (.bl false))) sPass)
  z_law_3)
abbrev z_law_5 : MS := (sSeq (sAsg (eCall f__law_among (aCons (eVar 1) (aCons (eLst (aCons (eC .non) (aCons (eC (.int 5)) (aCons (eTup aNil) (aCons (eTup (aCons (eC (.str [105, 110])) (aCons (eC (.int 0)) aNil))) (aCons (eTup (aCons (eC (.str [111, 117, 116])) (aCons (eC (.int 0)) (aCons (eC (.int 0)) aNil)))) (aCons (eLst (aCons (eC (.str [105, 110])) (aCons (eC (.int 0)) (aCons (eC (.int 1)) aNil)))) aNil))))))) aNil))) (gN 9))
  z_law_4)
abbrev z_law_6 : MS := (sSeq (sIf (cBool (eBin bNe (eEqD "Chart" f_Chart_eq (eCall f_chart_of (aCons (eVar 3) (aCons (eVar 6) aNil))) (eCall f_chart_of (aCons (eVar 3) (aCons (eVar 7) aNil)))) (eVar 8))) (sRet (eC (.bl false))) sPass)
  z_law_5)
abbrev z_law_7 : MS := (sSeq (sIf (cBool (eBin bNe (eBin bEq (eCall f__law_chart (aCons (eVar 3) (aCons (eVar 6) aNil))) (eCall f__law_chart (aCons (eVar 3) (aCons (eVar 7) aNil)))) (eVar 8))) (sRet (eC (.bl false))) sPass)
  z_law_6)
abbrev z_law_8 : MS := (sSeq (sIf (cBool (eBin bNe (eCB fRepr (aCons (eLst (aCons (eCall f_ways_alike (aCons (eVar 4) (aCons (eVar 5) aNil))) (aCons (eCall f_ways_alike (aCons (eVar 5) (aCons (eVar 4) aNil))) aNil))) aNil)) (eCB fRepr (aCons (eLst (aCons (eVar 8) (aCons (eVar 8) aNil))) aNil)))) (sRet (eC (.bl false))) sPass)
  z_law_7)
abbrev z_law_9 : MS := (sSeq (sAsg (eAnd (eNot (eCall f__law_is_within (aCons (eVar 4) (aCons (eVar 5) aNil)))) (eNot (eCall f__law_is_within (aCons (eVar 5) (aCons (eVar 4) aNil))))) (gN 8))
  z_law_8)
abbrev z_law_10 : MS := (sSeq (sIf (cBool (eBin bNe (eCall f__law_signs (aCons (eVar 3) (aCons (eVar 6) (aCons (eC (.str [97, 98, 98, 98])) aNil)))) (eCall f__law_signs (aCons (eVar 3) (aCons (eVar 7) (aCons (eC (.str [98, 97, 97, 97])) aNil)))))) (sRet (eC (.bl false))) sPass)
  z_law_9)
abbrev z_law_11 : MS := (sSeq (sAsg (eCall f_both_ways (aCons (eVar 4) (aCons (eVar 5) aNil))) (gT (gsCons (gN 6) (gsCons (gN 7) gsNil))))
  z_law_10)
abbrev z_law_12 : MS := (sSeq (sAsg (eTup (aCons (eCall f__law_edit (aCons (eVar 1) (aCons (eVar 3) aNil))) (aCons (eCall f__law_edit (aCons (eVar 1) (aCons (eVar 3) aNil))) aNil))) (gT (gsCons (gN 4) (gsCons (gN 5) gsNil))))
  z_law_11)
abbrev z_law_13 : MS := (sSeq (sAsg (eBin bAdd (eC (.int 1)) (eCall f__law_draw (aCons (eVar 1) (aCons (eBin bIx (eLst (aCons (eC (.int 4)) (aCons (eC (.int 20)) aNil))) (eCall f__law_draw (aCons (eVar 1) (aCons (eC (.int 2)) aNil)))) aNil)))) (gN 3))
  z_law_12)
abbrev z_law_14 : MS := (sSeq (sFor (iRng1 (aCons (eBin bAdd (eC (.int 8)) (eCB fMin (aCons (eC (.int 60)) (aCons (eCB fLen (aCons (eVar 0) aNil)) aNil)))) aNil)) (gN 2) z_law_13)
  (sRet (eC (.bl true))))
abbrev s_law : Stmt := (top 54)
def b_law : MS := (sSeq (sAsg (eCall f__law_begun (aCons (eVar 0) aNil)) (gN 1))
  z_law_14)
def f_law : MF := runF 12 1 b_law
theorem len_law : ∀ ds st, ds.length ≠ 1 → f_law ds st = .bad := runF_len
theorem sc_law : FnScope ["_law_script", "_law_m", "_law_turn", "_law_length", "_law_one", "_law_other", "_law_way", "_law_far", "_law_is_so", "_law_odd", "_law_more", "_law_near"] ["_law_script"] (defScope s_law) := ⟨rfl, rfl, rfl, by decide +kernel, rfl, by decide +kernel, by decide +kernel⟩
end
/-! ### what the walk leans on -/
structure Facts [TabC] (K : PySem.W.Frag) (mg : Str → Option Value) (base : Heap) : Prop where
  free_len : mg "len" = none
  free_enumerate : mg "enumerate" = none
  free_int : mg "int" = none
  def__law_begun : ∃ fd, FunD K "_law_begun" "_law_begun" (defArgs s__law_begun) (defBody s__law_begun) (defScope s__law_begun) [] [] (He.ga K "_law_begun") fd
  glo__law_begun : mg "_law_begun" = some (.ref (He.ga K "_law_begun"))
  free_min : mg "min" = none
  free_range : mg "range" = none
  def__law_draw : ∃ fd, FunD K "_law_draw" "_law_draw" (defArgs s__law_draw) (defBody s__law_draw) (defScope s__law_draw) [] [] (He.ga K "_law_draw") fd
  glo__law_draw : mg "_law_draw" = some (.ref (He.ga K "_law_draw"))
  def__law_edit : ∃ fd, FunD K "_law_edit" "_law_edit" (defArgs s__law_edit) (defBody s__law_edit) (defScope s__law_edit) [] [] (He.ga K "_law_edit") fd
  glo__law_edit : mg "_law_edit" = some (.ref (He.ga K "_law_edit"))
  free_str : mg "str" = none
  free_isinstance : mg "isinstance" = none
  free_tuple : mg "tuple" = none
  con_OUT : ∃ t, mg "OUT" = some (.str "out" t)
  con_IN : ∃ t, mg "IN" = some (.str "in" t)
  free_bool : mg "bool" = none
  def_is_integer : ∃ fd, FunD K "is_integer" "is_integer" (defArgs s_is_integer) (defBody s_is_integer) (defScope s_is_integer) [] [] (He.ga K "is_integer") fd
  con_MOST_MANY : ∃ t, mg "MOST_MANY" = some (.int 9 t)
  glo_is_integer : mg "is_integer" = some (.ref (He.ga K "is_integer"))
  con_MOST_GAP : ∃ t, mg "MOST_GAP" = some (.int 999 t)
  def_is_edit : ∃ fd, FunD K "is_edit" "is_edit" (defArgs s_is_edit) (defBody s_is_edit) (defScope s_is_edit) [] [] (He.ga K "is_edit") fd
  glo_is_edit : mg "is_edit" = some (.ref (He.ga K "is_edit"))
  glo_BadEdit : mg "BadEdit" = some (.ref (He.ga K "BadEdit"))
  glo_MarkError : mg "MarkError" = some (.ref (He.ga K "MarkError"))
  def_BadEdit_init : ∃ fd, FunD K "__init__" "BadEdit.__init__" (defArgs s_BadEdit_init) (defBody s_BadEdit_init) (defScope s_BadEdit_init) [] [] (He.ma K (He.ga K "BadEdit") "__init__") fd
  base_MarkError : BaseI K mg "MarkError" (He.ga K "MarkError")
  exc_BadEdit : ExcF K mg "BadEdit" (He.ga K "BadEdit") (He.ma K (He.ga K "BadEdit") "__init__") ∧ ExcC K (He.ga K "BadEdit")
  noat_BadEdit_given : NoAttr K (He.ga K "BadEdit") "given"
  def_need_edit : ∃ fd, FunD K "need_edit" "need_edit" (defArgs s_need_edit) (defBody s_need_edit) (defScope s_need_edit) [] [] (He.ga K "need_edit") fd
  glo_need_edit : mg "need_edit" = some (.ref (He.ga K "need_edit"))
  con_LEFT : ∃ t, mg "LEFT" = some (.str "left" t)
  free_max : mg "max" = none
  def_gap_behind : ∃ fd, FunD K "gap_behind" "gap_behind" (defArgs s_gap_behind) (defBody s_gap_behind) (defScope s_gap_behind) [] [] (He.ga K "gap_behind") fd
  con_RIGHT : ∃ t, mg "RIGHT" = some (.str "right" t)
  glo_gap_behind : mg "gap_behind" = some (.ref (He.ga K "gap_behind"))
  def_still_there : ∃ fd, FunD K "still_there" "still_there" (defArgs s_still_there) (defBody s_still_there) (defScope s_still_there) [] [] (He.ga K "still_there") fd
  glo_still_there : mg "still_there" = some (.ref (He.ga K "still_there"))
  def_done_behind : ∃ fd, FunD K "done_behind" "done_behind" (defArgs s_done_behind) (defBody s_done_behind) (defScope s_done_behind) [] [] (He.ga K "done_behind") fd
  glo_done_behind : mg "done_behind" = some (.ref (He.ga K "done_behind"))
  def_both_ways : ∃ fd, FunD K "both_ways" "both_ways" (defArgs s_both_ways) (defBody s_both_ways) (defScope s_both_ways) [] [] (He.ga K "both_ways") fd
  glo_both_ways : mg "both_ways" = some (.ref (He.ga K "both_ways"))
  free_list : mg "list" = none
  def__law_signs : ∃ fd, FunD K "_law_signs" "_law_signs" (defArgs s__law_signs) (defBody s__law_signs) (defScope s__law_signs) [] [] (He.ga K "_law_signs") fd
  glo__law_signs : mg "_law_signs" = some (.ref (He.ga K "_law_signs"))
  def__law_is_within : ∃ fd, FunD K "_law_is_within" "_law_is_within" (defArgs s__law_is_within) (defBody s__law_is_within) (defScope s__law_is_within) [] [] (He.ga K "_law_is_within") fd
  glo__law_is_within : mg "_law_is_within" = some (.ref (He.ga K "_law_is_within"))
  def_reach_of : ∃ fd, FunD K "reach_of" "reach_of" (defArgs s_reach_of) (defBody s_reach_of) (defScope s_reach_of) [] [] (He.ga K "reach_of") fd
  glo_reach_of : mg "reach_of" = some (.ref (He.ga K "reach_of"))
  def_carried : ∃ fd, FunD K "carried" "carried" (defArgs s_carried) (defBody s_carried) (defScope s_carried) [] [] (He.ga K "carried") fd
  glo_carried : mg "carried" = some (.ref (He.ga K "carried"))
  free_any : mg "any" = none
  def_ways_alike : ∃ fd, FunD K "ways_alike" "ways_alike" (defArgs s_ways_alike) (defBody s_ways_alike) (defScope s_ways_alike) [] [] (He.ga K "ways_alike") fd
  glo_ways_alike : mg "ways_alike" = some (.ref (He.ga K "ways_alike"))
  sys : Sys K
  free_repr : mg "repr" = none
  def__law_rows : ∃ fd, FunD K "_law_rows" "_law_rows" (defArgs s__law_rows) (defBody s__law_rows) (defScope s__law_rows) [] [] (He.ga K "_law_rows") fd
  glo__law_rows : mg "_law_rows" = some (.ref (He.ga K "_law_rows"))
  def__law_chart : ∃ fd, FunD K "_law_chart" "_law_chart" (defArgs s__law_chart) (defBody s__law_chart) (defScope s__law_chart) [] [] (He.ga K "_law_chart") fd
  glo__law_chart : mg "_law_chart" = some (.ref (He.ga K "_law_chart"))
  con_MOST_LENGTH : ∃ t, mg "MOST_LENGTH" = some (.int 100 t)
  glo_BadLength : mg "BadLength" = some (.ref (He.ga K "BadLength"))
  def_BadLength_init : ∃ fd, FunD K "__init__" "BadLength.__init__" (defArgs s_BadLength_init) (defBody s_BadLength_init) (defScope s_BadLength_init) [] [] (He.ma K (He.ga K "BadLength") "__init__") fd
  exc_BadLength : ExcF K mg "BadLength" (He.ga K "BadLength") (He.ma K (He.ga K "BadLength") "__init__") ∧ ExcC K (He.ga K "BadLength")
  noat_BadLength_given : NoAttr K (He.ga K "BadLength") "given"
  def_need_length : ∃ fd, FunD K "need_length" "need_length" (defArgs s_need_length) (defBody s_need_length) (defScope s_need_length) [] [] (He.ga K "need_length") fd
  glo_need_length : mg "need_length" = some (.ref (He.ga K "need_length"))
  glo_OutOfText : mg "OutOfText" = some (.ref (He.ga K "OutOfText"))
  def_OutOfText_init : ∃ fd, FunD K "__init__" "OutOfText.__init__" (defArgs s_OutOfText_init) (defBody s_OutOfText_init) (defScope s_OutOfText_init) [] [] (He.ma K (He.ga K "OutOfText") "__init__") fd
  exc_OutOfText : ExcF K mg "OutOfText" (He.ga K "OutOfText") (He.ma K (He.ga K "OutOfText") "__init__") ∧ ExcC K (He.ga K "OutOfText")
  noat_OutOfText_place : NoAttr K (He.ga K "OutOfText") "place"
  def_grown : ∃ fd, FunD K "grown" "grown" (defArgs s_grown) (defBody s_grown) (defScope s_grown) [] [] (He.ga K "grown") fd
  glo_grown : mg "grown" = some (.ref (He.ga K "grown"))
  con_MOST_GAPS : ∃ t, mg "MOST_GAPS" = some (.int 101 t)
  free_all : mg "all" = none
  def_is_row : ∃ fd, FunD K "is_row" "is_row" (defArgs s_is_row) (defBody s_is_row) (defScope s_is_row) [] [] (He.ga K "is_row") fd
  glo_is_row : mg "is_row" = some (.ref (He.ga K "is_row"))
  con_MOST_BEHIND : ∃ t, mg "MOST_BEHIND" = some (.int 500 t)
  glo_BadChart : mg "BadChart" = some (.ref (He.ga K "BadChart"))
  def_BadChart_init : ∃ fd, FunD K "__init__" "BadChart.__init__" (defArgs s_BadChart_init) (defBody s_BadChart_init) (defScope s_BadChart_init) [] [] (He.ma K (He.ga K "BadChart") "__init__") fd
  exc_BadChart : ExcF K mg "BadChart" (He.ga K "BadChart") (He.ma K (He.ga K "BadChart") "__init__") ∧ ExcC K (He.ga K "BadChart")
  noat_BadChart_place : NoAttr K (He.ga K "BadChart") "place"
  def_is_gap_right : ∃ fd, FunD K "is_gap_right" "is_gap_right" (defArgs s_is_gap_right) (defBody s_is_gap_right) (defScope s_is_gap_right) [] [] (He.ga K "is_gap_right") fd
  glo_is_gap_right : mg "is_gap_right" = some (.ref (He.ga K "is_gap_right"))
  glo_Chart : mg "Chart" = some (.ref (He.ga K "Chart"))
  cls_Chart : Cls K (He.ga K "Chart")
  noat_Chart_own_many : NoAttr K (He.ga K "Chart") "own_many"
  noat_Chart_own_lefts : NoAttr K (He.ga K "Chart") "own_lefts"
  noat_Chart_own_rights : NoAttr K (He.ga K "Chart") "own_rights"
  noat_Chart_own_signs : NoAttr K (He.ga K "Chart") "own_signs"
  def_Chart_init : ∃ fd, FunD K "__init__" "Chart.__init__" (defArgs s_Chart_init) (defBody s_Chart_init) (defScope s_Chart_init) [] [] (He.ma K (He.ga K "Chart") "__init__") fd
  mk_Chart : Mk K (He.ga K "Chart") (He.ma K (He.ga K "Chart") "__init__")
  def_chart_by : ∃ fd, FunD K "chart_by" "chart_by" (defArgs s_chart_by) (defBody s_chart_by) (defScope s_chart_by) [] [] (He.ga K "chart_by") fd
  con_MOST_EDITS : ∃ t, mg "MOST_EDITS" = some (.int 40 t)
  glo_BadLog : mg "BadLog" = some (.ref (He.ga K "BadLog"))
  def_BadLog_init : ∃ fd, FunD K "__init__" "BadLog.__init__" (defArgs s_BadLog_init) (defBody s_BadLog_init) (defScope s_BadLog_init) [] [] (He.ma K (He.ga K "BadLog") "__init__") fd
  exc_BadLog : ExcF K mg "BadLog" (He.ga K "BadLog") (He.ma K (He.ga K "BadLog") "__init__") ∧ ExcC K (He.ga K "BadLog")
  noat_BadLog_place : NoAttr K (He.ga K "BadLog") "place"
  def_need_log : ∃ fd, FunD K "need_log" "need_log" (defArgs s_need_log) (defBody s_need_log) (defScope s_need_log) [] [] (He.ga K "need_log") fd
  glo_need_log : mg "need_log" = some (.ref (He.ga K "need_log"))
  glo_chart_by : mg "chart_by" = some (.ref (He.ga K "chart_by"))
  def_chart_of : ∃ fd, FunD K "chart_of" "chart_of" (defArgs s_chart_of) (defBody s_chart_of) (defScope s_chart_of) [] [] (He.ga K "chart_of") fd
  glo_chart_of : mg "chart_of" = some (.ref (He.ga K "chart_of"))
  isc_Chart : ClsF K mg "Chart" (He.ga K "Chart")
  def_Chart_eq : ∃ fd, FunD K "__eq__" "Chart.__eq__" (defArgs s_Chart_eq) (defBody s_Chart_eq) (defScope s_Chart_eq) [] [] (He.ma K (He.ga K "Chart") "__eq__") fd
  meth_Chart_eq : Meth K (He.ga K "Chart") "__eq__" (He.ma K (He.ga K "Chart") "__eq__")
  def__law_among : ∃ fd, FunD K "_law_among" "_law_among" (defArgs s__law_among) (defBody s__law_among) (defScope s__law_among) [] [] (He.ga K "_law_among") fd
  glo__law_among : mg "_law_among" = some (.ref (He.ga K "_law_among"))
  any : ∀ c ∈ cs_, ∃ C, mg (Str.ofString c) = some (.ref C) ∧ PySem.W.exmAny K (.ref C) [.ref (He.ga K "MarkError"), .ref (He.ga K "Missing")] = some true
  glo_Missing : mg "Missing" = some (.ref (He.ga K "Missing"))
  free_ValueError : mg "ValueError" = none
  glo_BadMark : mg "BadMark" = some (.ref (He.ga K "BadMark"))
  glo_BadRange : mg "BadRange" = some (.ref (He.ga K "BadRange"))
  glo_Unlike : mg "Unlike" = some (.ref (He.ga K "Unlike"))
  def__law_heard : ∃ fd, FunD K "_law_heard" "_law_heard" (defArgs s__law_heard) (defBody s__law_heard) (defScope s__law_heard) [] [] (He.ga K "_law_heard") fd
  lam_law : LamF K mg base (He.ga K "law") "law.<locals>.<lambda>" (cA K ("law", none)) (tA K ("law", none))
  glo__law_heard : mg "_law_heard" = some (.ref (He.ga K "_law_heard"))
  def__law_moved : ∃ fd, FunD K "_law_moved" "_law_moved" (defArgs s__law_moved) (defBody s__law_moved) (defScope s__law_moved) [] [] (He.ga K "_law_moved") fd
  glo__law_moved : mg "_law_moved" = some (.ref (He.ga K "_law_moved"))
  def_law : ∃ fd, FunD K "law" "law" (defArgs s_law) (defBody s_law) (defScope s_law) [] [] (He.ga K "law") fd
  tbl : TblOk K mg tb
  xf_given : ∀ c ∈ xf_given, ∃ C, mg (Str.ofString c) = some (.ref C) ∧ ExcC K C ∧ PySem.W.findIn K (.ref C) (Str.ofString "given") = some none
  xf_place : ∀ c ∈ xf_place, ∃ C, mg (Str.ofString c) = some (.ref C) ∧ ExcC K C ∧ PySem.W.findIn K (.ref C) (Str.ofString "place") = some none
  xf_one : ∀ c ∈ xf_one, ∃ C, mg (Str.ofString c) = some (.ref C) ∧ ExcC K C ∧ PySem.W.findIn K (.ref C) (Str.ofString "one") = some none
  xf_other : ∀ c ∈ xf_other, ∃ C, mg (Str.ofString c) = some (.ref C) ∧ ExcC K C ∧ PySem.W.findIn K (.ref C) (Str.ofString "other") = some none
section
variable [TabC] {P : Program} {w : World} {K : PySem.W.Frag} {mg : Str → Option Value} {base : Heap}
theorem fn__law_begun (h : Facts K mg base) : Fn P w K mg base 1 (He.ga K "_law_begun") ["_law_script"] f__law_begun := by
  obtain ⟨fd, F⟩ := h.def__law_begun
  have bn : Binds K fd ["_law_script"] [] := F.bindsN fun _ _ _ _ _ _ us hl => match us, hl with | [_], _ => rfl
  have r : Fn P w K mg base 1 (He.ga K "_law_begun") ["_law_script"] (runF 4 1 b__law_begun) := fn_mkN b__law_begun rfl rfl F sc__law_begun bn fun cdv A outer s H E hc hr hq => (ss_cons (ss_set sc__law_begun.nd (i := 1) rfl (by first | exact Or.inl rfl | exact Or.inr rfl) (se_add se_int (se_mul se_int (se_len rfl h.free_len (sa_cons (se_var 0) sa_nil)))))
  (ss_cons (ss_for rfl (si_enum rfl h.free_enumerate (se_var 0)) (sg_tup rfl (sgs_cons (sg_name sc__law_begun.nd (i := 2) rfl (by first | exact Or.inl rfl | exact Or.inr rfl)) (sgs_cons (sg_name sc__law_begun.nd (i := 3) rfl (by first | exact Or.inl rfl | exact Or.inr rfl)) sgs_nil)) (glen_cons (glen_cons glen_nil))) (ss_one (ss_set sc__law_begun.nd (i := 1) rfl (by first | exact Or.inl rfl | exact Or.inr rfl) (se_mod (se_int1 rfl h.free_int (sa_cons (se_add (se_add (se_mul (se_var 1) se_int) (se_var 3)) (se_mul se_int (se_var 2))) sa_nil)) se_int))))
  (ss_one (ss_ret (se_disp (sp_cons (se_str [103, 114, 101, 97, 116]) (se_lcM (own := [("_law_cell", 3)]) rfl sc__law_begun.nd (si_seq (se_var 0)) (blkOk_by (by show blkC ["_law_script", "_law_number", "_law_at", "_law_cell"] (defScope s__law_begun) _ _ = true; decide +kernel)) (by decide) (fun _ _ _ _ _ => (sg_name sc__law_begun.nd (i := 3) rfl (by first | exact Or.inl rfl | exact Or.inr rfl))) (fun _ _ _ _ _ => (sts_one (st_ge (se_var 3) (se_pow se_int se_int)))) (fun _ _ _ _ _ => (se_var 3))) (sp_cons (se_str [110, 117, 109, 98, 101, 114]) (se_var 1) (sp_cons (se_str [116, 117, 114, 110]) se_int sp_nil))))))))
  exact r
theorem fn__law_draw (h : Facts K mg base) : Fn P w K mg base 1 (He.ga K "_law_draw") ["_law_m", "_law_many"] f__law_draw := by
  obtain ⟨fd, F⟩ := h.def__law_draw
  have bn : Binds K fd ["_law_m", "_law_many"] [] := F.bindsN fun _ _ _ _ _ _ us hl => match us, hl with | [_, _], _ => rfl
  have r : Fn P w K mg base 1 (He.ga K "_law_draw") ["_law_m", "_law_many"] (runF 5 2 b__law_draw) := fn_mkN b__law_draw rfl rfl F sc__law_draw bn fun cdv A outer s H E hc hr hq => (ss_cons (ss_set sc__law_draw.nd (i := 2) rfl (by first | exact Or.inl rfl | exact Or.inr rfl) (se_sub_ix hr (se_var 0) (se_str [103, 114, 101, 97, 116]) (fun _ _ => rfl)))
  (ss_cons (ss_while 1000 (SW.st (sw_and (st_ne hr (se_var 2) (se_lst sa_nil)) (sw_and1 (st_eq hr (se_sub_ix hr (se_var 2) se_int (fun _ _ => rfl)) se_int)))) (ss_one (ss_exp (se_pop (se_var 2) (sa_cons se_int sa_nil)))))
  (ss_cons (ss_if (st_ne hr (se_var 2) (se_lst sa_nil)) (ss_cons (ss_set sc__law_draw.nd (i := 3) rfl (by first | exact Or.inl rfl | exact Or.inr rfl) (se_mod (se_int1 rfl h.free_int (sa_cons (se_sub_ix hr (se_var 2) se_int (fun _ _ => rfl)) sa_nil)) (se_var 1)))
  (ss_cons (ss_setix hr (se_div (se_sub_ix hr (se_var 2) se_int (fun _ _ => rfl)) (se_var 1)) (se_var 2) se_int)
  (ss_one (ss_ret (se_var 3))))) ss_nil)
  (ss_cons (ss_setix hr (se_add (se_sub_ix hr (se_var 0) (se_str [116, 117, 114, 110]) (fun _ _ => rfl)) se_int) (se_var 0) (se_str [116, 117, 114, 110]))
  (ss_cons (ss_set sc__law_draw.nd (i := 4) rfl (by first | exact Or.inl rfl | exact Or.inr rfl) (se_add (se_mul (se_sub_ix hr (se_var 0) (se_str [110, 117, 109, 98, 101, 114]) (fun _ _ => rfl)) se_int) se_int))
  (ss_cons (ss_set sc__law_draw.nd (i := 4) rfl (by first | exact Or.inl rfl | exact Or.inr rfl) (se_add (se_var 4) (se_mul se_int (se_sub_ix hr (se_var 0) (se_str [116, 117, 114, 110]) (fun _ _ => rfl)))))
  (ss_cons (ss_setix hr (se_mod (se_int1 rfl h.free_int (sa_cons (se_var 4) sa_nil)) se_int) (se_var 0) (se_str [110, 117, 109, 98, 101, 114]))
  (ss_one (ss_ret (se_mod (se_int1 rfl h.free_int (sa_cons (se_div (se_sub_ix hr (se_var 0) (se_str [110, 117, 109, 98, 101, 114]) (fun _ _ => rfl)) se_int) sa_nil)) (se_var 1)))))))))))
  exact r
theorem fn__law_edit (h : Facts K mg base) : Fn P w K mg base 2 (He.ga K "_law_edit") ["_law_m", "_law_length"] f__law_edit := by
  obtain ⟨fd, F⟩ := h.def__law_edit
  have bn : Binds K fd ["_law_m", "_law_length"] [] := F.bindsN fun _ _ _ _ _ _ us hl => match us, hl with | [_, _], _ => rfl
  have r : Fn P w K mg base 2 (He.ga K "_law_edit") ["_law_m", "_law_length"] (runF 4 2 b__law_edit) := fn_mkN b__law_edit rfl rfl F sc__law_edit bn fun cdv A outer s H E hc hr hq => (ss_cons (ss_par2 (i := 2) (j := 3) rfl sc__law_edit.nd rfl rfl (by decide) rfl rfl (sa_cons (se_call ((fn__law_draw h).mono (by decide)) hr hq rfl h.glo__law_draw (sa_cons (se_var 0) (sa_cons (se_add (se_var 1) se_int) sa_nil)) (hn := len__law_draw)) (sa_cons (se_add se_int (se_call ((fn__law_draw h).mono (by decide)) hr hq rfl h.glo__law_draw (sa_cons (se_var 0) (sa_cons se_int sa_nil)) (hn := len__law_draw))) sa_nil)) rfl)
  (ss_cons (ss_if (SW.st (sw_and (st_eq hr (se_call ((fn__law_draw h).mono (by decide)) hr hq rfl h.glo__law_draw (sa_cons (se_var 0) (sa_cons se_int sa_nil)) (hn := len__law_draw)) se_int) (sw_and1 (st_lt (se_var 2) (se_var 1))))) (ss_one (ss_ret (se_tup (sa_cons (se_str [111, 117, 116]) (sa_cons (se_var 2) (sa_cons (se_min rfl rfl h.free_min (sa_cons (se_var 3) (sa_cons (se_sub (se_var 1) (se_var 2)) sa_nil))) sa_nil)))))) ss_nil)
  (ss_one (ss_ret (se_tup (sa_cons (se_str [105, 110]) (sa_cons (se_var 2) (sa_cons (se_var 3) sa_nil))))))))
  exact r
theorem fn_is_integer (h : Facts K mg base) : Fn P w K mg base 1 (He.ga K "is_integer") ["thing", "least", "most"] f_is_integer := by
  obtain ⟨fd, F⟩ := h.def_is_integer
  have bn : Binds K fd ["thing", "least", "most"] [] := F.bindsN fun _ _ _ _ _ _ us hl => match us, hl with | [_, _, _], _ => rfl
  have r : Fn P w K mg base 1 (He.ga K "is_integer") ["thing", "least", "most"] (runF 3 3 b_is_integer) := fn_mkN b_is_integer rfl rfl F sc_is_integer bn fun cdv A outer s H E hc hr hq => (ss_one (ss_ret (se_and (se_isi rfl h.free_isinstance (sa_cons (se_var 0) (sa_cons (se_ty "int" rfl h.free_int (by decide +kernel)) sa_nil))) (se_and (se_not (se_isi rfl h.free_isinstance (sa_cons (se_var 0) (sa_cons (se_ty "bool" rfl h.free_bool (by decide +kernel)) sa_nil)))) (se_one (se_lele (se_var 1) (se_var 0) (se_var 2)))))))
  exact r
theorem fn_is_edit (h : Facts K mg base) : Fn P w K mg base 2 (He.ga K "is_edit") ["thing"] f_is_edit := by
  obtain ⟨fd, F⟩ := h.def_is_edit
  have bn : Binds K fd ["thing"] [] := F.bindsN fun _ _ _ _ _ _ us hl => match us, hl with | [_], _ => rfl
  have r : Fn P w K mg base 2 (He.ga K "is_edit") ["thing"] (runF 1 1 b_is_edit) := fn_mkN b_is_edit rfl rfl F sc_is_edit bn fun cdv A outer s H E hc hr hq => (ss_cons (ss_if (SW.st (sw_or (st_not (st_tru (se_isi rfl h.free_isinstance (sa_cons (se_var 0) (sa_cons (se_ty "tuple" rfl h.free_tuple (by decide +kernel)) sa_nil))))) (sw_or (st_ne hr (se_len rfl h.free_len (sa_cons (se_var 0) sa_nil)) se_int) (sw_or1 (st_not (st_tru (se_isi rfl h.free_isinstance (sa_cons (se_sub_ix hr (se_var 0) se_int (fun _ _ => rfl)) (sa_cons (se_ty "str" rfl h.free_str (by decide +kernel)) sa_nil))))))))) (ss_one (ss_ret se_bl)) ss_nil)
  (ss_cons (ss_if (SW.st (sw_and (st_ne hr (se_sub_ix hr (se_var 0) se_int (fun _ _ => rfl)) (se_gstr [105, 110] rfl h.con_IN)) (sw_and1 (st_ne hr (se_sub_ix hr (se_var 0) se_int (fun _ _ => rfl)) (se_gstr [111, 117, 116] rfl h.con_OUT))))) (ss_one (ss_ret se_bl)) ss_nil)
  (ss_one (ss_ret (se_and (se_call ((fn_is_integer h).mono (by decide)) hr hq rfl h.glo_is_integer (sa_cons (se_sub_ix hr (se_var 0) se_int (fun _ _ => rfl)) (sa_cons se_int (sa_cons (se_gint rfl h.con_MOST_GAP) sa_nil))) (hn := len_is_integer)) (se_one (se_call ((fn_is_integer h).mono (by decide)) hr hq rfl h.glo_is_integer (sa_cons (se_sub_ix hr (se_var 0) se_int (fun _ _ => rfl)) (sa_cons se_int (sa_cons (se_gint rfl h.con_MOST_MANY) sa_nil))) (hn := len_is_integer))))))))
  exact r
theorem exi_BadEdit (h : Facts K mg base) : ∃ fd, FnOk P w K mg base (L2.CX P w) 1 (He.ma K (He.ga K "BadEdit") "__init__") fd ["self", "given"] (spX1 K "given") ∧ Binds K fd ["self", "given"] [] := by
  obtain ⟨fd, F⟩ := h.def_BadEdit_init
  exact ⟨fd, fn_exI1 "not an edit" F ⟨rfl, rfl, rfl, by decide +kernel, rfl, by decide +kernel, by decide +kernel⟩ (fun cdv A outer s H E => pss_cons (ps_expr (pe_baseI (B := He.ga K "MarkError") rfl h.base_MarkError (pa_cons (pv 0) (pa_cons pe_str pa_nil)) (by decide))) (pss_one (ps_ost (pv 0) (pv 1)))), F.bindsN fun _ _ _ _ _ _ us hl => match us, hl with | [_, _], _ => rfl⟩
theorem fn_need_edit (h : Facts K mg base) : Fn P w K mg base 3 (He.ga K "need_edit") ["thing"] f_need_edit := by
  obtain ⟨fd, F⟩ := h.def_need_edit
  have bn : Binds K fd ["thing"] [] := F.bindsN fun _ _ _ _ _ _ us hl => match us, hl with | [_], _ => rfl
  have r : Fn P w K mg base 3 (He.ga K "need_edit") ["thing"] (runF 1 1 b_need_edit) := fn_mkN b_need_edit rfl rfl F sc_need_edit bn fun cdv A outer s H E hc hr hq => (ss_cons (ss_if (st_not (st_tru (se_call ((fn_is_edit h).mono (by decide)) hr hq rfl h.glo_is_edit (sa_cons (se_var 0) sa_nil) (hn := len_is_edit)))) (ss_one (ss_raise1 (c := "BadEdit") (f := "given") rfl h.exc_BadEdit.1 h.noat_BadEdit_given (exi_BadEdit h) (hr.mono (by decide)) rfl (sa_cons (se_var 0) sa_nil))) ss_nil)
  (ss_one (ss_ret (se_var 0))))
  exact r
theorem fn_gap_behind (h : Facts K mg base) : Fn P w K mg base 1 (He.ga K "gap_behind") ["edit", "gap", "lean"] f_gap_behind := by
  obtain ⟨fd, F⟩ := h.def_gap_behind
  have bn : Binds K fd ["edit", "gap", "lean"] [] := F.bindsN fun _ _ _ _ _ _ us hl => match us, hl with | [_, _, _], _ => rfl
  have r : Fn P w K mg base 1 (He.ga K "gap_behind") ["edit", "gap", "lean"] (runF 6 3 b_gap_behind) := fn_mkN b_gap_behind rfl rfl F sc_gap_behind bn fun cdv A outer s H E hc hr hq => (ss_cons (ss_asg (se_var 0) (sg_tup rfl (sgs_cons (sg_name sc_gap_behind.nd (i := 3) rfl (by first | exact Or.inl rfl | exact Or.inr rfl)) (sgs_cons (sg_name sc_gap_behind.nd (i := 4) rfl (by first | exact Or.inl rfl | exact Or.inr rfl)) (sgs_cons (sg_name sc_gap_behind.nd (i := 5) rfl (by first | exact Or.inl rfl | exact Or.inr rfl)) sgs_nil))) (glen_cons (glen_cons (glen_cons glen_nil)))))
  (ss_cons (ss_if (st_eq hr (se_var 3) (se_gstr [105, 110] rfl h.con_IN)) (ss_one (ss_ret (se_if (SW.st (sw_or (st_lt (se_var 1) (se_var 4)) (sw_or1 (SW.st (sw_and (st_eq hr (se_var 1) (se_var 4)) (sw_and1 (st_eq hr (se_var 2) (se_gstr [108, 101, 102, 116] rfl h.con_LEFT)))))))) (se_var 1) (se_add (se_var 1) (se_var 5))))) ss_nil)
  (ss_one (ss_ret (se_if (st_le (se_var 1) (se_var 4)) (se_var 1) (se_max rfl rfl h.free_max (sa_cons (se_var 4) (sa_cons (se_sub (se_var 1) (se_var 5)) sa_nil))))))))
  exact r
theorem fn_still_there (h : Facts K mg base) : Fn P w K mg base 2 (He.ga K "still_there") ["edit", "other"] f_still_there := by
  obtain ⟨fd, F⟩ := h.def_still_there
  have bn : Binds K fd ["edit", "other"] [] := F.bindsN fun _ _ _ _ _ _ us hl => match us, hl with | [_, _], _ => rfl
  have r : Fn P w K mg base 2 (He.ga K "still_there") ["edit", "other"] (runF 9 2 b_still_there) := fn_mkN b_still_there rfl rfl F sc_still_there bn fun cdv A outer s H E hc hr hq => (ss_cons (ss_asg (se_var 1) (sg_tup rfl (sgs_cons (sg_name sc_still_there.nd (i := 2) rfl (by first | exact Or.inl rfl | exact Or.inr rfl)) (sgs_cons (sg_name sc_still_there.nd (i := 3) rfl (by first | exact Or.inl rfl | exact Or.inr rfl)) (sgs_cons (sg_name sc_still_there.nd (i := 4) rfl (by first | exact Or.inl rfl | exact Or.inr rfl)) sgs_nil))) (glen_cons (glen_cons (glen_cons glen_nil)))))
  (ss_cons (ss_par2 (i := 5) (j := 6) rfl sc_still_there.nd rfl rfl (by decide) rfl rfl (sa_cons (se_sub_ix hr (se_var 0) se_int (fun _ _ => rfl)) (sa_cons (se_add (se_sub_ix hr (se_var 0) se_int (fun _ _ => rfl)) (se_sub_ix hr (se_var 0) se_int (fun _ _ => rfl))) sa_nil)) rfl)
  (ss_cons (ss_if (st_eq hr (se_var 2) (se_gstr [105, 110] rfl h.con_IN)) (ss_cons (ss_if (st_ltlt (se_var 5) (se_var 3) (se_var 6)) (ss_one (ss_ret (se_lst (sa_cons (se_tup (sa_cons (se_var 5) (sa_cons (se_sub (se_var 3) (se_var 5)) sa_nil))) (sa_cons (se_tup (sa_cons (se_add (se_var 3) (se_var 4)) (sa_cons (se_sub (se_var 6) (se_var 3)) sa_nil))) sa_nil))))) ss_nil)
  (ss_one (ss_ret (se_lst (sa_cons (se_tup (sa_cons (se_if (st_le (se_var 3) (se_var 5)) (se_add (se_var 5) (se_var 4)) (se_var 5)) (sa_cons (se_sub_ix hr (se_var 0) se_int (fun _ _ => rfl)) sa_nil))) sa_nil))))) ss_nil)
  (ss_cons (ss_set sc_still_there.nd (i := 7) rfl (by first | exact Or.inl rfl | exact Or.inr rfl) (se_len rfl h.free_len (sa_cons (se_lc (own := [("sign", 8)]) rfl sc_still_there.nd (si_rng2 rfl h.free_range (sa_cons (se_var 5) (sa_cons (se_var 6) sa_nil))) (blkOk_by (by show blkC ["edit", "other", "word", "gap", "many", "begin", "end", "kept", "sign"] (defScope s_still_there) _ _ = true; decide +kernel)) (by decide) (fun _ _ _ _ _ => (sg_name sc_still_there.nd (i := 8) rfl (by first | exact Or.inl rfl | exact Or.inr rfl))) (fun _ _ _ _ _ => (sts_one (st_not (st_lelt (se_var 3) (se_var 8) (se_add (se_var 3) (se_var 4)))))) (fun _ _ _ _ _ => (se_var 8))) sa_nil)))
  (ss_one (ss_ret (se_if (st_gt (se_var 7) se_int) (se_lst (sa_cons (se_tup (sa_cons (se_call ((fn_gap_behind h).mono (by decide)) hr hq rfl h.glo_gap_behind (sa_cons (se_var 1) (sa_cons (se_var 5) (sa_cons (se_gstr [108, 101, 102, 116] rfl h.con_LEFT) sa_nil))) (hn := len_gap_behind)) (sa_cons (se_var 7) sa_nil))) sa_nil)) (se_lst sa_nil))))))))
  exact r
theorem fn_done_behind (h : Facts K mg base) : Fn P w K mg base 3 (He.ga K "done_behind") ["edit", "other", "is_first"] f_done_behind := by
  obtain ⟨fd, F⟩ := h.def_done_behind
  have bn : Binds K fd ["edit", "other", "is_first"] [] := F.bindsN fun _ _ _ _ _ _ us hl => match us, hl with | [_, _, _], _ => rfl
  have r : Fn P w K mg base 3 (He.ga K "done_behind") ["edit", "other", "is_first"] (runF 5 3 b_done_behind) := fn_mkN b_done_behind rfl rfl F sc_done_behind bn fun cdv A outer s H E hc hr hq => (ss_cons (ss_if (st_eq hr (se_sub_ix hr (se_var 0) se_int (fun _ _ => rfl)) (se_gstr [105, 110] rfl h.con_IN)) (ss_one (ss_ret (se_tup (sa_cons (se_tup (sa_cons (se_gstr [105, 110] rfl h.con_IN) (sa_cons (se_call ((fn_gap_behind h).mono (by decide)) hr hq rfl h.glo_gap_behind (sa_cons (se_var 1) (sa_cons (se_sub_ix hr (se_var 0) se_int (fun _ _ => rfl)) (sa_cons (se_if (st_tru (se_var 2)) (se_gstr [108, 101, 102, 116] rfl h.con_LEFT) (se_gstr [114, 105, 103, 104, 116] rfl h.con_RIGHT)) sa_nil))) (hn := len_gap_behind)) (sa_cons (se_sub_ix hr (se_var 0) se_int (fun _ _ => rfl)) sa_nil)))) sa_nil)))) ss_nil)
  (ss_one (ss_ret (se_tuple1 rfl h.free_tuple (sa_cons (se_lc (own := [("gap", 3), ("many", 4)]) rfl sc_done_behind.nd (si_seq (se_rev (se_call ((fn_still_there h).mono (by decide)) hr hq rfl h.glo_still_there (sa_cons (se_var 0) (sa_cons (se_var 1) sa_nil)) (hn := len_still_there)))) (blkOk_by (by show blkC ["edit", "other", "is_first", "gap", "many"] (defScope s_done_behind) _ _ = true; decide +kernel)) (by decide) (fun _ _ _ _ _ => (sg_tup rfl (sgs_cons (sg_name sc_done_behind.nd (i := 3) rfl (by first | exact Or.inl rfl | exact Or.inr rfl)) (sgs_cons (sg_name sc_done_behind.nd (i := 4) rfl (by first | exact Or.inl rfl | exact Or.inr rfl)) sgs_nil)) (glen_cons (glen_cons glen_nil)))) (fun _ _ _ _ _ => sts_nil) (fun _ _ _ _ _ => (se_tup (sa_cons (se_gstr [111, 117, 116] rfl h.con_OUT) (sa_cons (se_var 3) (sa_cons (se_var 4) sa_nil)))))) sa_nil)))))
  exact r
theorem fn_both_ways (h : Facts K mg base) : Fn P w K mg base 4 (He.ga K "both_ways") ["one", "other"] f_both_ways := by
  obtain ⟨fd, F⟩ := h.def_both_ways
  have bn : Binds K fd ["one", "other"] [] := F.bindsN fun _ _ _ _ _ _ us hl => match us, hl with | [_, _], _ => rfl
  have r : Fn P w K mg base 4 (He.ga K "both_ways") ["one", "other"] (runF 2 2 b_both_ways) := fn_mkN b_both_ways rfl rfl F sc_both_ways bn fun cdv A outer s H E hc hr hq => (ss_cons (ss_exp (se_call ((fn_need_edit h).mono (by decide)) hr hq rfl h.glo_need_edit (sa_cons (se_var 0) sa_nil) (hn := len_need_edit)))
  (ss_cons (ss_exp (se_call ((fn_need_edit h).mono (by decide)) hr hq rfl h.glo_need_edit (sa_cons (se_var 1) sa_nil) (hn := len_need_edit)))
  (ss_one (ss_ret (se_tup (sa_cons (se_add (se_tup (sa_cons (se_var 0) sa_nil)) (se_call ((fn_done_behind h).mono (by decide)) hr hq rfl h.glo_done_behind (sa_cons (se_var 1) (sa_cons (se_var 0) (sa_cons se_bl sa_nil))) (hn := len_done_behind))) (sa_cons (se_add (se_tup (sa_cons (se_var 1) sa_nil)) (se_call ((fn_done_behind h).mono (by decide)) hr hq rfl h.glo_done_behind (sa_cons (se_var 0) (sa_cons (se_var 1) (sa_cons se_bl sa_nil))) (hn := len_done_behind))) sa_nil)))))))
  exact r
theorem fn__law_signs (h : Facts K mg base) : Fn P w K mg base 1 (He.ga K "_law_signs") ["_law_length", "_law_row", "_law_names"] f__law_signs := by
  obtain ⟨fd, F⟩ := h.def__law_signs
  have bn : Binds K fd ["_law_length", "_law_row", "_law_names"] [] := F.bindsN fun _ _ _ _ _ _ us hl => match us, hl with | [_, _, _], _ => rfl
  have r : Fn P w K mg base 1 (He.ga K "_law_signs") ["_law_length", "_law_row", "_law_names"] (runF 9 3 b__law_signs) := fn_mkN b__law_signs rfl rfl F sc__law_signs bn fun cdv A outer s H E hc hr hq => (ss_cons (ss_set sc__law_signs.nd (i := 3) rfl (by first | exact Or.inl rfl | exact Or.inr rfl) (se_lstRg rfl rfl h.free_list rfl h.free_range (se_var 0)))
  (ss_cons (ss_for rfl (si_enum rfl h.free_enumerate (se_var 1)) (sg_tup rfl (sgs_cons (sg_name sc__law_signs.nd (i := 4) rfl (by first | exact Or.inl rfl | exact Or.inr rfl)) (sgs_cons (sg_name sc__law_signs.nd (i := 5) rfl (by first | exact Or.inl rfl | exact Or.inr rfl)) sgs_nil)) (glen_cons (glen_cons glen_nil))) (ss_cons (ss_asg (se_var 5) (sg_tup rfl (sgs_cons (sg_name sc__law_signs.nd (i := 6) rfl (by first | exact Or.inl rfl | exact Or.inr rfl)) (sgs_cons (sg_name sc__law_signs.nd (i := 7) rfl (by first | exact Or.inl rfl | exact Or.inr rfl)) (sgs_cons (sg_name sc__law_signs.nd (i := 8) rfl (by first | exact Or.inl rfl | exact Or.inr rfl)) sgs_nil))) (glen_cons (glen_cons (glen_cons glen_nil)))))
  (ss_one (ss_if (st_eq hr (se_var 6) (se_str [105, 110])) (ss_one (ss_set sc__law_signs.nd (i := 3) rfl (by first | exact Or.inl rfl | exact Or.inr rfl) (se_add (se_add (se_slice (se_var 3) so_none (so_some (se_var 7))) (se_mul (se_lst (sa_cons (se_sub_ix hr (se_var 2) (se_var 4) (fun _ _ => rfl)) sa_nil)) (se_var 8))) (se_slice (se_var 3) (so_some (se_var 7)) so_none)))) (ss_one (ss_set sc__law_signs.nd (i := 3) rfl (by first | exact Or.inl rfl | exact Or.inr rfl) (se_add (se_slice (se_var 3) so_none (so_some (se_var 7))) (se_slice (se_var 3) (so_some (se_add (se_var 7) (se_var 8))) so_none))))))))
  (ss_one (ss_ret (se_var 3)))))
  exact r
theorem fn__law_is_within (h : Facts K mg base) : Fn P w K mg base 1 (He.ga K "_law_is_within") ["_law_one", "_law_other"] f__law_is_within := by
  obtain ⟨fd, F⟩ := h.def__law_is_within
  have bn : Binds K fd ["_law_one", "_law_other"] [] := F.bindsN fun _ _ _ _ _ _ us hl => match us, hl with | [_, _], _ => rfl
  have r : Fn P w K mg base 1 (He.ga K "_law_is_within") ["_law_one", "_law_other"] (runF 2 2 b__law_is_within) := fn_mkN b__law_is_within rfl rfl F sc__law_is_within bn fun cdv A outer s H E hc hr hq => (ss_one (ss_ret (se_and (se_eq hr (se_sub_ix hr (se_var 0) se_int (fun _ _ => rfl)) (se_str [105, 110])) (se_and (se_eq hr (se_sub_ix hr (se_var 1) se_int (fun _ _ => rfl)) (se_str [111, 117, 116])) (se_one (se_lele (se_sub_ix hr (se_var 1) se_int (fun _ _ => rfl)) (se_sub_ix hr (se_var 0) se_int (fun _ _ => rfl)) (se_add (se_sub_ix hr (se_var 1) se_int (fun _ _ => rfl)) (se_sub_ix hr (se_var 1) se_int (fun _ _ => rfl)))))))))
  exact r
theorem fn_reach_of (h : Facts K mg base) : Fn P w K mg base 1 (He.ga K "reach_of") ["log"] f_reach_of := by
  obtain ⟨fd, F⟩ := h.def_reach_of
  have bn : Binds K fd ["log"] [] := F.bindsN fun _ _ _ _ _ _ us hl => match us, hl with | [_], _ => rfl
  have r : Fn P w K mg base 1 (He.ga K "reach_of") ["log"] (runF 6 1 b_reach_of) := fn_mkN b_reach_of rfl rfl F sc_reach_of bn fun cdv A outer s H E hc hr hq => (ss_cons (ss_asg (se_tup (sa_cons se_int (sa_cons se_int sa_nil))) (sg_tup rfl (sgs_cons (sg_name sc_reach_of.nd (i := 1) rfl (by first | exact Or.inl rfl | exact Or.inr rfl)) (sgs_cons (sg_name sc_reach_of.nd (i := 2) rfl (by first | exact Or.inl rfl | exact Or.inr rfl)) sgs_nil)) (glen_cons (glen_cons glen_nil))))
  (ss_cons (ss_for rfl (si_seq (se_var 0)) (sg_tup rfl (sgs_cons (sg_name sc_reach_of.nd (i := 3) rfl (by first | exact Or.inl rfl | exact Or.inr rfl)) (sgs_cons (sg_name sc_reach_of.nd (i := 4) rfl (by first | exact Or.inl rfl | exact Or.inr rfl)) (sgs_cons (sg_name sc_reach_of.nd (i := 5) rfl (by first | exact Or.inl rfl | exact Or.inr rfl)) sgs_nil))) (glen_cons (glen_cons (glen_cons glen_nil)))) (ss_cons (ss_set sc_reach_of.nd (i := 1) rfl (by first | exact Or.inl rfl | exact Or.inr rfl) (se_max rfl rfl h.free_max (sa_cons (se_var 1) (sa_cons (se_sub (se_add (se_var 4) (se_if (st_eq hr (se_var 3) (se_gstr [111, 117, 116] rfl h.con_OUT)) (se_var 5) se_int)) (se_var 2)) sa_nil))))
  (ss_one (ss_augadd sc_reach_of.nd rfl (by first | exact Or.inl rfl | exact Or.inr rfl) (se_if (st_eq hr (se_var 3) (se_gstr [105, 110] rfl h.con_IN)) (se_var 5) (se_neg (se_var 5)))))))
  (ss_one (ss_ret (se_var 1)))))
  exact r
theorem fn_carried (h : Facts K mg base) : Fn P w K mg base 2 (He.ga K "carried") ["log", "gap", "lean"] f_carried := by
  obtain ⟨fd, F⟩ := h.def_carried
  have bn : Binds K fd ["log", "gap", "lean"] [] := F.bindsN fun _ _ _ _ _ _ us hl => match us, hl with | [_, _, _], _ => rfl
  have r : Fn P w K mg base 2 (He.ga K "carried") ["log", "gap", "lean"] (runF 4 3 b_carried) := fn_mkN b_carried rfl rfl F sc_carried bn fun cdv A outer s H E hc hr hq => (ss_cons (ss_for rfl (si_seq (se_var 0)) (sg_name sc_carried.nd (i := 3) rfl (by first | exact Or.inl rfl | exact Or.inr rfl)) (ss_one (ss_set sc_carried.nd (i := 1) rfl (by first | exact Or.inl rfl | exact Or.inr rfl) (se_call ((fn_gap_behind h).mono (by decide)) hr hq rfl h.glo_gap_behind (sa_cons (se_var 3) (sa_cons (se_var 1) (sa_cons (se_var 2) sa_nil))) (hn := len_gap_behind)))))
  (ss_one (ss_ret (se_var 1))))
  exact r
theorem fn_ways_alike (h : Facts K mg base) : Fn P w K mg base 5 (He.ga K "ways_alike") ["one", "other"] f_ways_alike := by
  obtain ⟨fd, F⟩ := h.def_ways_alike
  have bn : Binds K fd ["one", "other"] [] := F.bindsN fun _ _ _ _ _ _ us hl => match us, hl with | [_, _], _ => rfl
  have r : Fn P w K mg base 5 (He.ga K "ways_alike") ["one", "other"] (runF 7 2 b_ways_alike) := fn_mkN b_ways_alike rfl rfl F sc_ways_alike bn fun cdv A outer s H E hc hr hq => (ss_cons (ss_asg (se_call ((fn_both_ways h).mono (by decide)) hr hq rfl h.glo_both_ways (sa_cons (se_var 0) (sa_cons (se_var 1) sa_nil)) (hn := len_both_ways)) (sg_tup rfl (sgs_cons (sg_name sc_ways_alike.nd (i := 2) rfl (by first | exact Or.inl rfl | exact Or.inr rfl)) (sgs_cons (sg_name sc_ways_alike.nd (i := 3) rfl (by first | exact Or.inl rfl | exact Or.inr rfl)) sgs_nil)) (glen_cons (glen_cons glen_nil))))
  (ss_cons (ss_set sc_ways_alike.nd (i := 4) rfl (by first | exact Or.inl rfl | exact Or.inr rfl) (se_max rfl rfl h.free_max (sa_cons (se_call ((fn_reach_of h).mono (by decide)) hr hq rfl h.glo_reach_of (sa_cons (se_var 2) sa_nil) (hn := len_reach_of)) (sa_cons (se_call ((fn_reach_of h).mono (by decide)) hr hq rfl h.glo_reach_of (sa_cons (se_var 3) sa_nil) (hn := len_reach_of)) sa_nil))))
  (ss_cons (ss_for rfl (si_seq (se_tup (sa_cons (se_gstr [108, 101, 102, 116] rfl h.con_LEFT) (sa_cons (se_gstr [114, 105, 103, 104, 116] rfl h.con_RIGHT) sa_nil)))) (sg_name sc_ways_alike.nd (i := 5) rfl (by first | exact Or.inl rfl | exact Or.inr rfl)) (ss_one (ss_if (st_tru (se_any rfl rfl h.free_any (sa_cons (se_lc (own := [("gap", 6)]) rfl sc_ways_alike.nd (si_rng1 rfl h.free_range (sa_cons (se_add (se_var 4) se_int) sa_nil)) (blkOk_by (by show blkC ["one", "other", "way", "far", "length", "lean", "gap"] (defScope s_ways_alike) _ _ = true; decide +kernel)) (by decide) (fun _ _ _ _ _ => (sg_name sc_ways_alike.nd (i := 6) rfl (by first | exact Or.inl rfl | exact Or.inr rfl))) (fun _ _ _ _ _ => sts_nil) (fun _ _ _ _ _ => (se_ne hr (se_call ((fn_carried h).mono (by decide)) hr hq rfl h.glo_carried (sa_cons (se_var 2) (sa_cons (se_var 6) (sa_cons (se_var 5) sa_nil))) (hn := len_carried)) (se_call ((fn_carried h).mono (by decide)) hr hq rfl h.glo_carried (sa_cons (se_var 3) (sa_cons (se_var 6) (sa_cons (se_var 5) sa_nil))) (hn := len_carried))))) sa_nil))) (ss_one (ss_ret se_bl)) ss_nil)))
  (ss_one (ss_ret se_bl)))))
  exact r
theorem fn__law_rows (h : Facts K mg base) : Fn P w K mg base 1 (He.ga K "_law_rows") ["_law_length", "_law_log"] f__law_rows := by
  obtain ⟨fd, F⟩ := h.def__law_rows
  have bn : Binds K fd ["_law_length", "_law_log"] [] := F.bindsN fun _ _ _ _ _ _ us hl => match us, hl with | [_, _], _ => rfl
  have r : Fn P w K mg base 1 (He.ga K "_law_rows") ["_law_length", "_law_log"] (runF 12 2 b__law_rows) := fn_mkN b__law_rows rfl rfl F sc__law_rows bn fun cdv A outer s H E hc hr hq => (ss_cons (ss_setLc (own := [("_law_gap", 3)]) rfl sc__law_rows.nd (si_rng1 rfl h.free_range (sa_cons (se_add (se_var 0) se_int) sa_nil)) (blkOk_by (by show blkC ["_law_length", "_law_log", "_law_rows_here", "_law_gap", "_law_word", "_law_at", "_law_many", "_law_bare", "_law_k", "_law_lefts", "_law_rights", "_law_row"] (defScope s__law_rows) _ _ = true; decide +kernel)) (by decide) (fun _ _ _ _ _ => (sg_name sc__law_rows.nd (i := 3) rfl (by first | exact Or.inl rfl | exact Or.inr rfl))) (fun _ _ _ _ _ => sts_nil) (fun _ _ _ _ _ => (se_lst (sa_cons (se_lst (sa_cons (se_var 3) sa_nil)) (sa_cons (se_lst (sa_cons (se_var 3) sa_nil)) sa_nil)))) rfl rfl rfl)
  (ss_cons (ss_for rfl (si_seq (se_var 1)) (sg_tup rfl (sgs_cons (sg_name sc__law_rows.nd (i := 4) rfl (by first | exact Or.inl rfl | exact Or.inr rfl)) (sgs_cons (sg_name sc__law_rows.nd (i := 5) rfl (by first | exact Or.inl rfl | exact Or.inr rfl)) (sgs_cons (sg_name sc__law_rows.nd (i := 6) rfl (by first | exact Or.inl rfl | exact Or.inr rfl)) sgs_nil))) (glen_cons (glen_cons (glen_cons glen_nil)))) (ss_one (ss_if (st_eq hr (se_var 4) (se_str [105, 110])) (ss_cons (ss_setLc (own := [("_law_k", 8)]) rfl sc__law_rows.nd (si_rng1 rfl h.free_range (sa_cons (se_sub (se_var 6) se_int) sa_nil)) (blkOk_by (by show blkC ["_law_length", "_law_log", "_law_rows_here", "_law_gap", "_law_word", "_law_at", "_law_many", "_law_bare", "_law_k", "_law_lefts", "_law_rights", "_law_row"] (defScope s__law_rows) _ _ = true; decide +kernel)) (by decide) (fun _ _ _ _ _ => (sg_name sc__law_rows.nd (i := 8) rfl (by first | exact Or.inl rfl | exact Or.inr rfl))) (fun _ _ _ _ _ => sts_nil) (fun _ _ _ _ _ => (se_lst (sa_cons (se_lst sa_nil) (sa_cons (se_lst sa_nil) sa_nil)))) rfl rfl rfl)
  (ss_one (ss_set sc__law_rows.nd (i := 2) rfl (by first | exact Or.inl rfl | exact Or.inr rfl) (se_add (se_add (se_add (se_add (se_slice (se_var 2) so_none (so_some (se_var 5))) (se_lst (sa_cons (se_lst (sa_cons (se_sub_ix hr (se_sub_ix hr (se_var 2) (se_var 5) (fun _ _ => rfl)) se_int (fun _ _ => rfl)) (sa_cons (se_lst sa_nil) sa_nil))) sa_nil))) (se_var 7)) (se_lst (sa_cons (se_lst (sa_cons (se_lst sa_nil) (sa_cons (se_sub_ix hr (se_sub_ix hr (se_var 2) (se_var 5) (fun _ _ => rfl)) se_int (fun _ _ => rfl)) sa_nil))) sa_nil))) (se_slice (se_var 2) (so_some (se_add (se_var 5) se_int)) so_none))))) (ss_cons (ss_par2 (i := 9) (j := 10) rfl sc__law_rows.nd rfl rfl (by decide) rfl rfl (sa_cons (se_lst sa_nil) (sa_cons (se_lst sa_nil) sa_nil)) rfl)
  (ss_cons (ss_for rfl (si_seq (se_slice (se_var 2) (so_some (se_var 5)) (so_some (se_add (se_add (se_var 5) (se_var 6)) se_int)))) (sg_name sc__law_rows.nd (i := 11) rfl (by first | exact Or.inl rfl | exact Or.inr rfl)) (ss_one (ss_par2 (i := 9) (j := 10) rfl sc__law_rows.nd rfl rfl (by decide) rfl rfl (sa_cons (se_add (se_var 9) (se_sub_ix hr (se_var 11) se_int (fun _ _ => rfl))) (sa_cons (se_add (se_var 10) (se_sub_ix hr (se_var 11) se_int (fun _ _ => rfl))) sa_nil)) rfl)))
  (ss_one (ss_set sc__law_rows.nd (i := 2) rfl (by first | exact Or.inl rfl | exact Or.inr rfl) (se_add (se_add (se_slice (se_var 2) so_none (so_some (se_var 5))) (se_lst (sa_cons (se_lst (sa_cons (se_var 9) (sa_cons (se_var 10) sa_nil))) sa_nil))) (se_slice (se_var 2) (so_some (se_add (se_add (se_var 5) (se_var 6)) se_int)) so_none)))))))))
  (ss_one (ss_ret (se_var 2)))))
  exact r
theorem fn__law_chart (h : Facts K mg base) : Fn P w K mg base 2 (He.ga K "_law_chart") ["_law_length", "_law_log"] f__law_chart := by
  obtain ⟨fd, F⟩ := h.def__law_chart
  have bn : Binds K fd ["_law_length", "_law_log"] [] := F.bindsN fun _ _ _ _ _ _ us hl => match us, hl with | [_, _], _ => rfl
  have r : Fn P w K mg base 2 (He.ga K "_law_chart") ["_law_length", "_law_log"] (runF 9 2 b__law_chart) := fn_mkN b__law_chart rfl rfl F sc__law_chart bn fun cdv A outer s H E hc hr hq => (ss_cons (ss_asg (se_tup (sa_cons (se_call ((fn__law_rows h).mono (by decide)) hr hq rfl h.glo__law_rows (sa_cons (se_var 0) (sa_cons (se_var 1) sa_nil)) (hn := len__law_rows)) (sa_cons se_dnewK (sa_cons se_dnewK sa_nil)))) (sg_tup rfl (sgs_cons (sg_name sc__law_chart.nd (i := 2) rfl (by first | exact Or.inl rfl | exact Or.inr rfl)) (sgs_cons (sg_name sc__law_chart.nd (i := 3) rfl (by first | exact Or.inl rfl | exact Or.inr rfl)) (sgs_cons (sg_name sc__law_chart.nd (i := 4) rfl (by first | exact Or.inl rfl | exact Or.inr rfl)) sgs_nil))) (glen_cons (glen_cons (glen_cons glen_nil)))))
  (ss_cons (ss_for rfl (si_enum rfl h.free_enumerate (se_var 2)) (sg_tup rfl (sgs_cons (sg_name sc__law_chart.nd (i := 5) rfl (by first | exact Or.inl rfl | exact Or.inr rfl)) (sgs_cons (sg_name sc__law_chart.nd (i := 6) rfl (by first | exact Or.inl rfl | exact Or.inr rfl)) sgs_nil)) (glen_cons (glen_cons glen_nil))) (ss_cons (ss_for rfl (si_seq (se_sub_ix hr (se_var 6) se_int (fun _ _ => rfl))) (sg_name sc__law_chart.nd (i := 7) rfl (by first | exact Or.inl rfl | exact Or.inr rfl)) (ss_one (ss_setix hr (se_var 5) (se_var 3) (se_var 7))))
  (ss_one (ss_for rfl (si_seq (se_sub_ix hr (se_var 6) se_int (fun _ _ => rfl))) (sg_name sc__law_chart.nd (i := 7) rfl (by first | exact Or.inl rfl | exact Or.inr rfl)) (ss_one (ss_setix hr (se_var 5) (se_var 4) (se_var 7)))))))
  (ss_cons (ss_set sc__law_chart.nd (i := 8) rfl (by first | exact Or.inl rfl | exact Or.inr rfl) (se_lstRg rfl rfl h.free_list rfl h.free_range (se_add (se_var 0) se_int)))
  (ss_one (ss_ret (se_tup (sa_cons (se_sub (se_len rfl h.free_len (sa_cons (se_var 2) sa_nil)) se_int) (sa_cons (se_tuple1 rfl h.free_tuple (sa_cons (se_lc (own := [("_law_gap", 5)]) rfl sc__law_chart.nd (si_seq (se_var 8)) (blkOk_by (by show blkC ["_law_length", "_law_log", "_law_rows_here", "_law_lefts", "_law_rights", "_law_gap", "_law_row", "_law_one", "_law_gaps"] (defScope s__law_chart) _ _ = true; decide +kernel)) (by decide) (fun _ _ _ _ _ => (sg_name sc__law_chart.nd (i := 5) rfl (by first | exact Or.inl rfl | exact Or.inr rfl))) (fun _ _ _ _ _ => sts_nil) (fun _ _ _ _ _ => (se_sub_ix hr (se_var 3) (se_var 5) (fun _ _ => rfl)))) sa_nil)) (sa_cons (se_tuple1 rfl h.free_tuple (sa_cons (se_lc (own := [("_law_gap", 5)]) rfl sc__law_chart.nd (si_seq (se_var 8)) (blkOk_by (by show blkC ["_law_length", "_law_log", "_law_rows_here", "_law_lefts", "_law_rights", "_law_gap", "_law_row", "_law_one", "_law_gaps"] (defScope s__law_chart) _ _ = true; decide +kernel)) (by decide) (fun _ _ _ _ _ => (sg_name sc__law_chart.nd (i := 5) rfl (by first | exact Or.inl rfl | exact Or.inr rfl))) (fun _ _ _ _ _ => sts_nil) (fun _ _ _ _ _ => (se_sub_ix hr (se_var 4) (se_var 5) (fun _ _ => rfl)))) sa_nil)) sa_nil)))))))))
  exact r.fin
theorem exi_BadLength (h : Facts K mg base) : ∃ fd, FnOk P w K mg base (L2.CX P w) 1 (He.ma K (He.ga K "BadLength") "__init__") fd ["self", "given"] (spX1 K "given") ∧ Binds K fd ["self", "given"] [] := by
  obtain ⟨fd, F⟩ := h.def_BadLength_init
  exact ⟨fd, fn_exI1 "not a length" F ⟨rfl, rfl, rfl, by decide +kernel, rfl, by decide +kernel, by decide +kernel⟩ (fun cdv A outer s H E => pss_cons (ps_expr (pe_baseI (B := He.ga K "MarkError") rfl h.base_MarkError (pa_cons (pv 0) (pa_cons pe_str pa_nil)) (by decide))) (pss_one (ps_ost (pv 0) (pv 1)))), F.bindsN fun _ _ _ _ _ _ us hl => match us, hl with | [_, _], _ => rfl⟩
theorem fn_need_length (h : Facts K mg base) : Fn P w K mg base 3 (He.ga K "need_length") ["thing"] f_need_length := by
  obtain ⟨fd, F⟩ := h.def_need_length
  have bn : Binds K fd ["thing"] [] := F.bindsN fun _ _ _ _ _ _ us hl => match us, hl with | [_], _ => rfl
  have r : Fn P w K mg base 3 (He.ga K "need_length") ["thing"] (runF 1 1 b_need_length) := fn_mkN b_need_length rfl rfl F sc_need_length bn fun cdv A outer s H E hc hr hq => (ss_one (ss_if (st_not (st_tru (se_call ((fn_is_integer h).mono (by decide)) hr hq rfl h.glo_is_integer (sa_cons (se_var 0) (sa_cons se_int (sa_cons (se_gint rfl h.con_MOST_LENGTH) sa_nil))) (hn := len_is_integer)))) (ss_one (ss_raise1 (c := "BadLength") (f := "given") rfl h.exc_BadLength.1 h.noat_BadLength_given (exi_BadLength h) (hr.mono (by decide)) rfl (sa_cons (se_var 0) sa_nil))) ss_nil))
  exact r
theorem exi_OutOfText (h : Facts K mg base) : ∃ fd, FnOk P w K mg base (L2.CX P w) 1 (He.ma K (He.ga K "OutOfText") "__init__") fd ["self", "place"] (spX1 K "place") ∧ Binds K fd ["self", "place"] [] := by
  obtain ⟨fd, F⟩ := h.def_OutOfText_init
  exact ⟨fd, fn_exI1 "out of the text" F ⟨rfl, rfl, rfl, by decide +kernel, rfl, by decide +kernel, by decide +kernel⟩ (fun cdv A outer s H E => pss_cons (ps_expr (pe_baseI (B := He.ga K "MarkError") rfl h.base_MarkError (pa_cons (pv 0) (pa_cons pe_str pa_nil)) (by decide))) (pss_one (ps_ost (pv 0) (pv 1)))), F.bindsN fun _ _ _ _ _ _ us hl => match us, hl with | [_, _], _ => rfl⟩
theorem fn_grown (h : Facts K mg base) : Fn P w K mg base 3 (He.ga K "grown") ["length", "log"] f_grown := by
  obtain ⟨fd, F⟩ := h.def_grown
  have bn : Binds K fd ["length", "log"] [] := F.bindsN fun _ _ _ _ _ _ us hl => match us, hl with | [_, _], _ => rfl
  have r : Fn P w K mg base 3 (He.ga K "grown") ["length", "log"] (runF 6 2 b_grown) := fn_mkN b_grown rfl rfl F sc_grown bn fun cdv A outer s H E hc hr hq => (ss_cons (ss_for rfl (si_enum rfl h.free_enumerate (se_var 1)) (sg_tup rfl (sgs_cons (sg_name sc_grown.nd (i := 2) rfl (by first | exact Or.inl rfl | exact Or.inr rfl)) (sgs_cons (sg_tup rfl (sgs_cons (sg_name sc_grown.nd (i := 3) rfl (by first | exact Or.inl rfl | exact Or.inr rfl)) (sgs_cons (sg_name sc_grown.nd (i := 4) rfl (by first | exact Or.inl rfl | exact Or.inr rfl)) (sgs_cons (sg_name sc_grown.nd (i := 5) rfl (by first | exact Or.inl rfl | exact Or.inr rfl)) sgs_nil))) (glen_cons (glen_cons (glen_cons glen_nil)))) sgs_nil)) (glen_cons (glen_cons glen_nil))) (ss_cons (ss_if (st_gt (se_add (se_var 4) (se_if (st_eq hr (se_var 3) (se_gstr [111, 117, 116] rfl h.con_OUT)) (se_var 5) se_int)) (se_var 0)) (ss_one (ss_raise1 (c := "OutOfText") (f := "place") rfl h.exc_OutOfText.1 h.noat_OutOfText_place (exi_OutOfText h) (hr.mono (by decide)) rfl (sa_cons (se_var 2) sa_nil))) ss_nil)
  (ss_one (ss_augadd sc_grown.nd rfl (by first | exact Or.inl rfl | exact Or.inr rfl) (se_if (st_eq hr (se_var 3) (se_gstr [105, 110] rfl h.con_IN)) (se_var 5) (se_neg (se_var 5)))))))
  (ss_one (ss_ret (se_var 0))))
  exact r
theorem fn_is_row (h : Facts K mg base) : Fn P w K mg base 1 (He.ga K "is_row") ["thing"] f_is_row := by
  obtain ⟨fd, F⟩ := h.def_is_row
  have bn : Binds K fd ["thing"] [] := F.bindsN fun _ _ _ _ _ _ us hl => match us, hl with | [_], _ => rfl
  have r : Fn P w K mg base 1 (He.ga K "is_row") ["thing"] (runF 2 1 b_is_row) := fn_mkN b_is_row rfl rfl F sc_is_row bn fun cdv A outer s H E hc hr hq => (ss_cons (ss_if (SW.st (sw_or (st_not (st_tru (se_isi rfl h.free_isinstance (sa_cons (se_var 0) (sa_cons (se_ty "tuple" rfl h.free_tuple (by decide +kernel)) sa_nil))))) (sw_or1 (st_not (st_lele se_int (se_len rfl h.free_len (sa_cons (se_var 0) sa_nil)) (se_gint rfl h.con_MOST_GAPS)))))) (ss_one (ss_ret se_bl)) ss_nil)
  (ss_one (ss_ret (se_all rfl rfl h.free_all (sa_cons (se_lc (own := [("gap", 1)]) rfl sc_is_row.nd (si_seq (se_var 0)) (blkOk_by (by show blkC ["thing", "gap"] (defScope s_is_row) _ _ = true; decide +kernel)) (by decide) (fun _ _ _ _ _ => (sg_name sc_is_row.nd (i := 1) rfl (by first | exact Or.inl rfl | exact Or.inr rfl))) (fun _ _ _ _ _ => sts_nil) (fun _ _ _ _ _ => (se_and (se_isi rfl h.free_isinstance (sa_cons (se_var 1) (sa_cons (se_ty "int" rfl h.free_int (by decide +kernel)) sa_nil))) (se_one (se_not (se_isi rfl h.free_isinstance (sa_cons (se_var 1) (sa_cons (se_ty "bool" rfl h.free_bool (by decide +kernel)) sa_nil)))))))) sa_nil)))))
  exact r
theorem exi_BadChart (h : Facts K mg base) : ∃ fd, FnOk P w K mg base (L2.CX P w) 1 (He.ma K (He.ga K "BadChart") "__init__") fd ["self", "place"] (spX1 K "place") ∧ Binds K fd ["self", "place"] [] := by
  obtain ⟨fd, F⟩ := h.def_BadChart_init
  exact ⟨fd, fn_exI1 "not a chart" F ⟨rfl, rfl, rfl, by decide +kernel, rfl, by decide +kernel, by decide +kernel⟩ (fun cdv A outer s H E => pss_cons (ps_expr (pe_baseI (B := He.ga K "MarkError") rfl h.base_MarkError (pa_cons (pv 0) (pa_cons pe_str pa_nil)) (by decide))) (pss_one (ps_ost (pv 0) (pv 1)))), F.bindsN fun _ _ _ _ _ _ us hl => match us, hl with | [_, _], _ => rfl⟩
theorem fn_is_gap_right (h : Facts K mg base) : Fn P w K mg base 1 (He.ga K "is_gap_right") ["many", "lefts", "rights", "gap"] f_is_gap_right := by
  obtain ⟨fd, F⟩ := h.def_is_gap_right
  have bn : Binds K fd ["many", "lefts", "rights", "gap"] [] := F.bindsN fun _ _ _ _ _ _ us hl => match us, hl with | [_, _, _, _], _ => rfl
  have r : Fn P w K mg base 1 (He.ga K "is_gap_right") ["many", "lefts", "rights", "gap"] (runF 4 4 b_is_gap_right) := fn_mkN b_is_gap_right rfl rfl F sc_is_gap_right bn fun cdv A outer s H E hc hr hq => (ss_cons (ss_if (SW.st (sw_or (st_gt (se_sub_ix hr (se_var 1) (se_var 3) (fun _ _ => rfl)) (se_sub_ix hr (se_var 2) (se_var 3) (fun _ _ => rfl))) (sw_or1 (SW.st (sw_and (st_eq hr (se_var 3) se_int) (sw_and1 (st_ne hr (se_sub_ix hr (se_var 1) se_int (fun _ _ => rfl)) se_int))))))) (ss_one (ss_ret se_bl)) ss_nil)
  (ss_cons (ss_if (SW.st (sw_and (st_gt (se_var 3) se_int) (sw_and1 (SW.st (sw_or (st_lt (se_sub_ix hr (se_var 1) (se_var 3) (fun _ _ => rfl)) (se_sub_ix hr (se_var 1) (se_sub (se_var 3) se_int) (fun _ _ => rfl))) (sw_or1 (st_lt (se_sub_ix hr (se_var 2) (se_var 3) (fun _ _ => rfl)) (se_sub_ix hr (se_var 2) (se_sub (se_var 3) se_int) (fun _ _ => rfl))))))))) (ss_one (ss_ret se_bl)) ss_nil)
  (ss_cons (ss_if (SW.st (sw_and (st_gt (se_var 3) se_int) (sw_and1 (st_gt (se_sub_ix hr (se_var 1) (se_var 3) (fun _ _ => rfl)) (se_add (se_sub_ix hr (se_var 2) (se_sub (se_var 3) se_int) (fun _ _ => rfl)) se_int))))) (ss_one (ss_ret se_bl)) ss_nil)
  (ss_one (ss_ret (se_or (se_lt (se_var 3) (se_sub (se_len rfl h.free_len (sa_cons (se_var 1) sa_nil)) se_int)) (se_one (se_eq hr (se_sub_ix hr (se_var 2) (se_var 3) (fun _ _ => rfl)) (se_var 0)))))))))
  exact r
theorem fn_Chart_init (h : Facts K mg base) : Fn P w K mg base 3 (He.ma K (He.ga K "Chart") "__init__") ["self", "many", "lefts", "rights"] f_Chart_init := by
  obtain ⟨fd, F⟩ := h.def_Chart_init
  have bn : Binds K fd ["self", "many", "lefts", "rights"] [] := F.bindsN fun _ _ _ _ _ _ us hl => match us, hl with | [_, _, _, _], _ => rfl
  have r : Fn P w K mg base 3 (He.ma K (He.ga K "Chart") "__init__") ["self", "many", "lefts", "rights"] (runF 5 4 b_Chart_init) := fn_mkN b_Chart_init rfl rfl F sc_Chart_init bn fun cdv A outer s H E hc hr hq => (ss_cons (ss_if (SW.st (sw_or (st_not (st_tru (se_call ((fn_is_integer h).mono (by decide)) hr hq rfl h.glo_is_integer (sa_cons (se_var 1) (sa_cons se_int (sa_cons (se_gint rfl h.con_MOST_BEHIND) sa_nil))) (hn := len_is_integer)))) (sw_or (st_not (st_tru (se_call ((fn_is_row h).mono (by decide)) hr hq rfl h.glo_is_row (sa_cons (se_var 2) sa_nil) (hn := len_is_row)))) (sw_or1 (st_not (st_tru (se_call ((fn_is_row h).mono (by decide)) hr hq rfl h.glo_is_row (sa_cons (se_var 3) sa_nil) (hn := len_is_row)))))))) (ss_one (ss_raise1 (c := "BadChart") (f := "place") rfl h.exc_BadChart.1 h.noat_BadChart_place (exi_BadChart h) (hr.mono (by decide)) rfl (sa_cons se_non sa_nil))) ss_nil)
  (ss_cons (ss_if (st_ne hr (se_len rfl h.free_len (sa_cons (se_var 2) sa_nil)) (se_len rfl h.free_len (sa_cons (se_var 3) sa_nil))) (ss_one (ss_raise1 (c := "BadChart") (f := "place") rfl h.exc_BadChart.1 h.noat_BadChart_place (exi_BadChart h) (hr.mono (by decide)) rfl (sa_cons se_non sa_nil))) ss_nil)
  (ss_cons (ss_for rfl (si_rng1 rfl h.free_range (sa_cons (se_len rfl h.free_len (sa_cons (se_var 2) sa_nil)) sa_nil)) (sg_name sc_Chart_init.nd (i := 4) rfl (by first | exact Or.inl rfl | exact Or.inr rfl)) (ss_one (ss_if (st_not (st_tru (se_call ((fn_is_gap_right h).mono (by decide)) hr hq rfl h.glo_is_gap_right (sa_cons (se_var 1) (sa_cons (se_var 2) (sa_cons (se_var 3) (sa_cons (se_var 4) sa_nil)))) (hn := len_is_gap_right)))) (ss_one (ss_raise1 (c := "BadChart") (f := "place") rfl h.exc_BadChart.1 h.noat_BadChart_place (exi_BadChart h) (hr.mono (by decide)) rfl (sa_cons (se_var 4) sa_nil))) ss_nil)))
  (ss_cons (ss_fld (c := "Chart") (f := "own_many") (se_var 0) (se_var 1) h.glo_Chart h.cls_Chart h.noat_Chart_own_many)
  (ss_cons (ss_fld (c := "Chart") (f := "own_lefts") (se_var 0) (se_var 2) h.glo_Chart h.cls_Chart h.noat_Chart_own_lefts)
  (ss_cons (ss_fld (c := "Chart") (f := "own_rights") (se_var 0) (se_var 3) h.glo_Chart h.cls_Chart h.noat_Chart_own_rights)
  (ss_one (ss_fld (c := "Chart") (f := "own_signs") (se_var 0) (se_slice (se_var 2) (so_some se_int) so_none) h.glo_Chart h.cls_Chart h.noat_Chart_own_signs))))))))
  exact r
theorem fn_chart_by (h : Facts K mg base) : Fn P w K mg base 5 (He.ga K "chart_by") ["length", "log"] f_chart_by := by
  obtain ⟨fd, F⟩ := h.def_chart_by
  have bn : Binds K fd ["length", "log"] [] := F.bindsN fun _ _ _ _ _ _ us hl => match us, hl with | [_, _], _ => rfl
  have r : Fn P w K mg base 5 (He.ga K "chart_by") ["length", "log"] (runF 5 2 b_chart_by) := fn_mkN b_chart_by rfl rfl F sc_chart_by bn fun cdv A outer s H E hc hr hq => (ss_cons (ss_set sc_chart_by.nd (i := 2) rfl (by first | exact Or.inl rfl | exact Or.inr rfl) (se_call ((fn_grown h).mono (by decide)) hr hq rfl h.glo_grown (sa_cons (se_var 0) (sa_cons (se_var 1) sa_nil)) (hn := len_grown)))
  (ss_cons (ss_set sc_chart_by.nd (i := 3) rfl (by first | exact Or.inl rfl | exact Or.inr rfl) (se_tuple1 rfl h.free_tuple (sa_cons (se_lc (own := [("gap", 4)]) rfl sc_chart_by.nd (si_rng1 rfl h.free_range (sa_cons (se_add (se_var 0) se_int) sa_nil)) (blkOk_by (by show blkC ["length", "log", "many", "lefts", "gap"] (defScope s_chart_by) _ _ = true; decide +kernel)) (by decide) (fun _ _ _ _ _ => (sg_name sc_chart_by.nd (i := 4) rfl (by first | exact Or.inl rfl | exact Or.inr rfl))) (fun _ _ _ _ _ => sts_nil) (fun _ _ _ _ _ => (se_call ((fn_carried h).mono (by decide)) hr hq rfl h.glo_carried (sa_cons (se_var 1) (sa_cons (se_var 4) (sa_cons (se_gstr [108, 101, 102, 116] rfl h.con_LEFT) sa_nil))) (hn := len_carried)))) sa_nil)))
  (ss_one (ss_ret (se_make (c := "Chart") h.mk_Chart ((fn_Chart_init h).mono (by decide)) hr hq rfl h.glo_Chart (sa_cons (se_var 2) (sa_cons (se_var 3) (sa_cons (se_tuple1 rfl h.free_tuple (sa_cons (se_lc (own := [("gap", 4)]) rfl sc_chart_by.nd (si_rng1 rfl h.free_range (sa_cons (se_add (se_var 0) se_int) sa_nil)) (blkOk_by (by show blkC ["length", "log", "many", "lefts", "gap"] (defScope s_chart_by) _ _ = true; decide +kernel)) (by decide) (fun _ _ _ _ _ => (sg_name sc_chart_by.nd (i := 4) rfl (by first | exact Or.inl rfl | exact Or.inr rfl))) (fun _ _ _ _ _ => sts_nil) (fun _ _ _ _ _ => (se_call ((fn_carried h).mono (by decide)) hr hq rfl h.glo_carried (sa_cons (se_var 1) (sa_cons (se_var 4) (sa_cons (se_gstr [114, 105, 103, 104, 116] rfl h.con_RIGHT) sa_nil))) (hn := len_carried)))) sa_nil)) sa_nil))) (hn := len_Chart_init) (hB := below_fin))))))
  exact r
theorem exi_BadLog (h : Facts K mg base) : ∃ fd, FnOk P w K mg base (L2.CX P w) 1 (He.ma K (He.ga K "BadLog") "__init__") fd ["self", "place"] (spX1 K "place") ∧ Binds K fd ["self", "place"] [] := by
  obtain ⟨fd, F⟩ := h.def_BadLog_init
  exact ⟨fd, fn_exI1 "not a log" F ⟨rfl, rfl, rfl, by decide +kernel, rfl, by decide +kernel, by decide +kernel⟩ (fun cdv A outer s H E => pss_cons (ps_expr (pe_baseI (B := He.ga K "MarkError") rfl h.base_MarkError (pa_cons (pv 0) (pa_cons pe_str pa_nil)) (by decide))) (pss_one (ps_ost (pv 0) (pv 1)))), F.bindsN fun _ _ _ _ _ _ us hl => match us, hl with | [_, _], _ => rfl⟩
theorem fn_need_log (h : Facts K mg base) : Fn P w K mg base 3 (He.ga K "need_log") ["thing"] f_need_log := by
  obtain ⟨fd, F⟩ := h.def_need_log
  have bn : Binds K fd ["thing"] [] := F.bindsN fun _ _ _ _ _ _ us hl => match us, hl with | [_], _ => rfl
  have r : Fn P w K mg base 3 (He.ga K "need_log") ["thing"] (runF 3 1 b_need_log) := fn_mkN b_need_log rfl rfl F sc_need_log bn fun cdv A outer s H E hc hr hq => (ss_cons (ss_if (SW.st (sw_or (st_not (st_tru (se_isi rfl h.free_isinstance (sa_cons (se_var 0) (sa_cons (se_ty "tuple" rfl h.free_tuple (by decide +kernel)) sa_nil))))) (sw_or1 (st_gt (se_len rfl h.free_len (sa_cons (se_var 0) sa_nil)) (se_gint rfl h.con_MOST_EDITS))))) (ss_one (ss_raise1 (c := "BadLog") (f := "place") rfl h.exc_BadLog.1 h.noat_BadLog_place (exi_BadLog h) (hr.mono (by decide)) rfl (sa_cons se_non sa_nil))) ss_nil)
  (ss_cons (ss_for rfl (si_enum rfl h.free_enumerate (se_var 0)) (sg_tup rfl (sgs_cons (sg_name sc_need_log.nd (i := 1) rfl (by first | exact Or.inl rfl | exact Or.inr rfl)) (sgs_cons (sg_name sc_need_log.nd (i := 2) rfl (by first | exact Or.inl rfl | exact Or.inr rfl)) sgs_nil)) (glen_cons (glen_cons glen_nil))) (ss_one (ss_if (st_not (st_tru (se_call ((fn_is_edit h).mono (by decide)) hr hq rfl h.glo_is_edit (sa_cons (se_var 2) sa_nil) (hn := len_is_edit)))) (ss_one (ss_raise1 (c := "BadLog") (f := "place") rfl h.exc_BadLog.1 h.noat_BadLog_place (exi_BadLog h) (hr.mono (by decide)) rfl (sa_cons (se_var 1) sa_nil))) ss_nil)))
  (ss_one (ss_ret (se_var 0)))))
  exact r
theorem fn_chart_of (h : Facts K mg base) : Fn P w K mg base 6 (He.ga K "chart_of") ["length", "log"] f_chart_of := by
  obtain ⟨fd, F⟩ := h.def_chart_of
  have bn : Binds K fd ["length", "log"] [] := F.bindsN fun _ _ _ _ _ _ us hl => match us, hl with | [_, _], _ => rfl
  have r : Fn P w K mg base 6 (He.ga K "chart_of") ["length", "log"] (runF 2 2 b_chart_of) := fn_mkN b_chart_of rfl rfl F sc_chart_of bn fun cdv A outer s H E hc hr hq => (ss_cons (ss_exp (se_call ((fn_need_length h).mono (by decide)) hr hq rfl h.glo_need_length (sa_cons (se_var 0) sa_nil) (hn := len_need_length)))
  (ss_one (ss_ret (se_call ((fn_chart_by h).mono (by decide)) hr hq rfl h.glo_chart_by (sa_cons (se_var 0) (sa_cons (se_call ((fn_need_log h).mono (by decide)) hr hq rfl h.glo_need_log (sa_cons (se_var 1) sa_nil) (hn := len_need_log)) sa_nil)) (hn := len_chart_by)))))
  exact r
theorem fn_Chart_eq (h : Facts K mg base) : Fn P w K mg base 1 (He.ma K (He.ga K "Chart") "__eq__") ["self", "other"] f_Chart_eq := by
  obtain ⟨fd, F⟩ := h.def_Chart_eq
  have bn : Binds K fd ["self", "other"] [] := F.bindsN fun _ _ _ _ _ _ us hl => match us, hl with | [_, _], _ => rfl
  have r : Fn P w K mg base 1 (He.ma K (He.ga K "Chart") "__eq__") ["self", "other"] (runF 2 2 b_Chart_eq) := fn_mkN b_Chart_eq rfl rfl F sc_Chart_eq bn fun cdv A outer s H E hc hr hq => (ss_cons (ss_if (SW.st (sw_or (st_not (st_tru (se_isiC h.isc_Chart rfl h.free_isinstance (sa_cons (se_var 1) (sa_cons (se_cls (c := "Chart") rfl h.glo_Chart) sa_nil))))) (sw_or1 (st_ne hr (se_fld (c := "Chart") (f := "own_many") (se_var 0) h.glo_Chart h.cls_Chart h.noat_Chart_own_many) (se_fld (c := "Chart") (f := "own_many") (se_var 1) h.glo_Chart h.cls_Chart h.noat_Chart_own_many))))) (ss_one (ss_ret se_bl)) ss_nil)
  (ss_one (ss_ret (se_and (se_eq hr (se_fld (c := "Chart") (f := "own_lefts") (se_var 0) h.glo_Chart h.cls_Chart h.noat_Chart_own_lefts) (se_fld (c := "Chart") (f := "own_lefts") (se_var 1) h.glo_Chart h.cls_Chart h.noat_Chart_own_lefts)) (se_one (se_eq hr (se_fld (c := "Chart") (f := "own_rights") (se_var 0) h.glo_Chart h.cls_Chart h.noat_Chart_own_rights) (se_fld (c := "Chart") (f := "own_rights") (se_var 1) h.glo_Chart h.cls_Chart h.noat_Chart_own_rights)))))))
  exact r
theorem fn__law_among (h : Facts K mg base) : Fn P w K mg base 2 (He.ga K "_law_among") ["_law_m", "_law_some"] f__law_among := by
  obtain ⟨fd, F⟩ := h.def__law_among
  have bn : Binds K fd ["_law_m", "_law_some"] [] := F.bindsN fun _ _ _ _ _ _ us hl => match us, hl with | [_, _], _ => rfl
  have r : Fn P w K mg base 2 (He.ga K "_law_among") ["_law_m", "_law_some"] (runF 2 2 b__law_among) := fn_mkN b__law_among rfl rfl F sc__law_among bn fun cdv A outer s H E hc hr hq => (ss_one (ss_ret (se_sub_ix hr (se_var 1) (se_call ((fn__law_draw h).mono (by decide)) hr hq rfl h.glo__law_draw (sa_cons (se_var 0) (sa_cons (se_len rfl h.free_len (sa_cons (se_var 1) sa_nil)) sa_nil)) (hn := len__law_draw)) (fun _ _ => rfl))))
  exact r
theorem hd__law_heard (h : Facts K mg base) : ∃ fd, FunD K "_law_heard" "_law_heard" (defArgs s__law_heard) (defBody s__law_heard) (defScope s__law_heard) [] [] (He.ga K "_law_heard") fd ∧ L2.Binds K fd ["_law_call"] [] := by
  obtain ⟨fd, F⟩ := h.def__law_heard
  exact ⟨fd, F, F.bindsN fun _ _ _ _ _ _ us hl => match us, hl with | [_], _ => rfl⟩
theorem bd__law_heard (h : Facts K mg base) (cdv : Value) (A : Around) (outer : List Env) (s : Shared) (H : Hp) (E : XK) (mt : ME) (hr : Room 0 (A.deeper (envOfC "_law_heard" (defScope s__law_heard) s.heap.objs.size (He.ga K "_law_heard") cdv))) (hq : Gd (A.deeper (envOfC "_law_heard" (defScope s__law_heard) s.heap.objs.size (He.ga K "_law_heard") cdv))) (hcall : ∀ p1 p2, SE (cxOf (L2.CX P w) P w K mg base ["_law_call", "_law_caught", "e", "_law_some", "_law_at", "_law_word"] "_law_heard" (defScope s__law_heard) (He.ga K "_law_heard") cdv A outer s H E) (.Call (.Name "_law_call" p1) [] [] p2) mt) : SSs (cxOf (L2.CX P w) P w K mg base ["_law_call", "_law_caught", "e", "_law_some", "_law_at", "_law_word"] "_law_heard" (defScope s__law_heard) (He.ga K "_law_heard") cdv A outer s H E) (defBody s__law_heard) (b__law_heard mt) :=
  (ss_cons (ss_set sc__law_heard.nd (i := 1) rfl (by first | exact Or.inl rfl | exact Or.inr rfl) se_non)
  (ss_cons (ss_try (i := 2) (j := 1) rfl rfl rfl sc__law_heard.nd rfl rfl (by decide) rfl rfl rfl h.glo_MarkError rfl h.glo_Missing h.any (ss_one (ss_exp (hcall _ _))))
  (ss_cons (ss_if (st_is (se_var 1) se_non) (ss_one (ss_ret (se_str [116, 111, 108, 100]))) ss_nil)
  (ss_cons (ss_if (st_tru (se_isX h.tbl rfl h.free_isinstance (sa_cons (se_var 1) (sa_cons (se_cls (c := "Missing") rfl h.glo_Missing) sa_nil)))) (ss_one (ss_ret (se_if (st_tru (se_isX h.tbl rfl h.free_isinstance (sa_cons (se_var 1) (sa_cons (se_ty "ValueError" rfl h.free_ValueError (by decide +kernel)) sa_nil)))) (se_str [111, 100, 100]) (se_lst (sa_cons (se_str [109, 105, 115, 115, 105, 110, 103]) (sa_cons (se_xf (f := "given") (se_var 1) h.xf_given) sa_nil)))))) ss_nil)
  (ss_cons (ss_set sc__law_heard.nd (i := 3) rfl (by first | exact Or.inl rfl | exact Or.inr rfl) (se_lst (sa_cons (se_isX h.tbl rfl h.free_isinstance (sa_cons (se_var 1) (sa_cons (se_cls (c := "BadEdit") rfl h.glo_BadEdit) sa_nil))) (sa_cons (se_isX h.tbl rfl h.free_isinstance (sa_cons (se_var 1) (sa_cons (se_cls (c := "BadLog") rfl h.glo_BadLog) sa_nil))) (sa_cons (se_isX h.tbl rfl h.free_isinstance (sa_cons (se_var 1) (sa_cons (se_cls (c := "BadLength") rfl h.glo_BadLength) sa_nil))) sa_nil)))))
  (ss_cons (ss_set sc__law_heard.nd (i := 3) rfl (by first | exact Or.inl rfl | exact Or.inr rfl) (se_add (se_var 3) (se_lst (sa_cons (se_isX h.tbl rfl h.free_isinstance (sa_cons (se_var 1) (sa_cons (se_cls (c := "BadMark") rfl h.glo_BadMark) sa_nil))) (sa_cons (se_isX h.tbl rfl h.free_isinstance (sa_cons (se_var 1) (sa_cons (se_cls (c := "BadRange") rfl h.glo_BadRange) sa_nil))) (sa_cons (se_isX h.tbl rfl h.free_isinstance (sa_cons (se_var 1) (sa_cons (se_cls (c := "BadChart") rfl h.glo_BadChart) sa_nil))) sa_nil))))))
  (ss_cons (ss_set sc__law_heard.nd (i := 3) rfl (by first | exact Or.inl rfl | exact Or.inr rfl) (se_add (se_var 3) (se_lst (sa_cons (se_isX h.tbl rfl h.free_isinstance (sa_cons (se_var 1) (sa_cons (se_cls (c := "OutOfText") rfl h.glo_OutOfText) sa_nil))) (sa_cons (se_isX h.tbl rfl h.free_isinstance (sa_cons (se_var 1) (sa_cons (se_cls (c := "Unlike") rfl h.glo_Unlike) sa_nil))) sa_nil)))))
  (ss_cons (ss_if (st_ne hr (se_cnt (se_var 3) (sa_cons se_bl sa_nil)) se_int) (ss_one (ss_ret (se_str [111, 100, 100]))) ss_nil)
  (ss_cons (ss_set sc__law_heard.nd (i := 4) rfl (by first | exact Or.inl rfl | exact Or.inr rfl) (se_idx (se_var 3) (sa_cons se_bl sa_nil)))
  (ss_cons (ss_set sc__law_heard.nd (i := 5) rfl (by first | exact Or.inl rfl | exact Or.inr rfl) (se_sub_ix hr (se_lst (sa_cons (se_str [101, 100, 105, 116]) (sa_cons (se_str [108, 111, 103]) (sa_cons (se_str [108, 101, 110, 103, 116, 104]) (sa_cons (se_str [109, 97, 114, 107]) (sa_cons (se_str [114, 97, 110, 103, 101]) (sa_cons (se_str [99, 104, 97, 114, 116]) (sa_cons (se_str [111, 117, 116]) (sa_cons (se_str [117, 110, 108, 105, 107, 101]) sa_nil))))))))) (se_var 4) (fun _ _ => rfl)))
  (ss_cons (ss_if (st_in hr (se_var 4) (se_tup (sa_cons se_int (sa_cons se_int (sa_cons se_int sa_nil))))) (ss_one (ss_ret (se_lst (sa_cons (se_var 5) (sa_cons (se_xf (f := "place") (se_var 1) h.xf_place) sa_nil))))) ss_nil)
  (ss_one (ss_ret (se_if (st_lt (se_var 4) se_int) (se_lst (sa_cons (se_var 5) (sa_cons (se_xf (f := "given") (se_var 1) h.xf_given) sa_nil))) (se_lst (sa_cons (se_var 5) (sa_cons (se_xf (f := "one") (se_var 1) h.xf_one) (sa_cons (se_xf (f := "other") (se_var 1) h.xf_other) sa_nil))))))))))))))))))
theorem fn__law_moved (h : Facts K mg base) : Fn P w K mg base 1 (He.ga K "_law_moved") ["_law_row", "_law_more"] f__law_moved := by
  obtain ⟨fd, F⟩ := h.def__law_moved
  have bn : Binds K fd ["_law_row", "_law_more"] [] := F.bindsN fun _ _ _ _ _ _ us hl => match us, hl with | [_, _], _ => rfl
  have r : Fn P w K mg base 1 (He.ga K "_law_moved") ["_law_row", "_law_more"] (runF 5 2 b__law_moved) := fn_mkN b__law_moved rfl rfl F sc__law_moved bn fun cdv A outer s H E hc hr hq => (ss_one (ss_ret (se_tuple1 rfl h.free_tuple (sa_cons (se_lc (own := [("_law_word", 2), ("_law_gap", 3), ("_law_many", 4)]) rfl sc__law_moved.nd (si_seq (se_var 0)) (blkOk_by (by show blkC ["_law_row", "_law_more", "_law_word", "_law_gap", "_law_many"] (defScope s__law_moved) _ _ = true; decide +kernel)) (by decide) (fun _ _ _ _ _ => (sg_tup rfl (sgs_cons (sg_name sc__law_moved.nd (i := 2) rfl (by first | exact Or.inl rfl | exact Or.inr rfl)) (sgs_cons (sg_name sc__law_moved.nd (i := 3) rfl (by first | exact Or.inl rfl | exact Or.inr rfl)) (sgs_cons (sg_name sc__law_moved.nd (i := 4) rfl (by first | exact Or.inl rfl | exact Or.inr rfl)) sgs_nil))) (glen_cons (glen_cons (glen_cons glen_nil))))) (fun _ _ _ _ _ => sts_nil) (fun _ _ _ _ _ => (se_tup (sa_cons (se_var 2) (sa_cons (se_add (se_var 3) (se_var 1)) (sa_cons (se_var 4) sa_nil)))))) sa_nil))))
  exact r
theorem fn_law (h : Facts K mg base) : Fn P w K mg base 8 (He.ga K "law") ["_law_script"] f_law := by
  obtain ⟨fd, F⟩ := h.def_law
  have bn : Binds K fd ["_law_script"] [] := F.bindsN fun _ _ _ _ _ _ us hl => match us, hl with | [_], _ => rfl
  have r : Fn P w K mg base 8 (He.ga K "law") ["_law_script"] (runF 12 1 b_law) := fn_mkN b_law rfl rfl F sc_law bn fun cdv A outer s H E hc hr hq => (ss_cons (ss_set sc_law.nd (i := 1) rfl (by first | exact Or.inl rfl | exact Or.inr rfl) (se_call ((fn__law_begun h).mono (by decide)) hr hq rfl h.glo__law_begun (sa_cons (se_var 0) sa_nil) (hn := len__law_begun)))
  (ss_cons (ss_for rfl (si_rng1 rfl h.free_range (sa_cons (se_add se_int (se_min rfl rfl h.free_min (sa_cons se_int (sa_cons (se_len rfl h.free_len (sa_cons (se_var 0) sa_nil)) sa_nil)))) sa_nil)) (sg_name sc_law.nd (i := 2) rfl (by first | exact Or.inl rfl | exact Or.inr rfl)) (ss_cons (ss_set sc_law.nd (i := 3) rfl (by first | exact Or.inl rfl | exact Or.inr rfl) (se_add se_int (se_call ((fn__law_draw h).mono (by decide)) hr hq rfl h.glo__law_draw (sa_cons (se_var 1) (sa_cons (se_sub_ix hr (se_lst (sa_cons se_int (sa_cons se_int sa_nil))) (se_call ((fn__law_draw h).mono (by decide)) hr hq rfl h.glo__law_draw (sa_cons (se_var 1) (sa_cons se_int sa_nil)) (hn := len__law_draw)) (fun _ _ => rfl)) sa_nil)) (hn := len__law_draw))))
  (ss_cons (ss_asg (se_tup (sa_cons (se_call ((fn__law_edit h).mono (by decide)) hr hq rfl h.glo__law_edit (sa_cons (se_var 1) (sa_cons (se_var 3) sa_nil)) (hn := len__law_edit)) (sa_cons (se_call ((fn__law_edit h).mono (by decide)) hr hq rfl h.glo__law_edit (sa_cons (se_var 1) (sa_cons (se_var 3) sa_nil)) (hn := len__law_edit)) sa_nil))) (sg_tup rfl (sgs_cons (sg_name sc_law.nd (i := 4) rfl (by first | exact Or.inl rfl | exact Or.inr rfl)) (sgs_cons (sg_name sc_law.nd (i := 5) rfl (by first | exact Or.inl rfl | exact Or.inr rfl)) sgs_nil)) (glen_cons (glen_cons glen_nil))))
  (ss_cons (ss_asg (se_call ((fn_both_ways h).mono (by decide)) hr hq rfl h.glo_both_ways (sa_cons (se_var 4) (sa_cons (se_var 5) sa_nil)) (hn := len_both_ways)) (sg_tup rfl (sgs_cons (sg_name sc_law.nd (i := 6) rfl (by first | exact Or.inl rfl | exact Or.inr rfl)) (sgs_cons (sg_name sc_law.nd (i := 7) rfl (by first | exact Or.inl rfl | exact Or.inr rfl)) sgs_nil)) (glen_cons (glen_cons glen_nil))))
  (ss_cons (ss_if (st_ne hr (se_call ((fn__law_signs h).mono (by decide)) hr hq rfl h.glo__law_signs (sa_cons (se_var 3) (sa_cons (se_var 6) (sa_cons (se_str [97, 98, 98, 98]) sa_nil))) (hn := len__law_signs)) (se_call ((fn__law_signs h).mono (by decide)) hr hq rfl h.glo__law_signs (sa_cons (se_var 3) (sa_cons (se_var 7) (sa_cons (se_str [98, 97, 97, 97]) sa_nil))) (hn := len__law_signs))) (ss_one (ss_ret se_bl)) ss_nil)
  (ss_cons (ss_set sc_law.nd (i := 8) rfl (by first | exact Or.inl rfl | exact Or.inr rfl) (se_and (se_not (se_call ((fn__law_is_within h).mono (by decide)) hr hq rfl h.glo__law_is_within (sa_cons (se_var 4) (sa_cons (se_var 5) sa_nil)) (hn := len__law_is_within))) (se_one (se_not (se_call ((fn__law_is_within h).mono (by decide)) hr hq rfl h.glo__law_is_within (sa_cons (se_var 5) (sa_cons (se_var 4) sa_nil)) (hn := len__law_is_within))))))
  (ss_cons (ss_if (st_ne hr (se_repr h.sys hr hq rfl h.free_repr (sa_cons (se_lst (sa_cons (se_call ((fn_ways_alike h).mono (by decide)) hr hq rfl h.glo_ways_alike (sa_cons (se_var 4) (sa_cons (se_var 5) sa_nil)) (hn := len_ways_alike)) (sa_cons (se_call ((fn_ways_alike h).mono (by decide)) hr hq rfl h.glo_ways_alike (sa_cons (se_var 5) (sa_cons (se_var 4) sa_nil)) (hn := len_ways_alike)) sa_nil))) sa_nil)) (se_repr h.sys hr hq rfl h.free_repr (sa_cons (se_lst (sa_cons (se_var 8) (sa_cons (se_var 8) sa_nil))) sa_nil))) (ss_one (ss_ret se_bl)) ss_nil)
  (ss_cons (ss_if (st_ne hr (se_eq hr (se_call ((fn__law_chart h).mono (by decide)) hr hq rfl h.glo__law_chart (sa_cons (se_var 3) (sa_cons (se_var 6) sa_nil)) (hn := len__law_chart)) (se_call ((fn__law_chart h).mono (by decide)) hr hq rfl h.glo__law_chart (sa_cons (se_var 3) (sa_cons (se_var 7) sa_nil)) (hn := len__law_chart))) (se_var 8)) (ss_one (ss_ret se_bl)) ss_nil)
  (ss_cons (ss_if (st_ne hr (se_eqCD (c := "Chart") ((fn_Chart_eq h).mono (by decide)) rfl h.meth_Chart_eq.at_ h.meth_Chart_eq.fn hr hq h.glo_Chart (se_call ((fn_chart_of h).mono (by decide)) hr hq rfl h.glo_chart_of (sa_cons (se_var 3) (sa_cons (se_var 6) sa_nil)) (hn := len_chart_of)) (se_call ((fn_chart_of h).mono (by decide)) hr hq rfl h.glo_chart_of (sa_cons (se_var 3) (sa_cons (se_var 7) sa_nil)) (hn := len_chart_of))) (se_var 8)) (ss_one (ss_ret se_bl)) ss_nil)
  (ss_cons (ss_set sc_law.nd (i := 9) rfl (by first | exact Or.inl rfl | exact Or.inr rfl) (se_call ((fn__law_among h).mono (by decide)) hr hq rfl h.glo__law_among (sa_cons (se_var 1) (sa_cons (se_lst (sa_cons se_non (sa_cons se_int (sa_cons (se_tup sa_nil) (sa_cons (se_tup (sa_cons (se_str [105, 110]) (sa_cons se_int sa_nil))) (sa_cons (se_tup (sa_cons (se_str [111, 117, 116]) (sa_cons se_int (sa_cons se_int sa_nil)))) (sa_cons (se_lst (sa_cons (se_str [105, 110]) (sa_cons se_int (sa_cons se_int sa_nil)))) sa_nil))))))) sa_nil)) (hn := len__law_among)))
  (ss_cons (ss_if (st_ne hr (se_repr h.sys hr hq rfl h.free_repr (sa_cons (se_heard (x := "_law_heard") (k := 5) rfl h.glo__law_heard (hd__law_heard h) rfl sc__law_heard rfl rfl (by first | exact Or.inl rfl | exact Or.inr (Or.inl rfl) | exact Or.inr (Or.inr rfl)) (fun s H mt hr hq hcall => bd__law_heard h _ _ _ s H _ mt (hr.mono (by decide)) hq hcall) hR__law_heard h.lam_law.tb (hc.symm.trans h.lam_law.code) h.lam_law.mem h.lam_law.un (hr.mono (by decide)) hq (LamX.lamS_by (by show LamX.lamSB (defScope s_law) _ = true; decide +kernel)) rfl (fun _ _ _ _ _ => rfl) (fun _ _ _ _ _ _ _ hr hq => (se_call ((fn_ways_alike h).mono (by decide)) hr hq rfl h.glo_ways_alike (sa_cons (se_var 4) (sa_cons (se_var 9) sa_nil)) (hn := len_ways_alike)))) sa_nil)) (se_repr h.sys hr hq rfl h.free_repr (sa_cons (se_lst (sa_cons (se_str [101, 100, 105, 116]) (sa_cons (se_var 9) sa_nil))) sa_nil))) (ss_one (ss_ret se_bl)) ss_nil)
  (ss_cons (ss_set sc_law.nd (i := 10) rfl (by first | exact Or.inl rfl | exact Or.inr rfl) (se_if (st_lt (se_var 2) se_int) (se_call ((fn__law_among h).mono (by decide)) hr hq rfl h.glo__law_among (sa_cons (se_var 1) (sa_cons (se_lst (sa_cons se_int (sa_cons se_int (sa_cons se_int sa_nil)))) sa_nil)) (hn := len__law_among)) se_int))
  (ss_one (ss_if (st_gt (se_var 10) se_int) (ss_cons (ss_asg (se_call ((fn__law_moved h).mono (by decide)) hr hq rfl h.glo__law_moved (sa_cons (se_tup (sa_cons (se_var 4) (sa_cons (se_var 5) sa_nil))) (sa_cons (se_var 10) sa_nil)) (hn := len__law_moved)) (sg_tup rfl (sgs_cons (sg_name sc_law.nd (i := 11) rfl (by first | exact Or.inl rfl | exact Or.inr rfl)) (sgs_cons (sg_name sc_law.nd (i := 5) rfl (by first | exact Or.inl rfl | exact Or.inr rfl)) sgs_nil)) (glen_cons (glen_cons glen_nil))))
  (ss_cons (ss_if (st_ne hr (se_call ((fn_both_ways h).mono (by decide)) hr hq rfl h.glo_both_ways (sa_cons (se_var 11) (sa_cons (se_var 5) sa_nil)) (hn := len_both_ways)) (se_tup (sa_cons (se_call ((fn__law_moved h).mono (by decide)) hr hq rfl h.glo__law_moved (sa_cons (se_var 6) (sa_cons (se_var 10) sa_nil)) (hn := len__law_moved)) (sa_cons (se_call ((fn__law_moved h).mono (by decide)) hr hq rfl h.glo__law_moved (sa_cons (se_var 7) (sa_cons (se_var 10) sa_nil)) (hn := len__law_moved)) sa_nil)))) (ss_one (ss_ret se_bl)) ss_nil)
  (ss_one (ss_if (st_ne hr (se_repr h.sys hr hq rfl h.free_repr (sa_cons (se_call ((fn_ways_alike h).mono (by decide)) hr hq rfl h.glo_ways_alike (sa_cons (se_var 11) (sa_cons (se_var 5) sa_nil)) (hn := len_ways_alike)) sa_nil)) (se_repr h.sys hr hq rfl h.free_repr (sa_cons (se_var 8) sa_nil))) (ss_one (ss_ret se_bl)) ss_nil)))) ss_nil))))))))))))))
  (ss_one (ss_ret se_bl))))
  exact r
end
end T5.G
namespace T5.G
open PySem PySem.Spec PyProof.Rows L2
/-! ### the head -/
abbrev fn : List He.DefD := [⟨("_law_begun", none), "_law_begun", "_law_begun", defArgs s__law_begun, defBody s__law_begun, defScope s__law_begun, [], []⟩,
  ⟨("_law_draw", none), "_law_draw", "_law_draw", defArgs s__law_draw, defBody s__law_draw, defScope s__law_draw, [], []⟩,
  ⟨("_law_edit", none), "_law_edit", "_law_edit", defArgs s__law_edit, defBody s__law_edit, defScope s__law_edit, [], []⟩,
  ⟨("is_integer", none), "is_integer", "is_integer", defArgs s_is_integer, defBody s_is_integer, defScope s_is_integer, [], []⟩,
  ⟨("is_edit", none), "is_edit", "is_edit", defArgs s_is_edit, defBody s_is_edit, defScope s_is_edit, [], []⟩,
  ⟨("BadEdit", some "__init__"), "__init__", "BadEdit.__init__", defArgs s_BadEdit_init, defBody s_BadEdit_init, defScope s_BadEdit_init, [], []⟩,
  ⟨("need_edit", none), "need_edit", "need_edit", defArgs s_need_edit, defBody s_need_edit, defScope s_need_edit, [], []⟩,
  ⟨("gap_behind", none), "gap_behind", "gap_behind", defArgs s_gap_behind, defBody s_gap_behind, defScope s_gap_behind, [], []⟩,
  ⟨("still_there", none), "still_there", "still_there", defArgs s_still_there, defBody s_still_there, defScope s_still_there, [], []⟩,
  ⟨("done_behind", none), "done_behind", "done_behind", defArgs s_done_behind, defBody s_done_behind, defScope s_done_behind, [], []⟩,
  ⟨("both_ways", none), "both_ways", "both_ways", defArgs s_both_ways, defBody s_both_ways, defScope s_both_ways, [], []⟩,
  ⟨("_law_signs", none), "_law_signs", "_law_signs", defArgs s__law_signs, defBody s__law_signs, defScope s__law_signs, [], []⟩,
  ⟨("_law_is_within", none), "_law_is_within", "_law_is_within", defArgs s__law_is_within, defBody s__law_is_within, defScope s__law_is_within, [], []⟩,
  ⟨("reach_of", none), "reach_of", "reach_of", defArgs s_reach_of, defBody s_reach_of, defScope s_reach_of, [], []⟩,
  ⟨("carried", none), "carried", "carried", defArgs s_carried, defBody s_carried, defScope s_carried, [], []⟩,
  ⟨("ways_alike", none), "ways_alike", "ways_alike", defArgs s_ways_alike, defBody s_ways_alike, defScope s_ways_alike, [], []⟩,
  ⟨("_law_rows", none), "_law_rows", "_law_rows", defArgs s__law_rows, defBody s__law_rows, defScope s__law_rows, [], []⟩,
  ⟨("_law_chart", none), "_law_chart", "_law_chart", defArgs s__law_chart, defBody s__law_chart, defScope s__law_chart, [], []⟩,
  ⟨("BadLength", some "__init__"), "__init__", "BadLength.__init__", defArgs s_BadLength_init, defBody s_BadLength_init, defScope s_BadLength_init, [], []⟩,
  ⟨("need_length", none), "need_length", "need_length", defArgs s_need_length, defBody s_need_length, defScope s_need_length, [], []⟩,
  ⟨("OutOfText", some "__init__"), "__init__", "OutOfText.__init__", defArgs s_OutOfText_init, defBody s_OutOfText_init, defScope s_OutOfText_init, [], []⟩,
  ⟨("grown", none), "grown", "grown", defArgs s_grown, defBody s_grown, defScope s_grown, [], []⟩,
  ⟨("is_row", none), "is_row", "is_row", defArgs s_is_row, defBody s_is_row, defScope s_is_row, [], []⟩,
  ⟨("BadChart", some "__init__"), "__init__", "BadChart.__init__", defArgs s_BadChart_init, defBody s_BadChart_init, defScope s_BadChart_init, [], []⟩,
  ⟨("is_gap_right", none), "is_gap_right", "is_gap_right", defArgs s_is_gap_right, defBody s_is_gap_right, defScope s_is_gap_right, [], []⟩,
  ⟨("Chart", some "__init__"), "__init__", "Chart.__init__", defArgs s_Chart_init, defBody s_Chart_init, defScope s_Chart_init, [], []⟩,
  ⟨("chart_by", none), "chart_by", "chart_by", defArgs s_chart_by, defBody s_chart_by, defScope s_chart_by, [], []⟩,
  ⟨("BadLog", some "__init__"), "__init__", "BadLog.__init__", defArgs s_BadLog_init, defBody s_BadLog_init, defScope s_BadLog_init, [], []⟩,
  ⟨("need_log", none), "need_log", "need_log", defArgs s_need_log, defBody s_need_log, defScope s_need_log, [], []⟩,
  ⟨("chart_of", none), "chart_of", "chart_of", defArgs s_chart_of, defBody s_chart_of, defScope s_chart_of, [], []⟩,
  ⟨("Chart", some "__eq__"), "__eq__", "Chart.__eq__", defArgs s_Chart_eq, defBody s_Chart_eq, defScope s_Chart_eq, [], []⟩,
  ⟨("_law_among", none), "_law_among", "_law_among", defArgs s__law_among, defBody s__law_among, defScope s__law_among, [], []⟩,
  ⟨("_law_heard", none), "_law_heard", "_law_heard", defArgs s__law_heard, defBody s__law_heard, defScope s__law_heard, [], []⟩,
  ⟨("_law_moved", none), "_law_moved", "_law_moved", defArgs s__law_moved, defBody s__law_moved, defScope s__law_moved, [], []⟩,
  ⟨("law", none), "law", "law", defArgs s_law, defBody s_law, defScope s_law, [], []⟩]
abbrev pn : List He.DefD := []
abbrev fa : List He.Fa := [.free "len", .free "enumerate", .free "int", .glo "_law_begun", .free "min", .free "range", .glo "_law_draw", .glo "_law_edit", .free "str", .free "isinstance", .free "tuple", .str "OUT" "out", .str "IN" "in", .free "bool", .int "MOST_MANY" 9, .glo "is_integer", .int "MOST_GAP" 999, .glo "is_edit", .glo "BadEdit", .glo "MarkError", .noat "BadEdit" "given", .glo "need_edit", .str "LEFT" "left", .free "max", .str "RIGHT" "right", .glo "gap_behind", .glo "still_there", .glo "done_behind", .glo "both_ways", .free "list", .glo "_law_signs", .glo "_law_is_within", .glo "reach_of", .glo "carried", .free "any", .glo "ways_alike", .free "repr", .glo "_law_rows", .glo "_law_chart", .int "MOST_LENGTH" 100, .glo "BadLength", .noat "BadLength" "given", .glo "need_length", .glo "OutOfText", .noat "OutOfText" "place", .glo "grown", .int "MOST_GAPS" 101, .free "all", .glo "is_row", .int "MOST_BEHIND" 500, .glo "BadChart", .noat "BadChart" "place", .glo "is_gap_right", .glo "Chart", .cls "Chart", .noat "Chart" "own_many", .noat "Chart" "own_lefts", .noat "Chart" "own_rights", .noat "Chart" "own_signs", .mkr "Chart", .int "MOST_EDITS" 40, .glo "BadLog", .noat "BadLog" "place", .glo "need_log", .glo "chart_by", .glo "chart_of", .meth "Chart" "__eq__", .glo "_law_among", .glo "Missing", .free "ValueError", .glo "BadMark", .glo "BadRange", .glo "Unlike", .glo "_law_heard", .glo "_law_moved", .glo "law"]
abbrev fx : List Fy := [.base "MarkError", .exk "BadEdit", .sys, .exk "BadLength", .exk "OutOfText", .exk "BadChart", .exk "BadLog", .isc "Chart", .any "BadEdit" "MarkError" "Missing", .any "BadLength" "MarkError" "Missing", .any "OutOfText" "MarkError" "Missing", .any "BadChart" "MarkError" "Missing", .any "BadLog" "MarkError" "Missing", .kitC "BadEdit" "Missing" false, .kitT "BadEdit" "ValueError" true, .kitC "BadEdit" "BadEdit" true, .kitC "BadEdit" "BadLog" false, .kitC "BadEdit" "BadLength" false, .kitC "BadEdit" "BadMark" false, .kitC "BadEdit" "BadRange" false, .kitC "BadEdit" "BadChart" false, .kitC "BadEdit" "OutOfText" false, .kitC "BadEdit" "Unlike" false, .kitC "BadLength" "Missing" false, .kitT "BadLength" "ValueError" true, .kitC "BadLength" "BadEdit" false, .kitC "BadLength" "BadLog" false, .kitC "BadLength" "BadLength" true, .kitC "BadLength" "BadMark" false, .kitC "BadLength" "BadRange" false, .kitC "BadLength" "BadChart" false, .kitC "BadLength" "OutOfText" false, .kitC "BadLength" "Unlike" false, .kitC "OutOfText" "Missing" false, .kitT "OutOfText" "ValueError" true, .kitC "OutOfText" "BadEdit" false, .kitC "OutOfText" "BadLog" false, .kitC "OutOfText" "BadLength" false, .kitC "OutOfText" "BadMark" false, .kitC "OutOfText" "BadRange" false, .kitC "OutOfText" "BadChart" false, .kitC "OutOfText" "OutOfText" true, .kitC "OutOfText" "Unlike" false, .kitC "BadChart" "Missing" false, .kitT "BadChart" "ValueError" true, .kitC "BadChart" "BadEdit" false, .kitC "BadChart" "BadLog" false, .kitC "BadChart" "BadLength" false, .kitC "BadChart" "BadMark" false, .kitC "BadChart" "BadRange" false, .kitC "BadChart" "BadChart" true, .kitC "BadChart" "OutOfText" false, .kitC "BadChart" "Unlike" false, .kitC "BadLog" "Missing" false, .kitT "BadLog" "ValueError" true, .kitC "BadLog" "BadEdit" false, .kitC "BadLog" "BadLog" true, .kitC "BadLog" "BadLength" false, .kitC "BadLog" "BadMark" false, .kitC "BadLog" "BadRange" false, .kitC "BadLog" "BadChart" false, .kitC "BadLog" "OutOfText" false, .kitC "BadLog" "Unlike" false]
abbrev lq : List (DefA × Str) := [(("law", none), "law.<locals>.<lambda>")]
theorem facts_of {K : PySem.W.Frag} {h : Heap} {mg : Str → Option Value} (X : K.In h) (G : h.Ns mainGlobals mg) (c : SaysL fa fn fx (lq.map (·.1)) pn K) (hb : ∀ p ∈ lq.map (fun p => (cA K p.1, tA K p.1)), LamX.TabB h mg p.1 p.2) : @Facts (tabsC K lq) K mg h :=
  @Facts.mk (tabsC K lq) K mg h
    (He.free_ok X G (c.d.fact 0 (f := .free "len") rfl))
    (He.free_ok X G (c.d.fact 1 (f := .free "enumerate") rfl))
    (He.free_ok X G (c.d.fact 2 (f := .free "int") rfl))
    (c.d.def_ 0 (d := fn[0]) rfl)
    (He.glo_ok X G (c.d.fact 3 (f := .glo "_law_begun") rfl))
    (He.free_ok X G (c.d.fact 4 (f := .free "min") rfl))
    (He.free_ok X G (c.d.fact 5 (f := .free "range") rfl))
    (c.d.def_ 1 (d := fn[1]) rfl)
    (He.glo_ok X G (c.d.fact 6 (f := .glo "_law_draw") rfl))
    (c.d.def_ 2 (d := fn[2]) rfl)
    (He.glo_ok X G (c.d.fact 7 (f := .glo "_law_edit") rfl))
    (He.free_ok X G (c.d.fact 8 (f := .free "str") rfl))
    (He.free_ok X G (c.d.fact 9 (f := .free "isinstance") rfl))
    (He.free_ok X G (c.d.fact 10 (f := .free "tuple") rfl))
    (He.str_ok X G (c.d.fact 11 (f := .str "OUT" "out") rfl))
    (He.str_ok X G (c.d.fact 12 (f := .str "IN" "in") rfl))
    (He.free_ok X G (c.d.fact 13 (f := .free "bool") rfl))
    (c.d.def_ 3 (d := fn[3]) rfl)
    (He.int_ok X G (c.d.fact 14 (f := .int "MOST_MANY" 9) rfl))
    (He.glo_ok X G (c.d.fact 15 (f := .glo "is_integer") rfl))
    (He.int_ok X G (c.d.fact 16 (f := .int "MOST_GAP" 999) rfl))
    (c.d.def_ 4 (d := fn[4]) rfl)
    (He.glo_ok X G (c.d.fact 17 (f := .glo "is_edit") rfl))
    (He.glo_ok X G (c.d.fact 18 (f := .glo "BadEdit") rfl))
    (He.glo_ok X G (c.d.fact 19 (f := .glo "MarkError") rfl))
    (c.d.def_ 5 (d := fn[5]) rfl)
    (base_ok (He.glo_ok X G (c.d.fact 19 (f := .glo "MarkError") rfl)) (c.x 0 (f := .base "MarkError") rfl))
    (exk_ok (x := "BadEdit") (He.glo_ok X G (c.d.fact 18 (f := .glo "BadEdit") rfl)) (c.x 1 (f := .exk "BadEdit") rfl))
    (He.noat_ok (c.d.fact 20 (f := .noat "BadEdit" "given") rfl))
    (c.d.def_ 6 (d := fn[6]) rfl)
    (He.glo_ok X G (c.d.fact 21 (f := .glo "need_edit") rfl))
    (He.str_ok X G (c.d.fact 22 (f := .str "LEFT" "left") rfl))
    (He.free_ok X G (c.d.fact 23 (f := .free "max") rfl))
    (c.d.def_ 7 (d := fn[7]) rfl)
    (He.str_ok X G (c.d.fact 24 (f := .str "RIGHT" "right") rfl))
    (He.glo_ok X G (c.d.fact 25 (f := .glo "gap_behind") rfl))
    (c.d.def_ 8 (d := fn[8]) rfl)
    (He.glo_ok X G (c.d.fact 26 (f := .glo "still_there") rfl))
    (c.d.def_ 9 (d := fn[9]) rfl)
    (He.glo_ok X G (c.d.fact 27 (f := .glo "done_behind") rfl))
    (c.d.def_ 10 (d := fn[10]) rfl)
    (He.glo_ok X G (c.d.fact 28 (f := .glo "both_ways") rfl))
    (He.free_ok X G (c.d.fact 29 (f := .free "list") rfl))
    (c.d.def_ 11 (d := fn[11]) rfl)
    (He.glo_ok X G (c.d.fact 30 (f := .glo "_law_signs") rfl))
    (c.d.def_ 12 (d := fn[12]) rfl)
    (He.glo_ok X G (c.d.fact 31 (f := .glo "_law_is_within") rfl))
    (c.d.def_ 13 (d := fn[13]) rfl)
    (He.glo_ok X G (c.d.fact 32 (f := .glo "reach_of") rfl))
    (c.d.def_ 14 (d := fn[14]) rfl)
    (He.glo_ok X G (c.d.fact 33 (f := .glo "carried") rfl))
    (He.free_ok X G (c.d.fact 34 (f := .free "any") rfl))
    (c.d.def_ 15 (d := fn[15]) rfl)
    (He.glo_ok X G (c.d.fact 35 (f := .glo "ways_alike") rfl))
    (sys_ok (c.x 2 (f := .sys) rfl))
    (He.free_ok X G (c.d.fact 36 (f := .free "repr") rfl))
    (c.d.def_ 16 (d := fn[16]) rfl)
    (He.glo_ok X G (c.d.fact 37 (f := .glo "_law_rows") rfl))
    (c.d.def_ 17 (d := fn[17]) rfl)
    (He.glo_ok X G (c.d.fact 38 (f := .glo "_law_chart") rfl))
    (He.int_ok X G (c.d.fact 39 (f := .int "MOST_LENGTH" 100) rfl))
    (He.glo_ok X G (c.d.fact 40 (f := .glo "BadLength") rfl))
    (c.d.def_ 18 (d := fn[18]) rfl)
    (exk_ok (x := "BadLength") (He.glo_ok X G (c.d.fact 40 (f := .glo "BadLength") rfl)) (c.x 3 (f := .exk "BadLength") rfl))
    (He.noat_ok (c.d.fact 41 (f := .noat "BadLength" "given") rfl))
    (c.d.def_ 19 (d := fn[19]) rfl)
    (He.glo_ok X G (c.d.fact 42 (f := .glo "need_length") rfl))
    (He.glo_ok X G (c.d.fact 43 (f := .glo "OutOfText") rfl))
    (c.d.def_ 20 (d := fn[20]) rfl)
    (exk_ok (x := "OutOfText") (He.glo_ok X G (c.d.fact 43 (f := .glo "OutOfText") rfl)) (c.x 4 (f := .exk "OutOfText") rfl))
    (He.noat_ok (c.d.fact 44 (f := .noat "OutOfText" "place") rfl))
    (c.d.def_ 21 (d := fn[21]) rfl)
    (He.glo_ok X G (c.d.fact 45 (f := .glo "grown") rfl))
    (He.int_ok X G (c.d.fact 46 (f := .int "MOST_GAPS" 101) rfl))
    (He.free_ok X G (c.d.fact 47 (f := .free "all") rfl))
    (c.d.def_ 22 (d := fn[22]) rfl)
    (He.glo_ok X G (c.d.fact 48 (f := .glo "is_row") rfl))
    (He.int_ok X G (c.d.fact 49 (f := .int "MOST_BEHIND" 500) rfl))
    (He.glo_ok X G (c.d.fact 50 (f := .glo "BadChart") rfl))
    (c.d.def_ 23 (d := fn[23]) rfl)
    (exk_ok (x := "BadChart") (He.glo_ok X G (c.d.fact 50 (f := .glo "BadChart") rfl)) (c.x 5 (f := .exk "BadChart") rfl))
    (He.noat_ok (c.d.fact 51 (f := .noat "BadChart" "place") rfl))
    (c.d.def_ 24 (d := fn[24]) rfl)
    (He.glo_ok X G (c.d.fact 52 (f := .glo "is_gap_right") rfl))
    (He.glo_ok X G (c.d.fact 53 (f := .glo "Chart") rfl))
    (He.cls_ok (c.d.fact 54 (f := .cls "Chart") rfl))
    (He.noat_ok (c.d.fact 55 (f := .noat "Chart" "own_many") rfl))
    (He.noat_ok (c.d.fact 56 (f := .noat "Chart" "own_lefts") rfl))
    (He.noat_ok (c.d.fact 57 (f := .noat "Chart" "own_rights") rfl))
    (He.noat_ok (c.d.fact 58 (f := .noat "Chart" "own_signs") rfl))
    (c.d.def_ 25 (d := fn[25]) rfl)
    (He.mkr_ok (c.d.fact 59 (f := .mkr "Chart") rfl))
    (c.d.def_ 26 (d := fn[26]) rfl)
    (He.int_ok X G (c.d.fact 60 (f := .int "MOST_EDITS" 40) rfl))
    (He.glo_ok X G (c.d.fact 61 (f := .glo "BadLog") rfl))
    (c.d.def_ 27 (d := fn[27]) rfl)
    (exk_ok (x := "BadLog") (He.glo_ok X G (c.d.fact 61 (f := .glo "BadLog") rfl)) (c.x 6 (f := .exk "BadLog") rfl))
    (He.noat_ok (c.d.fact 62 (f := .noat "BadLog" "place") rfl))
    (c.d.def_ 28 (d := fn[28]) rfl)
    (He.glo_ok X G (c.d.fact 63 (f := .glo "need_log") rfl))
    (He.glo_ok X G (c.d.fact 64 (f := .glo "chart_by") rfl))
    (c.d.def_ 29 (d := fn[29]) rfl)
    (He.glo_ok X G (c.d.fact 65 (f := .glo "chart_of") rfl))
    (iscY (He.glo_ok X G (c.d.fact 53 (f := .glo "Chart") rfl)) (He.cls_ok (c.d.fact 54 (f := .cls "Chart") rfl)) (c.x 7 (f := .isc "Chart") rfl))
    (c.d.def_ 30 (d := fn[30]) rfl)
    (He.meth_ok (c.d.fact 66 (f := .meth "Chart" "__eq__") rfl))
    (c.d.def_ 31 (d := fn[31]) rfl)
    (He.glo_ok X G (c.d.fact 67 (f := .glo "_law_among") rfl))
    (List.forall_mem_cons.2 ⟨⟨_, (He.glo_ok X G (c.d.fact 18 (f := .glo "BadEdit") rfl)), any_ok (c.x 8 (f := .any "BadEdit" "MarkError" "Missing") rfl)⟩, List.forall_mem_cons.2 ⟨⟨_, (He.glo_ok X G (c.d.fact 40 (f := .glo "BadLength") rfl)), any_ok (c.x 9 (f := .any "BadLength" "MarkError" "Missing") rfl)⟩, List.forall_mem_cons.2 ⟨⟨_, (He.glo_ok X G (c.d.fact 43 (f := .glo "OutOfText") rfl)), any_ok (c.x 10 (f := .any "OutOfText" "MarkError" "Missing") rfl)⟩, List.forall_mem_cons.2 ⟨⟨_, (He.glo_ok X G (c.d.fact 50 (f := .glo "BadChart") rfl)), any_ok (c.x 11 (f := .any "BadChart" "MarkError" "Missing") rfl)⟩, List.forall_mem_cons.2 ⟨⟨_, (He.glo_ok X G (c.d.fact 61 (f := .glo "BadLog") rfl)), any_ok (c.x 12 (f := .any "BadLog" "MarkError" "Missing") rfl)⟩, (fun _ h => nomatch h)⟩⟩⟩⟩⟩)
    (He.glo_ok X G (c.d.fact 68 (f := .glo "Missing") rfl))
    (He.free_ok X G (c.d.fact 69 (f := .free "ValueError") rfl))
    (He.glo_ok X G (c.d.fact 70 (f := .glo "BadMark") rfl))
    (He.glo_ok X G (c.d.fact 71 (f := .glo "BadRange") rfl))
    (He.glo_ok X G (c.d.fact 72 (f := .glo "Unlike") rfl))
    (c.d.def_ 32 (d := fn[32]) rfl)
    (lamF_of c hb (p := ("law", none)) (.head _))
    (He.glo_ok X G (c.d.fact 73 (f := .glo "_law_heard") rfl))
    (c.d.def_ 33 (d := fn[33]) rfl)
    (He.glo_ok X G (c.d.fact 74 (f := .glo "_law_moved") rfl))
    (c.d.def_ 34 (d := fn[34]) rfl)
    (List.forall_mem_cons.2 ⟨⟨_, (He.glo_ok X G (c.d.fact 18 (f := .glo "BadEdit") rfl)), (exk_ok (x := "BadEdit") (He.glo_ok X G (c.d.fact 18 (f := .glo "BadEdit") rfl)) (c.x 1 (f := .exk "BadEdit") rfl)).2, (show ∃ C', mg (Str.ofString "Missing") = some (.ref C') ∧ PySem.W.kitOne K (.ref (He.ga K "BadEdit")) (.ref C') = some false from ⟨_, (He.glo_ok X G (c.d.fact 68 (f := .glo "Missing") rfl)), kitC_ok (c.x 13 (f := .kitC "BadEdit" "Missing" false) rfl)⟩)⟩, List.forall_mem_cons.2 ⟨⟨_, (He.glo_ok X G (c.d.fact 18 (f := .glo "BadEdit") rfl)), (exk_ok (x := "BadEdit") (He.glo_ok X G (c.d.fact 18 (f := .glo "BadEdit") rfl)) (c.x 1 (f := .exk "BadEdit") rfl)).2, (kitT_ok (c.x 14 (f := .kitT "BadEdit" "ValueError" true) rfl))⟩, List.forall_mem_cons.2 ⟨⟨_, (He.glo_ok X G (c.d.fact 18 (f := .glo "BadEdit") rfl)), (exk_ok (x := "BadEdit") (He.glo_ok X G (c.d.fact 18 (f := .glo "BadEdit") rfl)) (c.x 1 (f := .exk "BadEdit") rfl)).2, (show ∃ C', mg (Str.ofString "BadEdit") = some (.ref C') ∧ PySem.W.kitOne K (.ref (He.ga K "BadEdit")) (.ref C') = some true from ⟨_, (He.glo_ok X G (c.d.fact 18 (f := .glo "BadEdit") rfl)), kitC_ok (c.x 15 (f := .kitC "BadEdit" "BadEdit" true) rfl)⟩)⟩, List.forall_mem_cons.2 ⟨⟨_, (He.glo_ok X G (c.d.fact 18 (f := .glo "BadEdit") rfl)), (exk_ok (x := "BadEdit") (He.glo_ok X G (c.d.fact 18 (f := .glo "BadEdit") rfl)) (c.x 1 (f := .exk "BadEdit") rfl)).2, (show ∃ C', mg (Str.ofString "BadLog") = some (.ref C') ∧ PySem.W.kitOne K (.ref (He.ga K "BadEdit")) (.ref C') = some false from ⟨_, (He.glo_ok X G (c.d.fact 61 (f := .glo "BadLog") rfl)), kitC_ok (c.x 16 (f := .kitC "BadEdit" "BadLog" false) rfl)⟩)⟩, List.forall_mem_cons.2 ⟨⟨_, (He.glo_ok X G (c.d.fact 18 (f := .glo "BadEdit") rfl)), (exk_ok (x := "BadEdit") (He.glo_ok X G (c.d.fact 18 (f := .glo "BadEdit") rfl)) (c.x 1 (f := .exk "BadEdit") rfl)).2, (show ∃ C', mg (Str.ofString "BadLength") = some (.ref C') ∧ PySem.W.kitOne K (.ref (He.ga K "BadEdit")) (.ref C') = some false from ⟨_, (He.glo_ok X G (c.d.fact 40 (f := .glo "BadLength") rfl)), kitC_ok (c.x 17 (f := .kitC "BadEdit" "BadLength" false) rfl)⟩)⟩, List.forall_mem_cons.2 ⟨⟨_, (He.glo_ok X G (c.d.fact 18 (f := .glo "BadEdit") rfl)), (exk_ok (x := "BadEdit") (He.glo_ok X G (c.d.fact 18 (f := .glo "BadEdit") rfl)) (c.x 1 (f := .exk "BadEdit") rfl)).2, (show ∃ C', mg (Str.ofString "BadMark") = some (.ref C') ∧ PySem.W.kitOne K (.ref (He.ga K "BadEdit")) (.ref C') = some false from ⟨_, (He.glo_ok X G (c.d.fact 70 (f := .glo "BadMark") rfl)), kitC_ok (c.x 18 (f := .kitC "BadEdit" "BadMark" false) rfl)⟩)⟩, List.forall_mem_cons.2 ⟨⟨_, (He.glo_ok X G (c.d.fact 18 (f := .glo "BadEdit") rfl)), (exk_ok (x := "BadEdit") (He.glo_ok X G (c.d.fact 18 (f := .glo "BadEdit") rfl)) (c.x 1 (f := .exk "BadEdit") rfl)).2, (show ∃ C', mg (Str.ofString "BadRange") = some (.ref C') ∧ PySem.W.kitOne K (.ref (He.ga K "BadEdit")) (.ref C') = some false from ⟨_, (He.glo_ok X G (c.d.fact 71 (f := .glo "BadRange") rfl)), kitC_ok (c.x 19 (f := .kitC "BadEdit" "BadRange" false) rfl)⟩)⟩, List.forall_mem_cons.2 ⟨⟨_, (He.glo_ok X G (c.d.fact 18 (f := .glo "BadEdit") rfl)), (exk_ok (x := "BadEdit") (He.glo_ok X G (c.d.fact 18 (f := .glo "BadEdit") rfl)) (c.x 1 (f := .exk "BadEdit") rfl)).2, (show ∃ C', mg (Str.ofString "BadChart") = some (.ref C') ∧ PySem.W.kitOne K (.ref (He.ga K "BadEdit")) (.ref C') = some false from ⟨_, (He.glo_ok X G (c.d.fact 50 (f := .glo "BadChart") rfl)), kitC_ok (c.x 20 (f := .kitC "BadEdit" "BadChart" false) rfl)⟩)⟩, List.forall_mem_cons.2 ⟨⟨_, (He.glo_ok X G (c.d.fact 18 (f := .glo "BadEdit") rfl)), (exk_ok (x := "BadEdit") (He.glo_ok X G (c.d.fact 18 (f := .glo "BadEdit") rfl)) (c.x 1 (f := .exk "BadEdit") rfl)).2, (show ∃ C', mg (Str.ofString "OutOfText") = some (.ref C') ∧ PySem.W.kitOne K (.ref (He.ga K "BadEdit")) (.ref C') = some false from ⟨_, (He.glo_ok X G (c.d.fact 43 (f := .glo "OutOfText") rfl)), kitC_ok (c.x 21 (f := .kitC "BadEdit" "OutOfText" false) rfl)⟩)⟩, List.forall_mem_cons.2 ⟨⟨_, (He.glo_ok X G (c.d.fact 18 (f := .glo "BadEdit") rfl)), (exk_ok (x := "BadEdit") (He.glo_ok X G (c.d.fact 18 (f := .glo "BadEdit") rfl)) (c.x 1 (f := .exk "BadEdit") rfl)).2, (show ∃ C', mg (Str.ofString "Unlike") = some (.ref C') ∧ PySem.W.kitOne K (.ref (He.ga K "BadEdit")) (.ref C') = some false from ⟨_, (He.glo_ok X G (c.d.fact 72 (f := .glo "Unlike") rfl)), kitC_ok (c.x 22 (f := .kitC "BadEdit" "Unlike" false) rfl)⟩)⟩, List.forall_mem_cons.2 ⟨⟨_, (He.glo_ok X G (c.d.fact 40 (f := .glo "BadLength") rfl)), (exk_ok (x := "BadLength") (He.glo_ok X G (c.d.fact 40 (f := .glo "BadLength") rfl)) (c.x 3 (f := .exk "BadLength") rfl)).2, (show ∃ C', mg (Str.ofString "Missing") = some (.ref C') ∧ PySem.W.kitOne K (.ref (He.ga K "BadLength")) (.ref C') = some false from ⟨_, (He.glo_ok X G (c.d.fact 68 (f := .glo "Missing") rfl)), kitC_ok (c.x 23 (f := .kitC "BadLength" "Missing" false) rfl)⟩)⟩, List.forall_mem_cons.2 ⟨⟨_, (He.glo_ok X G (c.d.fact 40 (f := .glo "BadLength") rfl)), (exk_ok (x := "BadLength") (He.glo_ok X G (c.d.fact 40 (f := .glo "BadLength") rfl)) (c.x 3 (f := .exk "BadLength") rfl)).2, (kitT_ok (c.x 24 (f := .kitT "BadLength" "ValueError" true) rfl))⟩, List.forall_mem_cons.2 ⟨⟨_, (He.glo_ok X G (c.d.fact 40 (f := .glo "BadLength") rfl)), (exk_ok (x := "BadLength") (He.glo_ok X G (c.d.fact 40 (f := .glo "BadLength") rfl)) (c.x 3 (f := .exk "BadLength") rfl)).2, (show ∃ C', mg (Str.ofString "BadEdit") = some (.ref C') ∧ PySem.W.kitOne K (.ref (He.ga K "BadLength")) (.ref C') = some false from ⟨_, (He.glo_ok X G (c.d.fact 18 (f := .glo "BadEdit") rfl)), kitC_ok (c.x 25 (f := .kitC "BadLength" "BadEdit" false) rfl)⟩)⟩, List.forall_mem_cons.2 ⟨⟨_, (He.glo_ok X G (c.d.fact 40 (f := .glo "BadLength") rfl)), (exk_ok (x := "BadLength") (He.glo_ok X G (c.d.fact 40 (f := .glo "BadLength") rfl)) (c.x 3 (f := .exk "BadLength") rfl)).2, (show ∃ C', mg (Str.ofString "BadLog") = some (.ref C') ∧ PySem.W.kitOne K (.ref (He.ga K "BadLength")) (.ref C') = some false from ⟨_, (He.glo_ok X G (c.d.fact 61 (f := .glo "BadLog") rfl)), kitC_ok (c.x 26 (f := .kitC "BadLength" "BadLog" false) rfl)⟩)⟩, List.forall_mem_cons.2 ⟨⟨_, (He.glo_ok X G (c.d.fact 40 (f := .glo "BadLength") rfl)), (exk_ok (x := "BadLength") (He.glo_ok X G (c.d.fact 40 (f := .glo "BadLength") rfl)) (c.x 3 (f := .exk "BadLength") rfl)).2, (show ∃ C', mg (Str.ofString "BadLength") = some (.ref C') ∧ PySem.W.kitOne K (.ref (He.ga K "BadLength")) (.ref C') = some true from ⟨_, (He.glo_ok X G (c.d.fact 40 (f := .glo "BadLength") rfl)), kitC_ok (c.x 27 (f := .kitC "BadLength" "BadLength" true) rfl)⟩)⟩, List.forall_mem_cons.2 ⟨⟨_, (He.glo_ok X G (c.d.fact 40 (f := .glo "BadLength") rfl)), (exk_ok (x := "BadLength") (He.glo_ok X G (c.d.fact 40 (f := .glo "BadLength") rfl)) (c.x 3 (f := .exk "BadLength") rfl)).2, (show ∃ C', mg (Str.ofString "BadMark") = some (.ref C') ∧ PySem.W.kitOne K (.ref (He.ga K "BadLength")) (.ref C') = some false from ⟨_, (He.glo_ok X G (c.d.fact 70 (f := .glo "BadMark") rfl)), kitC_ok (c.x 28 (f := .kitC "BadLength" "BadMark" false) rfl)⟩)⟩, List.forall_mem_cons.2 ⟨⟨_, (He.glo_ok X G (c.d.fact 40 (f := .glo "BadLength") rfl)), (exk_ok (x := "BadLength") (He.glo_ok X G (c.d.fact 40 (f := .glo "BadLength") rfl)) (c.x 3 (f := .exk "BadLength") rfl)).2, (show ∃ C', mg (Str.ofString "BadRange") = some (.ref C') ∧ PySem.W.kitOne K (.ref (He.ga K "BadLength")) (.ref C') = some false from ⟨_, (He.glo_ok X G (c.d.fact 71 (f := .glo "BadRange") rfl)), kitC_ok (c.x 29 (f := .kitC "BadLength" "BadRange" false) rfl)⟩)⟩, List.forall_mem_cons.2 ⟨⟨_, (He.glo_ok X G (c.d.fact 40 (f := .glo "BadLength") rfl)), (exk_ok (x := "BadLength") (He.glo_ok X G (c.d.fact 40 (f := .glo "BadLength") rfl)) (c.x 3 (f := .exk "BadLength") rfl)).2, (show ∃ C', mg (Str.ofString "BadChart") = some (.ref C') ∧ PySem.W.kitOne K (.ref (He.ga K "BadLength")) (.ref C') = some false from ⟨_, (He.glo_ok X G (c.d.fact 50 (f := .glo "BadChart") rfl)), kitC_ok (c.x 30 (f := .kitC "BadLength" "BadChart" false) rfl)⟩)⟩, List.forall_mem_cons.2 ⟨⟨_, (He.glo_ok X G (c.d.fact 40 (f := .glo "BadLength") rfl)), (exk_ok (x := "BadLength") (He.glo_ok X G (c.d.fact 40 (f := .glo "BadLength") rfl)) (c.x 3 (f := .exk "BadLength") rfl)).2, (show ∃ C', mg (Str.ofString "OutOfText") = some (.ref C') ∧ PySem.W.kitOne K (.ref (He.ga K "BadLength")) (.ref C') = some false from ⟨_, (He.glo_ok X G (c.d.fact 43 (f := .glo "OutOfText") rfl)), kitC_ok (c.x 31 (f := .kitC "BadLength" "OutOfText" false) rfl)⟩)⟩, List.forall_mem_cons.2 ⟨⟨_, (He.glo_ok X G (c.d.fact 40 (f := .glo "BadLength") rfl)), (exk_ok (x := "BadLength") (He.glo_ok X G (c.d.fact 40 (f := .glo "BadLength") rfl)) (c.x 3 (f := .exk "BadLength") rfl)).2, (show ∃ C', mg (Str.ofString "Unlike") = some (.ref C') ∧ PySem.W.kitOne K (.ref (He.ga K "BadLength")) (.ref C') = some false from ⟨_, (He.glo_ok X G (c.d.fact 72 (f := .glo "Unlike") rfl)), kitC_ok (c.x 32 (f := .kitC "BadLength" "Unlike" false) rfl)⟩)⟩, List.forall_mem_cons.2 ⟨⟨_, (He.glo_ok X G (c.d.fact 43 (f := .glo "OutOfText") rfl)), (exk_ok (x := "OutOfText") (He.glo_ok X G (c.d.fact 43 (f := .glo "OutOfText") rfl)) (c.x 4 (f := .exk "OutOfText") rfl)).2, (show ∃ C', mg (Str.ofString "Missing") = some (.ref C') ∧ PySem.W.kitOne K (.ref (He.ga K "OutOfText")) (.ref C') = some false from ⟨_, (He.glo_ok X G (c.d.fact 68 (f := .glo "Missing") rfl)), kitC_ok (c.x 33 (f := .kitC "OutOfText" "Missing" false) rfl)⟩)⟩, List.forall_mem_cons.2 ⟨⟨_, (He.glo_ok X G (c.d.fact 43 (f := .glo "OutOfText") rfl)), (exk_ok (x := "OutOfText") (He.glo_ok X G (c.d.fact 43 (f := .glo "OutOfText") rfl)) (c.x 4 (f := .exk "OutOfText") rfl)).2, (kitT_ok (c.x 34 (f := .kitT "OutOfText" "ValueError" true) rfl))⟩, List.forall_mem_cons.2 ⟨⟨_, (He.glo_ok X G (c.d.fact 43 (f := .glo "OutOfText") rfl)), (exk_ok (x := "OutOfText") (He.glo_ok X G (c.d.fact 43 (f := .glo "OutOfText") rfl)) (c.x 4 (f := .exk "OutOfText") rfl)).2, (show ∃ C', mg (Str.ofString "BadEdit") = some (.ref C') ∧ PySem.W.kitOne K (.ref (He.ga K "OutOfText")) (.ref C') = some false from ⟨_, (He.glo_ok X G (c.d.fact 18 (f := .glo "BadEdit") rfl)), kitC_ok (c.x 35 (f := .kitC "OutOfText" "BadEdit" false) rfl)⟩)⟩, List.forall_mem_cons.2 ⟨⟨_, (He.glo_ok X G (c.d.fact 43 (f := .glo "OutOfText") rfl)), (exk_ok (x := "OutOfText") (He.glo_ok X G (c.d.fact 43 (f := .glo "OutOfText") rfl)) (c.x 4 (f := .exk "OutOfText") rfl)).2, (show ∃ C', mg (Str.ofString "BadLog") = some (.ref C') ∧ PySem.W.kitOne K (.ref (He.ga K "OutOfText")) (.ref C') = some false from ⟨_, (He.glo_ok X G (c.d.fact 61 (f := .glo "BadLog") rfl)), kitC_ok (c.x 36 (f := .kitC "OutOfText" "BadLog" false) rfl)⟩)⟩, List.forall_mem_cons.2 ⟨⟨_, (He.glo_ok X G (c.d.fact 43 (f := .glo "OutOfText") rfl)), (exk_ok (x := "OutOfText") (He.glo_ok X G (c.d.fact 43 (f := .glo "OutOfText") rfl)) (c.x 4 (f := .exk "OutOfText") rfl)).2, (show ∃ C', mg (Str.ofString "BadLength") = some (.ref C') ∧ PySem.W.kitOne K (.ref (He.ga K "OutOfText")) (.ref C') = some false from ⟨_, (He.glo_ok X G (c.d.fact 40 (f := .glo "BadLength") rfl)), kitC_ok (c.x 37 (f := .kitC "OutOfText" "BadLength" false) rfl)⟩)⟩, List.forall_mem_cons.2 ⟨⟨_, (He.glo_ok X G (c.d.fact 43 (f := .glo "OutOfText") rfl)), (exk_ok (x := "OutOfText") (He.glo_ok X G (c.d.fact 43 (f := .glo "OutOfText") rfl)) (c.x 4 (f := .exk "OutOfText") rfl)).2, (show ∃ C', mg (Str.ofString "BadMark") = some (.ref C') ∧ PySem.W.kitOne K (.ref (He.ga K "OutOfText")) (.ref C') = some false from ⟨_, (He.glo_ok X G (c.d.fact 70 (f := .glo "BadMark") rfl)), kitC_ok (c.x 38 (f := .kitC "OutOfText" "BadMark" false) rfl)⟩)⟩, List.forall_mem_cons.2 ⟨⟨_, (He.glo_ok X G (c.d.fact 43 (f := .glo "OutOfText") rfl)), (exk_ok (x := "OutOfText") (He.glo_ok X G (c.d.fact 43 (f := .glo "OutOfText") rfl)) (c.x 4 (f := .exk "OutOfText") rfl)).2, (show ∃ C', mg (Str.ofString "BadRange") = some (.ref C') ∧ PySem.W.kitOne K (.ref (He.ga K "OutOfText")) (.ref C') = some false from ⟨_, (He.glo_ok X G (c.d.fact 71 (f := .glo "BadRange") rfl)), kitC_ok (c.x 39 (f := .kitC "OutOfText" "BadRange" false) rfl)⟩)⟩, List.forall_mem_cons.2 ⟨⟨_, (He.glo_ok X G (c.d.fact 43 (f := .glo "OutOfText") rfl)), (exk_ok (x := "OutOfText") (He.glo_ok X G (c.d.fact 43 (f := .glo "OutOfText") rfl)) (c.x 4 (f := .exk "OutOfText") rfl)).2, (show ∃ C', mg (Str.ofString "BadChart") = some (.ref C') ∧ PySem.W.kitOne K (.ref (He.ga K "OutOfText")) (.ref C') = some false from ⟨_, (He.glo_ok X G (c.d.fact 50 (f := .glo "BadChart") rfl)), kitC_ok (c.x 40 (f := .kitC "OutOfText" "BadChart" false) rfl)⟩)⟩, List.forall_mem_cons.2 ⟨⟨_, (He.glo_ok X G (c.d.fact 43 (f := .glo "OutOfText") rfl)), (exk_ok (x := "OutOfText") (He.glo_ok X G (c.d.fact 43 (f := .glo "OutOfText") rfl)) (c.x 4 (f := .exk "OutOfText") rfl)).2, (show ∃ C', mg (Str.ofString "OutOfText") = some (.ref C') ∧ PySem.W.kitOne K (.ref (He.ga K "OutOfText")) (.ref C') = some true from ⟨_, (He.glo_ok X G (c.d.fact 43 (f := .glo "OutOfText") rfl)), kitC_ok (c.x 41 (f := .kitC "OutOfText" "OutOfText" true) rfl)⟩)⟩, List.forall_mem_cons.2 ⟨⟨_, (He.glo_ok X G (c.d.fact 43 (f := .glo "OutOfText") rfl)), (exk_ok (x := "OutOfText") (He.glo_ok X G (c.d.fact 43 (f := .glo "OutOfText") rfl)) (c.x 4 (f := .exk "OutOfText") rfl)).2, (show ∃ C', mg (Str.ofString "Unlike") = some (.ref C') ∧ PySem.W.kitOne K (.ref (He.ga K "OutOfText")) (.ref C') = some false from ⟨_, (He.glo_ok X G (c.d.fact 72 (f := .glo "Unlike") rfl)), kitC_ok (c.x 42 (f := .kitC "OutOfText" "Unlike" false) rfl)⟩)⟩, List.forall_mem_cons.2 ⟨⟨_, (He.glo_ok X G (c.d.fact 50 (f := .glo "BadChart") rfl)), (exk_ok (x := "BadChart") (He.glo_ok X G (c.d.fact 50 (f := .glo "BadChart") rfl)) (c.x 5 (f := .exk "BadChart") rfl)).2, (show ∃ C', mg (Str.ofString "Missing") = some (.ref C') ∧ PySem.W.kitOne K (.ref (He.ga K "BadChart")) (.ref C') = some false from ⟨_, (He.glo_ok X G (c.d.fact 68 (f := .glo "Missing") rfl)), kitC_ok (c.x 43 (f := .kitC "BadChart" "Missing" false) rfl)⟩)⟩, List.forall_mem_cons.2 ⟨⟨_, (He.glo_ok X G (c.d.fact 50 (f := .glo "BadChart") rfl)), (exk_ok (x := "BadChart") (He.glo_ok X G (c.d.fact 50 (f := .glo "BadChart") rfl)) (c.x 5 (f := .exk "BadChart") rfl)).2, (kitT_ok (c.x 44 (f := .kitT "BadChart" "ValueError" true) rfl))⟩, List.forall_mem_cons.2 ⟨⟨_, (He.glo_ok X G (c.d.fact 50 (f := .glo "BadChart") rfl)), (exk_ok (x := "BadChart") (He.glo_ok X G (c.d.fact 50 (f := .glo "BadChart") rfl)) (c.x 5 (f := .exk "BadChart") rfl)).2, (show ∃ C', mg (Str.ofString "BadEdit") = some (.ref C') ∧ PySem.W.kitOne K (.ref (He.ga K "BadChart")) (.ref C') = some false from ⟨_, (He.glo_ok X G (c.d.fact 18 (f := .glo "BadEdit") rfl)), kitC_ok (c.x 45 (f := .kitC "BadChart" "BadEdit" false) rfl)⟩)⟩, List.forall_mem_cons.2 ⟨⟨_, (He.glo_ok X G (c.d.fact 50 (f := .glo "BadChart") rfl)), (exk_ok (x := "BadChart") (He.glo_ok X G (c.d.fact 50 (f := .glo "BadChart") rfl)) (c.x 5 (f := .exk "BadChart") rfl)).2, (show ∃ C', mg (Str.ofString "BadLog") = some (.ref C') ∧ PySem.W.kitOne K (.ref (He.ga K "BadChart")) (.ref C') = some false from ⟨_, (He.glo_ok X G (c.d.fact 61 (f := .glo "BadLog") rfl)), kitC_ok (c.x 46 (f := .kitC "BadChart" "BadLog" false) rfl)⟩)⟩, List.forall_mem_cons.2 ⟨⟨_, (He.glo_ok X G (c.d.fact 50 (f := .glo "BadChart") rfl)), (exk_ok (x := "BadChart") (He.glo_ok X G (c.d.fact 50 (f := .glo "BadChart") rfl)) (c.x 5 (f := .exk "BadChart") rfl)).2, (show ∃ C', mg (Str.ofString "BadLength") = some (.ref C') ∧ PySem.W.kitOne K (.ref (He.ga K "BadChart")) (.ref C') = some false from ⟨_, (He.glo_ok X G (c.d.fact 40 (f := .glo "BadLength") rfl)), kitC_ok (c.x 47 (f := .kitC "BadChart" "BadLength" false) rfl)⟩)⟩, List.forall_mem_cons.2 ⟨⟨_, (He.glo_ok X G (c.d.fact 50 (f := .glo "BadChart") rfl)), (exk_ok (x := "BadChart") (He.glo_ok X G (c.d.fact 50 (f := .glo "BadChart") rfl)) (c.x 5 (f := .exk "BadChart") rfl)).2, (show ∃ C', mg (Str.ofString "BadMark") = some (.ref C') ∧ PySem.W.kitOne K (.ref (He.ga K "BadChart")) (.ref C') = some false from ⟨_, (He.glo_ok X G (c.d.fact 70 (f := .glo "BadMark") rfl)), kitC_ok (c.x 48 (f := .kitC "BadChart" "BadMark" false) rfl)⟩)⟩, List.forall_mem_cons.2 ⟨⟨_, (He.glo_ok X G (c.d.fact 50 (f := .glo "BadChart") rfl)), (exk_ok (x := "BadChart") (He.glo_ok X G (c.d.fact 50 (f := .glo "BadChart") rfl)) (c.x 5 (f := .exk "BadChart") rfl)).2, (show ∃ C', mg (Str.ofString "BadRange") = some (.ref C') ∧ PySem.W.kitOne K (.ref (He.ga K "BadChart")) (.ref C') = some false from ⟨_, (He.glo_ok X G (c.d.fact 71 (f := .glo "BadRange") rfl)), kitC_ok (c.x 49 (f := .kitC "BadChart" "BadRange" false) rfl)⟩)⟩, List.forall_mem_cons.2 ⟨⟨_, (He.glo_ok X G (c.d.fact 50 (f := .glo "BadChart") rfl)), (exk_ok (x := "BadChart") (He.glo_ok X G (c.d.fact 50 (f := .glo "BadChart") rfl)) (c.x 5 (f := .exk "BadChart") rfl)).2, (show ∃ C', mg (Str.ofString "BadChart") = some (.ref C') ∧ PySem.W.kitOne K (.ref (He.ga K "BadChart")) (.ref C') = some true from ⟨_, (He.glo_ok X G (c.d.fact 50 (f := .glo "BadChart") rfl)), kitC_ok (c.x 50 (f := .kitC "BadChart" "BadChart" true) rfl)⟩)⟩, List.forall_mem_cons.2 ⟨⟨_, (He.glo_ok X G (c.d.fact 50 (f := .glo "BadChart") rfl)), (exk_ok (x := "BadChart") (He.glo_ok X G (c.d.fact 50 (f := .glo "BadChart") rfl)) (c.x 5 (f := .exk "BadChart") rfl)).2, (show ∃ C', mg (Str.ofString "OutOfText") = some (.ref C') ∧ PySem.W.kitOne K (.ref (He.ga K "BadChart")) (.ref C') = some false from ⟨_, (He.glo_ok X G (c.d.fact 43 (f := .glo "OutOfText") rfl)), kitC_ok (c.x 51 (f := .kitC "BadChart" "OutOfText" false) rfl)⟩)⟩, List.forall_mem_cons.2 ⟨⟨_, (He.glo_ok X G (c.d.fact 50 (f := .glo "BadChart") rfl)), (exk_ok (x := "BadChart") (He.glo_ok X G (c.d.fact 50 (f := .glo "BadChart") rfl)) (c.x 5 (f := .exk "BadChart") rfl)).2, (show ∃ C', mg (Str.ofString "Unlike") = some (.ref C') ∧ PySem.W.kitOne K (.ref (He.ga K "BadChart")) (.ref C') = some false from ⟨_, (He.glo_ok X G (c.d.fact 72 (f := .glo "Unlike") rfl)), kitC_ok (c.x 52 (f := .kitC "BadChart" "Unlike" false) rfl)⟩)⟩, List.forall_mem_cons.2 ⟨⟨_, (He.glo_ok X G (c.d.fact 61 (f := .glo "BadLog") rfl)), (exk_ok (x := "BadLog") (He.glo_ok X G (c.d.fact 61 (f := .glo "BadLog") rfl)) (c.x 6 (f := .exk "BadLog") rfl)).2, (show ∃ C', mg (Str.ofString "Missing") = some (.ref C') ∧ PySem.W.kitOne K (.ref (He.ga K "BadLog")) (.ref C') = some false from ⟨_, (He.glo_ok X G (c.d.fact 68 (f := .glo "Missing") rfl)), kitC_ok (c.x 53 (f := .kitC "BadLog" "Missing" false) rfl)⟩)⟩, List.forall_mem_cons.2 ⟨⟨_, (He.glo_ok X G (c.d.fact 61 (f := .glo "BadLog") rfl)), (exk_ok (x := "BadLog") (He.glo_ok X G (c.d.fact 61 (f := .glo "BadLog") rfl)) (c.x 6 (f := .exk "BadLog") rfl)).2, (kitT_ok (c.x 54 (f := .kitT "BadLog" "ValueError" true) rfl))⟩, List.forall_mem_cons.2 ⟨⟨_, (He.glo_ok X G (c.d.fact 61 (f := .glo "BadLog") rfl)), (exk_ok (x := "BadLog") (He.glo_ok X G (c.d.fact 61 (f := .glo "BadLog") rfl)) (c.x 6 (f := .exk "BadLog") rfl)).2, (show ∃ C', mg (Str.ofString "BadEdit") = some (.ref C') ∧ PySem.W.kitOne K (.ref (He.ga K "BadLog")) (.ref C') = some false from ⟨_, (He.glo_ok X G (c.d.fact 18 (f := .glo "BadEdit") rfl)), kitC_ok (c.x 55 (f := .kitC "BadLog" "BadEdit" false) rfl)⟩)⟩, List.forall_mem_cons.2 ⟨⟨_, (He.glo_ok X G (c.d.fact 61 (f := .glo "BadLog") rfl)), (exk_ok (x := "BadLog") (He.glo_ok X G (c.d.fact 61 (f := .glo "BadLog") rfl)) (c.x 6 (f := .exk "BadLog") rfl)).2, (show ∃ C', mg (Str.ofString "BadLog") = some (.ref C') ∧ PySem.W.kitOne K (.ref (He.ga K "BadLog")) (.ref C') = some true from ⟨_, (He.glo_ok X G (c.d.fact 61 (f := .glo "BadLog") rfl)), kitC_ok (c.x 56 (f := .kitC "BadLog" "BadLog" true) rfl)⟩)⟩, List.forall_mem_cons.2 ⟨⟨_, (He.glo_ok X G (c.d.fact 61 (f := .glo "BadLog") rfl)), (exk_ok (x := "BadLog") (He.glo_ok X G (c.d.fact 61 (f := .glo "BadLog") rfl)) (c.x 6 (f := .exk "BadLog") rfl)).2, (show ∃ C', mg (Str.ofString "BadLength") = some (.ref C') ∧ PySem.W.kitOne K (.ref (He.ga K "BadLog")) (.ref C') = some false from ⟨_, (He.glo_ok X G (c.d.fact 40 (f := .glo "BadLength") rfl)), kitC_ok (c.x 57 (f := .kitC "BadLog" "BadLength" false) rfl)⟩)⟩, List.forall_mem_cons.2 ⟨⟨_, (He.glo_ok X G (c.d.fact 61 (f := .glo "BadLog") rfl)), (exk_ok (x := "BadLog") (He.glo_ok X G (c.d.fact 61 (f := .glo "BadLog") rfl)) (c.x 6 (f := .exk "BadLog") rfl)).2, (show ∃ C', mg (Str.ofString "BadMark") = some (.ref C') ∧ PySem.W.kitOne K (.ref (He.ga K "BadLog")) (.ref C') = some false from ⟨_, (He.glo_ok X G (c.d.fact 70 (f := .glo "BadMark") rfl)), kitC_ok (c.x 58 (f := .kitC "BadLog" "BadMark" false) rfl)⟩)⟩, List.forall_mem_cons.2 ⟨⟨_, (He.glo_ok X G (c.d.fact 61 (f := .glo "BadLog") rfl)), (exk_ok (x := "BadLog") (He.glo_ok X G (c.d.fact 61 (f := .glo "BadLog") rfl)) (c.x 6 (f := .exk "BadLog") rfl)).2, (show ∃ C', mg (Str.ofString "BadRange") = some (.ref C') ∧ PySem.W.kitOne K (.ref (He.ga K "BadLog")) (.ref C') = some false from ⟨_, (He.glo_ok X G (c.d.fact 71 (f := .glo "BadRange") rfl)), kitC_ok (c.x 59 (f := .kitC "BadLog" "BadRange" false) rfl)⟩)⟩, List.forall_mem_cons.2 ⟨⟨_, (He.glo_ok X G (c.d.fact 61 (f := .glo "BadLog") rfl)), (exk_ok (x := "BadLog") (He.glo_ok X G (c.d.fact 61 (f := .glo "BadLog") rfl)) (c.x 6 (f := .exk "BadLog") rfl)).2, (show ∃ C', mg (Str.ofString "BadChart") = some (.ref C') ∧ PySem.W.kitOne K (.ref (He.ga K "BadLog")) (.ref C') = some false from ⟨_, (He.glo_ok X G (c.d.fact 50 (f := .glo "BadChart") rfl)), kitC_ok (c.x 60 (f := .kitC "BadLog" "BadChart" false) rfl)⟩)⟩, List.forall_mem_cons.2 ⟨⟨_, (He.glo_ok X G (c.d.fact 61 (f := .glo "BadLog") rfl)), (exk_ok (x := "BadLog") (He.glo_ok X G (c.d.fact 61 (f := .glo "BadLog") rfl)) (c.x 6 (f := .exk "BadLog") rfl)).2, (show ∃ C', mg (Str.ofString "OutOfText") = some (.ref C') ∧ PySem.W.kitOne K (.ref (He.ga K "BadLog")) (.ref C') = some false from ⟨_, (He.glo_ok X G (c.d.fact 43 (f := .glo "OutOfText") rfl)), kitC_ok (c.x 61 (f := .kitC "BadLog" "OutOfText" false) rfl)⟩)⟩, List.forall_mem_cons.2 ⟨⟨_, (He.glo_ok X G (c.d.fact 61 (f := .glo "BadLog") rfl)), (exk_ok (x := "BadLog") (He.glo_ok X G (c.d.fact 61 (f := .glo "BadLog") rfl)) (c.x 6 (f := .exk "BadLog") rfl)).2, (show ∃ C', mg (Str.ofString "Unlike") = some (.ref C') ∧ PySem.W.kitOne K (.ref (He.ga K "BadLog")) (.ref C') = some false from ⟨_, (He.glo_ok X G (c.d.fact 72 (f := .glo "Unlike") rfl)), kitC_ok (c.x 62 (f := .kitC "BadLog" "Unlike" false) rfl)⟩)⟩, (fun _ h => nomatch h)⟩⟩⟩⟩⟩⟩⟩⟩⟩⟩⟩⟩⟩⟩⟩⟩⟩⟩⟩⟩⟩⟩⟩⟩⟩⟩⟩⟩⟩⟩⟩⟩⟩⟩⟩⟩⟩⟩⟩⟩⟩⟩⟩⟩⟩⟩⟩⟩⟩⟩)
    (List.forall_mem_cons.2 ⟨⟨_, (He.glo_ok X G (c.d.fact 18 (f := .glo "BadEdit") rfl)), (exk_ok (x := "BadEdit") (He.glo_ok X G (c.d.fact 18 (f := .glo "BadEdit") rfl)) (c.x 1 (f := .exk "BadEdit") rfl)).2, He.noat_ok (c.d.fact 20 (f := .noat "BadEdit" "given") rfl)⟩, List.forall_mem_cons.2 ⟨⟨_, (He.glo_ok X G (c.d.fact 40 (f := .glo "BadLength") rfl)), (exk_ok (x := "BadLength") (He.glo_ok X G (c.d.fact 40 (f := .glo "BadLength") rfl)) (c.x 3 (f := .exk "BadLength") rfl)).2, He.noat_ok (c.d.fact 41 (f := .noat "BadLength" "given") rfl)⟩, (fun _ h => nomatch h)⟩⟩)
    (List.forall_mem_cons.2 ⟨⟨_, (He.glo_ok X G (c.d.fact 43 (f := .glo "OutOfText") rfl)), (exk_ok (x := "OutOfText") (He.glo_ok X G (c.d.fact 43 (f := .glo "OutOfText") rfl)) (c.x 4 (f := .exk "OutOfText") rfl)).2, He.noat_ok (c.d.fact 44 (f := .noat "OutOfText" "place") rfl)⟩, List.forall_mem_cons.2 ⟨⟨_, (He.glo_ok X G (c.d.fact 50 (f := .glo "BadChart") rfl)), (exk_ok (x := "BadChart") (He.glo_ok X G (c.d.fact 50 (f := .glo "BadChart") rfl)) (c.x 5 (f := .exk "BadChart") rfl)).2, He.noat_ok (c.d.fact 51 (f := .noat "BadChart" "place") rfl)⟩, List.forall_mem_cons.2 ⟨⟨_, (He.glo_ok X G (c.d.fact 61 (f := .glo "BadLog") rfl)), (exk_ok (x := "BadLog") (He.glo_ok X G (c.d.fact 61 (f := .glo "BadLog") rfl)) (c.x 6 (f := .exk "BadLog") rfl)).2, He.noat_ok (c.d.fact 62 (f := .noat "BadLog" "place") rfl)⟩, (fun _ h => nomatch h)⟩⟩⟩)
    ((fun _ h => nomatch h))
    ((fun _ h => nomatch h))
abbrev R : PySem.W.OpenRow := PySem.W.OpenLaw.row PySem.Challenge.rw_tiltmarks_k21_whole_both_ways
abbrev hk : PySem.W.Hook := hookL 6 fa fn fx (lq.map (·.1)) pn
def ob (s : PySem.W.SharedT) : AlL × Bool := obsLG 6 fa fn fx (lq.map (·.1)) pn (HandSHeadRun.getT s)
theorem ob_eq (s : PySem.W.SharedT) : ob s = hk.obs s.abs := obsL_eq (HandSHeadRun.getT_eq s)
abbrev looseNames : List PySem.Str := (["MarkError", "BadEdit", "BadLog", "BadLength", "BadMark", "BadRange", "BadChart", "OutOfText", "Unlike", "Missing", "MOST_GAP", "MOST_MANY", "MOST_EDITS", "MOST_LENGTH", "IN", "OUT", "LEFT", "RIGHT", "is_integer", "is_edit", "need_edit", "need_log", "need_length", "is_mark", "grown", "gap_behind", "carried", "reach_of", "still_there", "done_behind", "both_ways", "ways_alike", "MOST_BEHIND", "MOST_GAPS", "is_row", "is_gap_right", "Chart", "chart_by", "chart_of", "_law_begun", "_law_draw", "_law_among", "_law_rows", "_law_chart", "_law_heard", "_law_edit", "_law_signs", "_law_is_within", "_law_moved"] : List String).map PySem.Str.ofString
theorem run (w : World) : HandSHeadRun.RunEq R (PySem.W.view R.prog [54]) hk ob 8000 T5.G.looseNames w := by
  intro os
  kernel_rfl
end T5.G
namespace T5
open PySem PySem.Spec PyProof.Rows L2
/-! ### things whose repr is known -/
/-- n: how deep; b: how much -/
def Rp (n b : Nat) (d : D) : Prop := ∃ p, (∀ st, toPy st n d = some p) ∧ okPy p = true ∧ p.bulk ≤ b
theorem Rp.mono {n b c : Nat} {d : D} (h : Rp n b d) (l : b ≤ c) : Rp n c d := by
  obtain ⟨p, h1, h2, h3⟩ := h
  exact ⟨p, h1, h2, Nat.le_trans h3 l⟩
theorem pyL_mono {f g : D → Option PyData} (h : ∀ d p, f d = some p → g d = some p) : ∀ (l : List D) (ps : List PyData), pyL f l = some ps → pyL g l = some ps
  | [], ps, e => e
  | x :: xs, ps, e => by
    obtain ⟨a, e1, e2⟩ := Option.bind_eq_some_iff.mp e
    obtain ⟨r, e3, e4⟩ := Option.map_eq_some_iff.mp e2
    unfold pyL
    rw [h _ _ e1, Option.bind_some, pyL_mono h xs r e3, Option.map_some, e4]
theorem toPy_mono {st : Store} : ∀ (n : Nat) (d : D) (p : PyData), toPy st n d = some p → toPy st (n + 1) d = some p
  | 0, _, _, h => nomatch h
  | n + 1, d, p, h => by
    have ih := toPy_mono (st := st) n
    have lst : (lstOf st d).bind (fun l => (pyL (toPy st n) l).map .list) = some p → (lstOf st d).bind (fun l => (pyL (toPy st (n + 1)) l).map .list) = some p := fun h => by
      obtain ⟨l, e1, e2⟩ := Option.bind_eq_some_iff.mp h
      obtain ⟨r, e3, e4⟩ := Option.map_eq_some_iff.mp e2
      rw [e1, Option.bind_some, pyL_mono ih l r e3, Option.map_some, e4]
    unfold toPy at h
    split at h
    · exact h
    · exact h
    · exact h
    · exact h
    · obtain ⟨r, e3, e4⟩ := Option.map_eq_some_iff.mp h
      unfold toPy
      simp only
      rw [pyL_mono ih _ r e3, Option.map_some, e4]
    · exact h
    · have := lst h
      unfold toPy
      split <;> first | exact this | simp_all
theorem Rp.up {n m b : Nat} {d : D} (h : Rp n b d) (l : n ≤ m) : Rp m b d := by
  induction l with
  | refl => exact h
  | step _ ih =>
    obtain ⟨p, h1, h2, h3⟩ := ih
    exact ⟨p, fun st => toPy_mono _ _ _ (h1 st), h2, h3⟩
theorem rp_non {n : Nat} : Rp (n + 1) 0 .non := ⟨.none, fun _ => rfl, rfl, Nat.le_refl _⟩
theorem rp_bl {n : Nat} {b : Bool} : Rp (n + 1) 0 (.bl b) := ⟨.bool b, fun _ => rfl, rfl, Nat.le_refl _⟩
theorem rp_int {n : Nat} {i : Int} (h : -10 ^ 30 < i ∧ i < 10 ^ 30) : Rp (n + 1) 0 (.int i) := ⟨.int i, fun _ => rfl, decide_eq_true h, Nat.le_refl _⟩
theorem rp_dic {n : Nat} : Rp (n + 1) 0 (.dic false [] []) := ⟨.dict [], fun _ => rfl, rfl, Nat.le_refl _⟩
theorem rp_str {n : Nat} {s : List Nat} (h : okS s = true) : Rp (n + 1) s.length (.str s) := by
  refine ⟨.str (toStr s), fun _ => rfl, ?_, ?_⟩
  · unfold okPy
    refine List.all_eq_true.mpr fun c hc => decide_eq_true ?_
    have := List.all_eq_true.mp h c (by simpa [toStr] using hc)
    have : c < 0x110000 := of_decide_eq_true this
    exact Nat.lt_trans this (by decide)
  · show (toStr s).cps.size ≤ _
    simp [toStr]
theorem rp_all {n b : Nat} : ∀ {l : List D}, (∀ x ∈ l, Rp n b x) → ∃ ps, (∀ st, pyL (toPy st n) l = some ps) ∧ okPyL ps = true ∧ PyData.bulkAll ps ≤ l.length * (b + 1)
  | [], _ => ⟨[], fun _ => rfl, rfl, Nat.zero_le _⟩
  | x :: xs, h => by
    obtain ⟨p, h1, h2, h3⟩ := h x (List.mem_cons_self ..)
    obtain ⟨ps, h4, h5, h6⟩ := rp_all (l := xs) fun y hy => h y (List.mem_cons_of_mem _ hy)
    refine ⟨p :: ps, fun st => ?_, ?_, ?_⟩
    · unfold pyL
      rw [h1 st, Option.bind_some, h4 st]
      rfl
    · unfold okPyL
      rw [h2, h5]
      rfl
    · unfold PyData.bulkAll
      rw [List.length_cons, Nat.succ_mul]
      omega
theorem rp_tup {n b : Nat} {l : List D} (h : ∀ x ∈ l, Rp n b x) : Rp (n + 1) (l.length * (b + 1)) (.tup l) := by
  obtain ⟨ps, h4, h5, h6⟩ := rp_all h
  refine ⟨.tuple ps, fun st => ?_, ?_, ?_⟩
  · unfold toPy
    simp only [h4 st, Option.map_some]
  · unfold okPy; exact h5
  · unfold PyData.bulk; exact h6
theorem rp_lst {n b : Nat} {l : List D} (h : ∀ x ∈ l, Rp n b x) : Rp (n + 1) (l.length * (b + 1)) (.lst l) := by
  obtain ⟨ps, h4, h5, h6⟩ := rp_all h
  refine ⟨.list ps, fun st => ?_, ?_, ?_⟩
  · unfold toPy
    simp only [lstOf, Option.bind_some, h4 st, Option.map_some]
  · unfold okPy; exact h5
  · unfold PyData.bulk; exact h6
/-- its text -/
def rs (d : D) : List Nat := match toPy [] 12 d with
  | some p => p.shown.cps.toList
  | none => []
theorem f_repr {st : Store} {b : Nat} {d : D} (h : Rp 12 b d) (hb : b ≤ 2 ^ 18) : fRepr st [d] = some (.str (rs d)) := by
  obtain ⟨p, h1, h2, h3⟩ := h
  unfold fRepr rs
  simp only [h1, Option.bind_some]
  rw [if_pos ⟨h2, Nat.le_trans h3 hb⟩]
theorem o_repr {st : Store} {b : Nat} {d : D} {K : D → Prop} (h : Rp 12 b d) (hb : b ≤ 2 ^ 18) (k : K (.str (rs d))) : OnO (fRepr st [d]) K := ⟨_, f_repr h hb, k⟩
/-- what a thing of known repr may be -/
theorem rp_cases {n b : Nat} {d : D} (h : Rp n b d) : d = .non ∨ (∃ c, d = .bl c) ∨ (∃ i, d = .int i) ∨ (∃ s, d = .str s) ∨ (∃ l, d = .tup l) ∨ (∃ l, d = .lst l) ∨ d = .dic false [] [] := by
  obtain ⟨p, h1, _⟩ := h
  have h := h1 []
  cases n with
  | zero => exact nomatch h
  | succ n =>
    unfold toPy at h
    split at h
    · exact .inl rfl
    · exact .inr (.inl ⟨_, rfl⟩)
    · exact .inr (.inr (.inl ⟨_, rfl⟩))
    · exact .inr (.inr (.inr (.inl ⟨_, rfl⟩)))
    · exact .inr (.inr (.inr (.inr (.inl ⟨_, rfl⟩))))
    · exact .inr (.inr (.inr (.inr (.inr (.inr rfl)))))
    · obtain ⟨l, e1, e2⟩ := Option.bind_eq_some_iff.mp h
      cases d with
      | lst l => exact .inr (.inr (.inr (.inr (.inr (.inl ⟨_, rfl⟩)))))
      | obj k =>
        unfold lstOf at e1
        simp at e1
      | _ => cases e1
theorem rp_mem {n b : Nat} {l : List D} (h : Rp (n + 1) b (.tup l)) {x : D} (hx : x ∈ l) : Rp n b x := by
  obtain ⟨p, h1, h2, h3⟩ := h
  have go : ∀ (l : List D) (ps : List PyData), (∀ st, pyL (toPy st n) l = some ps) → okPyL ps = true → PyData.bulkAll ps ≤ b → x ∈ l → Rp n b x := by
    intro l
    induction l with
    | nil => intro _ _ _ _ hx; exact nomatch hx
    | cons y ys ih =>
      intro ps e ho hb hx
      cases ps with
      | nil =>
        obtain ⟨a, e1, e2⟩ := Option.bind_eq_some_iff.mp (e [])
        obtain ⟨r, e3, e4⟩ := Option.map_eq_some_iff.mp e2
        exact nomatch e4
      | cons q qs =>
        have e' : ∀ st, toPy st n y = some q ∧ pyL (toPy st n) ys = some qs := fun st => by
          obtain ⟨a, e1, e2⟩ := Option.bind_eq_some_iff.mp (e st)
          obtain ⟨r, e3, e4⟩ := Option.map_eq_some_iff.mp e2
          cases e4
          exact ⟨e1, e3⟩
        unfold okPyL at ho
        obtain ⟨o1, o2⟩ := Bool.and_eq_true_iff.mp ho
        unfold PyData.bulkAll at hb
        rcases List.mem_cons.mp hx with rfl | hx
        · exact ⟨q, fun st => (e' st).1, o1, by omega⟩
        · exact ih qs (fun st => (e' st).2) o2 (by omega) hx
  have e0 : ∀ st, ∃ ps, pyL (toPy st n) l = some ps ∧ p = .tuple ps := fun st => by
    have := h1 st
    unfold toPy at this
    obtain ⟨r, e3, e4⟩ := Option.map_eq_some_iff.mp this
    exact ⟨r, e3, e4.symm⟩
  obtain ⟨ps, _, rfl⟩ := e0 []
  refine go l ps (fun st => ?_) (by unfold okPy at h2; exact h2) (by unfold PyData.bulk at h3; exact h3) hx
  obtain ⟨qs, e1, e2⟩ := e0 st
  cases e2
  exact e1
/-- its type -/
def tyN : D → String
  | .non => "NoneType"
  | .bl _ => "bool"
  | .int _ => "int"
  | .str _ => "str"
  | .tup _ => "tuple"
  | .lst _ => "list"
  | _ => "dict"
theorem tyD_rp {st : Store} {n b : Nat} {d : D} (h : Rp n b d) : tyD st d = some (tyN d) := by
  rcases rp_cases h with rfl | ⟨_, rfl⟩ | ⟨_, rfl⟩ | ⟨_, rfl⟩ | ⟨_, rfl⟩ | ⟨_, rfl⟩ | rfl <;> rfl
def kT : D → Bool
  | .tup _ => true
  | _ => false
def kS : D → Bool
  | .str _ => true
  | _ => false
def kI : D → Bool
  | .int _ => true
  | .bl _ => true
  | _ => false
def kB : D → Bool
  | .bl _ => true
  | _ => false
def kL : D → Bool
  | .lst _ => true
  | _ => false
theorem e_non : kitB "NoneType" "tuple" = some false ∧ kitB "NoneType" "str" = some false ∧ kitB "NoneType" "int" = some false ∧ kitB "NoneType" "bool" = some false ∧ kitB "NoneType" "list" = some false := by decide +kernel
theorem e_bl : kitB "bool" "tuple" = some false ∧ kitB "bool" "str" = some false ∧ kitB "bool" "int" = some true ∧ kitB "bool" "bool" = some true ∧ kitB "bool" "list" = some false := by decide +kernel
theorem e_int : kitB "int" "tuple" = some false ∧ kitB "int" "str" = some false ∧ kitB "int" "int" = some true ∧ kitB "int" "bool" = some false ∧ kitB "int" "list" = some false := by decide +kernel
theorem e_str : kitB "str" "tuple" = some false ∧ kitB "str" "str" = some true ∧ kitB "str" "int" = some false ∧ kitB "str" "bool" = some false ∧ kitB "str" "list" = some false := by decide +kernel
theorem e_tup : kitB "tuple" "tuple" = some true ∧ kitB "tuple" "str" = some false ∧ kitB "tuple" "int" = some false ∧ kitB "tuple" "bool" = some false ∧ kitB "tuple" "list" = some false := by decide +kernel
theorem e_lst : kitB "list" "tuple" = some false ∧ kitB "list" "str" = some false ∧ kitB "list" "int" = some false ∧ kitB "list" "bool" = some false ∧ kitB "list" "list" = some true := by decide +kernel
theorem e_dic : kitB "dict" "tuple" = some false ∧ kitB "dict" "str" = some false ∧ kitB "dict" "int" = some false ∧ kitB "dict" "bool" = some false ∧ kitB "dict" "list" = some false := by decide +kernel
theorem kits : ∀ d : D, kitB (tyN d) "tuple" = some (kT d) ∧ kitB (tyN d) "str" = some (kS d) ∧ kitB (tyN d) "int" = some (kI d) ∧ kitB (tyN d) "bool" = some (kB d) ∧ kitB (tyN d) "list" = some (kL d)
  | .non => e_non
  | .bl _ => e_bl
  | .int _ => e_int
  | .str _ => e_str
  | .tup _ => e_tup
  | .lst _ => e_lst
  | .ty _ => e_dic
  | .scr _ => e_dic
  | .obj _ => e_dic
  | .dic _ _ _ => e_dic
  | .ins _ _ _ => e_dic
  | .exc _ _ _ => e_dic
  | .cls _ => e_dic
  | .fn _ _ _ _ _ => e_dic
section
variable {st : Store} {n b : Nat} {d : D} {K : D → Prop}
theorem isi_eq {T : String} {c : Bool} (h : Rp n b d) (e : kitB (tyN d) T = some c) : fIsi st [d, .ty T] = some (.bl c) := by
  show ((tyD st d).bind fun t => (kitB t T).map D.bl) = _
  rw [tyD_rp h, Option.bind_some, e]
  rfl
theorem o_isTup (h : Rp n b d) (k : K (.bl (kT d))) : OnO (fIsi st [d, .ty "tuple"]) K := ⟨_, isi_eq h (kits d).1, k⟩
theorem o_isStr (h : Rp n b d) (k : K (.bl (kS d))) : OnO (fIsi st [d, .ty "str"]) K := ⟨_, isi_eq h (kits d).2.1, k⟩
theorem o_isInt (h : Rp n b d) (k : K (.bl (kI d))) : OnO (fIsi st [d, .ty "int"]) K := ⟨_, isi_eq h (kits d).2.2.1, k⟩
theorem o_isBool (h : Rp n b d) (k : K (.bl (kB d))) : OnO (fIsi st [d, .ty "bool"]) K := ⟨_, isi_eq h (kits d).2.2.2.1, k⟩
theorem o_isLst (h : Rp n b d) (k : K (.bl (kL d))) : OnO (fIsi st [d, .ty "list"]) K := ⟨_, isi_eq h (kits d).2.2.2.2, k⟩
theorem o_eqS {a b : List Nat} (k : K (.bl (decide (a = b)))) : OnO (bEq st (.str a) (.str b)) K := ⟨_, rfl, k⟩
theorem o_neS {a b : List Nat} (k : K (.bl (!decide (a = b)))) : OnO (bNe st (.str a) (.str b)) K := ⟨_, rfl, k⟩
end
theorem onR_ok {α : Type} {r : R α} {x : α} {y : Store} (h : OnR r (fun a s => a = x ∧ s = y) fun _ _ _ _ => False) : r = .ok x y := by
  cases r with
  | ok a s => obtain ⟨rfl, rfl⟩ := h; rfl
  | ex => exact h.elim
  | bad => exact h.elim
section
variable {g : MG0} {b : MS} {ds : List D} {env : DEnv} {st : Store} {Q : SR → Prop}
theorem l_nil (h : Q (.nx env st)) : OnQ (loopS g b [] env st) Q := h
theorem l_cons {d : D} (h : TgE g d env fun e => OnQ (b e st) (TurnK (fun e s => OnQ (loopS g b ds e s) Q) Q)) : OnQ (loopS g b (d :: ds) env st) Q := by
  obtain ⟨e, h1, h2⟩ := h
  unfold loopS
  rw [h1]
  exact onQ_loop h2
end
/-- the loop over enumerate: the first at which the body does not go on decides -/
theorem numb_get {l : List D} {i : Nat} {d : D} (h : (numb l)[i]? = some d) : ∃ x, l[i]? = some x ∧ d = .tup [.int (i : Int), x] := by
  unfold numb at h
  rw [List.getElem?_map, List.getElem?_zipIdx] at h
  cases e : l[i]? with
  | none => rw [e] at h; cases h
  | some x =>
    rw [e] at h
    refine ⟨x, rfl, ?_⟩
    have := Option.some.inj h
    rw [← this]
    simp
/-- where the run stops -/
def Stp (p : Prop) : Prop := p
theorem stp {p : Prop} (h : Stp p) : p := h
/-! ### raise, a def that hears -/
section
variable {env : DEnv} {st : Store} {X : String → List String → List D → Store → Prop} {Q : SR → Prop}
theorem s_raise {c : String} {ks : List String} {m : MA} (h : OnR (m env st) (fun ds st1 => Sd (ds.length = ks.length) (Q (.ex c ks.reverse ds.reverse env st1))) (fun c ks vs st1 => Q (.ex c ks vs env st1))) : OnQ (sRaise c ks m env st) Q := by
  unfold sRaise
  refine onR_toS (onR_imp h (fun ds st1 h => ?_) fun _ _ _ _ h => h)
  rw [if_pos h.1]
  exact h.2
theorem s_raise1 {c k : String} {m : MA} (h : OnR (m env st) (fun ds st1 => ∃ x, ds = [x] ∧ Q (.ex c [k] [x] env st1)) (fun c ks vs st1 => Q (.ex c ks vs env st1))) : OnQ (sRaise c [k] m env st) Q := by
  refine s_raise (onR_imp h (fun ds st1 h => ?_) fun _ _ _ _ h => h)
  obtain ⟨x, rfl, q⟩ := h
  exact ⟨rfl, q⟩
theorem s_raise2 {c k k2 : String} {m : MA} (h : OnR (m env st) (fun ds st1 => ∃ x y, ds = [x, y] ∧ Q (.ex c [k2, k] [y, x] env st1)) (fun c ks vs st1 => Q (.ex c ks vs env st1))) : OnQ (sRaise c [k, k2] m env st) Q := by
  refine s_raise (onR_imp h (fun ds st1 h => ?_) fun _ _ _ _ h => h)
  obtain ⟨x, y, rfl, q⟩ := h
  exact ⟨rfl, q⟩
theorem w_one {x : D} {P : D → Prop} (h : P x) : ∃ x', [x] = [x'] ∧ P x' := ⟨x, rfl, h⟩
/-- a call heard: hS by what the body yields -/
theorem w_heard {hS : (Store → R D) → Store → R D} {mE : ME} {d : D} {st1 : Store} {K : D → Store → Prop} (h : hS (fun s => mE env s) st = .ok d st1) (k : K d st1) : OnR (eHeard hS mE env st) K X := by
  unfold eHeard
  rw [h]
  exact k
end
end T5
namespace T5.G
open PySem PySem.Spec PyProof.Rows L2
variable {st : Store}
abbrev sIN : D := .str [105, 110]
abbrev sOUT : D := .str [111, 117, 116]
abbrev sL : D := .str [108, 101, 102, 116]
abbrev sR : D := .str [114, 105, 103, 104, 116]
/-- an edit: sets in or takes out, where, how many -/
structure Ed where
  i : Bool
  g : Int
  m : Int
def Ed.d (e : Ed) : D := .tup [if e.i = true then sIN else sOUT, .int e.g, .int e.m]
def dLog (l : List Ed) : D := .tup (l.map Ed.d)
def dLean (b : Bool) : D := if b = true then sL else sR
def Ed.ok (e : Ed) : Prop := 0 ≤ e.g ∧ e.g ≤ 999 ∧ 1 ≤ e.m ∧ e.m ≤ 9
/-- where a gap stands behind an edit -/
def gapB (e : Ed) (x : Int) (lf : Bool) : Int :=
  if e.i = true then (if x < e.g ∨ (x = e.g ∧ lf = true) then x else x + e.m) else if x ≤ e.g then x else maxI e.g (x - e.m)
def car : List Ed → Int → Bool → Int
  | [], x, _ => x
  | e :: l, x, lf => car l (gapB e x lf) lf
def grow : List Ed → Int → Int
  | [], n => n
  | e :: l, n => grow l (n + if e.i = true then e.m else -e.m)
/-- the log can be said of a text of n signs -/
def Fits : List Ed → Int → Prop
  | [], _ => True
  | e :: l, n => e.g + (if e.i = true then 0 else e.m) ≤ n ∧ Fits l (n + if e.i = true then e.m else -e.m)
def reach : List Ed → Int → Int → Int
  | [], le, _ => le
  | e :: l, le, mo => reach l (maxI le (e.g + (if e.i = true then 0 else e.m) - mo)) (mo + if e.i = true then e.m else -e.m)
theorem kit_ii : kitB "int" "int" = some true := by decide +kernel
theorem kit_ib : kitB "int" "bool" = some false := by decide +kernel
theorem kit_tt : kitB "tuple" "tuple" = some true := by decide +kernel
theorem kit_ss : kitB "str" "str" = some true := by decide +kernel
abbrev wd (i : Bool) : D := if i = true then sIN else sOUT
theorem q_neg {env : DEnv} {m : ME} : eNeg m env st = (m env st).bind fun d st1 => match d with
  | .int i => .ok (.int (-i)) st1
  | _ => .bad := rfl
theorem q_lc {mi : MI} {g : MG0} {ct : MT} {me : ME} {own : List Nat} {env : DEnv} {ds ys : List D} (h1 : mi env st = .ok ds st) (h2 : lcLoop g ct me (wipeD env own) ds [] st = .ok ys st) : eLc mi g ct me own env st = .ok (.lst ys) st := by
  unfold eLc
  rw [h1, bind_ok, h2]
  rfl
theorem run_nx {N n : Nat} {b : MS} {ds : List D} {e : DEnv} {st1 : Store} (hl : ds.length = n) (h : b (ds.map some ++ List.replicate (N - n) none) st = .nx e st1) : runF N n b ds st = .ok .non st1 := by
  unfold runF
  rw [if_pos hl, h]
theorem run_rt {N n : Nat} {b : MS} {ds : List D} {d : D} {st1 : Store} (hl : ds.length = n) (h : b (ds.map some ++ List.replicate (N - n) none) st = .rt d st1) : runF N n b ds st = .ok d st1 := by
  unfold runF
  rw [if_pos hl, h]
theorem get_last {x : Ob} : (st ++ [x])[st.length]? = some x := by simp
theorem set_last {x y : Ob} : (st ++ [x]).set st.length y = st ++ [y] := by simp
/-- no thing of the store names a place behind it -/
def Cl (st : Store) : Prop := st.all (clO st.length) = true
theorem q_asgN {m : ME} {i : Nat} {env : DEnv} {d : D} {st1 : Store} (h : m env st = .ok d st1) : sAsg m (gN i) env st = .nx (env.set i (some d)) st1 := by
  unfold sAsg
  rw [h] <;> rfl
/-! ### gaps carried: order -/
section
variable {e : Ed} {p q n : Int} {lf : Bool} {l : List Ed}
theorem g_mono (h : e.ok) (hp : p ≤ q) : gapB e p lf ≤ gapB e q lf := by
  obtain ⟨h1, h2, h3, h4⟩ := h
  cases lf <;> unfold gapB maxI <;> simp only [Bool.false_eq_true, and_false, or_false, and_true] <;> repeat' split <;> omega
theorem g_lr (h : e.ok) (hp : p ≤ q) : gapB e p true ≤ gapB e q false := by
  obtain ⟨h1, h2, h3, h4⟩ := h
  unfold gapB maxI
  simp only [Bool.false_eq_true, and_false, or_false, and_true]
  repeat' split
  all_goals omega
theorem g_one (h : e.ok) (hp : p ≤ q + 1) : gapB e p true ≤ gapB e q false + 1 := by
  obtain ⟨h1, h2, h3, h4⟩ := h
  unfold gapB maxI
  simp only [Bool.false_eq_true, and_false, or_false, and_true]
  repeat' split
  all_goals omega
theorem c_mono : ∀ {l : List Ed} {p q : Int}, (∀ e ∈ l, e.ok) → p ≤ q → car l p lf ≤ car l q lf
  | [], _, _, _, h => h
  | e :: l, p, q, h, hp => c_mono (l := l) (fun e he => h e (List.mem_cons_of_mem _ he)) (g_mono (h e (List.mem_cons_self ..)) hp)
theorem c_lr : ∀ {l : List Ed} {p q : Int}, (∀ e ∈ l, e.ok) → p ≤ q → car l p true ≤ car l q false
  | [], _, _, _, h => h
  | e :: l, p, q, h, hp => c_lr (l := l) (fun e he => h e (List.mem_cons_of_mem _ he)) (g_lr (h e (List.mem_cons_self ..)) hp)
theorem c_one : ∀ {l : List Ed} {p q : Int}, (∀ e ∈ l, e.ok) → p ≤ q + 1 → car l p true ≤ car l q false + 1
  | [], _, _, _, h => h
  | e :: l, p, q, h, hp => c_one (l := l) (fun e he => h e (List.mem_cons_of_mem _ he)) (g_one (h e (List.mem_cons_self ..)) hp)
theorem c_zero : ∀ {l : List Ed}, (∀ e ∈ l, e.ok) → car l 0 true = 0
  | [], _ => rfl
  | e :: l, h => by
    obtain ⟨h1, h2, h3, h4⟩ := h e (List.mem_cons_self ..)
    have : gapB e 0 true = 0 := by
      unfold gapB
      simp only [and_true]
      repeat' split
      all_goals omega
    show car l (gapB e 0 true) true = 0
    rw [this]
    exact c_zero fun e he => h e (List.mem_cons_of_mem _ he)
theorem c_end : ∀ {l : List Ed} {n : Int}, (∀ e ∈ l, e.ok) → Fits l n → car l n false = grow l n ∧ (0 ≤ n → 0 ≤ grow l n) ∧ grow l n ≤ n + 9 * l.length
  | [], _, _, _ => ⟨rfl, fun h => h, by simp [grow]⟩
  | e :: l, n, h, hf => by
    obtain ⟨h1, h2, h3, h4⟩ := h e (List.mem_cons_self ..)
    obtain ⟨f1, f2⟩ := hf
    have : gapB e n false = n + if e.i = true then e.m else -e.m := by
      revert f1
      unfold gapB maxI
      simp only [Bool.false_eq_true, and_false, or_false]
      repeat' split
      all_goals intro f1; omega
    obtain ⟨a, b, c⟩ := c_end (l := l) (fun e he => h e (List.mem_cons_of_mem _ he)) f2
    refine ⟨?_, fun hn => b ?_, ?_⟩
    · show car l (gapB e n false) false = grow l _
      rw [this]
      exact a
    · revert f1
      split <;> intro f1 <;> omega
    · show grow l _ ≤ _
      have hl : ((e :: l).length : Int) = l.length + 1 := by simp
      rw [hl]
      revert c
      split <;> intro c <;> omega
end
/-- the row of a log's chart over a text of n signs -/
theorem cl_ints (n : Nat) : ∀ l : List Int, clL n (l.map D.int) = true
  | [] => rfl
  | i :: l => by simp [clL, clD, cl_ints n l]
theorem cl_drop (n : Nat) : ∀ (k : Nat) (l : List Int), clL n ((l.map D.int).drop k) = true
  | k, l => by rw [← List.map_drop]; exact cl_ints n _
/-! ### the draws -/
abbrev kM : List D := [.str [103, 114, 101, 97, 116], .str [110, 117, 109, 98, 101, 114], .str [116, 117, 114, 110]]
def mk (G : List Int) (a b : Int) (X : Store) : Store := .dic false kM [.obj 1, .int a, .int b] :: .lst (G.map .int) :: X
section
variable {G : List Int} {a b n : Int} {X : Store}
theorem ix_great : bIx (mk G a b X) (.obj 0) (.str [103, 114, 101, 97, 116]) = some (.obj 1) := rfl
theorem ix_number : bIx (mk G a b X) (.obj 0) (.str [110, 117, 109, 98, 101, 114]) = some (.int a) := rfl
theorem ix_turn : bIx (mk G a b X) (.obj 0) (.str [116, 117, 114, 110]) = some (.int b) := rfl
theorem ne_great : bNe (mk G a b X) (.obj 1) (.lst []) = some (.bl (!decide (G = []))) := by
  have sh : SeqAt.shaped (.list (G.map PyData.int)) = true := by
    unfold SeqAt.shaped
    simp [PyData.canLay0, PyData.depth, ints_lay G]
  have sh2 : SeqAt.shaped (.list []) = true := by
    unfold SeqAt.shaped
    simp [PyData.canLay0, PyData.depth, PyData.canLayAll0, PyData.depthAll]
  unfold bNe
  show Option.map _ (dEq0 _ _ _) = _
  unfold dEq0
  have e1 : py (mk G a b X) (.obj 1) = some (.list (G.map PyData.int)) := by
    show ((some (G.map D.int)).bind fun l => (py0L l).map PyData.list) = _
    rw [opt_bind_some, py0_ints]
    rfl
  have e2 : py (mk G a b X) (.lst []) = some (.list []) := rfl
  rw [e1, opt_bind_some, e2, opt_bind_some, if_pos ⟨sh, sh2⟩]
  have e3 := ints_eqv G []
  show Option.map (fun b => D.bl (!b)) (some (PyData.eqv (.list (G.map PyData.int)) (.list []))) = _
  unfold PyData.eqv
  rw [show ([] : List PyData) = ([] : List Int).map PyData.int from rfl, e3]
  rfl
theorem ix_g0 {g : Int} : bIx (mk (g :: G) a b X) (.obj 1) (.int 0) = some (.int g) := by
  show ((seqOf (mk (g :: G) a b X) (.obj 1)).bind fun l => atI l 0) = _
  show atI ((g :: G).map D.int) 0 = _
  rw [List.map_cons, atI_cons0]
abbrev eDr (n : Int) (d3 d4 : Option D) : DEnv := [some (.obj 0), some (.int n), some (.obj 1), d3, d4]
abbrev cDr : MT := cAnd (cBool (eBin bNe (eVar 2) (eLst aNil))) (cBool (eBin bEq (eBin bIx (eVar 2) (eC (.int 0))) (eC (.int 0))))
abbrev bDr : MS := sExp (eMthL fPop (eVar 2) (aCons (eC (.int 0)) aNil))
theorem emp_l {env : DEnv} {st : Store} : eLst aNil env st = .ok (.lst []) st := rfl
theorem c_dr_nil {d3 d4 : Option D} : cDr (eDr n d3 d4) (mk [] a b X) = .ok false (mk [] a b X) := by
  have h : cBool (eBin bNe (eVar 2) (eLst aNil)) (eDr n d3 d4) (mk [] a b X) = .ok false (mk [] a b X) := by
    rw [q_cBool, q_bin, q_var rfl, bind_ok, emp_l, bind_ok, ne_great]
    rfl
  unfold cDr
  rw [q_cAnd, h]
  rfl
theorem c_dr_cons {d3 d4 : Option D} {g : Int} : cDr (eDr n d3 d4) (mk (g :: G) a b X) = .ok (decide (g = 0)) (mk (g :: G) a b X) := by
  have h : cBool (eBin bNe (eVar 2) (eLst aNil)) (eDr n d3 d4) (mk (g :: G) a b X) = .ok true (mk (g :: G) a b X) := by
    rw [q_cBool, q_bin, q_var rfl, bind_ok, emp_l, bind_ok, ne_great]
    rfl
  unfold cDr
  rw [q_cAnd, h, bind_ok, if_pos rfl, q_cBool, q_bin, q_bin, q_var rfl, bind_ok, q_c, bind_ok, ix_g0, ofO_some, bind_ok, q_c, bind_ok, v_eqI]
  rfl
theorem b_dr {d3 d4 : Option D} {g : Int} : bDr (eDr n d3 d4) (mk (g :: G) a b X) = .nx (eDr n d3 d4) (mk G a b X) := by
  have h : fPop (mk (g :: G) a b X) (.obj 1) [.int 0] = some (.int g, mk G a b X) := by
    have c : (-(2 ^ 63) ≤ (0 : Int) ∧ (0 : Int) < 2 ^ 63) := by decide
    have c2 : ixN (((g :: G).map D.int).length) 0 = some 0 := by simp [ixN]
    show (if -(2 ^ 63) ≤ (0 : Int) ∧ (0 : Int) < 2 ^ 63 then (ixN ((g :: G).map D.int).length 0).bind fun j => (((g :: G).map D.int)[j]?).map fun x => (x, (mk (g :: G) a b X).set 1 (.lst (((g :: G).map D.int).eraseIdx j))) else none) = _
    rw [if_pos c, c2]
    rfl
  unfold bDr
  rw [q_exp, q_mth, q_var rfl, bind_ok]
  have i : (lstOf (mk (g :: G) a b X) (.obj 1)).isSome = true := rfl
  rw [if_pos i, q_acons, q_c, bind_ok, q_anil, bind_ok, bind_ok, h]
  rfl
theorem w_dr {d3 d4 : Option D} : ∀ (k : Nat) (G : List Int), G.length < k → ∃ G', G'.length ≤ G.length ∧ (∀ g G2, G' = g :: G2 → g ≠ 0) ∧ whileS cDr bDr k (eDr n d3 d4) (mk G a b X) = .nx (eDr n d3 d4) (mk G' a b X)
  | 0, G, h => absurd h (Nat.not_lt_zero _)
  | k + 1, [], h => ⟨[], Nat.le_refl _, fun _ _ z => (nomatch z), by unfold whileS; rw [c_dr_nil, toS_ok, if_neg (by decide)]⟩
  | k + 1, g :: G, h => by
    by_cases hg : g = 0
    · obtain ⟨G', h1, h2, h3⟩ := w_dr (d3 := d3) (d4 := d4) k G (by simp at h; omega)
      refine ⟨G', by simp; omega, h2, ?_⟩
      unfold whileS
      rw [c_dr_cons, toS_ok, if_pos (decide_eq_true hg), b_dr, loop_nx]
      exact h3
    · refine ⟨g :: G, Nat.le_refl _, fun g' G2 z => by cases z; exact hg, ?_⟩
      unfold whileS
      rw [c_dr_cons, toS_ok, if_neg (by simp [hg])]
theorem set_d {x v : D} {a' b' : Int} (hx : x = .str [110, 117, 109, 98, 101, 114] ∧ v = .int a' ∧ b' = b ∨ x = .str [116, 117, 114, 110] ∧ v = .int b' ∧ a' = a) : bSet (mk G a b X) (.obj 0) x v = some (mk G a' b' X) := by
  rcases hx with ⟨rfl, rfl, rfl⟩ | ⟨rfl, rfl, rfl⟩ <;> rfl
theorem set_g {g v : Int} : bSet (mk (g :: G) a b X) (.obj 1) (.int 0) (.int v) = some (mk (v :: G) a b X) := by
  have c2 : ixN (((g :: G).map D.int).length) 0 = some 0 := by simp [ixN]
  show ((ixN ((g :: G).map D.int).length 0).map fun j => (mk (g :: G) a b X).set 1 (.lst (((g :: G).map D.int).set j (.int v)))) = _
  rw [c2]
  rfl
/-- a draw: some number below n -/
theorem p_draw (hn : 1 ≤ n) (hn2 : n ≤ 1000000) (hG : G.length ≤ 63) : ∃ v G' a' b', 0 ≤ v ∧ v < n ∧ G'.length ≤ 63 ∧ f__law_draw [.obj 0, .int n] (mk G a b X) = .ok (.int v) (mk G' a' b' X) := by
  obtain ⟨G1, h1, h2, h3⟩ := w_dr (a := a) (b := b) (n := n) (X := X) (d3 := none) (d4 := none) 1000 G (by omega)
  have hn0 : n ≠ 0 := by omega
  have start : b__law_draw [some (.obj 0), some (.int n), none, none, none] (mk G a b X) = (sSeq (sIf (cBool (eBin bNe (eVar 2) (eLst aNil))) (sSeq (sAsg (eBin bMod (eCB fInt (aCons (eBin bIx (eVar 2) (eC (.int 0))) aNil)) (eVar 1)) (gN 3))
      (sSeq (sSet (eBin bDiv (eBin bIx (eVar 2) (eC (.int 0))) (eVar 1)) (eVar 2) (eC (.int 0))) (sRet (eVar 3)))) sPass)
      (sSeq (sSet (eBin bAdd (eBin bIx (eVar 0) (eC (.str [116, 117, 114, 110]))) (eC (.int 1))) (eVar 0) (eC (.str [116, 117, 114, 110])))
      (sSeq (sAsg (eBin bAdd (eBin bMul (eBin bIx (eVar 0) (eC (.str [110, 117, 109, 98, 101, 114]))) (eC (.int 2862933555777941757))) (eC (.int 3037000493))) (gN 4))
      (sSeq (sAsg (eBin bAdd (eVar 4) (eBin bMul (eC (.int 49979687)) (eBin bIx (eVar 0) (eC (.str [116, 117, 114, 110]))))) (gN 4))
      (sSeq (sSet (eBin bMod (eCB fInt (aCons (eVar 4) aNil)) (eC (.int 2305843009213693951))) (eVar 0) (eC (.str [110, 117, 109, 98, 101, 114])))
      (sRet (eBin bMod (eCB fInt (aCons (eBin bDiv (eBin bIx (eVar 0) (eC (.str [110, 117, 109, 98, 101, 114]))) (eC (.int 1299709))) aNil)) (eVar 1)))))))) (eDr n none none) (mk G1 a b X) := by
    unfold b__law_draw
    have e1 : (eBin bIx (eVar 0) (eC (.str [103, 114, 101, 97, 116]))) [some (.obj 0), some (.int n), none, none, none] (mk G a b X) = .ok (.obj 1) (mk G a b X) := by
      rw [q_bin, q_var rfl, bind_ok, q_c, bind_ok, ix_great]
      rfl
    have s1 : (([some (.obj 0), some (.int n), none, none, none] : DEnv).set 2 (some (.obj 1))) = eDr n none none := rfl
    have e2 : (sWhile 1000 (cAnd (cBool (eBin bNe (eVar 2) (eLst aNil))) (cBool (eBin bEq (eBin bIx (eVar 2) (eC (.int 0))) (eC (.int 0))))) (sExp (eMthL fPop (eVar 2) (aCons (eC (.int 0)) aNil)))) (eDr n none none) (mk G a b X) = .nx (eDr n none none) (mk G1 a b X) := h3
    rw [q_seq, q_asgN e1, seq_nx, s1, q_seq, e2, seq_nx]
  cases G1 with
  | cons g G2 =>
    refine ⟨g.fmod n, g.fdiv n :: G2, a, b, ?_, ?_, by simp at h1 ⊢; omega, ?_⟩
    · exact Int.fmod_nonneg_of_pos g (by omega)
    · exact Int.fmod_lt_of_pos g (by omega)
    · refine run_rt (b := b__law_draw) rfl (start.trans ?_)
      have t : (cBool (eBin bNe (eVar 2) (eLst aNil))) (eDr n none none) (mk (g :: G2) a b X) = .ok true (mk (g :: G2) a b X) := by
        rw [q_cBool, q_bin, q_var rfl, bind_ok, emp_l, bind_ok, ne_great]
        rfl
      have e1 : (eBin bMod (eCB fInt (aCons (eBin bIx (eVar 2) (eC (.int 0))) aNil)) (eVar 1)) (eDr n none none) (mk (g :: G2) a b X) = .ok (.int (g.fmod n)) (mk (g :: G2) a b X) := by
        rw [q_bin, q_cb, q_acons, q_bin, q_var rfl, bind_ok, q_c, bind_ok, ix_g0, ofO_some, bind_ok, q_anil, bind_ok, bind_ok, v_int, ofO_some, bind_ok, q_var rfl, bind_ok, v_modI, if_pos hn0]
        rfl
      have s1 : (eDr n none none).set 3 (some (.int (g.fmod n))) = eDr n (some (.int (g.fmod n))) none := rfl
      have cd : CDivN g n := ⟨hn0, by omega⟩
      have e2 : (eBin bDiv (eBin bIx (eVar 2) (eC (.int 0))) (eVar 1)) (eDr n (some (.int (g.fmod n))) none) (mk (g :: G2) a b X) = .ok (.int (g.fdiv n)) (mk (g :: G2) a b X) := by
        rw [q_bin, q_bin, q_var rfl, bind_ok, q_c, bind_ok, ix_g0, ofO_some, bind_ok, q_var rfl, bind_ok]
        show ofO (if CDivN g n then some (D.int (g.fdiv n)) else none) _ = _
        rw [if_pos cd]
        rfl
      rw [q_seq, q_if, t, toS_ok, if_pos rfl, q_seq, q_asgN e1, seq_nx, s1, q_seq, q_set, e2, toS_ok, q_var rfl, toS_ok, q_c, toS_ok, set_g]
      rfl
  | nil =>
    have t : (cBool (eBin bNe (eVar 2) (eLst aNil))) (eDr n none none) (mk [] a b X) = .ok false (mk [] a b X) := by
      rw [q_cBool, q_bin, q_var rfl, bind_ok, emp_l, bind_ok, ne_great]
      rfl
    have e1 : (eBin bAdd (eBin bIx (eVar 0) (eC (.str [116, 117, 114, 110]))) (eC (.int 1))) (eDr n none none) (mk [] a b X) = .ok (.int (b + 1)) (mk [] a b X) := by
      rw [q_bin, q_bin, q_var rfl, bind_ok, q_c, bind_ok, ix_turn, ofO_some, bind_ok, q_c, bind_ok, v_addI]
      rfl
    have mul : ∀ (st : Store) (i j : Int), CMul i j → bMul st (.int i) (.int j) = some (.int (i * j)) := fun st i j h => by
      show (if CMul i j then some (D.int (i * j)) else none) = _
      rw [if_pos h]
    have e2 : (eBin bAdd (eBin bMul (eBin bIx (eVar 0) (eC (.str [110, 117, 109, 98, 101, 114]))) (eC (.int 2862933555777941757))) (eC (.int 3037000493))) (eDr n none none) (mk [] a (b + 1) X) = .ok (.int (a * 2862933555777941757 + 3037000493)) (mk [] a (b + 1) X) := by
      rw [q_bin, q_bin, q_bin, q_var rfl, bind_ok, q_c, bind_ok, ix_number, ofO_some, bind_ok, q_c, bind_ok, mul _ _ _ (.inr (by decide)), ofO_some, bind_ok, q_c, bind_ok, v_addI]
      rfl
    generalize hc1 : a * 2862933555777941757 + 3037000493 = c1 at e2
    have s2 : (eDr n none none).set 4 (some (.int c1)) = eDr n none (some (.int c1)) := rfl
    have e3 : (eBin bAdd (eVar 4) (eBin bMul (eC (.int 49979687)) (eBin bIx (eVar 0) (eC (.str [116, 117, 114, 110]))))) (eDr n none (some (.int c1))) (mk [] a (b + 1) X) = .ok (.int (c1 + 49979687 * (b + 1))) (mk [] a (b + 1) X) := by
      rw [q_bin, q_var rfl, bind_ok, q_bin, q_c, bind_ok, q_bin, q_var rfl, bind_ok, q_c, bind_ok, ix_turn, ofO_some, bind_ok, mul _ _ _ (.inl (by decide)), ofO_some, bind_ok, v_addI]
      rfl
    generalize hc2 : c1 + 49979687 * (b + 1) = c2 at e3
    have s3 : (eDr n none (some (.int c1))).set 4 (some (.int c2)) = eDr n none (some (.int c2)) := rfl
    have e4 : (eBin bMod (eCB fInt (aCons (eVar 4) aNil)) (eC (.int 2305843009213693951))) (eDr n none (some (.int c2))) (mk [] a (b + 1) X) = .ok (.int (c2.fmod 2305843009213693951)) (mk [] a (b + 1) X) := by
      rw [q_bin, q_cb, q_acons, q_var rfl, bind_ok, q_anil, bind_ok, bind_ok, v_int, ofO_some, bind_ok, q_c, bind_ok, v_modI, if_pos (by decide)]
      rfl
    generalize c2.fmod 2305843009213693951 = c3 at e4
    have cd : CDivN c3 1299709 := ⟨by decide, by decide⟩
    have e5 : (eBin bMod (eCB fInt (aCons (eBin bDiv (eBin bIx (eVar 0) (eC (.str [110, 117, 109, 98, 101, 114]))) (eC (.int 1299709))) aNil)) (eVar 1)) (eDr n none (some (.int c2))) (mk [] c3 (b + 1) X) = .ok (.int ((c3.fdiv 1299709).fmod n)) (mk [] c3 (b + 1) X) := by
      have dv : ∀ st : Store, bDiv st (.int c3) (.int 1299709) = some (.int (c3.fdiv 1299709)) := fun st => by
        show (if CDivN c3 1299709 then some (D.int (c3.fdiv 1299709)) else none) = _
        rw [if_pos cd]
      rw [q_bin, q_cb, q_acons, q_bin, q_bin, q_var rfl, bind_ok, q_c, bind_ok, ix_number, ofO_some, bind_ok, q_c, bind_ok, dv, ofO_some, bind_ok, q_anil, bind_ok, bind_ok, v_int, ofO_some, bind_ok, q_var rfl, bind_ok, v_modI, if_pos hn0]
      rfl
    refine ⟨(c3.fdiv 1299709).fmod n, [], c3, b + 1, Int.fmod_nonneg_of_pos _ (by omega), Int.fmod_lt_of_pos _ (by omega), by simp, ?_⟩
    refine run_rt (b := b__law_draw) rfl (start.trans ?_)
    rw [q_seq, q_if, t, toS_ok, if_neg (by decide), q_pass, seq_nx, q_seq, q_set, e1, toS_ok, q_var rfl, toS_ok, q_c, toS_ok, set_d (b' := b + 1) (a' := a) (.inr ⟨rfl, rfl, rfl⟩)]
    show (SR.nx (eDr n none none) (mk [] a (b + 1) X)).seq _ = _
    rw [seq_nx, q_seq, q_asgN e2, seq_nx, s2, q_seq, q_asgN e3, seq_nx, s3, q_seq, q_set, e4, toS_ok, q_var rfl, toS_ok, q_c, toS_ok, set_d (a' := c3) (b' := b + 1) (.inl ⟨rfl, rfl, rfl⟩)]
    show (SR.nx (eDr n none (some (.int c2))) (mk [] c3 (b + 1) X)).seq _ = _
    rw [seq_nx, q_ret, e5, toS_ok]
end
/-! ### logs drawn -/
theorem fits_app {e : Ed} : ∀ {l : List Ed} {n : Int}, Fits (l ++ [e]) n ↔ Fits l n ∧ e.g + (if e.i = true then 0 else e.m) ≤ grow l n
  | [], n => by simp [Fits, grow]
  | x :: l, n => by
    show (_ ∧ Fits (l ++ [e]) _) ↔ (_ ∧ Fits l _) ∧ _
    rw [fits_app (l := l), and_assoc]
    rfl
theorem grow_app {e : Ed} : ∀ {l : List Ed} {n : Int}, grow (l ++ [e]) n = grow l n + if e.i = true then e.m else -e.m
  | [], n => rfl
  | x :: l, n => grow_app (l := l)
/-- an expression that draws below n, at any store of that form -/
theorem e_draw {w : ME} {env : DEnv} {n : Int} {G : List Int} {a b : Int} {X : Store} (h0 : env[0]? = some (some (.obj 0))) (hw : w env (mk G a b X) = .ok (.int n) (mk G a b X)) (hn : 1 ≤ n) (hn2 : n ≤ 1000000) (hG : G.length ≤ 63) :
    ∃ v G' a' b', 0 ≤ v ∧ v < n ∧ G'.length ≤ 63 ∧ eCall f__law_draw (aCons (eVar 0) (aCons w aNil)) env (mk G a b X) = .ok (.int v) (mk G' a' b' X) := by
  obtain ⟨v, G', a', b', h1, h2, h3, h4⟩ := p_draw (a := a) (b := b) (X := X) hn hn2 hG
  refine ⟨v, G', a', b', h1, h2, h3, ?_⟩
  rw [q_call, q_acons, q_var h0, bind_ok, q_acons, hw, bind_ok, q_anil, bind_ok, bind_ok, bind_ok, h4]
theorem app_l {G : List Int} {a b : Int} {F : List D} {d : D} (h : F.length ≤ 1000) : fApp (mk G a b [.lst F]) (.obj 2) [d] = some (.non, mk G a b [.lst (F ++ [d])]) := by
  show (if F.length ≤ cap then some (D.non, (mk G a b [.lst F]).set 2 (.lst (F ++ [d]))) else none) = _
  rw [if_pos (Nat.le_trans h (by decide))]
  rfl
/-- found.append(..) -/
theorem s_app {w : ME} {env : DEnv} {G G' : List Int} {a b a' b' : Int} {F : List D} {d : D} {i : Nat} (hi : env[i]? = some (some (.obj 2))) (hw : w env (mk G a b [.lst F]) = .ok d (mk G' a' b' [.lst F])) (h : F.length ≤ 1000) :
    sExp (eMthL fApp (eVar i) (aCons w aNil)) env (mk G a b [.lst F]) = .nx env (mk G' a' b' [.lst (F ++ [d])]) := by
  have c : (lstOf (mk G a b [.lst F]) (.obj 2)).isSome = true := rfl
  rw [q_exp, q_mth, q_var hi, bind_ok, if_pos c, q_acons, hw, bind_ok, q_anil, bind_ok, bind_ok, app_l h]
  rfl
abbrev eLg (len many : Int) (d4 d5 d6 : Option D) : DEnv := [some (.obj 0), some (.int len), some (.int many), some (.obj 2), d4, d5, d6]
abbrev wSize : ME := eBin bAdd (eC (.int 1)) (eCall f__law_draw (aCons (eVar 0) (aCons (eBin bIx (eLst (aCons (eC (.int 1)) (aCons (eC (.int 3)) (aCons (eC (.int 9)) aNil)))) (eCall f__law_draw (aCons (eVar 0) (aCons (eC (.int 3)) aNil)))) aNil)))
theorem e_size {env : DEnv} {G : List Int} {a b : Int} {X : Store} (h0 : env[0]? = some (some (.obj 0))) (hG : G.length ≤ 63) : ∃ s G' a' b', 1 ≤ s ∧ s ≤ 9 ∧ G'.length ≤ 63 ∧ wSize env (mk G a b X) = .ok (.int s) (mk G' a' b' X) := by
  obtain ⟨v, G1, a1, b1, h1, h2, h3, h4⟩ := e_draw (w := eC (.int 3)) (n := 3) (a := a) (b := b) (X := X) h0 rfl (by decide) (by decide) hG
  have hl : eLst (aCons (eC (.int 1)) (aCons (eC (.int 3)) (aCons (eC (.int 9)) aNil))) env (mk G a b X) = .ok (.lst [.int 1, .int 3, .int 9]) (mk G a b X) := rfl
  have hv : ∃ m : Int, 1 ≤ m ∧ m ≤ 9 ∧ atI [D.int 1, .int 3, .int 9] v = some (.int m) := by
    have : v = 0 ∨ v = 1 ∨ v = 2 := by omega
    rcases this with rfl | rfl | rfl
    · exact ⟨1, by decide, by decide, rfl⟩
    · exact ⟨3, by decide, by decide, rfl⟩
    · exact ⟨9, by decide, by decide, rfl⟩
  obtain ⟨m, m1, m2, m3⟩ := hv
  have hw : (eBin bIx (eLst (aCons (eC (.int 1)) (aCons (eC (.int 3)) (aCons (eC (.int 9)) aNil)))) (eCall f__law_draw (aCons (eVar 0) (aCons (eC (.int 3)) aNil)))) env (mk G a b X) = .ok (.int m) (mk G1 a1 b1 X) := by
    rw [q_bin, hl, bind_ok, h4, bind_ok, v_ixL, m3]
    rfl
  obtain ⟨u, G2, a2, b2, k1, k2, k3, k4⟩ := p_draw (a := a1) (b := b1) (X := X) m1 (by omega) h3
  refine ⟨1 + u, G2, a2, b2, by omega, by omega, k3, ?_⟩
  show (eBin bAdd _ _) env _ = _
  rw [q_bin, q_c, bind_ok, q_call, q_acons, q_var h0, bind_ok, q_acons, hw, bind_ok, q_anil, bind_ok, bind_ok, bind_ok, k4, bind_ok, v_addI]
  rfl
abbrev bLg1 : MS := sSeq (sAsg (eCall f__law_draw (aCons (eVar 0) (aCons (eVar 1) aNil))) (gN 6))
  (sSeq (sAsg (eCB fMin (aCons (eVar 5) (aCons (eBin bSub (eVar 1) (eVar 6)) aNil))) (gN 5))
  (sSeq (sExp (eMthL fApp (eVar 3) (aCons (eTup (aCons (eC (.str [111, 117, 116])) (aCons (eVar 6) (aCons (eVar 5) aNil)))) aNil)))
  (sAsg (eBin bSub (eVar 1) (eVar 5)) (gN 1))))
abbrev bLg2 : MS := sSeq (sExp (eMthL fApp (eVar 3) (aCons (eTup (aCons (eC (.str [105, 110])) (aCons (eCall f__law_draw (aCons (eVar 0) (aCons (eBin bAdd (eVar 1) (eC (.int 1))) aNil))) (aCons (eVar 5) aNil)))) aNil)))
  (sAsg (eBin bAdd (eVar 1) (eVar 5)) (gN 1))
abbrev bLg : MS := sSeq (sAsg wSize (gN 5)) (sIf (cAnd (cBool (eBin bEq (eCall f__law_draw (aCons (eVar 0) (aCons (eC (.int 2)) aNil))) (eC (.int 0)))) (cBool (eBin bGt (eVar 1) (eC (.int 0))))) bLg1 bLg2)
/-- how the loop of _law_log stands -/
def LgI (n many : Int) (k : Nat) (env : DEnv) (st : Store) : Prop := ∃ (G : List Int) (a b : Int) (l : List Ed) (d4 d5 d6 : Option D), env = eLg (grow l n) many d4 d5 d6 ∧ st = mk G a b [.lst (l.map Ed.d)] ∧ G.length ≤ 63 ∧ l.length ≤ k ∧ (∀ e ∈ l, e.ok) ∧ Fits l n
theorem lg_step {n many : Int} {k : Nat} (hn : 0 ≤ n) (hn2 : n ≤ 100) (hk : k < 40) {env : DEnv} {st : Store} (h : LgI n many k env st) (d : D) : ∃ env2 st2, bLg (env.set 4 (some d)) st = .nx env2 st2 ∧ LgI n many (k + 1) env2 st2 := by
  obtain ⟨G, a, b, l, d4, d5, d6, rfl, rfl, hG, hl, hok, hf⟩ := h
  obtain ⟨_, c1, c2⟩ := c_end hok hf
  have g0 := c1 hn
  generalize hlen : grow l n = len at *
  obtain ⟨s, G1, a1, b1, s1, s2, hG1, e1⟩ := e_size (env := eLg len many (some d) d5 d6) (a := a) (b := b) (X := [.lst (l.map Ed.d)]) rfl hG
  obtain ⟨v, G2, a2, b2, v1, v2, hG2, e2⟩ := e_draw (w := eC (.int 2)) (n := 2) (env := eLg len many (some d) (some (.int s)) d6) (a := a1) (b := b1) (X := [.lst (l.map Ed.d)]) rfl rfl (by decide) (by decide) hG1
  have hml : (l.map Ed.d).length ≤ 1000 := by simp; omega
  have st0 : (eLg len many d4 d5 d6).set 4 (some d) = eLg len many (some d) d5 d6 := rfl
  have st1 : (eLg len many (some d) d5 d6).set 5 (some (.int s)) = eLg len many (some d) (some (.int s)) d6 := rfl
  have ec : cBool (eBin bEq (eCall f__law_draw (aCons (eVar 0) (aCons (eC (.int 2)) aNil))) (eC (.int 0))) (eLg len many (some d) (some (.int s)) d6) (mk G1 a1 b1 [.lst (l.map Ed.d)]) = .ok (decide (v = 0)) (mk G2 a2 b2 [.lst (l.map Ed.d)]) := by
    rw [q_cBool, q_bin, e2, bind_ok, q_c, bind_ok, v_eqI]
    rfl
  have eg : cBool (eBin bGt (eVar 1) (eC (.int 0))) (eLg len many (some d) (some (.int s)) d6) (mk G2 a2 b2 [.lst (l.map Ed.d)]) = .ok (decide (0 < len)) (mk G2 a2 b2 [.lst (l.map Ed.d)]) := rfl
  have start : bLg ((eLg len many d4 d5 d6).set 4 (some d)) (mk G a b [.lst (l.map Ed.d)]) = if v = 0 ∧ 0 < len then bLg1 (eLg len many (some d) (some (.int s)) d6) (mk G2 a2 b2 [.lst (l.map Ed.d)]) else bLg2 (eLg len many (some d) (some (.int s)) d6) (mk G2 a2 b2 [.lst (l.map Ed.d)]) := by
    rw [st0]
    unfold bLg
    rw [q_seq, q_asgN e1, seq_nx, st1, q_if, q_cAnd, ec, bind_ok]
    by_cases hv : v = 0
    · rw [if_pos (decide_eq_true hv), eg, toS_ok]
      by_cases h0 : 0 < len
      · rw [if_pos (decide_eq_true h0), if_pos ⟨hv, h0⟩]
      · rw [if_neg (by simp [h0]), if_neg (fun z => h0 z.2)]
    · rw [if_neg (by simp [hv]), toS_ok, if_neg (by decide), if_neg (fun z => hv z.1)]
  rw [start]
  split
  · rename_i hc
    obtain ⟨u, G3, a3, b3, u1, u2, hG3, e3⟩ := e_draw (w := eVar 1) (n := len) (env := eLg len many (some d) (some (.int s)) d6) (a := a2) (b := b2) (X := [.lst (l.map Ed.d)]) rfl rfl (by omega) (by omega) hG2
    have st2 : (eLg len many (some d) (some (.int s)) d6).set 6 (some (.int u)) = eLg len many (some d) (some (.int s)) (some (.int u)) := rfl
    have e4 : (eCB fMin (aCons (eVar 5) (aCons (eBin bSub (eVar 1) (eVar 6)) aNil))) (eLg len many (some d) (some (.int s)) (some (.int u))) (mk G3 a3 b3 [.lst (l.map Ed.d)]) = .ok (.int (minI s (len - u))) (mk G3 a3 b3 [.lst (l.map Ed.d)]) := rfl
    have hmin : 1 ≤ minI s (len - u) ∧ minI s (len - u) ≤ 9 ∧ minI s (len - u) ≤ len - u := by
      unfold minI
      split <;> omega
    generalize minI s (len - u) = s' at *
    have st3 : (eLg len many (some d) (some (.int s)) (some (.int u))).set 5 (some (.int s')) = eLg len many (some d) (some (.int s')) (some (.int u)) := rfl
    have e5 : (eTup (aCons (eC (.str [111, 117, 116])) (aCons (eVar 6) (aCons (eVar 5) aNil)))) (eLg len many (some d) (some (.int s')) (some (.int u))) (mk G3 a3 b3 [.lst (l.map Ed.d)]) = .ok (Ed.d ⟨false, u, s'⟩) (mk G3 a3 b3 [.lst (l.map Ed.d)]) := rfl
    have e6 : (eBin bSub (eVar 1) (eVar 5)) (eLg len many (some d) (some (.int s')) (some (.int u))) (mk G3 a3 b3 [.lst (l.map Ed.d ++ [Ed.d ⟨false, u, s'⟩])]) = .ok (.int (len - s')) (mk G3 a3 b3 [.lst (l.map Ed.d ++ [Ed.d ⟨false, u, s'⟩])]) := rfl
    have st4 : (eLg len many (some d) (some (.int s')) (some (.int u))).set 1 (some (.int (len - s'))) = eLg (len - s') many (some d) (some (.int s')) (some (.int u)) := rfl
    refine ⟨eLg (len - s') many (some d) (some (.int s')) (some (.int u)), mk G3 a3 b3 [.lst (l.map Ed.d ++ [Ed.d ⟨false, u, s'⟩])], ?_, G3, a3, b3, l ++ [⟨false, u, s'⟩], some d, some (.int s'), some (.int u), ?_, ?_, hG3, by simp; omega, ?_, ?_⟩
    · unfold bLg1
      rw [q_seq, q_asgN e3, seq_nx, st2, q_seq, q_asgN e4, seq_nx, st3, q_seq, s_app rfl e5 hml, seq_nx, q_asgN e6, st4]
    · rw [grow_app, hlen]
      show _ = eLg (len + if false = true then s' else -s') many (some d) (some (.int s')) (some (.int u))
      rw [if_neg (by decide), ← Int.sub_eq_add_neg]
    · rw [List.map_append]
      rfl
    · intro e he
      rcases List.mem_append.mp he with he | he
      · exact hok e he
      · have : e = ⟨false, u, s'⟩ := by simpa using he
        subst this
        refine ⟨u1, ?_, hmin.1, hmin.2.1⟩
        show u ≤ 999
        omega
    · rw [fits_app, hlen]
      refine ⟨hf, ?_⟩
      show u + s' ≤ len
      omega
  · obtain ⟨u, G3, a3, b3, u1, u2, hG3, e3⟩ := e_draw (w := eBin bAdd (eVar 1) (eC (.int 1))) (n := len + 1) (env := eLg len many (some d) (some (.int s)) d6) (a := a2) (b := b2) (X := [.lst (l.map Ed.d)]) rfl rfl (by omega) (by omega) hG2
    have e5 : (eTup (aCons (eC (.str [105, 110])) (aCons (eCall f__law_draw (aCons (eVar 0) (aCons (eBin bAdd (eVar 1) (eC (.int 1))) aNil))) (aCons (eVar 5) aNil)))) (eLg len many (some d) (some (.int s)) d6) (mk G2 a2 b2 [.lst (l.map Ed.d)]) = .ok (Ed.d ⟨true, u, s⟩) (mk G3 a3 b3 [.lst (l.map Ed.d)]) := by
      rw [q_tup, q_acons, q_c, bind_ok, q_acons, e3, bind_ok]
      rfl
    have e6 : (eBin bAdd (eVar 1) (eVar 5)) (eLg len many (some d) (some (.int s)) d6) (mk G3 a3 b3 [.lst (l.map Ed.d ++ [Ed.d ⟨true, u, s⟩])]) = .ok (.int (len + s)) (mk G3 a3 b3 [.lst (l.map Ed.d ++ [Ed.d ⟨true, u, s⟩])]) := rfl
    have st4 : (eLg len many (some d) (some (.int s)) d6).set 1 (some (.int (len + s))) = eLg (len + s) many (some d) (some (.int s)) d6 := rfl
    refine ⟨eLg (len + s) many (some d) (some (.int s)) d6, mk G3 a3 b3 [.lst (l.map Ed.d ++ [Ed.d ⟨true, u, s⟩])], ?_, G3, a3, b3, l ++ [⟨true, u, s⟩], some d, some (.int s), d6, ?_, ?_, hG3, by simp; omega, ?_, ?_⟩
    · unfold bLg2
      rw [q_seq, s_app rfl e5 hml, seq_nx, q_asgN e6, st4]
    · rw [grow_app, hlen]
      rfl
    · rw [List.map_append]
      rfl
    · intro e he
      rcases List.mem_append.mp he with he | he
      · exact hok e he
      · have : e = ⟨true, u, s⟩ := by simpa using he
        subst this
        refine ⟨u1, ?_, s1, s2⟩
        show u ≤ 999
        omega
    · rw [fits_app, hlen]
      refine ⟨hf, ?_⟩
      show u + 0 ≤ len
      omega
theorem lg_loop {n many : Int} (hn : 0 ≤ n) (hn2 : n ≤ 100) : ∀ (ds : List D) (k : Nat) (env : DEnv) (st : Store), LgI n many k env st → k + ds.length ≤ 40 → ∃ env2 st2, loopS (gN 4) bLg ds env st = .nx env2 st2 ∧ LgI n many (k + ds.length) env2 st2
  | [], k, env, st, h, _ => ⟨env, st, rfl, h⟩
  | d :: ds, k, env, st, h, hk => by
    obtain ⟨env1, st1, h1, h2⟩ := lg_step hn hn2 (by simp at hk; omega) h d
    obtain ⟨env2, st2, h3, h4⟩ := lg_loop hn hn2 ds (k + 1) env1 st1 h2 (by simp at hk; omega)
    refine ⟨env2, st2, ?_, ?_⟩
    · unfold loopS
      rw [q_gN]
      show (bLg (env.set 4 (some d)) st).loop _ = _
      rw [h1, loop_nx]
      exact h3
    · rw [List.length_cons, show k + (ds.length + 1) = k + 1 + ds.length by omega]
      exact h4
theorem q_rngS {env : DEnv} {st st1 : Store} {as : MA} {j : Int} (h : as env st = .ok [.int j] st1) (h1 : -(2 ^ 62) ≤ j ∧ j < 2 ^ 62) : iRng1 as env st = .ok (upTo 0 j.toNat) st1 := by
  unfold iRng1
  rw [h]
  simp only [bind_ok, if_pos h1]
theorem cl_log (n : Nat) : ∀ l : List Ed, clL n (l.map Ed.d) = true
  | [] => rfl
  | ⟨i, g, m⟩ :: l => by
    have := cl_log n l
    cases i <;> simp [clL, clD, Ed.d, this]
theorem cl_mk {G : List Int} {a b : Int} : Cl (mk G a b []) := by
  show (clO 2 (.dic false kM [.obj 1, .int a, .int b]) && (clO 2 (.lst (G.map .int)) && true)) = true
  have : clO 2 (.lst (G.map D.int)) = true := cl_ints 2 G
  rw [this]
  rfl
/-- fin, where what is given and what stays name nothing local -/
theorem fin_ok {m : MF} {ds : List D} {st st1 : Store} {d : D} (h : m ds st = .ok d st1) (h1 : st.length ≤ st1.length) (h2 : (st1.take st.length).all (clO st.length) = true) (h3 : clD st.length d = true) : fin m ds st = .ok d (st1.take st.length) := by
  unfold fin
  rw [h]
  simp only [if_pos (show _ ∧ _ from ⟨h1, h2⟩), if_pos h3]
theorem p_log {n many : Int} {G : List Int} {a b : Int} (hn : 0 ≤ n) (hn2 : n ≤ 100) (hm : 0 ≤ many) (hm2 : many ≤ 38) (hG : G.length ≤ 63) :
    ∃ (l : List Ed) (G' : List Int) (a' b' : Int), G'.length ≤ 63 ∧ (l.length : Int) ≤ many ∧ (∀ e ∈ l, e.ok) ∧ Fits l n ∧ f__law_log [.obj 0, .int n, .int many] (mk G a b []) = .ok (dLog l) (mk G' a' b' []) := by
  have e0 : (eLstM aNil) [some (.obj 0), some (.int n), some (.int many), none, none, none, none] (mk G a b []) = .ok (.obj 2) (mk G a b [.lst []]) := rfl
  have s0 : ([some (.obj 0), some (.int n), some (.int many), none, none, none, none] : DEnv).set 3 (some (.obj 2)) = eLg n many none none none := rfl
  obtain ⟨v, G1, a1, b1, v1, v2, hG1, e1⟩ := e_draw (w := eBin bAdd (eVar 2) (eC (.int 1))) (n := many + 1) (env := eLg n many none none none) (a := a) (b := b) (X := [.lst []]) rfl rfl (by omega) (by omega) hG
  have e2 : (iRng1 (aCons (eCall f__law_draw (aCons (eVar 0) (aCons (eBin bAdd (eVar 2) (eC (.int 1))) aNil))) aNil)) (eLg n many none none none) (mk G a b [.lst []]) = .ok (upTo 0 v.toNat) (mk G1 a1 b1 [.lst []]) := by
    refine q_rngS ?_ (by omega)
    rw [q_acons, e1, bind_ok, q_anil, bind_ok]
  obtain ⟨env2, st2, h3, h4⟩ := lg_loop hn hn2 (upTo 0 v.toNat) 0 (eLg n many none none none) (mk G1 a1 b1 [.lst []]) ⟨G1, a1, b1, [], none, none, none, rfl, rfl, hG1, Nat.le_refl _, fun e h => by simp at h, trivial⟩ (by simp [upTo]; omega)
  obtain ⟨G2, a2, b2, l, d4, d5, d6, rfl, rfl, hG2, hl, hok, hf⟩ := h4
  refine ⟨l, G2, a2, b2, hG2, by simp [upTo] at hl; omega, hok, hf, ?_⟩
  have body : b__law_log [some (.obj 0), some (.int n), some (.int many), none, none, none, none] (mk G a b []) = .rt (dLog l) (mk G2 a2 b2 [.lst (l.map Ed.d)]) := by
    have bb : b__law_log = sSeq (sAsg (eLstM aNil) (gN 3)) (sSeq (sFor (iRng1 (aCons (eCall f__law_draw (aCons (eVar 0) (aCons (eBin bAdd (eVar 2) (eC (.int 1))) aNil))) aNil)) (gN 4) bLg) (sRet (eCB fTuple (aCons (eVar 3) aNil)))) := rfl
    rw [bb, q_seq, q_asgN e0, seq_nx, s0, q_seq, q_for, e2, toS_ok, h3, seq_nx, q_ret]
    rfl
  have r : runF 7 3 b__law_log [.obj 0, .int n, .int many] (mk G a b []) = .ok (dLog l) (mk G2 a2 b2 [.lst (l.map Ed.d)]) := run_rt rfl body
  have c := fin_ok r (by show 2 ≤ 3; decide) (show (mk G2 a2 b2 []).all (clO 2) = true from cl_mk) (by
    show clL 2 (l.map Ed.d) = true
    exact cl_log 2 l)
  exact c
theorem p_among {xs : List D} {G : List Int} {a b : Int} {X : Store} (h : xs ≠ []) (h2 : xs.length ≤ 1000000) (hG : G.length ≤ 63) : ∃ (d : D) (G' : List Int) (a' b' : Int), G'.length ≤ 63 ∧ d ∈ xs ∧ f__law_among [.obj 0, .lst xs] (mk G a b X) = .ok d (mk G' a' b' X) := by
  have h1 : 1 ≤ xs.length := by
    cases xs with
    | nil => exact absurd rfl h
    | cons _ _ => simp
  obtain ⟨v, G1, a1, b1, v1, v2, hG1, e1⟩ := e_draw (w := eCB fLen (aCons (eVar 1) aNil)) (n := (xs.length : Int)) (env := [some (.obj 0), some (.lst xs)]) (a := a) (b := b) (X := X) rfl rfl (by omega) (by omega) hG
  have hv : v.toNat < xs.length := by omega
  have e2 : atI xs v = some xs[v.toNat] := by
    have := atI_nat (l := xs) (i := v.toNat) (d := xs[v.toNat]) (by simp [hv])
    rwa [Int.toNat_of_nonneg v1] at this
  refine ⟨xs[v.toNat], G1, a1, b1, hG1, List.getElem_mem hv, run_rt (b := b__law_among) rfl ?_⟩
  show b__law_among [some (.obj 0), some (.lst xs)] (mk G a b X) = _
  unfold b__law_among
  rw [q_ret, q_bin, q_var rfl, bind_ok, e1, bind_ok, v_ixL, e2]
  rfl
/-! ### the start -/
theorem q_enS {env : DEnv} {st : Store} {m : ME} {l : List D} (h : m env st = .ok (.scr l) st) : iEn m env st = .ok (l.zipIdx.map fun p => .tup [.int (p.2 : Nat), p.1]) st := by
  unfold iEn
  rw [h]
  rfl
abbrev bBg : MS := sAsg (eBin bMod (eCB fInt (aCons (eBin bAdd (eBin bAdd (eBin bMul (eVar 1) (eC (.int 48271))) (eVar 3)) (eBin bMul (eC (.int 32452843)) (eVar 2))) aNil)) (eC (.int 2305843009213693951))) (gN 1)
theorem bg_loop {s : D} : ∀ (ds : List D) (x : Int) (y z : Option D), (∀ d ∈ ds, ∃ i n : Int, d = .tup [.int i, .int n]) → ∃ (x' : Int) (y' z' : Option D), loopS (gT (gsCons (gN 2) (gsCons (gN 3) gsNil))) bBg ds [some s, some (.int x), y, z] [] = .nx [some s, some (.int x'), y', z'] []
  | [], x, y, z, _ => ⟨x, y, z, rfl⟩
  | d :: ds, x, y, z, h => by
    obtain ⟨i, n, rfl⟩ := h d (List.mem_cons_self ..)
    have mul : ∀ (i j : Int), CMul i j → bMul [] (.int i) (.int j) = some (.int (i * j)) := fun i j h => by
      show (if CMul i j then some (D.int (i * j)) else none) = _
      rw [if_pos h]
    have e1 : (eBin bMod (eCB fInt (aCons (eBin bAdd (eBin bAdd (eBin bMul (eVar 1) (eC (.int 48271))) (eVar 3)) (eBin bMul (eC (.int 32452843)) (eVar 2))) aNil)) (eC (.int 2305843009213693951))) [some s, some (.int x), some (.int i), some (.int n)] [] = .ok (.int ((x * 48271 + n + 32452843 * i).fmod 2305843009213693951)) [] := by
      rw [q_bin, q_cb, q_acons, q_bin, q_bin, q_bin, q_var rfl, bind_ok, q_c, bind_ok, mul _ _ (.inr (by decide)), ofO_some, bind_ok, q_var rfl, bind_ok, v_addI, ofO_some, bind_ok, q_bin, q_c, bind_ok, q_var rfl, bind_ok, mul _ _ (.inl (by decide)), ofO_some, bind_ok, v_addI, ofO_some, bind_ok, q_anil, bind_ok, bind_ok, v_int, ofO_some, bind_ok, q_c, bind_ok, v_modI, if_pos (by decide)]
      rfl
    generalize (x * 48271 + n + 32452843 * i).fmod 2305843009213693951 = x1 at e1
    obtain ⟨x', y', z', hh⟩ := bg_loop (s := s) ds x1 (some (.int i)) (some (.int n)) fun d hd => h d (List.mem_cons_of_mem _ hd)
    refine ⟨x', y', z', ?_⟩
    unfold loopS
    show (bBg [some s, some (.int x), some (.int i), some (.int n)] []).loop _ = _
    unfold bBg
    rw [q_asgN e1, loop_nx]
    exact hh
theorem lc_great {env : DEnv} {st : Store} (h4 : env.length = 4) : ∀ (ns acc : List Int), acc.length + ns.length ≤ 63 → ∃ G : List Int, G.length ≤ 63 ∧ lcLoop (gN 3) (cBool (eBin bGe (eVar 3) (eBin bPow (eC (.int 10)) (eC (.int 18))))) (eVar 3) env (ns.map .int) (acc.map .int) st = .ok (G.map .int) st
  | [], acc, h => ⟨acc, by simp at h; omega, rfl⟩
  | n :: ns, acc, h => by
    have hv : (env.set 3 (some (.int n)))[3]? = some (some (.int n)) := by rw [List.getElem?_set_self (by omega)]
    have hp : CPow 10 18 := by unfold CPow; decide
    have ep : (eBin bPow (eC (.int 10)) (eC (.int 18))) (env.set 3 (some (.int n))) st = .ok (.int (10 ^ 18)) st := by
      rw [q_bin, q_c, bind_ok, q_c, bind_ok]
      show ofO (if CPow 10 18 then some (D.int (10 ^ (18 : Int).toNat)) else none) st = _
      rw [if_pos hp]
      rfl
    have et : (cBool (eBin bGe (eVar 3) (eBin bPow (eC (.int 10)) (eC (.int 18))))) (env.set 3 (some (.int n))) st = .ok (decide (10 ^ 18 ≤ n)) st := by
      rw [q_cBool, q_bin, q_var hv, bind_ok, ep, bind_ok, v_ge]
      rfl
    by_cases hc : (10 ^ 18 ≤ n)
    · obtain ⟨G, h1, h2⟩ := lc_great h4 (st := st) ns (acc ++ [n]) (by simp at h ⊢; omega)
      refine ⟨G, h1, ?_⟩
      have hcap : (acc.map D.int).length ≤ cap := by
        have : acc.length ≤ 63 := by simp at h; omega
        simp [cap]
        omega
      rw [List.map_cons]
      unfold lcLoop
      show ((cBool (eBin bGe (eVar 3) (eBin bPow (eC (.int 10)) (eC (.int 18))))) (env.set 3 (some (.int n))) st).bind _ = _
      rw [et, bind_ok, if_pos (decide_eq_true hc), q_var hv, bind_ok, if_pos hcap]
      rw [List.map_append] at h2
      exact h2
    · obtain ⟨G, h1, h2⟩ := lc_great h4 (st := st) ns acc (by simp at h ⊢; omega)
      refine ⟨G, h1, ?_⟩
      rw [List.map_cons]
      unfold lcLoop
      show ((cBool (eBin bGe (eVar 3) (eBin bPow (eC (.int 10)) (eC (.int 18))))) (env.set 3 (some (.int n))) st).bind _ = _
      rw [et, bind_ok, if_neg (by rw [decide_eq_false hc]; decide)]
      exact h2
theorem p_begun {ns : List Int} (h : ns.length ≤ 63) : ∃ (G : List Int) (a : Int), G.length ≤ 63 ∧ f__law_begun [.scr (ns.map .int)] [] = .ok (.obj 0) (mk G a 0 []) := by
  have e1 : (eBin bAdd (eC (.int 15485863)) (eBin bMul (eC (.int 613)) (eCB fLen (aCons (eVar 0) aNil)))) [some (.scr (ns.map .int)), none, none, none] [] = .ok (.int (15485863 + 613 * ((ns.map D.int).length : Int))) [] := by
    have mul : ∀ (j : Int), bMul [] (.int 613) (.int j) = some (.int (613 * j)) := fun j => by
      show (if CMul 613 j then some (D.int (613 * j)) else none) = _
      rw [if_pos (.inl (by decide))]
    have el : (eCB fLen (aCons (eVar 0) aNil)) [some (.scr (ns.map .int)), none, none, none] [] = .ok (.int ((ns.map D.int).length : Int)) [] := rfl
    rw [q_bin, q_c, bind_ok, q_bin, q_c, bind_ok, el, bind_ok, mul, ofO_some, bind_ok, v_addI]
    rfl
  generalize 15485863 + 613 * ((ns.map D.int).length : Int) = x0 at e1
  have s1 : (([some (.scr (ns.map .int)), none, none, none] : DEnv).set 1 (some (.int x0))) = [some (.scr (ns.map .int)), some (.int x0), none, none] := rfl
  obtain ⟨x, y, z, h2⟩ := bg_loop (s := .scr (ns.map .int)) ((ns.map D.int).zipIdx.map fun p => .tup [.int (p.2 : Nat), p.1]) x0 none none (by
    intro d hd
    obtain ⟨⟨q, i⟩, h1, rfl⟩ := List.mem_map.mp hd
    have h2 := List.fst_mem_of_mem_zipIdx h1
    obtain ⟨n, _, h4⟩ := List.mem_map.mp h2
    exact ⟨_, n, by rw [← h4]⟩)
  have e2 := q_enS (st := []) (m := eVar 0) (env := [some (.scr (ns.map .int)), some (.int x0), none, none]) (l := ns.map .int) (q_var rfl)
  obtain ⟨G, hG, h3⟩ := lc_great (env := wipeD [some (.scr (ns.map .int)), some (.int x), y, z] [3]) (st := [.dic false [] []]) rfl ns [] (by simpa using h)
  refine ⟨G, x, hG, run_rt (b := b__law_begun) rfl ?_⟩
  show b__law_begun [some (.scr (ns.map .int)), none, none, none] [] = _
  have e3 : (eLcM (iSeq (eVar 0)) (gN 3) (cBool (eBin bGe (eVar 3) (eBin bPow (eC (.int 10)) (eC (.int 18))))) (eVar 3) [3]) [some (.scr (ns.map .int)), some (.int x), y, z] [.dic false [] []] = .ok (.obj 1) [.dic false [] [], .lst (G.map .int)] := by
    have i : (iSeq (eVar 0)) [some (.scr (ns.map .int)), some (.int x), y, z] [.dic false [] []] = .ok (ns.map .int) [.dic false [] []] := rfl
    unfold eLcM
    rw [i, bind_ok]
    have h3' := h3
    rw [List.map_nil] at h3'
    rw [h3', noEx_ok, bind_ok]
    rfl
  have e4 : (eDisp [((eC (.str [103, 114, 101, 97, 116])), (eLcM (iSeq (eVar 0)) (gN 3) (cBool (eBin bGe (eVar 3) (eBin bPow (eC (.int 10)) (eC (.int 18))))) (eVar 3) [3])), ((eC (.str [110, 117, 109, 98, 101, 114])), (eVar 1)), ((eC (.str [116, 117, 114, 110])), (eC (.int 0)))]) [some (.scr (ns.map .int)), some (.int x), y, z] [] = .ok (.obj 0) (mk G x 0 []) := by
    have ev : evP [((eC (.str [103, 114, 101, 97, 116])), (eLcM (iSeq (eVar 0)) (gN 3) (cBool (eBin bGe (eVar 3) (eBin bPow (eC (.int 10)) (eC (.int 18))))) (eVar 3) [3])), ((eC (.str [110, 117, 109, 98, 101, 114])), (eVar 1)), ((eC (.str [116, 117, 114, 110])), (eC (.int 0)))] [some (.scr (ns.map .int)), some (.int x), y, z] [.dic false [] []] = .ok (kM, [.obj 1, .int x, .int 0]) [.dic false [] [], .lst (G.map .int)] := by
      unfold evP
      show ((eLcM (iSeq (eVar 0)) (gN 3) (cBool (eBin bGe (eVar 3) (eBin bPow (eC (.int 10)) (eC (.int 18))))) (eVar 3) [3]) [some (.scr (ns.map .int)), some (.int x), y, z] [.dic false [] []]).bind _ = _
      rw [e3, bind_ok]
      rfl
    unfold eDisp
    rw [List.nil_append, ev, bind_ok]
    rfl
  unfold b__law_begun
  rw [q_seq, q_asgN e1, seq_nx, s1, q_seq, q_for, e2, toS_ok, h2, seq_nx, q_ret, e4, toS_ok]
theorem q_enL {env : DEnv} {st : Store} {m : ME} {l : List D} (h : m env st = .ok (.lst l) st) : iEn m env st = .ok (l.zipIdx.map fun p => .tup [.int (p.2 : Nat), p.1]) st := by
  unfold iEn
  rw [h]
  rfl
theorem p_begunL {ns : List Int} (h : ns.length ≤ 63) : ∃ (G : List Int) (a : Int), G.length ≤ 63 ∧ f__law_begun [.lst (ns.map .int)] [] = .ok (.obj 0) (mk G a 0 []) := by
  have e1 : (eBin bAdd (eC (.int 15485863)) (eBin bMul (eC (.int 613)) (eCB fLen (aCons (eVar 0) aNil)))) [some (.lst (ns.map .int)), none, none, none] [] = .ok (.int (15485863 + 613 * ((ns.map D.int).length : Int))) [] := by
    have mul : ∀ (j : Int), bMul [] (.int 613) (.int j) = some (.int (613 * j)) := fun j => by
      show (if CMul 613 j then some (D.int (613 * j)) else none) = _
      rw [if_pos (.inl (by decide))]
    have el : (eCB fLen (aCons (eVar 0) aNil)) [some (.lst (ns.map .int)), none, none, none] [] = .ok (.int ((ns.map D.int).length : Int)) [] := rfl
    rw [q_bin, q_c, bind_ok, q_bin, q_c, bind_ok, el, bind_ok, mul, ofO_some, bind_ok, v_addI]
    rfl
  generalize 15485863 + 613 * ((ns.map D.int).length : Int) = x0 at e1
  have s1 : (([some (.lst (ns.map .int)), none, none, none] : DEnv).set 1 (some (.int x0))) = [some (.lst (ns.map .int)), some (.int x0), none, none] := rfl
  obtain ⟨x, y, z, h2⟩ := bg_loop (s := .lst (ns.map .int)) ((ns.map D.int).zipIdx.map fun p => .tup [.int (p.2 : Nat), p.1]) x0 none none (by
    intro d hd
    obtain ⟨⟨q, i⟩, h1, rfl⟩ := List.mem_map.mp hd
    have h2 := List.fst_mem_of_mem_zipIdx h1
    obtain ⟨n, _, h4⟩ := List.mem_map.mp h2
    exact ⟨_, n, by rw [← h4]⟩)
  have e2 := q_enL (st := []) (m := eVar 0) (env := [some (.lst (ns.map .int)), some (.int x0), none, none]) (l := ns.map .int) (q_var rfl)
  obtain ⟨G, hG, h3⟩ := lc_great (env := wipeD [some (.lst (ns.map .int)), some (.int x), y, z] [3]) (st := [.dic false [] []]) rfl ns [] (by simpa using h)
  refine ⟨G, x, hG, run_rt (b := b__law_begun) rfl ?_⟩
  show b__law_begun [some (.lst (ns.map .int)), none, none, none] [] = _
  have e3 : (eLcM (iSeq (eVar 0)) (gN 3) (cBool (eBin bGe (eVar 3) (eBin bPow (eC (.int 10)) (eC (.int 18))))) (eVar 3) [3]) [some (.lst (ns.map .int)), some (.int x), y, z] [.dic false [] []] = .ok (.obj 1) [.dic false [] [], .lst (G.map .int)] := by
    have i : (iSeq (eVar 0)) [some (.lst (ns.map .int)), some (.int x), y, z] [.dic false [] []] = .ok (ns.map .int) [.dic false [] []] := rfl
    unfold eLcM
    rw [i, bind_ok]
    have h3' := h3
    rw [List.map_nil] at h3'
    rw [h3', noEx_ok, bind_ok]
    rfl
  have e4 : (eDisp [((eC (.str [103, 114, 101, 97, 116])), (eLcM (iSeq (eVar 0)) (gN 3) (cBool (eBin bGe (eVar 3) (eBin bPow (eC (.int 10)) (eC (.int 18))))) (eVar 3) [3])), ((eC (.str [110, 117, 109, 98, 101, 114])), (eVar 1)), ((eC (.str [116, 117, 114, 110])), (eC (.int 0)))]) [some (.lst (ns.map .int)), some (.int x), y, z] [] = .ok (.obj 0) (mk G x 0 []) := by
    have ev : evP [((eC (.str [103, 114, 101, 97, 116])), (eLcM (iSeq (eVar 0)) (gN 3) (cBool (eBin bGe (eVar 3) (eBin bPow (eC (.int 10)) (eC (.int 18))))) (eVar 3) [3])), ((eC (.str [110, 117, 109, 98, 101, 114])), (eVar 1)), ((eC (.str [116, 117, 114, 110])), (eC (.int 0)))] [some (.lst (ns.map .int)), some (.int x), y, z] [.dic false [] []] = .ok (kM, [.obj 1, .int x, .int 0]) [.dic false [] [], .lst (G.map .int)] := by
      unfold evP
      show ((eLcM (iSeq (eVar 0)) (gN 3) (cBool (eBin bGe (eVar 3) (eBin bPow (eC (.int 10)) (eC (.int 18))))) (eVar 3) [3]) [some (.lst (ns.map .int)), some (.int x), y, z] [.dic false [] []]).bind _ = _
      rw [e3, bind_ok]
      rfl
    unfold eDisp
    rw [List.nil_append, ev, bind_ok]
    rfl
  unfold b__law_begun
  rw [q_seq, q_asgN e1, seq_nx, s1, q_seq, q_for, e2, toS_ok, h2, seq_nx, q_ret, e4, toS_ok]
theorem p_begunS {ns : List Int} {d : D} (h : ns.length ≤ 63) (hd : isScr ns d) : ∃ (G : List Int) (a : Int), G.length ≤ 63 ∧ f__law_begun [d] [] = .ok (.obj 0) (mk G a 0 []) := by
  rcases hd with rfl | rfl
  · exact p_begun h
  · exact p_begunL h
structure LS where
  G : List Int
  a : Int
  b : Int
  h : G.length ≤ 63
def mks (s : LS) (X : Store) : Store := mk s.G s.a s.b X
section
variable {s : LS} {n : Int} {Y : Store} {K : D → Store → Prop} {X : String → List String → List D → Store → Prop}
theorem sp_draw (h1 : 1 ≤ n) (h2 : n ≤ 1000000) (k : ∀ v s', 0 ≤ v → v < n → K (.int v) (mks s' Y)) : OnR (f__law_draw [.obj 0, .int n] (mks s Y)) K X := by
  obtain ⟨v, G', a', b', v1, v2, hG, e⟩ := p_draw (a := s.a) (b := s.b) (X := Y) h1 h2 s.h
  exact onR_eq e (k v ⟨G', a', b', hG⟩ v1 v2)
theorem sp_log {many : Int} (hn : 0 ≤ n) (hn2 : n ≤ 100) (hm : 0 ≤ many) (hm2 : many ≤ 38) (k : ∀ l s', (l.length : Int) ≤ many → (∀ e ∈ l, e.ok) → Fits l n → K (dLog l) (mks s' [])) : OnR (f__law_log [.obj 0, .int n, .int many] (mks s [])) K X := by
  obtain ⟨l, G', a', b', hG, h1, h2, h3, e⟩ := p_log (a := s.a) (b := s.b) hn hn2 hm hm2 s.h
  exact onR_eq e (k l ⟨G', a', b', hG⟩ h1 h2 h3)
theorem sp_among {xs : List D} (h : xs ≠ []) (h2 : xs.length ≤ 1000000) (k : ∀ d s', d ∈ xs → K d (mks s' Y)) : OnR (f__law_among [.obj 0, .lst xs] (mks s Y)) K X := by
  obtain ⟨d, G', a', b', hG, hd, e⟩ := p_among (a := s.a) (b := s.b) (X := Y) h h2 s.h
  exact onR_eq e (k d ⟨G', a', b', hG⟩ hd)
end
theorem sh_log (l : List Ed) : shD 64 (dLog l) = true := by
  show shL 63 (l.map Ed.d) = true
  exact shL_map fun e _ => by cases e with | mk i g m => cases i <;> rfl
theorem Ed.d_eq (e : Ed) : e.d = .tup [wd e.i, .int e.g, .int e.m] := rfl
theorem eq_nil {l : List Ed} : eqD (dLog l) (.tup []) = decide (l = []) := by cases l <;> rfl
end T5.G
local macro_rules | `(tactic| k_caughtC0) => `(tactic| first | with_reducible assumption | exact Nat.le_of_ble_eq_true rfl | with_reducible rfl | omega | (simp only [T5.cap, List.length_map, List.length_append, List.length_cons, List.length_nil, List.length_take, List.length_drop]; omega) | (refine And.intro ?_ ?_ <;> first | omega | decide) | decide)
local macro_rules | `(tactic| k_caughtCB) => `(tactic| first | with_reducible rfl | with_reducible assumption | exact decide_eq_true (by first | with_reducible rfl | with_reducible assumption | omega) | (refine T5.nb_t ?_; tb_rel) | rfl)
local macro_rules | `(tactic| tb_rel) => `(tactic| first | with_reducible rfl | with_reducible assumption | exact decide_eq_false (by first | with_reducible assumption | omega) | (refine T5.nb_f ?_; k_caughtCB) | rfl)
local macro_rules | `(tactic| kts_caughtN) => `(tactic| fail "no rule for this call")
local macro_rules | `(tactic| kts_caught) => `(tactic| first
  | with_reducible refine T5.w_c ?_ | with_reducible refine T5.w_var rfl ?_ | with_reducible refine T5.w_nil ?_ | with_reducible refine T5.w_cons ?_ | with_reducible refine T5.w_bin ?_ | with_reducible refine T5.w_cb ?_ | with_reducible refine T5.w_call ?_
  | with_reducible refine T5.w_bl ?_ | with_reducible refine T5.w_in ?_ | with_reducible refine T5.w_bool ?_ | with_reducible refine T5.w_tru ?_ | with_reducible refine T5.w_tup ?_ | with_reducible refine T5.w_lst ?_ | with_reducible refine T5.w_lstM ?_
  | with_reducible refine T5.w_and ?_ | with_reducible refine T5.w_or ?_ | with_reducible refine T5.w_not ?_ | with_reducible refine T5.w_eif ?_ | with_reducible refine T5.w_neg ?_ | with_reducible refine T5.w_eand ?_ | with_reducible refine T5.w_eor ?_ | with_reducible refine T5.w_enot ?_
  | with_reducible refine T5.w_chain ?_ | with_reducible refine T5.w_oN ?_ | with_reducible refine T5.w_oS ?_ | with_reducible refine T5.w_sl ?_ | with_reducible refine T5.w_mth ?_ | with_reducible refine T5.w_two ?_ | with_reducible refine T5.w_three ?_ | with_reducible refine T5.w_i1 ?_ | with_reducible refine T5.w_i2 ?_
  | with_reducible refine T5.s_seq ?_ | with_reducible refine T5.s_asg ?_ | with_reducible refine T5.s_if ?_ | with_reducible refine T5.s_ret ?_ | with_reducible refine T5.s_pass ?_ | with_reducible refine T5.s_exp ?_ | with_reducible refine T5.s_retN ?_ | with_reducible refine T5.s_asgT ?_ | with_reducible refine T5.s_par2 ?_ | with_reducible refine T5.s_par3 ?_ | with_reducible refine T5.s_for ?_ | with_reducible refine T5.s_brk ?_ | with_reducible refine T5.s_cnt ?_ | with_reducible refine T5.s_aug rfl ?_
  | with_reducible refine T5.seqK_nx ?_ | with_reducible refine T5.seqK_rt ?_ | with_reducible refine T5.seqK_bk ?_ | with_reducible refine T5.seqK_ct ?_ | with_reducible refine T5.seqK_ex ?_ | with_reducible refine T5.end_nx ?_ | with_reducible refine T5.end_rt ?_ | with_reducible refine T5.end_ex ?_
  | with_reducible refine T5.turn_nx ?_ | with_reducible refine T5.turn_ct ?_ | with_reducible refine T5.turn_bk ?_ | with_reducible refine T5.turn_rt ?_ | with_reducible refine T5.turn_ex ?_
  | with_reducible refine T5.tg_n ?_ | with_reducible refine T5.tg_t ?_ | with_reducible refine T5.tgs_n ?_ | with_reducible refine T5.tgs_c ?_ | with_reducible refine T5.seqE_t ?_ | with_reducible refine T5.seqE_l ?_ | with_reducible refine T5.seqE_s ?_ | with_reducible refine T5.i_seq ?_ | with_reducible refine T5.i_en ?_ | with_reducible refine T5.i_rng1 ?_ | with_reducible refine T5.i_rng2 ?_
  | ((with_reducible refine T5.setE_eq (e1 := ?e) ?he ?hk); (case he => (try simp only [T5.wipeD, List.set_cons_succ, List.set_cons_zero]); with_reducible exact rfl))
  | ((with_reducible refine T5.sd_mk ?hs ?hk); (case hs => k_caughtC0))
  | with_reducible refine T5.o_addI ?_ | with_reducible refine T5.o_subI ?_ | with_reducible refine T5.o_lt ?_ | with_reducible refine T5.o_le ?_ | with_reducible refine T5.o_gt ?_ | with_reducible refine T5.o_ge ?_ | with_reducible refine T5.o_eqI ?_ | with_reducible refine T5.o_neI ?_ | with_reducible refine T5.o_max ?_ | with_reducible refine T5.o_min ?_ | with_reducible refine T5.o_int ?_ | with_reducible refine T5.o_lenL ?_ | with_reducible refine T5.o_lenT ?_ | with_reducible refine T5.o_lenS ?_ | with_reducible refine T5.o_div ?_ | with_reducible refine T5.o_mod ?_ | with_reducible refine T5.o_mul ?_ | with_reducible refine T5.o_tuple ?_ | with_reducible refine T5.o_isNon ?_ | with_reducible refine T5.o_isBl ?_ | with_reducible refine T5.o_isnNon ?_ | with_reducible refine T5.o_isnBl ?_ | with_reducible refine T5.o_tbl ?_ | with_reducible refine T5.o_slL ?_ | with_reducible refine T5.o_slT ?_ | with_reducible refine T5.o_addT ?_ | with_reducible refine T5.o_addL ?_ | with_reducible refine T5.o_addI2 ?_
  | ((with_reducible refine T5.o_eqD ?h1 ?h2 ?hk); (case h1 => first | with_reducible assumption | rfl); (case h2 => first | with_reducible assumption | rfl)) | ((with_reducible refine T5.o_neD ?h1 ?h2 ?hk); (case h1 => first | with_reducible assumption | rfl); (case h2 => first | with_reducible assumption | rfl))
  | kts_caughtN
  | ((with_reducible refine T5.onB_t ?hb ?hk); (case hb => k_caughtCB)) | ((with_reducible refine T5.onB_f ?hb ?hk); (case hb => tb_rel)))
local macro_rules | `(tactic| tb_start) => `(tactic| repeat kts_caught)
local macro_rules | `(tactic| top_raiseIn) => `(tactic| first | with_reducible refine T5.onB_dec (fun _ => ?_) (fun _ => ?_) | with_reducible refine T5.onB_not ?_ | with_reducible refine T5.onB_any (fun _ => ?_) (fun _ => ?_))
local macro_rules | `(tactic| top_raiseIn0) => `(tactic| repeat' (first | kts_caught | top_raiseIn))
namespace T5.G
open PySem PySem.Spec PyProof.Rows L2
local macro_rules | `(tactic| kts_caughtN) => `(tactic| first
  | ((with_reducible refine T5.o_isTup (n := ?n) (b := ?b) ?h1 ?hk); (case h1 => with_reducible assumption)) | ((with_reducible refine T5.o_isStr (n := ?n) (b := ?b) ?h1 ?hk); (case h1 => with_reducible assumption))
  | ((with_reducible refine T5.o_isInt (n := ?n) (b := ?b) ?h1 ?hk); (case h1 => with_reducible assumption)) | ((with_reducible refine T5.o_isBool (n := ?n) (b := ?b) ?h1 ?hk); (case h1 => with_reducible assumption))
  | with_reducible refine T5.o_eqS ?_ | with_reducible refine T5.o_neS ?_ | with_reducible refine T5.s_raise ?_
  | with_reducible refine T5.o_ixT0 ?_ | with_reducible refine T5.o_ixT1 ?_ | with_reducible refine T5.o_ixT2 ?_ | with_reducible refine T5.o_ixL0 ?_ | with_reducible refine T5.o_ixL1 ?_ | with_reducible refine T5.o_ixL2 ?_)
/-! ### edits -/
def intB (d : D) (lo hi : Int) : Bool := match d with
  | .int i => decide (lo ≤ i ∧ i ≤ hi)
  | _ => false
def edB : D → Bool
  | .tup [.str s, x, y] => (decide (s = [105, 110]) || decide (s = [111, 117, 116])) && (intB x 0 999 && intB y 1 9)
  | _ => false
section
variable {st : Store} {n b : Nat} {d : D} {K : D → Store → Prop} {X : String → List String → List D → Store → Prop} {lo hi : Int}
theorem sp_isint (h : Rp n b d) (k : K (.bl (intB d lo hi)) st) : OnR (f_is_integer [d, .int lo, .int hi] st) K X := by
  refine f_runK rfl ?_
  show OnQ (b_is_integer [some d, some (.int lo), some (.int hi)] st) _
  unfold b_is_integer
  rcases rp_cases h with rfl | ⟨c, rfl⟩ | ⟨c, rfl⟩ | ⟨c, rfl⟩ | ⟨c, rfl⟩ | ⟨c, rfl⟩ | rfl
  all_goals tb_start
  all_goals try exact k
  refine onB_dec (fun c1 => ?_) (fun c1 => ?_)
  · tb_start
    have : intB (.int c) lo hi = decide (c ≤ hi) := by
      unfold intB
      simp [c1]
    rw [this] at k
    exact k
  · tb_start
    have : intB (.int c) lo hi = false := by
      unfold intB
      simp [c1]
    rw [this] at k
    exact k
local macro_rules | `(tactic| kts_caughtN) => `(tactic| first
  | ((with_reducible refine T5.o_isTup (n := ?n) (b := ?b) ?h1 ?hk); (case h1 => with_reducible assumption)) | ((with_reducible refine T5.o_isStr (n := ?n) (b := ?b) ?h1 ?hk); (case h1 => with_reducible assumption))
  | ((with_reducible refine T5.G.sp_isint (n := ?n) (b := ?b) ?h1 ?hk); (case h1 => with_reducible assumption))
  | with_reducible refine T5.o_neS ?_ | with_reducible refine T5.o_ixT0 ?_ | with_reducible refine T5.o_ixT1 ?_ | with_reducible refine T5.o_ixT2 ?_)
theorem edB_len {l : List D} (h : l.length ≠ 3) : edB (.tup l) = false := by
  unfold edB
  split
  · rename_i e
    cases e
    exact absurd rfl h
  · rfl
theorem three {α : Type} {l : List α} (h : l.length = 3) : ∃ x y z, l = [x, y, z] := by
  match l, h with
  | [x, y, z], _ => exact ⟨x, y, z, rfl⟩
theorem sp_isedit (h : Rp (n + 1) b d) (k : K (.bl (edB d)) st) : OnR (f_is_edit [d] st) K X := by
  refine f_runK rfl ?_
  show OnQ (b_is_edit [some d] st) _
  unfold b_is_edit
  rcases rp_cases h with rfl | ⟨c, rfl⟩ | ⟨c, rfl⟩ | ⟨c, rfl⟩ | ⟨l, rfl⟩ | ⟨c, rfl⟩ | rfl
  all_goals tb_start
  all_goals try exact k
  by_cases hl : l.length = 3
  · obtain ⟨x, y, z, rfl⟩ := three hl
    have hx : Rp n b x := rp_mem h (by simp)
    have hy : Rp n b y := rp_mem h (by simp)
    have hz : Rp n b z := rp_mem h (by simp)
    tb_start
    rcases rp_cases hx with rfl | ⟨c, rfl⟩ | ⟨c, rfl⟩ | ⟨c, rfl⟩ | ⟨c, rfl⟩ | ⟨c, rfl⟩ | rfl
    all_goals tb_start
    all_goals try exact k
    by_cases c1 : c = [105, 110]
    · subst c1
      tb_start
      have e : edB (.tup [.str [105, 110], y, z]) = (intB y 0 999 && intB z 1 9) := by simp [edB]
      rw [e] at k
      cases e1 : intB y 0 999
      · rw [e1] at k
        tb_start
        exact k
      · rw [e1] at k
        tb_start
        exact k
    · by_cases c2 : c = [111, 117, 116]
      · subst c2
        tb_start
        have e : edB (.tup [.str [111, 117, 116], y, z]) = (intB y 0 999 && intB z 1 9) := by simp [edB]
        rw [e] at k
        cases e1 : intB y 0 999
        · rw [e1] at k
          tb_start
          exact k
        · rw [e1] at k
          tb_start
          exact k
      · have e : edB (.tup [.str c, y, z]) = false := by simp [edB, c1, c2]
        rw [e] at k
        tb_start
        exact k
  · have hl' : ¬ (l.length : Int) = 3 := by omega
    tb_start
    rw [edB_len hl] at k
    exact k
end
local macro_rules | `(tactic| kts_caughtN) => `(tactic| first
  | ((with_reducible refine T5.o_isTup (n := ?n) (b := ?b) ?h1 ?hk); (case h1 => with_reducible assumption))
  | ((with_reducible refine T5.G.sp_isedit (n := ?n) (b := ?b) ?h1 ?hk); (case h1 => with_reducible assumption))
  | with_reducible refine T5.s_raise1 ?_ | with_reducible refine T5.w_one ?_ | with_reducible refine T5.o_ixT0 ?_ | with_reducible refine T5.o_ixT1 ?_ | with_reducible refine T5.o_ixT2 ?_)
section
variable {st : Store} {n b : Nat} {d y : D} {K : D → Store → Prop} {X : String → List String → List D → Store → Prop} {Q : SR → Prop} {l : List D}
/-! ### logs -/
/-- the first that is no edit -/
def badAt : List D → Option Nat
  | [] => none
  | x :: l => if edB x = true then (badAt l).map (· + 1) else some 0
theorem badAt_none : ∀ {l : List D}, badAt l = none → ∀ x ∈ l, edB x = true
  | [], _, x, hx => nomatch hx
  | y :: l, h, x, hx => by
    unfold badAt at h
    split at h
    · rename_i c
      rcases List.mem_cons.mp hx with rfl | hx
      · exact c
      · exact badAt_none (by simpa using h) x hx
    · cases h
/-- place to be told of what is no log -/
def due (d : D) : Option D := match d with
  | .tup l => if 40 < l.length then some .non else (badAt l).map fun i => .int (i : Nat)
  | _ => some .non
theorem due_tup : due (.tup l) = if 40 < l.length then some .non else (badAt l).map fun i => .int (i : Nat) := rfl
theorem nl_loop {t : D} : ∀ (l : List D) (k : Nat) (y z : Option D), (∀ x ∈ l, Rp (n + 1) b x) → (badAt l = none → ∀ y z, Q (.nx [some t, y, z] st)) → (∀ i, badAt l = some i → ∀ e, Q (.ex "BadLog" ["place"] [.int ((k + i : Nat) : Int)] e st)) →
    OnQ (loopS (gT (gsCons (gN 1) (gsCons (gN 2) gsNil))) z_need_log_0 ((l.zipIdx k).map fun p => .tup [.int (p.2 : Nat), p.1]) [some t, y, z] st) Q
  | [], k, y, z, _, h1, _ => h1 rfl y z
  | x :: l, k, y, z, hp, h1, h2 => by
    have hx : Rp (n + 1) b x := hp x (List.mem_cons_self ..)
    rw [List.zipIdx_cons, List.map_cons]
    refine l_cons ?_
    tb_start
    cases e : edB x
    · tb_start
      have := h2 0 (by unfold badAt; rw [e]; rfl)
      exact this _
    · tb_start
      refine nl_loop l (k + 1) _ _ (fun x hx => hp x (List.mem_cons_of_mem _ hx)) (fun q => h1 ?_) fun i q => ?_
      · unfold badAt
        rw [if_pos e, q]
        rfl
      · have := h2 (i + 1) (by unfold badAt; rw [if_pos e, q]; rfl)
        rw [show k + 1 + i = k + (i + 1) by omega]
        exact this
theorem sp_needlog (h : Rp (n + 2) b d) (k1 : due d = none → K d st) (k2 : ∀ p, due d = some p → X "BadLog" ["place"] [p] st) : OnR (f_need_log [d] st) K X := by
  refine f_runK rfl ?_
  show OnQ (b_need_log [some d, none, none] st) _
  unfold b_need_log
  rcases rp_cases h with rfl | ⟨c, rfl⟩ | ⟨c, rfl⟩ | ⟨c, rfl⟩ | ⟨l, rfl⟩ | ⟨c, rfl⟩ | rfl
  all_goals tb_start
  all_goals try exact k2 _ rfl
  by_cases hl : 40 < l.length
  · have hl' : (40 : Int) < (l.length : Int) := by omega
    tb_start
    exact k2 _ (by rw [due_tup, if_pos hl])
  · have hl' : ¬ (40 : Int) < (l.length : Int) := by omega
    tb_start
    refine nl_loop (n := n) (b := b) l 0 none none (fun x hx => rp_mem h hx) (fun e y z => ?_) fun i e e' => ?_
    · tb_start
      exact k1 (by rw [due_tup, if_neg hl, e]; rfl)
    · tb_start
      exact k2 _ (by rw [due_tup, if_neg hl, e]; simp)
theorem sp_needed (h : Rp (n + 1) b d) (k1 : edB d = true → K d st) (k2 : edB d = false → X "BadEdit" ["given"] [d] st) : OnR (f_need_edit [d] st) K X := by
  refine f_runK rfl ?_
  show OnQ (b_need_edit [some d] st) _
  unfold b_need_edit
  tb_start
  cases e : edB d
  · tb_start
    exact k2 e
  · tb_start
    exact k1 e
end
end T5.G
namespace T5.G
open PySem PySem.Spec PyProof.Rows L2
local macro_rules | `(tactic| kts_caughtN) => `(tactic| first
  | ((with_reducible refine T5.G.sp_isint (n := ?n) (b := ?b) ?h1 ?hk); (case h1 => with_reducible assumption))
  | with_reducible refine T5.o_eqS ?_ | with_reducible refine T5.s_raise1 ?_ | with_reducible refine T5.w_one ?_)
section
variable {st : Store} {n b : Nat} {d y : D} {K : D → Store → Prop} {X : String → List String → List D → Store → Prop} {Q : SR → Prop} {l : List Ed}
theorem sp_needlen (h : Rp n b d) (k1 : intB d 0 100 = true → K .non st) (k2 : intB d 0 100 = false → X "BadLength" ["given"] [d] st) : OnR (f_need_length [d] st) K X := by
  refine f_runK rfl ?_
  show OnQ (b_need_length [some d] st) _
  unfold b_need_length
  tb_start
  cases e : intB d 0 100
  · tb_start
    exact k2 e
  · tb_start
    exact k1 e
/-- the first edit that cannot be done -/
def outAt : List Ed → Int → Option Nat
  | [], _ => none
  | e :: l, n => if n < e.g + (if e.i = true then 0 else e.m) then some 0 else (outAt l (n + if e.i = true then e.m else -e.m)).map (· + 1)
theorem outAt_fits : ∀ {l : List Ed} {n : Int}, outAt l n = none ↔ Fits l n
  | [], n => ⟨fun _ => trivial, fun _ => rfl⟩
  | e :: l, n => by
    unfold outAt Fits
    by_cases z : n < e.g + (if e.i = true then 0 else e.m)
    · rw [if_pos z]
      exact ⟨fun h => (by cases h), fun h => by omega⟩
    · rw [if_neg z, Option.map_eq_none_iff, outAt_fits]
      exact ⟨fun h => ⟨by omega, h⟩, fun h => h.2⟩
theorem gr_loop {t : D} : ∀ (l : List Ed) (k : Nat) (m : Int) (a b c e : Option D), (Fits l m → ∀ a b c e, Q (.nx [some (.int (grow l m)), some t, a, b, c, e] st)) → (∀ i, outAt l m = some i → ∀ e, Q (.ex "OutOfText" ["place"] [.int ((k + i : Nat) : Int)] e st)) →
    OnQ (loopS (gT (gsCons (gN 2) (gsCons (gT (gsCons (gN 3) (gsCons (gN 4) (gsCons (gN 5) gsNil)))) gsNil))) z_grown_1 (((l.map Ed.d).zipIdx k).map fun p => .tup [.int (p.2 : Nat), p.1]) [some (.int m), some t, a, b, c, e] st) Q
  | [], k, m, a, b, c, e, h1, _ => h1 trivial a b c e
  | ⟨i, g, q⟩ :: l, k, m, a, b, c, e, h1, h2 => by
    rw [List.map_cons, List.zipIdx_cons, List.map_cons]
    unfold Ed.d
    dsimp only
    refine l_cons ?_
    have out : m < g + (if i = true then 0 else q) → ∀ e, Q (.ex "OutOfText" ["place"] [.int ((k : Nat) : Int)] e st) := fun z => by
      have := h2 0 (by unfold outAt; rw [if_pos z])
      exact this
    have go : ¬ m < g + (if i = true then 0 else q) → ∀ a b c e, OnQ (loopS (gT (gsCons (gN 2) (gsCons (gT (gsCons (gN 3) (gsCons (gN 4) (gsCons (gN 5) gsNil)))) gsNil))) z_grown_1 (((l.map Ed.d).zipIdx (k + 1)).map fun p => .tup [.int (p.2 : Nat), p.1]) [some (.int (m + if i = true then q else -q)), some t, a, b, c, e] st) Q := fun z a b c e => by
      refine gr_loop l (k + 1) _ a b c e (fun f a b c e => h1 ?_ a b c e) fun j hj e => ?_
      · exact ⟨by simp only; omega, f⟩
      · have := h2 (j + 1) (by unfold outAt; rw [if_neg z, hj]; rfl)
        rw [show k + 1 + j = k + (j + 1) by omega]
        exact this e
    cases i
    · simp only [Bool.false_eq_true, if_false] at out go ⊢
      tb_start
      refine onB_dec (fun z => ?_) (fun z => ?_)
      · tb_start
        exact out (by omega) _
      · tb_start
        exact go (by omega) _ _ _ _
    · simp only [if_true] at out go ⊢
      tb_start
      refine onB_dec (fun z => ?_) (fun z => ?_)
      · tb_start
        exact out (by omega) _
      · tb_start
        exact go (by omega) _ _ _ _
theorem sp_grown {m : Int} (k1 : Fits l m → K (.int (grow l m)) st) (k2 : ∀ i, outAt l m = some i → X "OutOfText" ["place"] [.int (i : Nat)] st) : OnR (f_grown [.int m, dLog l] st) K X := by
  refine f_runK rfl ?_
  show OnQ (b_grown [some (.int m), some (dLog l), none, none, none, none] st) _
  unfold b_grown
  unfold dLog
  tb_start
  refine gr_loop l 0 m none none none none (fun f a b c e => ?_) fun i hi e => ?_
  · tb_start
    exact k1 f
  · tb_start
    rw [Nat.zero_add]
    exact k2 i hi
local macro_rules | `(tactic| kts_caughtN) => `(tactic| first
  | ((with_reducible refine T5.G.sp_isint (n := ?n) (b := ?b) ?h1 ?hk); (case h1 => with_reducible assumption))
  | with_reducible refine T5.o_eqS ?_ | with_reducible refine T5.s_raise1 ?_ | with_reducible refine T5.w_one ?_)
/-! ### reach -/
theorem re_loop {t : D} : ∀ (l : List Ed) (le mo : Int) (a b c : Option D), (∀ mo' a b c, Q (.nx [some t, some (.int (reach l le mo)), mo', a, b, c] st)) →
    OnQ (loopS (gT (gsCons (gN 3) (gsCons (gN 4) (gsCons (gN 5) gsNil)))) z_reach_of_1 (l.map Ed.d) [some t, some (.int le), some (.int mo), a, b, c] st) Q
  | [], le, mo, a, b, c, h => h _ a b c
  | ⟨i, g, q⟩ :: l, le, mo, a, b, c, h => by
    rw [List.map_cons]
    unfold Ed.d
    dsimp only
    refine l_cons ?_
    cases i
    · simp only [Bool.false_eq_true, if_false]
      tb_start
      refine re_loop l _ _ _ _ _ fun mo' a b c => ?_
      exact h mo' a b c
    · simp only [if_true]
      tb_start
      refine re_loop l _ _ _ _ _ fun mo' a b c => ?_
      exact h mo' a b c
theorem sp_reachof (k : K (.int (reach l 0 0)) st) : OnR (f_reach_of [dLog l] st) K X := by
  refine f_runK rfl ?_
  show OnQ (b_reach_of [some (dLog l), none, none, none, none, none] st) _
  unfold b_reach_of
  unfold dLog
  tb_start
  refine re_loop l 0 0 none none none fun mo' a b c => ?_
  tb_start
  exact k
/-- what is a log is a row of edits -/
theorem edB_ed (h : edB d = true) : ∃ e : Ed, d = e.d ∧ e.ok := by
  unfold edB at h
  split at h
  · rename_i s x y
    simp only [Bool.and_eq_true, Bool.or_eq_true, decide_eq_true_eq] at h
    obtain ⟨hs, h1, h2⟩ := h
    cases x with
    | int i =>
      cases y with
      | int j =>
        simp only [intB, decide_eq_true_eq] at h1 h2
        rcases hs with rfl | rfl
        · exact ⟨⟨true, i, j⟩, rfl, by simp only; omega, by simp only; omega, by simp only; omega, by simp only; omega⟩
        · exact ⟨⟨false, i, j⟩, rfl, by simp only; omega, by simp only; omega, by simp only; omega, by simp only; omega⟩
      | _ => cases h2
    | _ => cases h1
  · cases h
theorem eds_of : ∀ {l : List D}, (∀ x ∈ l, edB x = true) → ∃ es : List Ed, l = es.map Ed.d ∧ ∀ e ∈ es, e.ok
  | [], _ => ⟨[], rfl, fun e h => nomatch h⟩
  | x :: l, h => by
    obtain ⟨e, rfl, he⟩ := edB_ed (h x (List.mem_cons_self ..))
    obtain ⟨es, rfl, hes⟩ := eds_of (l := l) fun y hy => h y (List.mem_cons_of_mem _ hy)
    refine ⟨e :: es, rfl, fun z hz => ?_⟩
    rcases List.mem_cons.mp hz with rfl | hz
    · exact he
    · exact hes z hz
theorem due_log (h : due d = none) : ∃ es : List Ed, d = dLog es ∧ es.length ≤ 40 ∧ ∀ e ∈ es, e.ok := by
  unfold due at h
  split at h
  · rename_i l
    split at h
    · cases h
    · rename_i c
      obtain ⟨es, rfl, hes⟩ := eds_of (badAt_none (l := l) (by simpa using h))
      exact ⟨es, rfl, by rw [List.length_map] at c; omega, hes⟩
  · cases h
theorem sp_reach (h : Rp (n + 2) b d) (k1 : ∀ es, d = dLog es → due d = none → (∀ e ∈ es, e.ok) → K (.int (reach es 0 0)) st) (k2 : ∀ p, due d = some p → X "BadLog" ["place"] [p] st) : OnR (f_reach [d] st) K X := by
  refine f_runK rfl ?_
  show OnQ (b_reach [some d] st) _
  unfold b_reach
  tb_start
  refine sp_needlog h (fun e => ?_) fun p e => ?_
  · obtain ⟨es, rfl, hl, he⟩ := due_log e
    tb_start
    refine sp_reachof ?_
    tb_start
    exact k1 es rfl e he
  · tb_start
    exact k2 p e
/-- length_behind: the length, then the log, then the fit -/
theorem sp_lenbehind {c : D} {n2 b2 : Nat} (hc : Rp n2 b2 c) (h : intB c 0 100 = true → Rp (n + 2) b d) (k0 : intB c 0 100 = false → X "BadLength" ["given"] [c] st) (k1 : ∀ p, intB c 0 100 = true → due d = some p → X "BadLog" ["place"] [p] st)
    (k2 : ∀ m es i, c = .int m → d = dLog es → due d = none → (∀ e ∈ es, e.ok) → outAt es m = some i → X "OutOfText" ["place"] [.int (i : Nat)] st) (k3 : ∀ m es, c = .int m → d = dLog es → due d = none → (∀ e ∈ es, e.ok) → Fits es m → K (.int (grow es m)) st) : OnR (f_length_behind [c, d] st) K X := by
  refine f_runK rfl ?_
  show OnQ (b_length_behind [some c, some d] st) _
  unfold b_length_behind
  tb_start
  refine sp_needlen hc (fun e0 => ?_) fun e0 => ?_
  · tb_start
    refine sp_needlog (h e0) (fun e => ?_) fun p e => ?_
    · obtain ⟨es, rfl, hl, he⟩ := due_log e
      cases c with
      | int m =>
        tb_start
        refine sp_grown (fun f => ?_) fun i hi => ?_
        · tb_start
          exact k3 m es rfl rfl e he f
        · tb_start
          exact k2 m es i rfl rfl e he hi
      | _ => cases e0
    · tb_start
      exact k1 p e0 e
  · tb_start
    exact k0 e0
end
section
variable {l : List Ed}
theorem grow_abs : ∀ {l : List Ed} {m : Int}, (∀ x ∈ l, x.ok) → m - 9 * l.length ≤ grow l m ∧ grow l m ≤ m + 9 * l.length
  | [], m, _ => by simp [grow]
  | e :: l, m, h => by
    obtain ⟨_, _, h3, h4⟩ := h e (List.mem_cons_self ..)
    have := grow_abs (l := l) (m := m + if e.i = true then e.m else -e.m) fun x hx => h x (List.mem_cons_of_mem _ hx)
    unfold grow
    simp only [List.length_cons]
    have hz : -9 ≤ (if e.i = true then e.m else -e.m) ∧ (if e.i = true then e.m else -e.m) ≤ 9 := by split <;> omega
    omega
theorem rp_log (ho : ∀ x ∈ l, x.ok) (hl : l.length ≤ 40) : Rp 9 16384 (dLog l) := by
  have ed : ∀ x ∈ l, Rp 2 12 x.d := fun x hx => by
    obtain ⟨h1, h2, h3, h4⟩ := ho x hx
    have := rp_tup (n := 1) (b := 3) (l := [if x.i = true then sIN else sOUT, .int x.g, .int x.m]) fun y hy => by
      simp only [List.mem_cons, List.not_mem_nil, or_false] at hy
      rcases hy with rfl | rfl | rfl
      · split
        · exact (rp_str (n := 0) (s := [105, 110]) rfl).mono (by decide)
        · exact (rp_str (n := 0) (s := [111, 117, 116]) rfl).mono (by decide)
      · exact (rp_int (n := 0) ⟨by omega, by omega⟩).mono (by omega)
      · exact (rp_int (n := 0) ⟨by omega, by omega⟩).mono (by omega)
    exact this
  refine (rp_tup (n := 8) (b := 12) fun y hy => ?_).mono (by rw [List.length_map]; omega)
  obtain ⟨x, hx, rfl⟩ := List.mem_map.mp hy
  exact (ed x hx).up (by omega)
theorem due_ok (ho : ∀ x ∈ l, x.ok) (hl : l.length ≤ 40) {p : D} {P : Prop} (h : due (dLog l) = some p) : P := by
  have bad : ∀ {l : List Ed}, (∀ x ∈ l, x.ok) → badAt (l.map Ed.d) = none := fun {l} => by
    induction l with
    | nil => intro _; rfl
    | cons e l ih =>
      intro h
      obtain ⟨h1, h2, h3, h4⟩ := h e (List.mem_cons_self ..)
      have : edB e.d = true := by
        obtain ⟨i, g, q⟩ := e
        simp only at h1 h2 h3 h4
        cases i <;> simp [edB, Ed.d, intB, h1, h2, h3, h4]
      rw [List.map_cons]
      unfold badAt
      rw [if_pos this, ih fun x hx => h x (List.mem_cons_of_mem _ hx)]
      rfl
  rw [show dLog l = .tup (l.map Ed.d) from rfl, due_tup, if_neg (by rw [List.length_map]; omega), bad ho] at h
  cases h
theorem Ed.d_inj {a b : Ed} (h : a.d = b.d) : a = b := by
  obtain ⟨i, g, q⟩ := a
  obtain ⟨i', g', q'⟩ := b
  cases i <;> cases i' <;> simp [Ed.d] at h ⊢ <;> exact h
theorem dLog_inj : ∀ {a b : List Ed}, dLog a = dLog b → a = b := fun {a b} h => by
  have z : a.map Ed.d = b.map Ed.d := D.tup.inj h
  clear h
  induction a generalizing b with
  | nil => cases b with
    | nil => rfl
    | cons _ _ => cases z
  | cons x a ih => cases b with
    | nil => cases z
    | cons y b =>
      rw [List.map_cons, List.map_cons, List.cons.injEq] at z
      rw [Ed.d_inj z.1, ih z.2]
end
theorem maxI_le {a b n : Int} : maxI a b ≤ n ↔ a ≤ n ∧ b ≤ n := by
  unfold maxI
  split <;> omega
theorem reach_le : ∀ {l : List Ed} {le mo n : Int}, reach l le mo ≤ n ↔ le ≤ n ∧ Fits l (n + mo)
  | [], le, mo, n => by simp [reach, Fits]
  | e :: l, le, mo, n => by
    unfold reach Fits
    rw [reach_le, maxI_le]
    constructor
    · rintro ⟨⟨h1, h2⟩, h3⟩
      exact ⟨h1, by omega, by rw [show n + mo + (if e.i = true then e.m else -e.m) = n + (mo + if e.i = true then e.m else -e.m) by omega]; exact h3⟩
    · rintro ⟨h1, h2, h3⟩
      exact ⟨⟨h1, by omega⟩, by rw [show n + (mo + if e.i = true then e.m else -e.m) = n + mo + (if e.i = true then e.m else -e.m) by omega]; exact h3⟩
theorem reach_fits {l : List Ed} {n : Int} : reach l 0 0 ≤ n ↔ 0 ≤ n ∧ Fits l n := by
  have := @reach_le l 0 0 n
  rwa [Int.add_zero] at this
section
theorem badAt_at {l : List Ed} {x : D} {r : List D} (ho : ∀ e ∈ l, e.ok) (hx : edB x = false) : badAt (l.map Ed.d ++ x :: r) = some l.length := by
  induction l with
  | nil =>
    show badAt (x :: r) = _
    unfold badAt
    rw [hx]
    rfl
  | cons e l ih =>
    have : edB e.d = true := by
      obtain ⟨h1, h2, h3, h4⟩ := ho e (List.mem_cons_self ..)
      obtain ⟨i, g, q⟩ := e
      simp only at h1 h2 h3 h4
      cases i <;> simp [edB, Ed.d, intB, h1, h2, h3, h4]
    rw [List.map_cons, List.cons_append]
    unfold badAt
    rw [if_pos this, ih fun x hx => ho x (List.mem_cons_of_mem _ hx)]
    rfl
theorem due_at {l : List Ed} {x : D} {r : List D} (ho : ∀ e ∈ l, e.ok) (hx : edB x = false) (hl : l.length + r.length < 40) : due (.tup (l.map Ed.d ++ x :: r)) = some (.int (l.length : Nat)) := by
  rw [due_tup, if_neg (by simp; omega), badAt_at ho hx]
  rfl
theorem rp_edd {e : Ed} (h : e.ok) : Rp 2 12 e.d := by
  obtain ⟨h1, h2, h3, h4⟩ := h
  have := rp_tup (n := 1) (b := 3) (l := [if e.i = true then sIN else sOUT, .int e.g, .int e.m]) fun x hx => by
    simp only [List.mem_cons, List.not_mem_nil, or_false] at hx
    rcases hx with rfl | rfl | rfl
    · split
      · exact (rp_str (n := 0) (s := [105, 110]) rfl).mono (by decide)
      · exact (rp_str (n := 0) (s := [111, 117, 116]) rfl).mono (by decide)
    · exact (rp_int (n := 0) ⟨by omega, by omega⟩).mono (by omega)
    · exact (rp_int (n := 0) ⟨by omega, by omega⟩).mono (by omega)
  exact this
/-- a row of edits with something behind -/
theorem rp_tail {l : List Ed} {r : List D} (ho : ∀ e ∈ l, e.ok) (hr : ∀ x ∈ r, Rp 8 12 x) (hl : l.length + r.length ≤ 45) : Rp 9 16384 (.tup (l.map Ed.d ++ r)) := by
  refine (rp_tup (n := 8) (b := 12) fun y hy => ?_).mono ?_
  · rcases List.mem_append.mp hy with hy | hy
    · obtain ⟨e, he, rfl⟩ := List.mem_map.mp hy
      exact (rp_edd (ho e he)).up (by omega)
    · exact hr y hy
  · simp only [List.length_append, List.length_map]
    omega
theorem ed_ok {e : Ed} (h : (decide (0 ≤ e.g) && decide (e.g ≤ 999) && decide (1 ≤ e.m) && decide (e.m ≤ 9)) = true) : e.ok := by
  simpa [Ed.ok, and_assoc] using h
end
theorem outAt_cat : ∀ {a b : List Ed} {n : Int}, Fits a n → outAt (a ++ b) n = (outAt b (grow a n)).map (· + a.length)
  | [], b, n, _ => by simp [grow]
  | e :: a, b, n, h => by
    have z : ¬ n < e.g + (if e.i = true then 0 else e.m) := by have := h.1; omega
    rw [List.cons_append]
    show (if n < e.g + (if e.i = true then 0 else e.m) then some 0 else (outAt (a ++ b) _).map (· + 1)) = (outAt b (grow a _)).map _
    rw [if_neg z, outAt_cat h.2, Option.map_map]
    congr 1
/-- a log with an edit behind that cannot be done -/
theorem out_bad {l : List Ed} {e : Ed} {r : List Ed} {n : Int} (hf : Fits l n) (h : grow l n < e.g + (if e.i = true then 0 else e.m)) : outAt (l ++ e :: r) n = some l.length := by
  rw [outAt_cat hf]
  unfold outAt
  rw [if_pos h]
  simp
end T5.G
namespace T5.G
open PySem PySem.Spec PyProof.Rows L2
def OkL (l : List Ed) : Prop := l.length ≤ 40 ∧ ∀ e ∈ l, e.ok
def Same (a b : List Ed) (n : Int) : Prop := ∀ (x : Int) (lf : Bool), 0 ≤ x → x ≤ n → car a x lf = car b x lf
/-! ### logs that do the same -/
def Alike (l l' : List Ed) : Prop := (∀ x lf, car l x lf = car l' x lf) ∧ ∀ n, grow l n = grow l' n
theorem Alike.refl {l : List Ed} : Alike l l := ⟨fun _ _ => rfl, fun _ => rfl⟩
theorem Alike.trans {a b c : List Ed} (h : Alike a b) (h' : Alike b c) : Alike a c := ⟨fun x lf => (h.1 x lf).trans (h'.1 x lf), fun n => (h.2 n).trans (h'.2 n)⟩
theorem car_app : ∀ {a b : List Ed} {x : Int} {lf : Bool}, car (a ++ b) x lf = car b (car a x lf) lf
  | [], _, _, _ => rfl
  | e :: a, b, x, lf => car_app (a := a)
theorem grow_cat : ∀ {a b : List Ed} {n : Int}, grow (a ++ b) n = grow b (grow a n)
  | [], _, _ => rfl
  | e :: a, b, n => grow_cat (a := a)
theorem Alike.mid {a b b' c : List Ed} (h : Alike b b') : Alike (a ++ (b ++ c)) (a ++ (b' ++ c)) :=
  ⟨fun x lf => by rw [car_app, car_app, car_app, car_app, h.1], fun n => by rw [grow_cat, grow_cat, grow_cat, grow_cat, h.2]⟩
theorem alike_turn {g : Int} : Alike [] [⟨true, g, 2⟩, ⟨false, g, 1⟩, ⟨false, g, 1⟩] := by
  refine ⟨fun x lf => ?_, fun n => ?_⟩
  · cases lf <;> simp only [car, gapB, maxI, if_true, Bool.false_eq_true, if_false, and_false, or_false, and_true] <;> (repeat' split) <;> omega
  · simp [grow]
    omega
theorem alike_split {i : Bool} {g m : Int} (hm : 1 < m) : Alike [⟨i, g, m⟩] [⟨i, g, 1⟩, ⟨i, g + (if i = true then 1 else 0), m - 1⟩] := by
  refine ⟨fun x lf => ?_, fun n => ?_⟩
  · cases i <;> cases lf <;> simp only [car, gapB, maxI, if_true, Bool.false_eq_true, if_false, and_false, or_false, and_true] <;> (repeat' split) <;> omega
  · cases i <;> simp [grow] <;> omega
theorem alike_swap {i : Bool} {a m b k : Int} (hm : 1 ≤ m) (hk : 1 ≤ k) (h : b + (if i = true then 0 else k) < a) : Alike [⟨true, a, m⟩, ⟨i, b, k⟩] [⟨i, b, k⟩, ⟨true, a + (if i = true then k else -k), m⟩] := by
  refine ⟨fun x lf => ?_, fun n => ?_⟩
  · cases i <;> cases lf <;> simp only [if_true, Bool.false_eq_true, if_false] at h <;> simp only [car, gapB, maxI, if_true, Bool.false_eq_true, if_false, and_false, or_false, and_true] <;> (repeat' split) <;> omega
  · cases i <;> simp [grow] <;> omega
/-! ### reach -/
theorem reach_fitsO : ∀ {l : List Ed} {le mo n : Int}, reach l le mo ≤ n → Fits l (n + mo) ∧ le ≤ n
  | [], le, mo, n, h => ⟨trivial, h⟩
  | e :: l, le, mo, n, h => by
    obtain ⟨h1, h2⟩ := reach_fitsO (l := l) h
    have h3 : le ≤ n ∧ e.g + (if e.i = true then 0 else e.m) - mo ≤ n := by
      generalize (if e.i = true then 0 else e.m) = q at h2 ⊢
      unfold maxI at h2
      split at h2 <;> omega
    refine ⟨⟨by omega, ?_⟩, h3.1⟩
    rw [Int.add_assoc]
    exact h1
theorem reach_bound : ∀ {l : List Ed} {le mo : Int} {B : Int}, (∀ e ∈ l, 0 ≤ e.g ∧ e.g ≤ B ∧ 1 ≤ e.m ∧ e.m ≤ 9) → reach l le mo ≤ maxI le (B + 9 + (9 * l.length - mo)) ∧ le ≤ reach l le mo
  | [], le, mo, B, _ => ⟨by unfold reach maxI; split <;> omega, Int.le_refl _⟩
  | e :: l, le, mo, B, h => by
    obtain ⟨h1, h2, h3, h4⟩ := h e (List.mem_cons_self ..)
    obtain ⟨k1, k2⟩ := reach_bound (l := l) (le := maxI le (e.g + (if e.i = true then 0 else e.m) - mo)) (mo := mo + if e.i = true then e.m else -e.m) (B := B) fun e he => h e (List.mem_cons_of_mem _ he)
    show reach l _ _ ≤ _ ∧ le ≤ reach l _ _
    have hl : ((e :: l).length : Int) = l.length + 1 := by simp
    have h0 : (0 : Int) ≤ l.length := by omega
    rw [hl]
    generalize reach l (maxI le (e.g + (if e.i = true then 0 else e.m) - mo)) (mo + if e.i = true then e.m else -e.m) = r at k1 k2 ⊢
    unfold maxI at *
    cases hi : e.i <;> simp only [hi, if_true, Bool.false_eq_true, if_false] at k1 k2 ⊢ <;> constructor <;> (repeat' split at k1) <;> (repeat' split at k2) <;> (repeat' split) <;> omega
/-! ### beyond the reach -/
theorem fits_far : ∀ {l : List Ed} {n x : Int} {lf : Bool}, (∀ e ∈ l, e.ok) → Fits l n → n ≤ x → (n < x ∨ lf = false) → car l x lf = grow l x
  | [], _, _, _, _, _, _, _ => rfl
  | e :: l, n, x, lf, h, hf, hx, hl => by
    obtain ⟨h1, h2, h3, h4⟩ := h e (List.mem_cons_self ..)
    obtain ⟨f1, f2⟩ := hf
    have e1 : gapB e x lf = x + if e.i = true then e.m else -e.m := by
      rcases hl with hl | hl
      · cases hi : e.i <;> cases lf <;> simp only [hi, if_true, Bool.false_eq_true, if_false] at f1 <;> simp only [gapB, hi, maxI, if_true, Bool.false_eq_true, if_false, and_false, or_false, and_true] <;> (repeat' split) <;> omega
      · subst hl
        cases hi : e.i <;> simp only [hi, if_true, Bool.false_eq_true, if_false] at f1 <;> simp only [gapB, hi, maxI, if_true, Bool.false_eq_true, if_false, and_false, or_false, and_true] <;> (repeat' split) <;> omega
    show car l (gapB e x lf) lf = grow l _
    rw [e1]
    exact fits_far (fun e he => h e (List.mem_cons_of_mem _ he)) f2 (by omega) (hl.imp (fun z => by omega) id)
theorem grow_add : ∀ {l : List Ed} {n k : Int}, grow l (n + k) = grow l n + k
  | [], _, _ => rfl
  | e :: l, n, k => by
    show grow l _ = grow l _ + k
    rw [← grow_add]
    congr 1
    omega
/-- alike on the gaps up to the meeting length: alike on all, and they make the same number -/
theorem same_all {a b : List Ed} {n : Int} (ha : ∀ e ∈ a, e.ok) (hb : ∀ e ∈ b, e.ok) (fa : Fits a n) (fb : Fits b n) (hn : 0 ≤ n) (h : Same a b n) : (∀ x lf, 0 ≤ x → car a x lf = car b x lf) ∧ ∀ k, grow a k = grow b k := by
  have e0 : grow a n = grow b n := by
    have := h n false hn (Int.le_refl _)
    rwa [fits_far ha fa (Int.le_refl _) (.inr rfl), fits_far hb fb (Int.le_refl _) (.inr rfl)] at this
  have eg : ∀ k, grow a k = grow b k := fun k => by
    have h1 := @grow_add a n (k - n)
    have h2 := @grow_add b n (k - n)
    rw [show n + (k - n) = k by omega] at h1 h2
    rw [h1, h2, e0]
  refine ⟨fun x lf hx => ?_, eg⟩
  by_cases hle : x ≤ n
  · exact h x lf hx hle
  · rw [fits_far ha fa (by omega) (.inl (by omega)), fits_far hb fb (by omega) (.inl (by omega)), eg]
end T5.G
namespace T5.G
open PySem PySem.Spec PyProof.Rows L2
/-! ### two edits behind one another: the plain law -/
/-- signs of [b, b+k) outside [g, g+m) -/
def kept (g m : Int) : Int → Nat → Nat
  | _, 0 => 0
  | b, k + 1 => (if g ≤ b ∧ b < g + m then 0 else 1) + kept g m (b + 1) k
theorem kept_eq {g m : Int} (hm : 1 ≤ m) : ∀ (k : Nat) (b : Int), (kept g m b k : Int) = k - max 0 (min (b + k) (g + m) - max b g)
  | 0, b => by
    show ((0 : Nat) : Int) = _
    omega
  | k + 1, b => by
    have := kept_eq (g := g) hm k (b + 1)
    unfold kept
    split <;> omega
def still (e o : Ed) : List (Int × Int) :=
  if o.i = true then (if e.g < o.g ∧ o.g < e.g + e.m then [(e.g, o.g - e.g), (o.g + o.m, e.g + e.m - o.g)] else [(if o.g ≤ e.g then e.g + o.m else e.g, e.m)])
  else if 0 < kept o.g o.m e.g e.m.toNat then [(gapB o e.g true, (kept o.g o.m e.g e.m.toNat : Int))] else []
def bhd (e o : Ed) (f : Bool) : List Ed := if e.i = true then [⟨true, gapB o e.g f, e.m⟩] else (still e o).reverse.map fun p => ⟨false, p.1, p.2⟩
def within (a b : Ed) : Bool := a.i && (!b.i && (decide (b.g ≤ a.g) && decide (a.g ≤ b.g + b.m)))
def wayA (a b : Ed) : List Ed := a :: bhd b a false
def wayB (a b : Ed) : List Ed := b :: bhd a b true
theorem gO {g m x : Int} {lf : Bool} (h : 1 ≤ m) : gapB ⟨false, g, m⟩ x lf = if x ≤ g then x else if x ≤ g + m then g else x - m := by
  unfold gapB maxI
  simp only [Bool.false_eq_true, if_false]
  split
  · rfl
  · split <;> split <;> omega
theorem gIt {g m x : Int} : gapB ⟨true, g, m⟩ x true = if x ≤ g then x else x + m := by
  unfold gapB
  simp only [if_true, and_true]
  by_cases h : x ≤ g
  · rw [if_pos h, if_pos (by omega)]
  · rw [if_neg h, if_neg (by omega)]
theorem gIf {g m x : Int} : gapB ⟨true, g, m⟩ x false = if x < g then x else x + m := by
  unfold gapB
  simp
theorem d3 {x g m A : Int} (m1 : 1 ≤ m) (h : A = if x ≤ g then x else if x ≤ g + m then g else x - m) : (x ≤ g ∧ A = x) ∨ (g < x ∧ x ≤ g + m ∧ A = g) ∨ (g + m < x ∧ A = x - m) := by
  subst h
  by_cases z : x ≤ g
  · exact .inl ⟨z, by rw [if_pos z]⟩
  · by_cases y : x ≤ g + m
    · exact .inr (.inl ⟨by omega, y, by rw [if_neg z, if_pos y]⟩)
    · exact .inr (.inr ⟨by omega, by rw [if_neg z, if_neg y]⟩)
theorem kv {g m h k c : Int} (m1 : 1 ≤ m) (k1 : 1 ≤ k) (e : c = k - max 0 (min (h + k) (g + m) - max h g)) : (g + m ≤ h ∧ c = k) ∨ (h + k ≤ g ∧ c = k) ∨ (h < g + m ∧ g < h + k ∧ ((g ≤ h ∧ h + k ≤ g + m ∧ c = 0) ∨ (g ≤ h ∧ g + m < h + k ∧ c = h + k - (g + m)) ∨ (h < g ∧ h + k ≤ g + m ∧ c = g - h) ∨ (h < g ∧ g + m < h + k ∧ c = k - m))) := by
  omega
theorem t3 {x g m h k c1 c2 : Int} (g0 : 0 ≤ g) (m1 : 1 ≤ m) (h0 : 0 ≤ h) (k1 : 1 ≤ k) (e1 : c1 = k - max 0 (min (h + k) (g + m) - max h g)) (e2 : c2 = m - max 0 (min (g + m) (h + k) - max g h)) (A P1 P2 B u v : Int)
   (hA : A = if x ≤ g then x else if x ≤ g + m then g else x - m) (hB : B = if x ≤ h then x else if x ≤ h + k then h else x - k) (hP1 : P1 = if h ≤ g then h else if h ≤ g + m then g else h - m) (hP2 : P2 = if g ≤ h then g else if g ≤ h + k then h else g - k)
   (hu : u = if 0 < c1 then (if A ≤ P1 then A else if A ≤ P1 + c1 then P1 else A - c1) else A) (hv : v = if 0 < c2 then (if B ≤ P2 then B else if B ≤ P2 + c2 then P2 else B - c2) else B) : u = v := by
  have dA := d3 m1 hA
  have dB := d3 k1 hB
  have dP1 := d3 m1 hP1
  have dP2 := d3 k1 hP2
  have k1' := kv m1 k1 e1
  have k2' := kv (g := h) (m := k) (h := g) (k := m) k1 m1 e2
  have du : (c1 ≤ 0 ∧ u = A) ∨ (0 < c1 ∧ ((A ≤ P1 ∧ u = A) ∨ (P1 < A ∧ A ≤ P1 + c1 ∧ u = P1) ∨ (P1 + c1 < A ∧ u = A - c1))) := by
    by_cases z : 0 < c1
    · rw [if_pos z] at hu
      exact .inr ⟨z, d3 (by omega) hu⟩
    · rw [if_neg z] at hu
      exact .inl ⟨by omega, hu⟩
  have dv : (c2 ≤ 0 ∧ v = B) ∨ (0 < c2 ∧ ((B ≤ P2 ∧ v = B) ∨ (P2 < B ∧ B ≤ P2 + c2 ∧ v = P2) ∨ (P2 + c2 < B ∧ v = B - c2))) := by
    by_cases z : 0 < c2
    · rw [if_pos z] at hv
      exact .inr ⟨z, d3 (by omega) hv⟩
    · rw [if_neg z] at hv
      exact .inl ⟨by omega, hv⟩
  clear e1 e2 hA hB hP1 hP2 hu hv
  rcases k1' with ⟨r1, r2⟩ | ⟨r1, r2⟩ | ⟨r0, r1, ⟨r2, r3, r4⟩ | ⟨r2, r3, r4⟩ | ⟨r2, r3, r4⟩ | ⟨r2, r3, r4⟩⟩
  all_goals rcases dA with ⟨s1, rfl⟩ | ⟨s1, s2, rfl⟩ | ⟨s1, rfl⟩
  all_goals rcases dB with ⟨t1, rfl⟩ | ⟨t1, t2, rfl⟩ | ⟨t1, rfl⟩
  all_goals omega
section
variable {g m h k : Int}
theorem ways_ii {x : Int} {lf : Bool} (g0 : 0 ≤ g) (m1 : 1 ≤ m) (h0 : 0 ≤ h) (k1 : 1 ≤ k) : car (wayA ⟨true, g, m⟩ ⟨true, h, k⟩) x lf = car (wayB ⟨true, g, m⟩ ⟨true, h, k⟩) x lf := by
  cases lf <;> simp only [wayA, wayB, bhd, car, gapB, if_true, Bool.false_eq_true, if_false, and_false, or_false, and_true] <;> (repeat' split) <;> omega
theorem ways_oo {x : Int} {lf : Bool} (g0 : 0 ≤ g) (m1 : 1 ≤ m) (h0 : 0 ≤ h) (k1 : 1 ≤ k) : car (wayA ⟨false, g, m⟩ ⟨false, h, k⟩) x lf = car (wayB ⟨false, g, m⟩ ⟨false, h, k⟩) x lf := by
  have e1 := kept_eq (g := g) m1 k.toNat h
  have e2 := kept_eq (g := h) k1 m.toNat g
  simp only [wayA, wayB, bhd, still, Bool.false_eq_true, if_false]
  generalize kept g m h k.toNat = c1 at *
  generalize kept h k g m.toNat = c2 at *
  rw [Int.toNat_of_nonneg (by omega)] at e1 e2
  have pc : ∀ {c : Nat} {z : Int}, (if 0 < c then [(z, (c : Int))] else []).reverse.map (fun p => Ed.mk false p.1 p.2) = if 0 < c then [⟨false, z, c⟩] else [] := fun {c z} => by split <;> rfl
  rw [pc, pc]
  have cr : ∀ {c : Nat} {z y : Int}, car (if 0 < c then [⟨false, z, c⟩] else []) y lf = if 0 < (c : Int) then (if y ≤ z then y else if y ≤ z + c then z else y - c) else y := fun {c z y} => by
    by_cases q : 0 < c
    · rw [if_pos q, if_pos (by omega)]
      exact gO (lf := lf) (by omega)
    · rw [if_neg q, if_neg (by omega)]
      rfl
  show car _ (gapB _ x lf) lf = car _ (gapB _ x lf) lf
  rw [cr, cr]
  exact t3 g0 m1 h0 k1 e1 e2 _ _ _ _ _ _ (gO m1) (gO k1) (gO m1) (gO k1) rfl rfl
theorem ways_io {x : Int} {lf : Bool} (g0 : 0 ≤ g) (m1 : 1 ≤ m) (h0 : 0 ≤ h) (k1 : 1 ≤ k) (hw : ¬ (h ≤ g ∧ g ≤ h + k)) : car (wayA ⟨true, g, m⟩ ⟨false, h, k⟩) x lf = car (wayB ⟨true, g, m⟩ ⟨false, h, k⟩) x lf := by
  have z : ¬ (h < g ∧ g < h + k) := by omega
  cases lf <;> simp only [wayA, wayB, bhd, still, if_true, if_neg z, Bool.false_eq_true, if_false, and_false, or_false, and_true, List.reverse_cons, List.reverse_nil, List.nil_append, List.map_cons, List.map_nil, car, gapB] <;> unfold maxI <;> (repeat' split) <;> omega
theorem ways_oi {x : Int} {lf : Bool} (g0 : 0 ≤ g) (m1 : 1 ≤ m) (h0 : 0 ≤ h) (k1 : 1 ≤ k) (hw : ¬ (g ≤ h ∧ h ≤ g + m)) : car (wayA ⟨false, g, m⟩ ⟨true, h, k⟩) x lf = car (wayB ⟨false, g, m⟩ ⟨true, h, k⟩) x lf := by
  have z : ¬ (g < h ∧ h < g + m) := by omega
  cases lf <;> simp only [wayA, wayB, bhd, still, if_true, if_neg z, Bool.false_eq_true, if_false, and_false, or_false, and_true, List.reverse_cons, List.reverse_nil, List.nil_append, List.map_cons, List.map_nil, car, gapB] <;> unfold maxI <;> (repeat' split) <;> omega
end
section
variable {g m h k : Int} {a b : Ed} {n : Int}
theorem way_split (hi : a.i = false) (hj : b.i = false) (c : Nat) (e : c = kept b.g b.m a.g a.m.toNat) (f : Bool) : bhd a b f = if 0 < c then [⟨false, gapB b a.g true, (c : Int)⟩] else [] := by
  subst e
  simp only [bhd, still, hi, hj, Bool.false_eq_true, if_false]
  split <;> rfl
theorem part_io (g0 : 0 ≤ g) (m1 : 1 ≤ m) (h0 : 0 ≤ h) (k1 : 1 ≤ k) (hw : h ≤ g ∧ g ≤ h + k) : ∃ x lf, 0 ≤ x ∧ x ≤ h + k ∧ car (wayA ⟨true, g, m⟩ ⟨false, h, k⟩) x lf ≠ car (wayB ⟨true, g, m⟩ ⟨false, h, k⟩) x lf := by
  by_cases z : g < h + k
  · refine ⟨h + k, true, by omega, by omega, ?_⟩
    by_cases y : h < g ∧ g < h + k
    · simp only [wayA, wayB, bhd, still, if_true, y, and_self, Bool.false_eq_true, if_false, List.reverse_cons, List.reverse_nil, List.nil_append, List.cons_append, List.map_cons, List.map_nil, car]
      simp (disch := omega) only [gO, gIt, if_pos, if_neg]
      omega
    · simp only [wayA, wayB, bhd, still, if_true, if_neg y, Bool.false_eq_true, if_false, List.reverse_cons, List.reverse_nil, List.nil_append, List.cons_append, List.map_cons, List.map_nil, car]
      simp (disch := omega) only [gO, gIt, if_pos, if_neg]
      omega
  · refine ⟨h, false, by omega, by omega, ?_⟩
    have y : ¬ (h < g ∧ g < h + k) := by omega
    simp only [wayA, wayB, bhd, still, if_true, if_neg y, Bool.false_eq_true, if_false, List.reverse_cons, List.reverse_nil, List.nil_append, List.cons_append, List.map_cons, List.map_nil, car]
    simp (disch := omega) only [gO, gIt, gIf, if_pos, if_neg]
    omega
theorem part_oi (g0 : 0 ≤ g) (m1 : 1 ≤ m) (h0 : 0 ≤ h) (k1 : 1 ≤ k) (hw : g ≤ h ∧ h ≤ g + m) : ∃ x lf, 0 ≤ x ∧ x ≤ g + m ∧ car (wayA ⟨false, g, m⟩ ⟨true, h, k⟩) x lf ≠ car (wayB ⟨false, g, m⟩ ⟨true, h, k⟩) x lf := by
  by_cases z : h < g + m
  · refine ⟨g + m, true, by omega, by omega, ?_⟩
    by_cases y : g < h ∧ h < g + m
    · simp only [wayA, wayB, bhd, still, if_true, y, and_self, Bool.false_eq_true, if_false, List.reverse_cons, List.reverse_nil, List.nil_append, List.cons_append, List.map_cons, List.map_nil, car]
      simp (disch := omega) only [gO, gIt, if_pos, if_neg]
      omega
    · simp only [wayA, wayB, bhd, still, if_true, if_neg y, Bool.false_eq_true, if_false, List.reverse_cons, List.reverse_nil, List.nil_append, List.cons_append, List.map_cons, List.map_nil, car]
      simp (disch := omega) only [gO, gIt, if_pos, if_neg]
      omega
  · refine ⟨g, false, by omega, by omega, ?_⟩
    have y : ¬ (g < h ∧ h < g + m) := by omega
    simp only [wayA, wayB, bhd, still, if_true, if_neg y, Bool.false_eq_true, if_false, List.reverse_cons, List.reverse_nil, List.nil_append, List.cons_append, List.map_cons, List.map_nil, car]
    simp (disch := omega) only [gO, gIt, gIf, if_pos, if_neg]
    omega
def okE (e : Ed) : Prop := 0 ≤ e.g ∧ 1 ≤ e.m ∧ e.m ≤ 9
def isSo (a b : Ed) : Bool := !within a b && !within b a
theorem ways_so {x : Int} {lf : Bool} (ha : okE a) (hb : okE b) (h : isSo a b = true) : car (wayA a b) x lf = car (wayB a b) x lf := by
  obtain ⟨i, g, m⟩ := a
  obtain ⟨j, h', k⟩ := b
  obtain ⟨a1, a2, a3⟩ := ha
  obtain ⟨b1, b2, b3⟩ := hb
  simp only at a1 a2 b1 b2
  simp only [isSo, within, Bool.and_eq_true, Bool.not_eq_true', Bool.and_eq_false_iff, Bool.not_eq_false', decide_eq_false_iff_not] at h
  cases i <;> cases j
  · exact ways_oo a1 a2 b1 b2
  · exact ways_oi a1 a2 b1 b2 (by simp at h; omega)
  · exact ways_io a1 a2 b1 b2 (by simp at h; omega)
  · exact ways_ii a1 a2 b1 b2
theorem ways_part (ha : okE a) (hb : okE b) (h : isSo a b = false) : ∃ x lf, 0 ≤ x ∧ ((a.i = false ∧ x ≤ a.g + a.m) ∨ (b.i = false ∧ x ≤ b.g + b.m)) ∧ car (wayA a b) x lf ≠ car (wayB a b) x lf := by
  obtain ⟨i, g, m⟩ := a
  obtain ⟨j, h', k⟩ := b
  obtain ⟨a1, a2, a3⟩ := ha
  obtain ⟨b1, b2, b3⟩ := hb
  simp only at a1 a2 b1 b2
  simp only [isSo, within] at h
  cases i <;> cases j
  · simp at h
  · obtain ⟨x, lf, x0, x1, ne⟩ := part_oi a1 a2 b1 b2 (show g ≤ h' ∧ h' ≤ g + m by simp at h; omega)
    exact ⟨x, lf, x0, .inl ⟨rfl, x1⟩, ne⟩
  · obtain ⟨x, lf, x0, x1, ne⟩ := part_io a1 a2 b1 b2 (show h' ≤ g ∧ g ≤ h' + k by simp at h; omega)
    exact ⟨x, lf, x0, .inr ⟨rfl, x1⟩, ne⟩
  · simp at h
def fitE (e : Ed) (n : Int) : Prop := e.g + (if e.i = true then 0 else e.m) ≤ n
theorem ways_fit (ha : okE a) (hb : okE b) (fa : fitE a n) (fb : fitE b n) : Fits (wayA a b) n ∧ Fits (wayB a b) n ∧ grow (wayA a b) n = grow (wayB a b) n := by
  obtain ⟨i, g, m⟩ := a
  obtain ⟨j, h', k⟩ := b
  obtain ⟨a1, a2, a3⟩ := ha
  obtain ⟨b1, b2, b3⟩ := hb
  unfold fitE at fa fb
  simp only at a1 a2 a3 b1 b2 b3 fa fb
  cases i <;> cases j <;> simp only [Bool.false_eq_true, if_false, if_true] at fa fb
  · have e1 := kept_eq (g := g) a2 k.toNat h'
    have e2 := kept_eq (g := h') b2 m.toNat g
    simp only [wayA, wayB]
    rw [way_split rfl rfl _ rfl, way_split rfl rfl _ rfl]
    simp only
    generalize kept g m h' k.toNat = c1 at *
    generalize kept h' k g m.toNat = c2 at *
    rw [Int.toNat_of_nonneg (by omega)] at e1 e2
    by_cases z1 : 0 < c1 <;> by_cases z2 : 0 < c2 <;> simp only [z1, z2, if_true, if_false, Fits, grow, gapB, Bool.false_eq_true, and_true] <;> (try unfold maxI) <;> (repeat' split) <;> omega
  · by_cases y : g < h' ∧ h' < g + m <;> simp only [wayA, wayB, bhd, still, if_true, y, and_self, Bool.false_eq_true, if_false, and_false, or_false, and_true, List.reverse_cons, List.reverse_nil, List.nil_append, List.cons_append, List.map_cons, List.map_nil, Fits, grow, gapB] <;> (try unfold maxI) <;> (repeat' split) <;> omega
  · by_cases y : h' < g ∧ g < h' + k <;> simp only [wayA, wayB, bhd, still, if_true, y, and_self, Bool.false_eq_true, if_false, and_false, or_false, and_true, List.reverse_cons, List.reverse_nil, List.nil_append, List.cons_append, List.map_cons, List.map_nil, Fits, grow, gapB] <;> (try unfold maxI) <;> (repeat' split) <;> omega
  · simp only [wayA, wayB, bhd, if_true, Fits, grow, gapB, Bool.false_eq_true, and_false, or_false, and_true] <;> (repeat' split) <;> omega
/-- what the edits of a way are -/
theorem bhd_ok (ha : okE a) (hb : okE b) (f : Bool) : (∀ e ∈ bhd a b f, 0 ≤ e.g ∧ e.g ≤ a.g + 18 ∧ 1 ≤ e.m ∧ e.m ≤ 9) ∧ (bhd a b f).length ≤ 2 := by
  obtain ⟨i, g, m⟩ := a
  obtain ⟨j, h', k⟩ := b
  obtain ⟨a1, a2, a3⟩ := ha
  obtain ⟨b1, b2, b3⟩ := hb
  simp only at a1 a2 a3 b1 b2 b3
  cases i
  · cases j
    · have e2 := kept_eq (g := h') b2 m.toNat g
      rw [way_split rfl rfl _ rfl]
      simp only
      generalize kept h' k g m.toNat = c2 at *
      rw [Int.toNat_of_nonneg (by omega)] at e2
      by_cases z2 : 0 < c2 <;> simp only [z2, if_true, if_false, List.mem_singleton, forall_eq, List.length_cons, List.length_nil, List.not_mem_nil, gapB, Bool.false_eq_true] <;> (try unfold maxI) <;> (repeat' split) <;> (try simp) <;> omega
    · by_cases y : g < h' ∧ h' < g + m <;> simp only [bhd, still, if_true, y, and_self, Bool.false_eq_true, if_false, List.reverse_cons, List.reverse_nil, List.nil_append, List.cons_append, List.map_cons, List.map_nil, List.mem_cons, List.not_mem_nil, or_false, forall_eq_or_imp, forall_eq, List.length_cons, List.length_nil] <;> (repeat' split) <;> omega
  · cases j <;> cases f <;> simp only [bhd, if_true, gapB, Bool.false_eq_true, if_false, List.mem_singleton, forall_eq, List.length_cons, List.length_nil, and_false, or_false, and_true] <;> (try unfold maxI) <;> (repeat' split) <;> omega
/-! shifted -/
def Ed.sh (z : Int) (e : Ed) : Ed := ⟨e.i, e.g + z, e.m⟩
theorem kept_sh {z : Int} : ∀ (k : Nat) (b : Int), kept (g + z) m (b + z) k = kept g m b k
  | 0, _ => rfl
  | k + 1, b => by
    have := kept_sh (z := z) k (b + 1)
    unfold kept
    rw [show b + z + 1 = b + 1 + z by omega, this]
    congr 1
    split <;> split <;> omega
theorem gapB_sh {z x : Int} {f : Bool} : gapB (a.sh z) (x + z) f = gapB a x f + z := by
  unfold gapB maxI Ed.sh
  cases a.i <;> cases f <;> simp only [Bool.false_eq_true, if_false, if_true, and_false, or_false, and_true] <;> (repeat' split) <;> omega
theorem bhd_sh {z : Int} {f : Bool} : bhd (a.sh z) (b.sh z) f = (bhd a b f).map (Ed.sh z) := by
  unfold bhd
  show (if a.i = true then [Ed.mk true (gapB (b.sh z) (a.g + z) f) a.m] else _) = _
  rw [gapB_sh]
  cases hi : a.i <;> simp only [Bool.false_eq_true, if_false, if_true]
  · rw [List.map_map]
    have : still (a.sh z) (b.sh z) = (still a b).map fun p => (p.1 + z, p.2) := by
      unfold still
      show (if b.i = true then (if a.g + z < b.g + z ∧ b.g + z < a.g + z + a.m then [(a.g + z, b.g + z - (a.g + z)), (b.g + z + b.m, a.g + z + a.m - (b.g + z))] else [(if b.g + z ≤ a.g + z then a.g + z + b.m else a.g + z, a.m)]) else if 0 < kept (b.g + z) b.m (a.g + z) a.m.toNat then [(gapB (b.sh z) (a.g + z) true, (kept (b.g + z) b.m (a.g + z) a.m.toNat : Int))] else []) = _
      rw [kept_sh, gapB_sh]
      cases b.i <;> simp only [Bool.false_eq_true, if_false, if_true]
      · split <;> rfl
      · by_cases y : a.g < b.g ∧ b.g < a.g + a.m
        · rw [if_pos (by omega), if_pos y]
          simp only [List.map_cons, List.map_nil, List.cons.injEq, Prod.mk.injEq, and_true, true_and]
          omega
        · rw [if_neg (by omega), if_neg y]
          simp only [List.map_cons, List.map_nil, List.cons.injEq, Prod.mk.injEq, and_true]
          split <;> split <;> omega
    rw [this, ← List.map_reverse, List.map_map]
    rfl
  · rfl
theorem so_sh {z : Int} : isSo (a.sh z) (b.sh z) = isSo a b := by
  unfold isSo within
  show (!(a.i && (!b.i && (decide (b.g + z ≤ a.g + z) && decide (a.g + z ≤ b.g + z + b.m)))) && !(b.i && (!a.i && (decide (a.g + z ≤ b.g + z) && decide (b.g + z ≤ a.g + z + a.m))))) = _
  have e1 : decide (b.g + z ≤ a.g + z) = decide (b.g ≤ a.g) := decide_eq_decide.mpr (by omega)
  have e2 : decide (a.g + z ≤ b.g + z + b.m) = decide (a.g ≤ b.g + b.m) := decide_eq_decide.mpr (by omega)
  have e3 : decide (a.g + z ≤ b.g + z) = decide (a.g ≤ b.g) := decide_eq_decide.mpr (by omega)
  have e4 : decide (b.g + z ≤ a.g + z + a.m) = decide (b.g ≤ a.g + a.m) := decide_eq_decide.mpr (by omega)
  rw [e1, e2, e3, e4]
end
section
variable {α : Type} {L : List α} {e : Ed} {c : α}
/-- the signs behind an edit -/
def sgnE (e : Ed) (c : α) (L : List α) : List α := if e.i = true then L.take e.g.toNat ++ (List.replicate e.m.toNat c ++ L.drop e.g.toNat) else L.take e.g.toNat ++ L.drop (e.g + e.m).toNat
def sgn : List Ed → List α → (Nat → α) → Nat → List α
  | [], L, _, _ => L
  | e :: l, L, f, k => sgn l (sgnE e (f k) L) f (k + 1)
theorem sgnE_len (h : okE e) (hf : fitE e L.length) : ((sgnE e c L).length : Int) = L.length + (if e.i = true then e.m else -e.m) := by
  obtain ⟨h1, h2, _⟩ := h
  unfold fitE at hf
  unfold sgnE
  cases hi : e.i <;> simp only [hi, Bool.false_eq_true, if_false, if_true] at hf ⊢ <;> simp only [List.length_append, List.length_take, List.length_drop, List.length_replicate] <;> omega
theorem sgnE_get (h : okE e) (hf : fitE e L.length) (p : Nat) : (sgnE e c L)[p]? = if e.i = true then (if (p : Int) < e.g then L[p]? else if (p : Int) < e.g + e.m then some c else L[((p : Int) - e.m).toNat]?) else if (p : Int) < e.g then L[p]? else L[((p : Int) + e.m).toNat]? := by
  obtain ⟨h1, h2, _⟩ := h
  unfold fitE at hf
  have hl : (L.take e.g.toNat).length = e.g.toNat := by
    rw [List.length_take]
    revert hf
    split <;> intro hf <;> omega
  unfold sgnE
  cases hi : e.i <;> simp only [hi, Bool.false_eq_true, if_false, if_true] at hf ⊢
  · by_cases z : (p : Int) < e.g
    · rw [if_pos z, List.getElem?_append_left (by omega), List.getElem?_take, if_pos (by omega)]
    · rw [if_neg z, List.getElem?_append_right (by omega), hl, List.getElem?_drop]
      congr 1
      omega
  · by_cases z : (p : Int) < e.g
    · rw [if_pos z, List.getElem?_append_left (by omega), List.getElem?_take, if_pos (by omega)]
    · rw [if_neg z, List.getElem?_append_right (by omega), hl]
      by_cases z2 : (p : Int) < e.g + e.m
      · rw [if_pos z2, List.getElem?_append_left (by simp; omega), List.getElem?_replicate, if_pos (by omega)]
      · rw [if_neg z2, List.getElem?_append_right (by simp; omega), List.length_replicate, List.getElem?_drop]
        congr 1
        omega
end
section
variable {α : Type} {L : List α} {a b : Ed} {A B : α}
theorem sgn_ii {g m h k : Int} (ha : okE ⟨true, g, m⟩) (hb : okE ⟨true, h, k⟩) (fa : fitE ⟨true, g, m⟩ L.length) (fb : fitE ⟨true, h, k⟩ L.length) : sgn (wayA ⟨true, g, m⟩ ⟨true, h, k⟩) L (fun k => if k = 0 then A else B) 0 = sgn (wayB ⟨true, g, m⟩ ⟨true, h, k⟩) L (fun k => if k = 0 then B else A) 0 := by
  have a1 := ha.1; have a2 := ha.2.1; have a3 := ha.2.2
  have b1 := hb.1; have b2 := hb.2.1; have b3 := hb.2.2
  unfold fitE at fa fb
  simp only [if_true] at a1 a2 a3 b1 b2 b3 fa fb
  simp only [wayA, wayB, bhd, if_true, sgn, Nat.zero_add, if_neg (show ¬ (1 = 0) by decide)]
  have l1 := sgnE_len (L := L) (c := A) ha (by simpa [fitE] using fa)
  have l2 := sgnE_len (L := L) (c := B) hb (by simpa [fitE] using fb)
  simp only [if_true] at l1 l2
  refine List.ext_getElem? fun p => ?_
  rw [sgnE_get (L := sgnE _ A L), sgnE_get (L := sgnE _ B L), sgnE_get (L := L) (c := A) ha (by simpa [fitE] using fa), sgnE_get (L := L) (c := A) ha (by simpa [fitE] using fa), sgnE_get (L := L) (c := B) hb (by simpa [fitE] using fb), sgnE_get (L := L) (c := B) hb (by simpa [fitE] using fb)]
  · simp only [if_true, gapB, Bool.false_eq_true, and_false, or_false, and_true]
    repeat' split
    all_goals first | rfl | omega | (congr 1; omega)
  all_goals simp only [okE, fitE, if_true, gapB, Bool.false_eq_true, and_false, or_false, and_true]
  all_goals repeat' split
  all_goals omega
theorem sgn_io {g m h k : Int} (ha : okE ⟨true, g, m⟩) (hb : okE ⟨false, h, k⟩) (fa : fitE ⟨true, g, m⟩ L.length) (fb : fitE ⟨false, h, k⟩ L.length) : sgn (wayA ⟨true, g, m⟩ ⟨false, h, k⟩) L (fun k => if k = 0 then A else B) 0 = sgn (wayB ⟨true, g, m⟩ ⟨false, h, k⟩) L (fun k => if k = 0 then B else A) 0 := by
  have a1 := ha.1; have a2 := ha.2.1; have a3 := ha.2.2
  have b1 := hb.1; have b2 := hb.2.1; have b3 := hb.2.2
  have fa' := fa; have fb' := fb
  unfold fitE at fa' fb'
  simp only [if_true, Bool.false_eq_true, if_false] at a1 a2 a3 b1 b2 b3 fa' fb'
  have l1 := sgnE_len (L := L) (c := A) ha fa
  have l2 := sgnE_len (L := L) (c := B) hb fb
  simp only [if_true, Bool.false_eq_true, if_false] at l1 l2
  by_cases y : h < g ∧ g < h + k
  · have l3 := sgnE_len (L := sgnE ⟨true, g, m⟩ A L) (c := B) (e := ⟨false, g + m, h + k - g⟩) (by simp only [okE]; omega) (by simp only [fitE, Bool.false_eq_true, if_false]; omega)
    simp only [Bool.false_eq_true, if_false] at l3
    simp only [wayA, wayB, bhd, still, if_true, y, and_self, Bool.false_eq_true, if_false, List.reverse_cons, List.reverse_nil, List.nil_append, List.cons_append, List.map_cons, List.map_nil, sgn, Nat.zero_add, if_neg (show ¬ (1 = 0) by decide), if_neg (show ¬ (1 + 1 = 0) by decide)]
    refine List.ext_getElem? fun p => ?_
    repeat rw [sgnE_get]
    rotate_left
    all_goals (try simp only [okE, fitE, if_true, gapB, Bool.false_eq_true, if_false, and_false, or_false, and_true])
    all_goals (try unfold maxI)
    all_goals repeat' split
    all_goals first | rfl | omega | (congr 1; omega)
  · simp only [wayA, wayB, bhd, still, if_true, if_neg y, Bool.false_eq_true, if_false, List.reverse_cons, List.reverse_nil, List.nil_append, List.cons_append, List.map_cons, List.map_nil, sgn, Nat.zero_add, if_neg (show ¬ (1 = 0) by decide)]
    refine List.ext_getElem? fun p => ?_
    repeat rw [sgnE_get]
    rotate_left
    all_goals (try simp only [okE, fitE, if_true, gapB, Bool.false_eq_true, if_false, and_false, or_false, and_true])
    all_goals (try unfold maxI)
    all_goals repeat' split
    all_goals first | rfl | omega | (congr 1; omega)
theorem sgn_oi {g m h k : Int} (ha : okE ⟨false, g, m⟩) (hb : okE ⟨true, h, k⟩) (fa : fitE ⟨false, g, m⟩ L.length) (fb : fitE ⟨true, h, k⟩ L.length) : sgn (wayA ⟨false, g, m⟩ ⟨true, h, k⟩) L (fun k => if k = 0 then A else B) 0 = sgn (wayB ⟨false, g, m⟩ ⟨true, h, k⟩) L (fun k => if k = 0 then B else A) 0 := by
  have a1 := ha.1; have a2 := ha.2.1; have a3 := ha.2.2
  have b1 := hb.1; have b2 := hb.2.1; have b3 := hb.2.2
  have fa' := fa; have fb' := fb
  unfold fitE at fa' fb'
  simp only [if_true, Bool.false_eq_true, if_false] at a1 a2 a3 b1 b2 b3 fa' fb'
  have l1 := sgnE_len (L := L) (c := A) ha fa
  have l2 := sgnE_len (L := L) (c := B) hb fb
  simp only [if_true, Bool.false_eq_true, if_false] at l1 l2
  by_cases y : g < h ∧ h < g + m
  · have l3 := sgnE_len (L := sgnE ⟨true, h, k⟩ B L) (c := A) (e := ⟨false, h + k, g + m - h⟩) (by simp only [okE]; omega) (by simp only [fitE, Bool.false_eq_true, if_false]; omega)
    simp only [Bool.false_eq_true, if_false] at l3
    simp only [wayA, wayB, bhd, still, if_true, y, and_self, Bool.false_eq_true, if_false, List.reverse_cons, List.reverse_nil, List.nil_append, List.cons_append, List.map_cons, List.map_nil, sgn, Nat.zero_add, if_neg (show ¬ (1 = 0) by decide), if_neg (show ¬ (1 + 1 = 0) by decide)]
    refine List.ext_getElem? fun p => ?_
    repeat rw [sgnE_get]
    rotate_left
    all_goals (try simp only [okE, fitE, if_true, gapB, Bool.false_eq_true, if_false, and_false, or_false, and_true])
    all_goals (try unfold maxI)
    all_goals repeat' split
    all_goals first | rfl | omega | (congr 1; omega)
  · simp only [wayA, wayB, bhd, still, if_true, if_neg y, Bool.false_eq_true, if_false, List.reverse_cons, List.reverse_nil, List.nil_append, List.cons_append, List.map_cons, List.map_nil, sgn, Nat.zero_add, if_neg (show ¬ (1 = 0) by decide)]
    refine List.ext_getElem? fun p => ?_
    repeat rw [sgnE_get]
    rotate_left
    all_goals (try simp only [okE, fitE, if_true, gapB, Bool.false_eq_true, if_false, and_false, or_false, and_true])
    all_goals (try unfold maxI)
    all_goals repeat' split
    all_goals first | rfl | omega | (congr 1; omega)
theorem sgn_oo {g m h k : Int} (ha : okE ⟨false, g, m⟩) (hb : okE ⟨false, h, k⟩) (fa : fitE ⟨false, g, m⟩ L.length) (fb : fitE ⟨false, h, k⟩ L.length) : sgn (wayA ⟨false, g, m⟩ ⟨false, h, k⟩) L (fun k => if k = 0 then A else B) 0 = sgn (wayB ⟨false, g, m⟩ ⟨false, h, k⟩) L (fun k => if k = 0 then B else A) 0 := by
  have a1 := ha.1; have a2 := ha.2.1; have a3 := ha.2.2
  have b1 := hb.1; have b2 := hb.2.1; have b3 := hb.2.2
  have fa' := fa; have fb' := fb
  unfold fitE at fa' fb'
  simp only [if_true, Bool.false_eq_true, if_false] at a1 a2 a3 b1 b2 b3 fa' fb'
  have l1 := sgnE_len (L := L) (c := A) ha fa
  have l2 := sgnE_len (L := L) (c := B) hb fb
  simp only [if_true, Bool.false_eq_true, if_false] at l1 l2
  have e1 := kept_eq (g := g) a2 k.toNat h
  have e2 := kept_eq (g := h) b2 m.toNat g
  simp only [wayA, wayB]
  rw [way_split rfl rfl _ rfl, way_split rfl rfl _ rfl]
  simp only
  generalize kept g m h k.toNat = c1 at *
  generalize kept h k g m.toNat = c2 at *
  rw [Int.toNat_of_nonneg (by omega)] at e1 e2
  by_cases z1 : 0 < c1 <;> by_cases z2 : 0 < c2 <;> simp only [z1, z2, if_true, if_false, sgn, Nat.zero_add, if_neg (show ¬ (1 = 0) by decide)]
  all_goals (
    refine List.ext_getElem? fun p => ?_
    repeat rw [sgnE_get]
    rotate_left
    all_goals (try simp only [okE, fitE, if_true, gapB, Bool.false_eq_true, if_false, and_false, or_false, and_true])
    all_goals (try unfold maxI)
    all_goals repeat' split
    all_goals first | rfl | omega | (congr 1; omega))
theorem sgn_ways (ha : okE a) (hb : okE b) (fa : fitE a L.length) (fb : fitE b L.length) : sgn (wayA a b) L (fun k => if k = 0 then A else B) 0 = sgn (wayB a b) L (fun k => if k = 0 then B else A) 0 := by
  obtain ⟨i, g, m⟩ := a
  obtain ⟨j, h, k⟩ := b
  cases i <;> cases j
  · exact sgn_oo ha hb fa fb
  · exact sgn_oi ha hb fa fb
  · exact sgn_io ha hb fa fb
  · exact sgn_ii ha hb fa fb
end
end T5.G
namespace T5.G
open PySem PySem.Spec PyProof.Rows L2
section
abbrev Rw := List (List Int) × List (List Int)
structure Row where
  a : List Int
  b : List Int
def Row.d (r : Row) : D := .lst [.lst (r.a.map .int), .lst (r.b.map .int)]
/-- the rows say where each of the gaps 0 .. n stands -/
def Says (n : Nat) (rows : List Row) (L R : Nat → Int) : Prop :=
  (∀ (p : Nat) (r : Row), rows[p]? = some r → (∀ x ∈ r.a, ∃ g : Nat, g ≤ n ∧ x = (g : Int) ∧ L g = (p : Int)) ∧ (∀ x ∈ r.b, ∃ g : Nat, g ≤ n ∧ x = (g : Int) ∧ R g = (p : Int))) ∧
  (∀ g : Nat, g ≤ n → (∃ (p : Nat) (r : Row), rows[p]? = some r ∧ L g = (p : Int) ∧ (g : Int) ∈ r.a) ∧ ∃ (p : Nat) (r : Row), rows[p]? = some r ∧ R g = (p : Int) ∧ (g : Int) ∈ r.b)
theorem says_start (n : Nat) : Says n ((List.range (n + 1)).map fun (g : Nat) => ⟨[(g : Int)], [(g : Int)]⟩) (fun g => g) (fun g => g) := by
  refine ⟨fun p r h => ?_, fun g hg => ?_⟩
  · rw [List.getElem?_map] at h
    obtain ⟨q, h1, h2⟩ := Option.map_eq_some_iff.mp h
    obtain ⟨h3, h4⟩ := List.getElem?_eq_some_iff.mp h1
    simp at h3 h4
    subst h4 h2
    constructor
    · intro x hx
      simp at hx
      exact ⟨p, by omega, hx, rfl⟩
    · intro x hx
      simp at hx
      exact ⟨p, by omega, hx, rfl⟩
  · have h : ((List.range (n + 1)).map fun (g : Nat) => (⟨[(g : Int)], [(g : Int)]⟩ : Row))[g]? = some ⟨[(g : Int)], [(g : Int)]⟩ := by
      rw [List.getElem?_map, List.getElem?_range (by omega)]
      rfl
    exact ⟨⟨g, _, h, rfl, by simp⟩, ⟨g, _, h, rfl, by simp⟩⟩
/-- signs come in at a place -/
def rowsIn (rows : List Row) (at_ m : Nat) (r : Row) : List Row := rows.take at_ ++ ([⟨r.a, []⟩] ++ (List.replicate (m - 1) ⟨[], []⟩ ++ ([⟨[], r.b⟩] ++ rows.drop (at_ + 1))))
/-- signs go at a place -/
def rowsOut (rows : List Row) (at_ m : Nat) : List Row := rows.take at_ ++ ([⟨((rows.drop at_).take (m + 1)).flatMap Row.a, ((rows.drop at_).take (m + 1)).flatMap Row.b⟩] ++ rows.drop (at_ + m + 1))
theorem in_get {rows : List Row} {at_ m : Nat} {r : Row} (hr : rows[at_]? = some r) (hm : 1 ≤ m) (p : Nat) : (rowsIn rows at_ m r)[p]? = if p < at_ then rows[p]? else if p = at_ then some ⟨r.a, []⟩ else if p < at_ + m then some ⟨[], []⟩ else if p = at_ + m then some ⟨[], r.b⟩ else rows[p - m]? := by
  have hlt := (List.getElem?_eq_some_iff.mp hr).1
  have hl : (rows.take at_).length = at_ := by simp; omega
  unfold rowsIn
  by_cases h1 : p < at_
  · rw [if_pos h1, List.getElem?_append_left (by rw [hl]; exact h1), List.getElem?_take, if_pos h1]
  · rw [if_neg h1, List.getElem?_append_right (by rw [hl]; omega), hl]
    by_cases h2 : p = at_
    · rw [if_pos h2, h2, Nat.sub_self]
      rfl
    · rw [if_neg h2, List.getElem?_append_right (by simp; omega)]
      simp only [List.length_cons, List.length_nil]
      by_cases h3 : p < at_ + m
      · rw [if_pos h3, List.getElem?_append_left (by simp; omega), List.getElem?_replicate, if_pos (by omega)]
      · rw [if_neg h3, List.getElem?_append_right (by simp; omega), List.length_replicate]
        by_cases h4 : p = at_ + m
        · rw [if_pos h4, show p - at_ - (0 + 1) - (m - 1) = 0 by omega]
          rfl
        · rw [if_neg h4, List.getElem?_append_right (by simp; omega)]
          simp only [List.length_cons, List.length_nil]
          rw [List.getElem?_drop]
          congr 1
          omega
end
section
theorem gIn_L {at_ m : Nat} {x : Int} : gapB ⟨true, (at_ : Int), (m : Int)⟩ x true = if x ≤ at_ then x else x + m := by
  unfold gapB
  simp only [if_true, and_true]
  by_cases h : x ≤ (at_ : Int)
  · rw [if_pos h, if_pos (by omega)]
  · rw [if_neg h, if_neg (by omega)]
theorem gIn_R {at_ m : Nat} {x : Int} : gapB ⟨true, (at_ : Int), (m : Int)⟩ x false = if x < at_ then x else x + m := by
  unfold gapB
  simp
theorem gOut {at_ m : Nat} {x : Int} {lf : Bool} : gapB ⟨false, (at_ : Int), (m : Int)⟩ x lf = if x ≤ at_ then x else maxI at_ (x - m) := by
  unfold gapB
  simp
theorem says_in {n : Nat} {rows : List Row} {L R : Nat → Int} {at_ m : Nat} {r : Row} (h : Says n rows L R) (hr : rows[at_]? = some r) (hm : 1 ≤ m) :
    Says n (rowsIn rows at_ m r) (fun g => gapB ⟨true, (at_ : Int), (m : Int)⟩ (L g) true) (fun g => gapB ⟨true, (at_ : Int), (m : Int)⟩ (R g) false) := by
  refine ⟨fun p q hq => ?_, fun g hg => ?_⟩
  · rw [in_get hr hm] at hq
    split at hq
    · rename_i h1
      obtain ⟨ha, hb⟩ := h.1 p q hq
      refine ⟨fun x hx => ?_, fun x hx => ?_⟩
      · obtain ⟨g, g1, g2, g3⟩ := ha x hx
        exact ⟨g, g1, g2, by simp only [gIn_L, g3]; rw [if_pos (by omega)]⟩
      · obtain ⟨g, g1, g2, g3⟩ := hb x hx
        exact ⟨g, g1, g2, by simp only [gIn_R, g3]; rw [if_pos (by omega)]⟩
    · split at hq
      · rename_i h1 h2
        cases hq
        obtain ⟨ha, hb⟩ := h.1 at_ r hr
        refine ⟨fun x hx => ?_, fun x hx => by simp at hx⟩
        obtain ⟨g, g1, g2, g3⟩ := ha x hx
        exact ⟨g, g1, g2, by simp only [gIn_L, g3]; rw [if_pos (by omega)]; omega⟩
      · split at hq
        · cases hq
          exact ⟨fun x hx => by simp at hx, fun x hx => by simp at hx⟩
        · split at hq
          · rename_i h1 h2 h3 h4
            cases hq
            obtain ⟨ha, hb⟩ := h.1 at_ r hr
            refine ⟨fun x hx => by simp at hx, fun x hx => ?_⟩
            obtain ⟨g, g1, g2, g3⟩ := hb x hx
            exact ⟨g, g1, g2, by simp only [gIn_R, g3]; rw [if_neg (by omega)]; omega⟩
          · rename_i h1 h2 h3 h4
            obtain ⟨ha, hb⟩ := h.1 (p - m) q hq
            refine ⟨fun x hx => ?_, fun x hx => ?_⟩
            · obtain ⟨g, g1, g2, g3⟩ := ha x hx
              exact ⟨g, g1, g2, by simp only [gIn_L, g3]; rw [if_neg (by omega)]; omega⟩
            · obtain ⟨g, g1, g2, g3⟩ := hb x hx
              exact ⟨g, g1, g2, by simp only [gIn_R, g3]; rw [if_neg (by omega)]; omega⟩
  · obtain ⟨⟨p, r0, p1, p2, p3⟩, ⟨q, r1, q1, q2, q3⟩⟩ := h.2 g hg
    constructor
    · simp only [gIn_L, p2]
      by_cases c1 : p < at_
      · exact ⟨p, r0, by rw [in_get hr hm, if_pos c1]; exact p1, by rw [if_pos (by omega)], p3⟩
      · by_cases c2 : p = at_
        · subst c2
          rw [hr] at p1
          cases p1
          exact ⟨p, ⟨r.a, []⟩, by rw [in_get hr hm, if_neg c1, if_pos rfl], by rw [if_pos (by omega)], p3⟩
        · refine ⟨p + m, r0, ?_, by rw [if_neg (by omega)]; omega, p3⟩
          rw [in_get hr hm, if_neg (by omega), if_neg (by omega), if_neg (by omega), if_neg (by omega), Nat.add_sub_cancel]
          exact p1
    · simp only [gIn_R, q2]
      by_cases c1 : q < at_
      · exact ⟨q, r1, by rw [in_get hr hm, if_pos c1]; exact q1, by rw [if_pos (by omega)], q3⟩
      · by_cases c2 : q = at_
        · subst c2
          rw [hr] at q1
          cases q1
          refine ⟨q + m, ⟨[], r.b⟩, ?_, by rw [if_neg (by omega)]; omega, q3⟩
          rw [in_get hr hm, if_neg (by omega), if_neg (by omega), if_neg (by omega), if_pos rfl]
        · refine ⟨q + m, r1, ?_, by rw [if_neg (by omega)]; omega, q3⟩
          rw [in_get hr hm, if_neg (by omega), if_neg (by omega), if_neg (by omega), if_neg (by omega), Nat.add_sub_cancel]
          exact q1
theorem out_get {rows : List Row} {at_ m : Nat} (hl : at_ + m < rows.length) (p : Nat) : (rowsOut rows at_ m)[p]? = if p < at_ then rows[p]? else if p = at_ then some ⟨((rows.drop at_).take (m + 1)).flatMap Row.a, ((rows.drop at_).take (m + 1)).flatMap Row.b⟩ else rows[p + m]? := by
  have hl2 : (rows.take at_).length = at_ := by simp; omega
  unfold rowsOut
  by_cases h1 : p < at_
  · rw [if_pos h1, List.getElem?_append_left (by rw [hl2]; exact h1), List.getElem?_take, if_pos h1]
  · rw [if_neg h1, List.getElem?_append_right (by rw [hl2]; omega), hl2]
    by_cases h2 : p = at_
    · rw [if_pos h2, h2, Nat.sub_self]
      rfl
    · rw [if_neg h2, List.getElem?_append_right (by simp; omega)]
      simp only [List.length_cons, List.length_nil]
      rw [List.getElem?_drop]
      congr 1
      omega
theorem mem_slice {rows : List Row} {at_ m : Nat} {f : Row → List Int} {x : Int} (h : x ∈ ((rows.drop at_).take (m + 1)).flatMap f) : ∃ (q : Nat) (r : Row), at_ ≤ q ∧ q ≤ at_ + m ∧ rows[q]? = some r ∧ x ∈ f r := by
  obtain ⟨r, h1, h2⟩ := List.mem_flatMap.mp h
  obtain ⟨i, h3⟩ := List.getElem?_of_mem h1
  rw [List.getElem?_take] at h3
  split at h3
  · rename_i hi
    rw [List.getElem?_drop] at h3
    exact ⟨at_ + i, r, by omega, by omega, h3, h2⟩
  · cases h3
theorem slice_mem {rows : List Row} {at_ m q : Nat} {r : Row} {f : Row → List Int} {x : Int} (h1 : at_ ≤ q) (h2 : q ≤ at_ + m) (h3 : rows[q]? = some r) (h4 : x ∈ f r) : x ∈ ((rows.drop at_).take (m + 1)).flatMap f := by
  refine List.mem_flatMap.mpr ⟨r, List.mem_of_getElem? (i := q - at_) ?_, h4⟩
  rw [List.getElem?_take, if_pos (by omega), List.getElem?_drop, show at_ + (q - at_) = q by omega]
  exact h3
theorem says_out {n : Nat} {rows : List Row} {L R : Nat → Int} {at_ m : Nat} (h : Says n rows L R) (hl : at_ + m < rows.length) (hm : 1 ≤ m) :
    Says n (rowsOut rows at_ m) (fun g => gapB ⟨false, (at_ : Int), (m : Int)⟩ (L g) true) (fun g => gapB ⟨false, (at_ : Int), (m : Int)⟩ (R g) false) := by
  have low : ∀ p : Nat, p < at_ → (if (p : Int) ≤ at_ then (p : Int) else maxI at_ (p - m)) = p := fun p hp => if_pos (by omega)
  have mid : ∀ p : Nat, at_ ≤ p → p ≤ at_ + m → (if (p : Int) ≤ at_ then (p : Int) else maxI at_ (p - m)) = at_ := fun p h1 h2 => by
    unfold maxI
    split
    · omega
    · split <;> omega
  have high : ∀ p : Nat, at_ < p → (if ((p + m : Nat) : Int) ≤ at_ then ((p + m : Nat) : Int) else maxI at_ ((p + m : Nat) - m)) = p := fun p h1 => by
    unfold maxI
    split
    · omega
    · split <;> omega
  refine ⟨fun p q hq => ?_, fun g hg => ?_⟩
  · rw [out_get hl] at hq
    split at hq
    · rename_i h1
      obtain ⟨ha, hb⟩ := h.1 p q hq
      refine ⟨fun x hx => ?_, fun x hx => ?_⟩
      · obtain ⟨g, g1, g2, g3⟩ := ha x hx
        exact ⟨g, g1, g2, by simp only [gOut, g3]; exact low p h1⟩
      · obtain ⟨g, g1, g2, g3⟩ := hb x hx
        exact ⟨g, g1, g2, by simp only [gOut, g3]; exact low p h1⟩
    · split at hq
      · rename_i h1 h2
        cases hq
        refine ⟨fun x hx => ?_, fun x hx => ?_⟩
        · obtain ⟨q, r, k1, k2, k3, k4⟩ := mem_slice hx
          obtain ⟨g, g1, g2, g3⟩ := (h.1 q r k3).1 x k4
          exact ⟨g, g1, g2, by simp only [gOut, g3]; rw [mid q k1 k2, h2]⟩
        · obtain ⟨q, r, k1, k2, k3, k4⟩ := mem_slice hx
          obtain ⟨g, g1, g2, g3⟩ := (h.1 q r k3).2 x k4
          exact ⟨g, g1, g2, by simp only [gOut, g3]; rw [mid q k1 k2, h2]⟩
      · rename_i h1 h2
        obtain ⟨ha, hb⟩ := h.1 (p + m) q hq
        refine ⟨fun x hx => ?_, fun x hx => ?_⟩
        · obtain ⟨g, g1, g2, g3⟩ := ha x hx
          exact ⟨g, g1, g2, by simp only [gOut, g3]; exact high p (by omega)⟩
        · obtain ⟨g, g1, g2, g3⟩ := hb x hx
          exact ⟨g, g1, g2, by simp only [gOut, g3]; exact high p (by omega)⟩
  · obtain ⟨⟨p, r0, p1, p2, p3⟩, ⟨q, r1, q1, q2, q3⟩⟩ := h.2 g hg
    constructor
    · simp only [gOut, p2]
      by_cases c1 : p < at_
      · exact ⟨p, r0, by rw [out_get hl, if_pos c1]; exact p1, low p c1, p3⟩
      · by_cases c2 : p ≤ at_ + m
        · exact ⟨at_, _, by rw [out_get hl, if_neg (by omega), if_pos rfl], mid p (by omega) c2, slice_mem (by omega) c2 p1 p3⟩
        · refine ⟨p - m, r0, ?_, ?_, p3⟩
          · rw [out_get hl, if_neg (by omega), if_neg (by omega), show p - m + m = p by omega]
            exact p1
          · have := high (p - m) (by omega)
            rwa [show p - m + m = p by omega] at this
    · simp only [gOut, q2]
      by_cases c1 : q < at_
      · exact ⟨q, r1, by rw [out_get hl, if_pos c1]; exact q1, low q c1, q3⟩
      · by_cases c2 : q ≤ at_ + m
        · exact ⟨at_, _, by rw [out_get hl, if_neg (by omega), if_pos rfl], mid q (by omega) c2, slice_mem (by omega) c2 q1 q3⟩
        · refine ⟨q - m, r1, ?_, ?_, q3⟩
          · rw [out_get hl, if_neg (by omega), if_neg (by omega), show q - m + m = q by omega]
            exact q1
          · have := high (q - m) (by omega)
            rwa [show q - m + m = q by omega] at this
end
section
variable {st : Store}
theorem sIx_nat {n d k : Nat} (h : k ≤ n) : HT.sIx n d (some (k : Int)) = k := by
  rw [HT.sIx_nat, Nat.min_eq_left h]
theorem cut_take {α : Type} {l : List α} {k : Nat} (h : k ≤ l.length) : cutD l none (some (k : Int)) = l.take k := by
  unfold cutD
  rw [sIx_nat h]
  simp [HT.sIx]
theorem cut_drop {α : Type} {l : List α} {k : Nat} (h : k ≤ l.length) : cutD l (some (k : Int)) none = l.drop k := by
  unfold cutD
  rw [sIx_nat h]
  have : HT.sIx l.length l.length none = l.length := rfl
  rw [this]
  exact List.take_of_length_le (by simp)
theorem cut_mid {α : Type} {l : List α} {a b : Nat} (h : a ≤ l.length) (h2 : b ≤ l.length) : cutD l (some (a : Int)) (some (b : Int)) = (l.drop a).take (b - a) := by
  unfold cutD
  rw [sIx_nat h, sIx_nat h2]
theorem v_slL {l : List D} {lo hi : Option Int} : bSl st (.lst l) lo hi = some (.lst (cutD l lo hi)) := rfl
theorem v_slT {l : List D} {lo hi : Option Int} : bSl st (.tup l) lo hi = some (.tup (cutD l lo hi)) := rfl
theorem v_addL {a b : List D} (h : a.length + b.length ≤ cap) : bAdd st (.lst a) (.lst b) = some (.lst (a ++ b)) := by
  show (if a.length + b.length ≤ cap then some (D.lst (a ++ b)) else none) = _
  rw [if_pos h]
theorem v_addT {a b : List D} (h : a.length + b.length ≤ cap) : bAdd st (.tup a) (.tup b) = some (.tup (a ++ b)) := by
  show (if a.length + b.length ≤ cap then some (D.tup (a ++ b)) else none) = _
  rw [if_pos h]
def rowsD (rows : List Row) : D := .lst (rows.map Row.d)
abbrev eRw (n : Int) (l : D) (rows : List Row) (d3 : Option D) (e4 e5 e6 : Option D) (d7 d8 d9 d10 d11 : Option D) : DEnv := [some (.int n), some l, some (rowsD rows), d3, e4, e5, e6, d7, d8, d9, d10, d11]
abbrev mBare : ME := eLc (iRng1 (aCons (eBin bSub (eVar 6) (eC (.int 1))) aNil)) (gN 8) cYes (eLst (aCons (eLst aNil) (aCons (eLst aNil) aNil))) [8]
abbrev mIn : ME := eBin bAdd (eBin bAdd (eBin bAdd (eBin bAdd (eSl (eVar 2) oNone (oSome (eVar 5))) (eLst (aCons (eLst (aCons (eBin bIx (eBin bIx (eVar 2) (eVar 5)) (eC (.int 0))) (aCons (eLst aNil) aNil))) aNil))) (eVar 7)) (eLst (aCons (eLst (aCons (eLst aNil) (aCons (eBin bIx (eBin bIx (eVar 2) (eVar 5)) (eC (.int 1))) aNil))) aNil))) (eSl (eVar 2) (oSome (eBin bAdd (eVar 5) (eC (.int 1)))) oNone)
theorem bare_ok {env : DEnv} {m : Nat} (h6 : env[6]? = some (some (.int (m : Int)))) (hl : env.length = 12) (hm : 1 ≤ m) (hm2 : m ≤ 1000) : mBare env st = .ok (.lst ((List.replicate (m - 1) (⟨[], []⟩ : Row)).map Row.d)) st := by
  unfold mBare
  refine q_lc (ds := upTo 0 (m - 1)) ?_ ?_
  · have hh : (aCons (eBin bSub (eVar 6) (eC (.int 1))) aNil) env st = .ok [.int ((m : Int) - 1)] st := by simp [h6]
    have := q_rng1 hh (by omega)
    rw [show ((m : Int) - 1).toNat = m - 1 by omega] at this
    exact this
  · rw [lc_map (F := fun _ => Row.d ⟨[], []⟩)]
    · congr 1
      simp only [upTo, List.nil_append, List.map_map, List.map_replicate]
      refine (List.eq_replicate_iff.mpr ⟨by simp, fun b hb => ?_⟩)
      obtain ⟨q, _, hq⟩ := List.mem_map.mp hb
      exact hq.symm
    · intro d hd
      exact ⟨_, rfl, rfl, rfl⟩
    · simp [upTo, cap]
      omega
theorem v_row0 {r : Row} : bIx st r.d (.int 0) = some (.lst (r.a.map .int)) := by
  show bIx st (.lst [.lst (r.a.map .int), .lst (r.b.map .int)]) (.int 0) = _
  rw [v_ixL, atI_cons0]
theorem v_row1 {r : Row} : bIx st r.d (.int 1) = some (.lst (r.b.map .int)) := by
  show bIx st (.lst [.lst (r.a.map .int), .lst (r.b.map .int)]) (.int 1) = _
  rw [v_ixL, atI_cons1]
theorem in_ok {n : Int} {l : D} {rows : List Row} {at_ m : Nat} {r : Row} {d3 e4 e6 d8 d9 d10 d11 : Option D} (hr : rows[at_]? = some r) (hb : rows.length ≤ 1000) (hm : 1 ≤ m) (hm2 : m ≤ 1000) :
    mIn (eRw n l rows d3 e4 (some (.int (at_ : Int))) e6 (some (.lst ((List.replicate (m - 1) (⟨[], []⟩ : Row)).map Row.d))) d8 d9 d10 d11) st = .ok (rowsD (rowsIn rows at_ m r)) st := by
  have hlt := (List.getElem?_eq_some_iff.mp hr).1
  generalize henv : eRw n l rows d3 e4 (some (.int (at_ : Int))) e6 (some (.lst ((List.replicate (m - 1) (⟨[], []⟩ : Row)).map Row.d))) d8 d9 d10 d11 = env
  have h2 : env[2]? = some (some (.lst (rows.map Row.d))) := by rw [← henv]; rfl
  have h5 : env[5]? = some (some (.int (at_ : Int))) := by rw [← henv]; rfl
  have h7 : env[7]? = some (some (.lst ((List.replicate (m - 1) (⟨[], []⟩ : Row)).map Row.d))) := by rw [← henv]; rfl
  have s1 : (eSl (eVar 2) oNone (oSome (eVar 5))) env st = .ok (.lst ((rows.take at_).map Row.d)) st := by
    rw [q_sl, q_var h2, bind_ok, q_oN, bind_ok, q_oS, q_var h5, bind_ok, bind_ok, v_slL, cut_take (by simp; omega), List.map_take]
    rfl
  have s2 : (eSl (eVar 2) (oSome (eBin bAdd (eVar 5) (eC (.int 1)))) oNone) env st = .ok (.lst ((rows.drop (at_ + 1)).map Row.d)) st := by
    have e : (eBin bAdd (eVar 5) (eC (.int 1))) env st = .ok (.int ((at_ + 1 : Nat) : Int)) st := by
      rw [q_bin, q_var h5, bind_ok, q_c, bind_ok, v_addI]
      rfl
    rw [q_sl, q_var h2, bind_ok, q_oS, e, bind_ok, bind_ok, q_oN, bind_ok, v_slL, cut_drop (by simp; omega), List.map_drop]
    rfl
  have s3 : (eBin bIx (eVar 2) (eVar 5)) env st = .ok r.d st := by
    have : atI (rows.map Row.d) (at_ : Int) = some r.d := atI_nat (by rw [List.getElem?_map, hr]; rfl)
    rw [q_bin, q_var h2, bind_ok, q_var h5, bind_ok, v_ixL, this]
    rfl
  have s4 : (eLst (aCons (eLst (aCons (eBin bIx (eBin bIx (eVar 2) (eVar 5)) (eC (.int 0))) (aCons (eLst aNil) aNil))) aNil)) env st = .ok (.lst [Row.d ⟨r.a, []⟩]) st := by
    rw [q_lst, q_acons, q_lst, q_acons, q_bin, s3, bind_ok, q_c, bind_ok, v_row0]
    rfl
  have s5 : (eLst (aCons (eLst (aCons (eLst aNil) (aCons (eBin bIx (eBin bIx (eVar 2) (eVar 5)) (eC (.int 1))) aNil))) aNil)) env st = .ok (.lst [Row.d ⟨[], r.b⟩]) st := by
    rw [q_lst, q_acons, q_lst, q_acons, emp_l, bind_ok, q_acons, q_bin, s3, bind_ok, q_c, bind_ok, v_row1]
    rfl
  have t1 : (rows.take at_).length ≤ 1000 := by simp; omega
  have t2 : (rows.drop (at_ + 1)).length ≤ 1000 := by simp; omega
  have hc : (16000000 : Nat) = cap := rfl
  unfold mIn
  rw [q_bin, q_bin, q_bin, q_bin, s1, bind_ok, s4, bind_ok, v_addL (by rw [← hc]; simp; omega), ofO_some, bind_ok, q_var h7, bind_ok, v_addL (by rw [← hc]; simp; omega), ofO_some, bind_ok, s5, bind_ok, v_addL (by rw [← hc]; simp; omega), ofO_some, bind_ok, s2, bind_ok, v_addL (by rw [← hc]; simp; omega)]
  show R.ok _ st = _
  congr 1
  unfold rowsD rowsIn
  congr 1
  simp [List.map_append]
end
section
variable {st : Store}
abbrev bMrg : MS := sPar2 9 10 (aCons (eBin bAdd (eVar 9) (eBin bIx (eVar 11) (eC (.int 0)))) (aCons (eBin bAdd (eVar 10) (eBin bIx (eVar 11) (eC (.int 1)))) aNil))
abbrev eMg (v : List (Option D)) (a b : List Int) (d11 : Option D) : DEnv := v ++ [some (.lst (a.map .int)), some (.lst (b.map .int)), d11]
theorem mrg_loop {x0 x1 x2 x3 x4 x5 x6 x7 x8 : Option D} : ∀ (rs : List Row) (a b : List Int) (d11 : Option D), a.length + (rs.flatMap Row.a).length ≤ 16000000 → b.length + (rs.flatMap Row.b).length ≤ 16000000 →
    ∃ d', loopS (gN 11) bMrg (rs.map Row.d) (eMg [x0, x1, x2, x3, x4, x5, x6, x7, x8] a b d11) st = .nx (eMg [x0, x1, x2, x3, x4, x5, x6, x7, x8] (a ++ rs.flatMap Row.a) (b ++ rs.flatMap Row.b) d') st
  | [], a, b, d11, _, _ => ⟨d11, by simp [loopS]⟩
  | r :: rs, a, b, d11, h1, h2 => by
    rw [List.flatMap_cons, List.length_append] at h1 h2
    obtain ⟨d', hh⟩ := mrg_loop rs (a ++ r.a) (b ++ r.b) (some r.d) (by simp only [List.length_append]; omega) (by simp only [List.length_append]; omega)
    refine ⟨d', ?_⟩
    rw [List.map_cons]
    unfold loopS
    rw [q_gN]
    show (bMrg (eMg [x0, x1, x2, x3, x4, x5, x6, x7, x8] a b (some r.d)) st).loop _ = _
    have hc : (16000000 : Nat) = cap := rfl
    have e1 : (aCons (eBin bAdd (eVar 9) (eBin bIx (eVar 11) (eC (.int 0)))) (aCons (eBin bAdd (eVar 10) (eBin bIx (eVar 11) (eC (.int 1)))) aNil)) (eMg [x0, x1, x2, x3, x4, x5, x6, x7, x8] a b (some r.d)) st = .ok [.lst ((a ++ r.a).map .int), .lst ((b ++ r.b).map .int)] st := by
      rw [q_acons, q_bin, q_var (d := .lst (a.map .int)) rfl, bind_ok, q_bin, q_var (d := r.d) rfl, bind_ok, q_c, bind_ok, v_row0, ofO_some, bind_ok, v_addL (by rw [← hc]; simp only [List.length_map]; omega), ofO_some, bind_ok, q_acons, q_bin, q_var (d := .lst (b.map .int)) rfl, bind_ok, q_bin, q_var (d := r.d) rfl, bind_ok, q_c, bind_ok, v_row1, ofO_some, bind_ok, v_addL (by rw [← hc]; simp only [List.length_map]; omega), ofO_some, bind_ok, q_anil, bind_ok, bind_ok, ← List.map_append, ← List.map_append]
    unfold bMrg
    rw [q_par2, e1, toS_ok]
    show (SR.nx (eMg [x0, x1, x2, x3, x4, x5, x6, x7, x8] (a ++ r.a) (b ++ r.b) (some r.d)) st).loop _ = _
    rw [loop_nx]
    rw [List.flatMap_cons, List.flatMap_cons, ← List.append_assoc, ← List.append_assoc]
    exact hh
abbrev mOut : ME := eBin bAdd (eBin bAdd (eSl (eVar 2) oNone (oSome (eVar 5))) (eLst (aCons (eLst (aCons (eVar 9) (aCons (eVar 10) aNil))) aNil))) (eSl (eVar 2) (oSome (eBin bAdd (eBin bAdd (eVar 5) (eVar 6)) (eC (.int 1)))) oNone)
abbrev mMid : ME := eSl (eVar 2) (oSome (eVar 5)) (oSome (eBin bAdd (eBin bAdd (eVar 5) (eVar 6)) (eC (.int 1))))
section
variable {env : DEnv} {rows : List Row} {at_ m : Nat} (h2 : env[2]? = some (some (.lst (rows.map Row.d)))) (h5 : env[5]? = some (some (.int (at_ : Int)))) (h6 : env[6]? = some (some (.int (m : Int)))) (hl : at_ + m < rows.length)
include h2 h5 h6 hl
theorem amo : (eBin bAdd (eBin bAdd (eVar 5) (eVar 6)) (eC (.int 1))) env st = .ok (.int ((at_ + m + 1 : Nat) : Int)) st := by
  rw [q_bin, q_bin, q_var h5, bind_ok, q_var h6, bind_ok, v_addI, ofO_some, bind_ok, q_c, bind_ok, v_addI]
  rfl
theorem mid_ok : mMid env st = .ok (.lst (((rows.drop at_).take (m + 1)).map Row.d)) st := by
  unfold mMid
  rw [q_sl, q_var h2, bind_ok, q_oS, q_var h5, bind_ok, bind_ok, q_oS, amo h2 h5 h6 hl, bind_ok, bind_ok, v_slL, cut_mid (by simp; omega) (by simp; omega), List.map_take, List.map_drop, show at_ + m + 1 - at_ = m + 1 by omega]
  rfl
theorem out_ok {a b : List Int} (h9 : env[9]? = some (some (.lst (a.map .int)))) (h10 : env[10]? = some (some (.lst (b.map .int)))) (hb : rows.length ≤ 1000) (ha : a = ((rows.drop at_).take (m + 1)).flatMap Row.a) (hbb : b = ((rows.drop at_).take (m + 1)).flatMap Row.b) :
    mOut env st = .ok (rowsD (rowsOut rows at_ m)) st := by
  have s1 : (eSl (eVar 2) oNone (oSome (eVar 5))) env st = .ok (.lst ((rows.take at_).map Row.d)) st := by
    rw [q_sl, q_var h2, bind_ok, q_oN, bind_ok, q_oS, q_var h5, bind_ok, bind_ok, v_slL, cut_take (by simp; omega), List.map_take]
    rfl
  have s2 : (eSl (eVar 2) (oSome (eBin bAdd (eBin bAdd (eVar 5) (eVar 6)) (eC (.int 1)))) oNone) env st = .ok (.lst ((rows.drop (at_ + m + 1)).map Row.d)) st := by
    rw [q_sl, q_var h2, bind_ok, q_oS, amo h2 h5 h6 hl, bind_ok, bind_ok, q_oN, bind_ok, v_slL, cut_drop (by simp; omega), List.map_drop]
    rfl
  have s4 : (eLst (aCons (eLst (aCons (eVar 9) (aCons (eVar 10) aNil))) aNil)) env st = .ok (.lst [Row.d ⟨a, b⟩]) st := by
    rw [q_lst, q_acons, q_lst, q_acons, q_var h9, bind_ok, q_acons, q_var h10, bind_ok]
    rfl
  have t1 : (rows.take at_).length ≤ 1000 := by simp; omega
  have t2 : (rows.drop (at_ + m + 1)).length ≤ 1000 := by simp; omega
  have hc : (16000000 : Nat) = cap := rfl
  unfold mOut
  rw [q_bin, q_bin, s1, bind_ok, s4, bind_ok, v_addL (by rw [← hc]; simp only [List.length_map, List.length_cons, List.length_nil]; omega), ofO_some, bind_ok, s2, bind_ok, v_addL (by rw [← hc]; simp only [List.length_append, List.length_map, List.length_cons, List.length_nil]; omega)]
  show R.ok _ st = _
  congr 1
  unfold rowsD rowsOut
  congr 1
  rw [ha, hbb]
  simp [List.map_append]
end
abbrev bRow : MS := sIf (cBool (eBin bEq (eVar 4) (eC (.str [105, 110])))) (sSeq (sAsg mBare (gN 7)) (sAsg mIn (gN 2)))
  (sSeq (sPar2 9 10 (aCons (eLst aNil) (aCons (eLst aNil) aNil))) (sSeq (sFor (iSeq mMid) (gN 11) bMrg) (sAsg mOut (gN 2))))
theorem in_len {rows : List Row} {at_ m : Nat} {r : Row} (hr : rows[at_]? = some r) (hm : 1 ≤ m) : (rowsIn rows at_ m r).length = rows.length + m := by
  have hlt := (List.getElem?_eq_some_iff.mp hr).1
  unfold rowsIn
  simp
  omega
theorem out_len {rows : List Row} {at_ m : Nat} (hl : at_ + m < rows.length) : (rowsOut rows at_ m).length = rows.length - m := by
  unfold rowsOut
  simp
  omega
end
section
variable {st : Store}
def Tot (n : Nat) (rows : List Row) : Prop := (rows.flatMap Row.a).length ≤ n + 1 ∧ (rows.flatMap Row.b).length ≤ n + 1
theorem split_at {rows : List Row} {at_ : Nat} {r : Row} (hr : rows[at_]? = some r) : rows = rows.take at_ ++ (r :: rows.drop (at_ + 1)) := by
  obtain ⟨h1, h2⟩ := List.getElem?_eq_some_iff.mp hr
  rw [← h2, List.getElem_cons_drop, List.take_append_drop]
theorem tot_in {n : Nat} {rows : List Row} {at_ m : Nat} {r : Row} (h : Tot n rows) (hr : rows[at_]? = some r) : Tot n (rowsIn rows at_ m r) := by
  have e := split_at hr
  have fa : ∀ (f : Row → List Int), f ⟨[], []⟩ = [] → (List.replicate (m - 1) (⟨[], []⟩ : Row)).flatMap f = [] := fun f hf => by
    simp [List.flatMap_eq_nil_iff, hf]
  obtain ⟨h1, h2⟩ := h
  rw [e] at h1 h2
  constructor
  · unfold rowsIn
    simp only [List.flatMap_append, List.flatMap_cons, List.flatMap_nil, List.length_append, List.length_nil, fa Row.a rfl] at h1 ⊢
    omega
  · unfold rowsIn
    simp only [List.flatMap_append, List.flatMap_cons, List.flatMap_nil, List.length_append, List.length_nil, fa Row.b rfl] at h2 ⊢
    omega
theorem split_mid {rows : List Row} {at_ m : Nat} : rows = rows.take at_ ++ ((rows.drop at_).take (m + 1) ++ rows.drop (at_ + m + 1)) := by
  have : rows.drop (at_ + m + 1) = (rows.drop at_).drop (m + 1) := by rw [List.drop_drop, Nat.add_assoc]
  rw [this, List.take_append_drop, List.take_append_drop]
theorem tot_out {n : Nat} {rows : List Row} {at_ m : Nat} (h : Tot n rows) : Tot n (rowsOut rows at_ m) := by
  have e := @split_mid rows at_ m
  obtain ⟨h1, h2⟩ := h
  rw [e] at h1 h2
  constructor
  · unfold rowsOut
    simp only [List.flatMap_append, List.flatMap_cons, List.flatMap_nil, List.length_append, List.append_nil] at h1 ⊢
    omega
  · unfold rowsOut
    simp only [List.flatMap_append, List.flatMap_cons, List.flatMap_nil, List.length_append, List.append_nil] at h2 ⊢
    omega
theorem tot_mid {n : Nat} {rows : List Row} {at_ m : Nat} (h : Tot n rows) : (((rows.drop at_).take (m + 1)).flatMap Row.a).length ≤ n + 1 ∧ (((rows.drop at_).take (m + 1)).flatMap Row.b).length ≤ n + 1 := by
  have e := @split_mid rows at_ m
  obtain ⟨h1, h2⟩ := h
  rw [e] at h1 h2
  simp only [List.flatMap_append, List.length_append] at h1 h2
  omega
theorem row_step {n : Nat} {N : Int} {lD : D} {rows : List Row} {L R : Nat → Int} {e : Ed} {cur : Nat} {d3 d4 d5 d6 d7 d8 d9 d10 d11 : Option D} (hn : n ≤ 1000) (hok : e.ok) (hf : e.g + (if e.i = true then 0 else e.m) ≤ (cur : Int)) (hlen : rows.length = cur + 1) (hcur : cur + 9 ≤ 900) (hS : Says n rows L R) (hT : Tot n rows) :
    ∃ (rows' : List Row) (cur' : Nat) (d7' d8' d9' d10' d11' : Option D), bRow (eRw N lD rows d3 (some (if e.i = true then sIN else sOUT)) (some (.int e.g)) (some (.int e.m)) d7 d8 d9 d10 d11) st = .nx (eRw N lD rows' d3 (some (if e.i = true then sIN else sOUT)) (some (.int e.g)) (some (.int e.m)) d7' d8' d9' d10' d11') st ∧
      rows'.length = cur' + 1 ∧ (cur' : Int) = cur + (if e.i = true then e.m else -e.m) ∧ Says n rows' (fun g => gapB e (L g) true) (fun g => gapB e (R g) false) ∧ Tot n rows' := by
  obtain ⟨i, g, m⟩ := e
  obtain ⟨h1, h2, h3, h4⟩ := hok
  simp only at h1 h2 h3 h4 hf
  obtain ⟨at_, rfl⟩ := Int.eq_ofNat_of_zero_le h1
  obtain ⟨mm, rfl⟩ := Int.eq_ofNat_of_zero_le (show 0 ≤ m by omega)
  have hm1 : 1 ≤ mm := by omega
  have hm9 : mm ≤ 9 := by omega
  cases i with
  | true =>
    simp only [if_true] at hf ⊢
    have hlt : at_ < rows.length := by omega
    have hr : rows[at_]? = some rows[at_] := by simp [hlt]
    generalize rows[at_] = r at hr
    refine ⟨rowsIn rows at_ mm r, cur + mm, some (.lst ((List.replicate (mm - 1) (⟨[], []⟩ : Row)).map Row.d)), d8, d9, d10, d11, ?_, by rw [in_len hr hm1]; omega, by omega, says_in hS hr hm1, tot_in hT hr⟩
    have t : (cBool (eBin bEq (eVar 4) (eC (.str [105, 110])))) (eRw N lD rows d3 (some sIN) (some (.int (at_ : Int))) (some (.int (mm : Int))) d7 d8 d9 d10 d11) st = .ok true st := by
      rw [q_cBool, q_bin, q_var (d := sIN) rfl, bind_ok, q_c, bind_ok, v_eqS (by decide) (by decide)]
      rfl
    have b1 := @bare_ok st (eRw N lD rows d3 (some sIN) (some (.int (at_ : Int))) (some (.int (mm : Int))) d7 d8 d9 d10 d11) mm rfl rfl hm1 (by omega)
    have b2 := @in_ok st N lD rows at_ mm r d3 (some sIN) (some (.int (mm : Int))) d8 d9 d10 d11 hr (by omega) hm1 (by omega)
    show bRow (eRw N lD rows d3 (some sIN) (some (.int (at_ : Int))) (some (.int (mm : Int))) d7 d8 d9 d10 d11) st = _
    unfold bRow
    rw [q_if, t, toS_ok, if_pos rfl, q_seq, q_asgN b1, seq_nx]
    show sAsg mIn (gN 2) (eRw N lD rows d3 (some sIN) (some (.int (at_ : Int))) (some (.int (mm : Int))) (some (.lst ((List.replicate (mm - 1) (⟨[], []⟩ : Row)).map Row.d))) d8 d9 d10 d11) st = _
    rw [q_asgN b2]
    rfl
  | false =>
    simp only [Bool.false_eq_true, if_false] at hf ⊢
    have hl : at_ + mm < rows.length := by omega
    obtain ⟨ta, tb⟩ := @tot_mid n rows at_ mm hT
    obtain ⟨d', hh⟩ := @mrg_loop st (some (.int N)) (some lD) (some (rowsD rows)) d3 (some sOUT) (some (.int (at_ : Int))) (some (.int (mm : Int))) d7 d8 ((rows.drop at_).take (mm + 1)) [] [] d11 (by simp only [List.length_nil]; omega) (by simp only [List.length_nil]; omega)
    rw [List.nil_append, List.nil_append] at hh
    refine ⟨rowsOut rows at_ mm, cur - mm, d7, d8, some (.lst ((((rows.drop at_).take (mm + 1)).flatMap Row.a).map .int)), some (.lst ((((rows.drop at_).take (mm + 1)).flatMap Row.b).map .int)), d', ?_, by rw [out_len hl]; omega, by omega, says_out hS hl hm1, tot_out hT⟩
    have t : (cBool (eBin bEq (eVar 4) (eC (.str [105, 110])))) (eRw N lD rows d3 (some sOUT) (some (.int (at_ : Int))) (some (.int (mm : Int))) d7 d8 d9 d10 d11) st = .ok false st := by
      rw [q_cBool, q_bin, q_var (d := sOUT) rfl, bind_ok, q_c, bind_ok, v_eqS (by decide) (by decide)]
      rfl
    have p : sPar2 9 10 (aCons (eLst aNil) (aCons (eLst aNil) aNil)) (eRw N lD rows d3 (some sOUT) (some (.int (at_ : Int))) (some (.int (mm : Int))) d7 d8 d9 d10 d11) st = .nx (eMg [some (.int N), some lD, some (rowsD rows), d3, some sOUT, some (.int (at_ : Int)), some (.int (mm : Int)), d7, d8] [] [] d11) st := rfl
    have b1 : (iSeq mMid) (eMg [some (.int N), some lD, some (rowsD rows), d3, some sOUT, some (.int (at_ : Int)), some (.int (mm : Int)), d7, d8] [] [] d11) st = .ok (((rows.drop at_).take (mm + 1)).map Row.d) st := q_iSeqL (mid_ok rfl rfl rfl hl)
    have b2 := @out_ok st (eMg [some (.int N), some lD, some (rowsD rows), d3, some sOUT, some (.int (at_ : Int)), some (.int (mm : Int)), d7, d8] (((rows.drop at_).take (mm + 1)).flatMap Row.a) (((rows.drop at_).take (mm + 1)).flatMap Row.b) d') rows at_ mm rfl rfl rfl hl _ _ rfl rfl (by omega) rfl rfl
    show bRow (eRw N lD rows d3 (some sOUT) (some (.int (at_ : Int))) (some (.int (mm : Int))) d7 d8 d9 d10 d11) st = _
    unfold bRow
    rw [q_if, t, toS_ok, if_neg (by decide), q_seq, p, seq_nx, q_seq, q_for, b1, toS_ok, hh, seq_nx, q_asgN b2]
    rfl
end
section
variable {st : Store}
theorem rows_loop {n : Nat} {N : Int} {lD : D} (hn : n ≤ 1000) : ∀ (l : List Ed) (rows : List Row) (L R : Nat → Int) (cur : Nat) (d3 d4 d5 d6 d7 d8 d9 d10 d11 : Option D), (∀ e ∈ l, e.ok) → Fits l (cur : Int) → rows.length = cur + 1 → cur + 9 * l.length ≤ 900 → Says n rows L R → Tot n rows →
    ∃ (rows' : List Row) (cur' : Nat) (d4' d5' d6' d7' d8' d9' d10' d11' : Option D), loopS (gT (gsCons (gN 4) (gsCons (gN 5) (gsCons (gN 6) gsNil)))) bRow (l.map Ed.d) (eRw N lD rows d3 d4 d5 d6 d7 d8 d9 d10 d11) st = .nx (eRw N lD rows' d3 d4' d5' d6' d7' d8' d9' d10' d11') st ∧
      rows'.length = cur' + 1 ∧ (cur' : Int) = grow l cur ∧ Says n rows' (fun g => car l (L g) true) (fun g => car l (R g) false) ∧ Tot n rows'
  | [], rows, L, R, cur, d3, d4, d5, d6, d7, d8, d9, d10, d11, _, _, h1, _, h2, hT => ⟨rows, cur, d4, d5, d6, d7, d8, d9, d10, d11, rfl, h1, rfl, h2, hT⟩
  | e :: l, rows, L, R, cur, d3, d4, d5, d6, d7, d8, d9, d10, d11, hok, hf, h1, h3, h2, hT => by
    obtain ⟨f1, f2⟩ := hf
    have he := hok e (List.mem_cons_self ..)
    rw [List.length_cons] at h3
    obtain ⟨r1, c1, a7, a8, a9, a10, a11, s1, s2, s3, s4, s5⟩ := @row_step st n N lD rows L R e cur d3 d4 d5 d6 d7 d8 d9 d10 d11 hn he f1 h1 (by omega) h2 hT
    have hc : c1 ≤ cur + 9 := by
      have := he.2.2
      revert s3
      split <;> intro s3 <;> omega
    rw [← s3] at f2
    obtain ⟨r2, c2, b4, b5, b6, b7, b8, b9, b10, b11, t1, t2, t3, t4⟩ := rows_loop (N := N) (lD := lD) hn l r1 _ _ c1 d3 (some (if e.i = true then sIN else sOUT)) (some (.int e.g)) (some (.int e.m)) a7 a8 a9 a10 a11 (fun e he => hok e (List.mem_cons_of_mem _ he)) f2 s2 (by omega) s4 s5
    refine ⟨r2, c2, b4, b5, b6, b7, b8, b9, b10, b11, ?_, t2, ?_, t4⟩
    · rw [List.map_cons]
      unfold loopS
      show (bRow (eRw N lD rows d3 (some (if e.i = true then sIN else sOUT)) (some (.int e.g)) (some (.int e.m)) d7 d8 d9 d10 d11) st).loop _ = _
      rw [s1, loop_nx]
      exact t1
    · rw [t3, s3]
      rfl
theorem p_rows {l : List Ed} {n : Nat} (hn : n ≤ 100) (h : OkL l) (hf : Fits l (n : Int)) : ∃ (rows : List Row) (c : Nat), f__law_rows [.int (n : Int), dLog l] st = .ok (rowsD rows) st ∧ rows.length = c + 1 ∧ (c : Int) = grow l n ∧ c ≤ 460 ∧ Says n rows (fun g => car l g true) (fun g => car l g false) ∧ Tot n rows := by
  have h40 := h.1
  have tot : ∀ k : Nat, (((List.range k).map fun (g : Nat) => (⟨[(g : Int)], [(g : Int)]⟩ : Row)).flatMap Row.a).length = k ∧ (((List.range k).map fun (g : Nat) => (⟨[(g : Int)], [(g : Int)]⟩ : Row)).flatMap Row.b).length = k := fun k => by
    induction k with
    | zero => exact ⟨rfl, rfl⟩
    | succ k ih =>
      rw [List.range_succ, List.map_append, List.flatMap_append, List.flatMap_append, List.length_append, List.length_append, ih.1, ih.2]
      exact ⟨rfl, rfl⟩
  obtain ⟨rows, c, b4, b5, b6, b7, b8, b9, b10, b11, t1, t2, t3, t4⟩ := rows_loop (st := st) (n := n) (N := (n : Int)) (lD := dLog l) (by omega) l ((List.range (n + 1)).map fun (g : Nat) => ⟨[(g : Int)], [(g : Int)]⟩) (fun g => g) (fun g => g) n none none none none none none none none none h.2 hf (by simp) (by omega) (says_start n) ⟨by rw [(tot (n + 1)).1]; exact Nat.le_refl _, by rw [(tot (n + 1)).2]; exact Nat.le_refl _⟩
  obtain ⟨_, _, g3⟩ := c_end h.2 hf
  refine ⟨rows, c, run_rt (b := b__law_rows) rfl ?_, t2, t3, by omega, t4⟩
  show b__law_rows [some (.int (n : Int)), some (dLog l), none, none, none, none, none, none, none, none, none, none] st = _
  have e1 : (eLc (iRng1 (aCons (eBin bAdd (eVar 0) (eC (.int 1))) aNil)) (gN 3) cYes (eLst (aCons (eLst (aCons (eVar 3) aNil)) (aCons (eLst (aCons (eVar 3) aNil)) aNil))) [3]) [some (.int (n : Int)), some (dLog l), none, none, none, none, none, none, none, none, none, none] st = .ok (rowsD ((List.range (n + 1)).map fun (g : Nat) => ⟨[(g : Int)], [(g : Int)]⟩)) st := by
    refine q_lc (ds := upTo 0 (n + 1)) ?_ ?_
    · have hh : (aCons (eBin bAdd (eVar 0) (eC (.int 1))) aNil) [some (.int (n : Int)), some (dLog l), none, none, none, none, none, none, none, none, none, none] st = .ok [.int ((n : Int) + 1)] st := by simp
      have := q_rng1 hh (by omega)
      rw [show ((n : Int) + 1).toNat = n + 1 by omega] at this
      exact this
    · rw [lc_map (F := fun d => .lst [.lst [d], .lst [d]])]
      · congr 1
        simp only [upTo, List.nil_append, List.map_map]
        refine List.map_congr_left fun g _ => ?_
        show D.lst [.lst [.int (0 + (g : Int))], .lst [.int (0 + (g : Int))]] = _
        rw [Int.zero_add]
        rfl
      · intro d hd
        exact ⟨_, rfl, rfl, rfl⟩
      · simp [upTo, cap]
        omega
  have e2 : (iSeq (eVar 1)) (eRw (n : Int) (dLog l) ((List.range (n + 1)).map fun (g : Nat) => ⟨[(g : Int)], [(g : Int)]⟩) none none none none none none none none none) st = .ok (l.map Ed.d) st := q_iSeqT (q_var rfl)
  have bb : b__law_rows = sSeq (sAsg (eLc (iRng1 (aCons (eBin bAdd (eVar 0) (eC (.int 1))) aNil)) (gN 3) cYes (eLst (aCons (eLst (aCons (eVar 3) aNil)) (aCons (eLst (aCons (eVar 3) aNil)) aNil))) [3]) (gN 2)) (sSeq (sFor (iSeq (eVar 1)) (gT (gsCons (gN 4) (gsCons (gN 5) (gsCons (gN 6) gsNil)))) bRow) (sRet (eVar 2))) := rfl
  have s1 : (([some (.int (n : Int)), some (dLog l), none, none, none, none, none, none, none, none, none, none] : DEnv).set 2 (some (rowsD ((List.range (n + 1)).map fun (g : Nat) => ⟨[(g : Int)], [(g : Int)]⟩)))) = eRw (n : Int) (dLog l) ((List.range (n + 1)).map fun (g : Nat) => ⟨[(g : Int)], [(g : Int)]⟩) none none none none none none none none none := rfl
  rw [bb, q_seq, q_asgN e1, seq_nx, s1, q_seq, q_for, e2, toS_ok, t1, seq_nx, q_ret, q_var (d := rowsD rows) rfl, toS_ok]
end
end T5.G
namespace T5.G
open PySem PySem.Spec PyProof.Rows L2
variable {st : Store}
def dRow (l : List Int) : D := .tup (l.map .int)
theorem atI_int {l : List Int} {i : Nat} {a : Int} (h : l[i]? = some a) : atI (l.map D.int) (i : Int) = some (.int a) := atI_nat (by rw [List.getElem?_map, h]; rfl)
def rowOf (l : List Ed) (n : Nat) (lf : Bool) : List Int := (List.range (n + 1)).map fun (i : Nat) => car l (i : Int) lf
theorem rowOf_get {l : List Ed} {n i : Nat} {lf : Bool} (h : i < n + 1) : (rowOf l n lf)[i]? = some (car l (i : Int) lf) := by
  unfold rowOf
  rw [List.getElem?_map, List.getElem?_range h]
  rfl
theorem rowOf_len {l : List Ed} {n : Nat} {lf : Bool} : (rowOf l n lf).length = n + 1 := by simp [rowOf]
section
variable {st : Store}
/-! ### a dict of ints -/
structure DI (ks vs : List D) : Prop where
  isI : ∀ k ∈ ks, ∃ i : Int, k = .int i
  len : ks.length = vs.length
theorem same_int {a b : Int} : sameKey false (.int a) (.int b) = decide (a = b) := by
  show (a == b) = _
  rfl
theorem look_putVs {x y : Int} {v : D} : ∀ {ks vs : List D}, DI ks vs → lookD false (.int x) ks (putVs false (.int y) v ks vs) = if x = y then (if hasD false (.int y) ks = true then some v else none) else lookD false (.int x) ks vs
  | [], vs, _ => by simp [lookD, hasD]
  | k :: ks, [], h => by have := h.len; simp at this
  | k :: ks, w :: vs, h => by
    obtain ⟨i, rfl⟩ := h.isI k (List.mem_cons_self ..)
    have ih := look_putVs (x := x) (y := y) (v := v) (ks := ks) (vs := vs) ⟨fun k hk => h.isI k (List.mem_cons_of_mem _ hk), by simpa using h.len⟩
    show (if sameKey false (.int i) (.int x) = true then some (if sameKey false (.int i) (.int y) = true then v else w) else lookD false (.int x) ks (putVs false (.int y) v ks vs)) = if x = y then (if (sameKey false (.int i) (.int y) || hasD false (.int y) ks) = true then some v else none) else (if sameKey false (.int i) (.int x) = true then some w else lookD false (.int x) ks vs)
    rw [ih, same_int, same_int]
    by_cases h1 : i = x
    · subst h1
      by_cases h2 : i = y <;> simp [h2]
    · by_cases h2 : x = y
      · subst h2
        simp [h1]
      · rw [if_neg (by simp [h1]), if_neg h2, if_neg h2, if_neg (by simp [h1])]
theorem look_app {x y : Int} {v : D} : ∀ {ks vs : List D}, DI ks vs → lookD false (.int x) (ks ++ [.int y]) (vs ++ [v]) = (match lookD false (.int x) ks vs with
    | some d => some d
    | none => if y = x then some v else none)
  | [], vs, h => by
    have : vs = [] := List.eq_nil_of_length_eq_zero (by have := h.len; simpa using this.symm)
    subst this
    simp [lookD, same_int]
  | k :: ks, [], h => by have := h.len; simp at this
  | k :: ks, w :: vs, h => by
    have ih := look_app (x := x) (y := y) (v := v) (ks := ks) (vs := vs) ⟨fun k hk => h.isI k (List.mem_cons_of_mem _ hk), by simpa using h.len⟩
    show (if sameKey false k (.int x) = true then some w else lookD false (.int x) (ks ++ [.int y]) (vs ++ [v])) = match (if sameKey false k (.int x) = true then some w else lookD false (.int x) ks vs) with
      | some d => some d
      | none => if y = x then some v else none
    by_cases c : sameKey false k (.int x) = true
    · rw [if_pos c, if_pos c]
    · rw [if_neg c, if_neg c, ih]
theorem look_none {x : Int} : ∀ {ks vs : List D}, DI ks vs → hasD false (.int x) ks = false → lookD false (.int x) ks vs = none
  | [], vs, _, _ => by cases vs <;> rfl
  | k :: ks, [], h, _ => rfl
  | k :: ks, w :: vs, h, hh => by
    have h2 : sameKey false k (.int x) = false ∧ hasD false (.int x) ks = false := by simpa [hasD] using hh
    show (if sameKey false k (.int x) = true then some w else lookD false (.int x) ks vs) = none
    rw [if_neg (by simp [h2.1])]
    exact look_none ⟨fun k hk => h.isI k (List.mem_cons_of_mem _ hk), by simpa using h.len⟩ h2.2
theorem look_put {ks vs : List D} {x y : Int} {v : D} (h : DI ks vs) : lookD false (.int x) (putD false (.int y) v ks vs).1 (putD false (.int y) v ks vs).2 = if x = y then some v else lookD false (.int x) ks vs := by
  unfold putD
  by_cases c : hasD false (.int y) ks = true
  · rw [if_pos c]
    show lookD false (.int x) ks (putVs false (.int y) v ks vs) = _
    rw [look_putVs h, if_pos c]
  · rw [if_neg c]
    show lookD false (.int x) (ks ++ [.int y]) (vs ++ [v]) = _
    rw [look_app h]
    by_cases e : x = y
    · subst e
      rw [look_none h (by simpa using c), if_pos rfl]
    · rw [if_neg e]
      cases lookD false (.int x) ks vs with
      | some d => rfl
      | none => simp [Ne.symm e]
theorem putVs_len {y : Int} {v : D} : ∀ {ks vs : List D}, ks.length = vs.length → (putVs false (.int y) v ks vs).length = vs.length
  | [], [], _ => rfl
  | [], _ :: _, h => by simp at h
  | _ :: _, [], h => by simp at h
  | k :: ks, w :: vs, h => by
    show (putVs false (.int y) v ks vs).length + 1 = vs.length + 1
    rw [putVs_len (by simpa using h)]
theorem di_put {ks vs : List D} {y : Int} {v : D} (h : DI ks vs) : DI (putD false (.int y) v ks vs).1 (putD false (.int y) v ks vs).2 ∧ (putD false (.int y) v ks vs).1.length ≤ ks.length + 1 := by
  unfold putD
  by_cases c : hasD false (.int y) ks = true
  · rw [if_pos c]
    exact ⟨⟨h.isI, by show ks.length = (putVs false (.int y) v ks vs).length; rw [putVs_len h.len, h.len]⟩, Nat.le_succ _⟩
  · rw [if_neg c]
    refine ⟨⟨fun k hk => ?_, by simp [h.len]⟩, by simp⟩
    rcases List.mem_append.mp hk with hk | hk
    · exact h.isI k hk
    · exact ⟨y, by simpa using hk⟩
end
section
/-- the store of _law_chart: two dicts behind what stood -/
abbrev stD (st : Store) (ks vs ks' vs' : List D) : Store := st ++ [.dic false ks vs, .dic false ks' vs']
variable {st : Store} {ks vs ks' vs' : List D}
theorem getA : (stD st ks vs ks' vs')[st.length]? = some (.dic false ks vs) := by simp [stD]
theorem getB : (stD st ks vs ks' vs')[st.length + 1]? = some (.dic false ks' vs') := by
  unfold stD
  rw [List.getElem?_append_right (by omega), show st.length + 1 - st.length = 1 by omega]
  rfl
theorem setA {o : Ob} : (stD st ks vs ks' vs').set st.length o = st ++ [o, .dic false ks' vs'] := by
  simp [stD, List.set_append]
theorem setB {o : Ob} : (stD st ks vs ks' vs').set (st.length + 1) o = st ++ [.dic false ks vs, o] := by
  simp [stD, List.set_append]
theorem putA {x : Int} {v : D} (h : ks.length ≤ cap) : bSet (stD st ks vs ks' vs') (.obj st.length) (.int x) v = some (stD st (putD false (.int x) v ks vs).1 (putD false (.int x) v ks vs).2 ks' vs') := by
  unfold bSet
  simp only [getA]
  rw [if_pos (show isKey false (.int x) = true ∧ ks.length ≤ cap from ⟨rfl, h⟩), setA]
theorem putB {x : Int} {v : D} (h : ks'.length ≤ cap) : bSet (stD st ks vs ks' vs') (.obj (st.length + 1)) (.int x) v = some (stD st ks vs (putD false (.int x) v ks' vs').1 (putD false (.int x) v ks' vs').2) := by
  unfold bSet
  simp only [getB]
  rw [if_pos (show isKey false (.int x) = true ∧ ks'.length ≤ cap from ⟨rfl, h⟩), setB]
abbrev eCt (st : Store) (n lD rD p row : D) (d7 d8 : Option D) : DEnv := [some n, some lD, some rD, some (.obj st.length), some (.obj (st.length + 1)), some p, some row, d7, d8]
theorem loopA {n lD rD row : D} {p : Int} {d8 : Option D} : ∀ (xs : List Int) (ks vs : List D) (d7 : Option D), DI ks vs → ks.length + xs.length ≤ 16000000 →
    ∃ (k2 v2 : List D) (d7' : Option D), loopS (gN 7) (sSet (eVar 5) (eVar 3) (eVar 7)) (xs.map .int) (eCt st n lD rD (.int p) row d7 d8) (stD st ks vs ks' vs') = .nx (eCt st n lD rD (.int p) row d7' d8) (stD st k2 v2 ks' vs') ∧ DI k2 v2 ∧ k2.length ≤ ks.length + xs.length ∧
      ∀ x : Int, lookD false (.int x) k2 v2 = if x ∈ xs then some (.int p) else lookD false (.int x) ks vs
  | [], ks, vs, d7, h, _ => ⟨ks, vs, d7, rfl, h, Nat.le_refl _, fun x => by simp⟩
  | y :: xs, ks, vs, d7, h, hl => by
    rw [List.length_cons] at hl
    obtain ⟨h1, h2⟩ := di_put (y := y) (v := .int p) h
    obtain ⟨k2, v2, d7', e1, e2, e3, e4⟩ := loopA (n := n) (lD := lD) (rD := rD) (row := row) (p := p) (d8 := d8) xs _ _ (some (.int y)) h1 (by omega)
    have hc : (16000000 : Nat) = cap := rfl
    refine ⟨k2, v2, d7', ?_, e2, by rw [List.length_cons]; omega, fun x => ?_⟩
    · rw [List.map_cons]
      unfold loopS
      rw [q_gN]
      show (sSet (eVar 5) (eVar 3) (eVar 7) (eCt st n lD rD (.int p) row (some (.int y)) d8) (stD st ks vs ks' vs')).loop _ = _
      rw [q_set, q_var (d := .int p) rfl, toS_ok, q_var (d := .obj st.length) rfl, toS_ok, q_var (d := .int y) rfl, toS_ok, putA (by omega)]
      exact e1
    · rw [e4, look_put h]
      by_cases c1 : x ∈ xs
      · rw [if_pos c1, if_pos (List.mem_cons_of_mem _ c1)]
      · rw [if_neg c1]
        by_cases c2 : x = y
        · rw [if_pos c2, if_pos (by rw [c2]; exact List.mem_cons_self ..)]
        · rw [if_neg c2, if_neg (by simp [c1, c2])]
theorem loopB {n lD rD row : D} {p : Int} {d8 : Option D} : ∀ (xs : List Int) (ks' vs' : List D) (d7 : Option D), DI ks' vs' → ks'.length + xs.length ≤ 16000000 →
    ∃ (k2 v2 : List D) (d7' : Option D), loopS (gN 7) (sSet (eVar 5) (eVar 4) (eVar 7)) (xs.map .int) (eCt st n lD rD (.int p) row d7 d8) (stD st ks vs ks' vs') = .nx (eCt st n lD rD (.int p) row d7' d8) (stD st ks vs k2 v2) ∧ DI k2 v2 ∧ k2.length ≤ ks'.length + xs.length ∧
      ∀ x : Int, lookD false (.int x) k2 v2 = if x ∈ xs then some (.int p) else lookD false (.int x) ks' vs'
  | [], ks', vs', d7, h, _ => ⟨ks', vs', d7, rfl, h, Nat.le_refl _, fun x => by simp⟩
  | y :: xs, ks', vs', d7, h, hl => by
    rw [List.length_cons] at hl
    obtain ⟨h1, h2⟩ := di_put (y := y) (v := .int p) h
    obtain ⟨k2, v2, d7', e1, e2, e3, e4⟩ := loopB (n := n) (lD := lD) (rD := rD) (row := row) (p := p) (d8 := d8) xs _ _ (some (.int y)) h1 (by omega)
    have hc : (16000000 : Nat) = cap := rfl
    refine ⟨k2, v2, d7', ?_, e2, by rw [List.length_cons]; omega, fun x => ?_⟩
    · rw [List.map_cons]
      unfold loopS
      rw [q_gN]
      show (sSet (eVar 5) (eVar 4) (eVar 7) (eCt st n lD rD (.int p) row (some (.int y)) d8) (stD st ks vs ks' vs')).loop _ = _
      rw [q_set, q_var (d := .int p) rfl, toS_ok, q_var (d := .obj (st.length + 1)) rfl, toS_ok, q_var (d := .int y) rfl, toS_ok, putB (by omega)]
      exact e1
    · rw [e4, look_put h]
      by_cases c1 : x ∈ xs
      · rw [if_pos c1, if_pos (List.mem_cons_of_mem _ c1)]
      · rw [if_neg c1]
        by_cases c2 : x = y
        · rw [if_pos c2, if_pos (by rw [c2]; exact List.mem_cons_self ..)]
        · rw [if_neg c2, if_neg (by simp [c1, c2])]
end
section
variable {st : Store}
abbrev bCt : MS := sSeq (sFor (iSeq (eBin bIx (eVar 6) (eC (.int 0)))) (gN 7) (sSet (eVar 5) (eVar 3) (eVar 7))) (sFor (iSeq (eBin bIx (eVar 6) (eC (.int 1)))) (gN 7) (sSet (eVar 5) (eVar 4) (eVar 7)))
/-- the places found so far agree with v at x -/
def Holds1 (f : Row → List Int) (rs : List Row) (k : Nat) (ks vs k2 v2 : List D) : Prop := ∀ x v : Int, (∀ (i : Nat) (r : Row), rs[i]? = some r → x ∈ f r → ((k + i : Nat) : Int) = v) →
  (lookD false (.int x) ks vs = some (.int v) ∨ ∃ (i : Nat) (r : Row), rs[i]? = some r ∧ x ∈ f r) → lookD false (.int x) k2 v2 = some (.int v)
theorem holds_cons {f : Row → List Int} {r : Row} {rs : List Row} {k : Nat} {ks vs k1 v1 k2 v2 : List D} (h1 : ∀ x : Int, lookD false (.int x) k1 v1 = if x ∈ f r then some (.int (k : Int)) else lookD false (.int x) ks vs) (h2 : Holds1 f rs (k + 1) k1 v1 k2 v2) : Holds1 f (r :: rs) k ks vs k2 v2 := fun x v c1 c2 => by
  refine h2 x v (fun i r' hi hx => ?_) ?_
  · have := c1 (i + 1) r' hi hx
    rwa [show k + (i + 1) = k + 1 + i by omega] at this
  · rw [h1]
    by_cases hx : x ∈ f r
    · left
      rw [if_pos hx]
      have := c1 0 r rfl hx
      rw [← this]
      rfl
    · rw [if_neg hx]
      rcases c2 with c2 | ⟨i, r', hi, hx'⟩
      · exact .inl c2
      · cases i with
        | zero =>
          cases hi
          exact absurd hx' hx
        | succ i => exact .inr ⟨i, r', hi, hx'⟩
theorem ct_loop {n lD rD : D} {d8 : Option D} : ∀ (rs : List Row) (k : Nat) (ks vs ks' vs' : List D) (d5 d6 d7 : Option D), DI ks vs → DI ks' vs' → ks.length + (rs.flatMap Row.a).length ≤ 16000000 → ks'.length + (rs.flatMap Row.b).length ≤ 16000000 →
    ∃ (k2 v2 k3 v3 : List D) (d5' d6' d7' : Option D), loopS (gT (gsCons (gN 5) (gsCons (gN 6) gsNil))) bCt (((rs.map Row.d).zipIdx k).map fun p => .tup [.int (p.2 : Nat), p.1]) [some n, some lD, some rD, some (.obj st.length), some (.obj (st.length + 1)), d5, d6, d7, d8] (stD st ks vs ks' vs')
      = .nx [some n, some lD, some rD, some (.obj st.length), some (.obj (st.length + 1)), d5', d6', d7', d8] (stD st k2 v2 k3 v3) ∧ Holds1 Row.a rs k ks vs k2 v2 ∧ Holds1 Row.b rs k ks' vs' k3 v3
  | [], k, ks, vs, ks', vs', d5, d6, d7, _, _, _, _ => ⟨ks, vs, ks', vs', d5, d6, d7, rfl, fun x v _ c => c.resolve_right (fun ⟨i, r, h, _⟩ => by simp at h), fun x v _ c => c.resolve_right (fun ⟨i, r, h, _⟩ => by simp at h)⟩
  | r :: rs, k, ks, vs, ks', vs', d5, d6, d7, h1, h2, l1, l2 => by
    rw [List.flatMap_cons, List.length_append] at l1 l2
    obtain ⟨ka, va, d7a, a1, a2, a3, a4⟩ := @loopA st ks' vs' n lD rD r.d (k : Int) d8 r.a ks vs d7 h1 (by omega)
    obtain ⟨kb, vb, d7b, b1, b2, b3, b4⟩ := @loopB st ka va n lD rD r.d (k : Int) d8 r.b ks' vs' d7a h2 (by omega)
    obtain ⟨k2, v2, k3, v3, d5', d6', d7', e1, e2, e3⟩ := ct_loop (n := n) (lD := lD) (rD := rD) (d8 := d8) rs (k + 1) ka va kb vb (some (.int (k : Int))) (some r.d) d7b a2 b2 (by omega) (by omega)
    refine ⟨k2, v2, k3, v3, d5', d6', d7', ?_, holds_cons a4 e2, holds_cons b4 e3⟩
    rw [List.map_cons, List.zipIdx_cons, List.map_cons]
    unfold loopS
    show (bCt (eCt st n lD rD (.int (k : Int)) r.d d7 d8) (stD st ks vs ks' vs')).loop _ = _
    have i1 : (iSeq (eBin bIx (eVar 6) (eC (.int 0)))) (eCt st n lD rD (.int (k : Int)) r.d d7 d8) (stD st ks vs ks' vs') = .ok (r.a.map .int) (stD st ks vs ks' vs') := q_iSeqL (by
      rw [q_bin, q_var (d := r.d) rfl, bind_ok, q_c, bind_ok, v_row0]
      rfl)
    have i2 : (iSeq (eBin bIx (eVar 6) (eC (.int 1)))) (eCt st n lD rD (.int (k : Int)) r.d d7a d8) (stD st ka va ks' vs') = .ok (r.b.map .int) (stD st ka va ks' vs') := q_iSeqL (by
      rw [q_bin, q_var (d := r.d) rfl, bind_ok, q_c, bind_ok, v_row1]
      rfl)
    unfold bCt
    rw [q_seq, q_for, i1, toS_ok, a1, seq_nx, q_for, i2, toS_ok, b1, loop_nx]
    exact e1
end
section
variable {st : Store}
def dOwn (l : List Ed) (n : Nat) : D := .tup [.int (grow l n), dRow (rowOf l n true), dRow (rowOf l n false)]
theorem ixA {ks vs ks' vs' : List D} {x : Int} : bIx (stD st ks vs ks' vs') (.obj st.length) (.int x) = lookD false (.int x) ks vs := by
  unfold bIx dicOf
  simp only [getA]
  rfl
theorem ixB {ks vs ks' vs' : List D} {x : Int} : bIx (stD st ks vs ks' vs') (.obj (st.length + 1)) (.int x) = lookD false (.int x) ks' vs' := by
  unfold bIx dicOf
  simp only [getB]
  rfl
theorem lk_lc {l : List Ed} {n : Nat} {lf : Bool} {env : DEnv} {S : Store} {j : Nat} {o : D} (hn : n ≤ 100) (hj : j ≠ 5) (h8 : env[8]? = some (some (.lst (upTo 0 (n + 1))))) (ho : env[j]? = some (some o)) (hl : env.length = 9)
    (hk : ∀ g : Nat, g ≤ n → bIx S o (.int (g : Int)) = some (.int (car l g lf))) : eLc (iSeq (eVar 8)) (gN 5) cYes (eBin bIx (eVar j) (eVar 5)) [5] env S = .ok (.lst ((rowOf l n lf).map .int)) S := by
  refine q_lc (ds := upTo 0 (n + 1)) (q_iSeqL (q_var h8)) ?_
  rw [lc_map (F := fun d => match d with | .int i => .int (car l i lf) | d => d)]
  · simp [upTo, rowOf, Function.comp_def]
  · intro d hd
    obtain ⟨i, hi, rfl⟩ := List.mem_map.mp hd
    have hi' := List.mem_range.mp hi
    refine ⟨_, rfl, rfl, ?_⟩
    have e1 : ((wipeD env [5]).set 5 (some (D.int (0 + (i : Int)))))[j]? = some (some o) := by
      simp only [wipeD]
      rw [List.getElem?_set_ne (Ne.symm hj), List.getElem?_set_ne (Ne.symm hj)]
      exact ho
    have e5 : ((wipeD env [5]).set 5 (some (D.int (0 + (i : Int)))))[5]? = some (some (.int (0 + (i : Int)))) := by
      simp only [wipeD]
      rw [List.getElem?_set_self (by simp [hl])]
    rw [q_bin, q_var e1, bind_ok, q_var e5, bind_ok, Int.zero_add, hk i (by omega)]
    rfl
  · simp [upTo, cap]
    omega
theorem own_body {l : List Ed} {n : Nat} (hn : n ≤ 100) (h : OkL l) (hf : Fits l (n : Int)) : ∃ k2 v2 k3 v3 : List D, b__law_chart [some (.int (n : Int)), some (dLog l), none, none, none, none, none, none, none] st = .rt (dOwn l n) (stD st k2 v2 k3 v3) := by
  obtain ⟨rows, c, e1, hc, hg, hc2, hS, hT⟩ := p_rows (st := st) hn h hf
  obtain ⟨k2, v2, k3, v3, d5, d6, d7, e2, e3, e4⟩ := @ct_loop st (.int (n : Int)) (dLog l) (rowsD rows) none rows 0 [] [] [] [] none none none ⟨fun k hk => by simp at hk, rfl⟩ ⟨fun k hk => by simp at hk, rfl⟩ (by have := hT.1; simp only [List.length_nil]; omega) (by have := hT.2; simp only [List.length_nil]; omega)
  have kA : ∀ g : Nat, g ≤ n → lookD false (.int (g : Int)) k2 v2 = some (.int (car l g true)) := fun g hg => by
    refine e3 (g : Int) (car l g true) (fun i r hi hx => ?_) ?_
    · obtain ⟨g', g1, g2, g3⟩ := (hS.1 i r hi).1 _ hx
      have : g = g' := by omega
      subst this
      have g3' : car l (g : Int) true = (i : Int) := g3
      omega
    · obtain ⟨⟨p, r, p1, p2, p3⟩, _⟩ := hS.2 g hg
      exact .inr ⟨p, r, p1, p3⟩
  have kB : ∀ g : Nat, g ≤ n → lookD false (.int (g : Int)) k3 v3 = some (.int (car l g false)) := fun g hg => by
    refine e4 (g : Int) (car l g false) (fun i r hi hx => ?_) ?_
    · obtain ⟨g', g1, g2, g3⟩ := (hS.1 i r hi).2 _ hx
      have : g = g' := by omega
      subst this
      have g3' : car l (g : Int) false = (i : Int) := g3
      omega
    · obtain ⟨_, ⟨p, r, p1, p2, p3⟩⟩ := hS.2 g hg
      exact .inr ⟨p, r, p1, p3⟩
  refine ⟨k2, v2, k3, v3, ?_⟩
  have len1 : (st ++ [Ob.dic false [] []]).length = st.length + 1 := by simp
  have two : (st ++ [Ob.dic false [] []]) ++ [Ob.dic false [] []] = stD st [] [] [] [] := by simp [stD]
  have a1 : (eTup (aCons (eCall f__law_rows (aCons (eVar 0) (aCons (eVar 1) aNil))) (aCons (eDnew false) (aCons (eDnew false) aNil)))) [some (.int (n : Int)), some (dLog l), none, none, none, none, none, none, none] st = .ok (.tup [rowsD rows, .obj st.length, .obj (st.length + 1)]) (stD st [] [] [] []) := by
    have c1 : (eCall f__law_rows (aCons (eVar 0) (aCons (eVar 1) aNil))) [some (.int (n : Int)), some (dLog l), none, none, none, none, none, none, none] st = .ok (rowsD rows) st := by
      rw [q_call, q_acons, q_var (d := .int (n : Int)) rfl, bind_ok, q_acons, q_var (d := dLog l) rfl, bind_ok, q_anil, bind_ok, bind_ok, bind_ok, e1]
    have c2 : ∀ (env : DEnv) (S : Store), eDnew false env S = .ok (.obj S.length) (S ++ [.dic false [] []]) := fun _ _ => rfl
    rw [q_tup, q_acons, c1, bind_ok, q_acons, c2, bind_ok, q_acons, c2, bind_ok, q_anil, bind_ok, bind_ok, bind_ok, bind_ok, len1, two]
    rfl
  have en : (iEn (eVar 2)) [some (.int (n : Int)), some (dLog l), some (rowsD rows), some (.obj st.length), some (.obj (st.length + 1)), none, none, none, none] (stD st [] [] [] []) = .ok ((rows.map Row.d).zipIdx.map fun p => .tup [.int (p.2 : Nat), p.1]) (stD st [] [] [] []) := rfl
  generalize henv : ([some (.int (n : Int)), some (dLog l), some (rowsD rows), some (.obj st.length), some (.obj (st.length + 1)), d5, d6, d7, some (.lst (upTo 0 (n + 1)))] : DEnv) = env
  have lr : (eLstRg (eBin bAdd (eVar 0) (eC (.int 1)))) [some (.int (n : Int)), some (dLog l), some (rowsD rows), some (.obj st.length), some (.obj (st.length + 1)), d5, d6, d7, none] (stD st k2 v2 k3 v3) = .ok (.lst (upTo 0 (n + 1))) (stD st k2 v2 k3 v3) := by
    have hh : (eBin bAdd (eVar 0) (eC (.int 1))) [some (.int (n : Int)), some (dLog l), some (rowsD rows), some (.obj st.length), some (.obj (st.length + 1)), d5, d6, d7, none] (stD st k2 v2 k3 v3) = .ok (.int ((n : Int) + 1)) (stD st k2 v2 k3 v3) := rfl
    unfold eLstRg
    rw [hh, bind_ok]
    have cc : (n : Int) + 1 ≤ cap ∧ -(2 ^ 62) ≤ (n : Int) + 1 := by
      have : (cap : Int) = 16000000 := rfl
      omega
    show (if (n : Int) + 1 ≤ cap ∧ -(2 ^ 62) ≤ (n : Int) + 1 then R.ok (D.lst (upTo 0 ((n : Int) + 1).toNat)) _ else .bad) = _
    rw [if_pos cc, show ((n : Int) + 1).toNat = n + 1 by omega]
  have l1 := @lk_lc l n true env (stD st k2 v2 k3 v3) 3 (.obj st.length) hn (by decide) (by rw [← henv]; rfl) (by rw [← henv]; rfl) (by rw [← henv]; rfl) (fun g hg => by rw [ixA, kA g hg])
  have l2 := @lk_lc l n false env (stD st k2 v2 k3 v3) 4 (.obj (st.length + 1)) hn (by decide) (by rw [← henv]; rfl) (by rw [← henv]; rfl) (by rw [← henv]; rfl) (fun g hg => by rw [ixB, kB g hg])
  have r0 : (eBin bSub (eCB fLen (aCons (eVar 2) aNil)) (eC (.int 1))) env (stD st k2 v2 k3 v3) = .ok (.int (grow l n)) (stD st k2 v2 k3 v3) := by
    have hv : env[2]? = some (some (.lst (rows.map Row.d))) := by rw [← henv]; rfl
    rw [q_bin, q_cb, q_acons, q_var hv, bind_ok, q_anil, bind_ok, bind_ok, v_lenL, ofO_some, bind_ok, q_c, bind_ok, v_subI, List.length_map, hc, ← hg]
    show R.ok (D.int (((c + 1 : Nat) : Int) - 1)) _ = _
    rw [show ((c + 1 : Nat) : Int) - 1 = c by omega]
  unfold b__law_chart z_law_chart_4 z_law_chart_3 z_law_chart_2 z_law_chart_1 z_law_chart_0
  rw [q_seq, q_asg, a1, toS_ok]
  show (SR.nx [some (.int (n : Int)), some (dLog l), some (rowsD rows), some (.obj st.length), some (.obj (st.length + 1)), none, none, none, none] (stD st [] [] [] [])).seq _ = _
  rw [seq_nx, q_seq, q_for, en, toS_ok, e2, seq_nx, q_seq, q_asgN lr, seq_nx]
  show sRet _ [some (.int (n : Int)), some (dLog l), some (rowsD rows), some (.obj st.length), some (.obj (st.length + 1)), d5, d6, d7, some (.lst (upTo 0 (n + 1)))] _ = _
  rw [henv, q_ret, q_tup, q_acons, r0, bind_ok, q_acons, q_cb, q_acons, l1, bind_ok, q_anil, bind_ok, bind_ok, q_tuple, ofO_some, bind_ok, q_acons, q_cb, q_acons, l2, bind_ok, q_anil, bind_ok, bind_ok, q_tuple, ofO_some, bind_ok, q_anil, bind_ok, bind_ok, bind_ok, bind_ok]
  rfl
theorem p_own {l : List Ed} {n : Nat} (hn : n ≤ 100) (h : OkL l) (hf : Fits l (n : Int)) (hc : Cl st) : f__law_chart [.int (n : Int), dLog l] st = .ok (dOwn l n) st := by
  obtain ⟨k2, v2, k3, v3, e⟩ := own_body (st := st) hn h hf
  have r : runF 9 2 b__law_chart [.int (n : Int), dLog l] st = .ok (dOwn l n) (stD st k2 v2 k3 v3) := run_rt rfl e
  have t : (stD st k2 v2 k3 v3).take st.length = st := List.take_left' rfl
  have c1 : clD st.length (dOwn l n) = true := by
    unfold dOwn dRow
    simp only [clD, clL, cl_ints, Bool.and_self, Bool.and_true]
  have f := fin_ok r (by simp [stD]) (by rw [t]; exact hc) c1
  rw [t] at f
  exact f
end
section
variable {K : D → Store → Prop} {X : String → List String → List D → Store → Prop}
theorem sp_own {l : List Ed} {n : Int} (h : OkL l) (hf : Fits l n) (h0 : 0 ≤ n) (hn : n ≤ 100) (hc : Cl st) (k : K (dOwn l n.toNat) st) : OnR (f__law_chart [.int n, dLog l] st) K X := by
  obtain ⟨m, rfl⟩ := Int.eq_ofNat_of_zero_le h0
  rw [Int.toNat_natCast] at k
  have e := p_own (st := st) (n := m) (l := l) (by omega) h hf hc
  with_reducible exact onR_eq e k
theorem o_row {l : List Ed} {n : Nat} {x : Int} {lf : Bool} {K : D → Prop} (h0 : 0 ≤ x) (h1 : x ≤ n) (k : K (.int (car l x lf))) : OnO (bIx st (dRow (rowOf l n lf)) (.int x)) K := by
  obtain ⟨m, rfl⟩ := Int.eq_ofNat_of_zero_le h0
  unfold dRow
  have e : ((rowOf l n lf).map D.int)[m]? = some (.int (car l (m : Int) lf)) := by
    rw [List.getElem?_map, rowOf_get (by omega)]
    rfl
  with_reducible exact o_ixT e k
end
end T5.G
namespace T5.G
open PySem PySem.Spec PyProof.Rows L2
/-! ### stores with the law's own lists behind the draws -/
mutual
theorem clD_up {n : Nat} : ∀ {d : D}, clD 0 d = true → clD n d = true
  | .non, _ => rfl
  | .bl _, _ => rfl
  | .int _, _ => rfl
  | .str _, _ => rfl
  | .ty _, _ => rfl
  | .tup l, h => clL_up (l := l) h
  | .lst l, h => clL_up (l := l) h
  | .scr l, h => clL_up (l := l) h
  | .obj j, h => nomatch h
  | .dic _ _ vs, h => clL_up (l := vs) h
  | .ins _ _ vs, h => clL_up (l := vs) h
  | .exc _ _ vs, h => clL_up (l := vs) h
  | .cls _, _ => rfl
  | .fn _ _ _ vs _, h => clL_up (l := vs) h
theorem clL_up {n : Nat} : ∀ {l : List D}, clL 0 l = true → clL n l = true
  | [], _ => rfl
  | d :: ds, h => by
    have h' : clD 0 d = true ∧ clL 0 ds = true := by simpa [clL] using h
    simp [clL, clD_up h'.1, clL_up h'.2]
end
theorem clO_up {n : Nat} {o : Ob} (h : clO 0 o = true) : clO n o = true := by
  cases o with
  | lst l => exact clL_up (l := l) h
  | dic t ks vs => exact clL_up (l := vs) h
  | ins c ks vs => exact clL_up (l := vs) h
/-- no thing behind the draws names another -/
def CY (Y : Store) : Prop := Y.all (clO 0) = true
theorem cy_nil : CY [] := rfl
theorem cy_app {Y Z : Store} (h : CY Y) (h2 : CY Z) : CY (Y ++ Z) := by
  unfold CY at *
  rw [List.all_append, h, h2]
  rfl
theorem cl_append (n : Nat) (a b : List D) : clL n (a ++ b) = (clL n a && clL n b) := by
  induction a with
  | nil => rfl
  | cons x a ih => simp [clL, ih, Bool.and_assoc]
theorem cl_mks {s : LS} {Y : Store} (h : CY Y) : Cl (mks s Y) := by
  have h3 : ∀ n, Y.all (clO n) = true := fun n => by
    unfold CY at h
    rw [List.all_eq_true] at h ⊢
    exact fun x hx => clO_up (h x hx)
  have e : (mks s Y).length = Y.length + 2 := rfl
  show (mks s Y).all (clO (mks s Y).length) = true
  rw [e]
  show (clO (Y.length + 2) (.dic false kM [.obj 1, .int s.a, .int s.b]) && (clO (Y.length + 2) (.lst (s.G.map .int)) && Y.all (clO (Y.length + 2)))) = true
  rw [h3, show clO (Y.length + 2) (.lst (s.G.map D.int)) = true from cl_ints _ s.G, Bool.and_true, Bool.and_true]
  have : (1 : Nat) < Y.length + 2 := by omega
  simp [clO, clL, clD, this]
theorem getK {s : LS} {Y : Store} {o : Ob} : (mks s (Y ++ [o]))[2 + Y.length]? = some o := by
  show (Ob.dic _ _ _ :: Ob.lst _ :: (Y ++ [o]))[2 + Y.length]? = _
  rw [show 2 + Y.length = Y.length + 1 + 1 by omega, List.getElem?_cons_succ, List.getElem?_cons_succ]
  simp
theorem setK {s : LS} {Y : Store} {o o' : Ob} : (mks s (Y ++ [o])).set (2 + Y.length) o' = mks s (Y ++ [o']) := by
  show (Ob.dic _ _ _ :: Ob.lst _ :: (Y ++ [o])).set (2 + Y.length) _ = _
  rw [show 2 + Y.length = Y.length + 1 + 1 by omega, List.set_cons_succ, List.set_cons_succ, List.set_append_right _ _ (Nat.le_refl _), Nat.sub_self]
  rfl
theorem getK2 {s : LS} {Y : Store} {o p : Ob} : (mks s (Y ++ [o, p]))[2 + Y.length]? = some o := by
  show (Ob.dic _ _ _ :: Ob.lst _ :: (Y ++ [o, p]))[2 + Y.length]? = _
  rw [show 2 + Y.length = Y.length + 1 + 1 by omega, List.getElem?_cons_succ, List.getElem?_cons_succ]
  simp
theorem getK3 {s : LS} {Y : Store} {o p : Ob} : (mks s (Y ++ [o, p]))[3 + Y.length]? = some p := by
  show (Ob.dic _ _ _ :: Ob.lst _ :: (Y ++ [o, p]))[3 + Y.length]? = _
  rw [show 3 + Y.length = Y.length + 1 + 1 + 1 by omega, List.getElem?_cons_succ, List.getElem?_cons_succ]
  simp
theorem setK2 {s : LS} {Y : Store} {o p o' : Ob} : (mks s (Y ++ [o, p])).set (2 + Y.length) o' = mks s (Y ++ [o', p]) := by
  show (Ob.dic _ _ _ :: Ob.lst _ :: (Y ++ [o, p])).set (2 + Y.length) _ = _
  rw [show 2 + Y.length = Y.length + 1 + 1 by omega, List.set_cons_succ, List.set_cons_succ, List.set_append_right _ _ (Nat.le_refl _), Nat.sub_self]
  rfl
theorem setK3 {s : LS} {Y : Store} {o p o' : Ob} : (mks s (Y ++ [o, p])).set (3 + Y.length) o' = mks s (Y ++ [o, o']) := by
  show (Ob.dic _ _ _ :: Ob.lst _ :: (Y ++ [o, p])).set (3 + Y.length) _ = _
  rw [show 3 + Y.length = Y.length + 1 + 1 + 1 by omega, List.set_cons_succ, List.set_cons_succ, List.set_append_right _ _ (by omega), show Y.length + 1 - Y.length = 1 by omega]
  rfl
section
variable {s : LS} {Y : Store} {as : MA} {env : DEnv} {K : D → Store → Prop} {X : String → List String → List D → Store → Prop}
theorem w_lstMk (h : OnR (as env (mks s Y)) (fun ds st1 => ∃ s', st1 = mks s' Y ∧ Sd (ds.length ≤ 1000) (K (.obj (2 + Y.length)) (mks s' (Y ++ [.lst ds])))) X) : OnR (eLstM as env (mks s Y)) K X := by
  refine w_lstM (onR_imp h (fun ds st1 h => ?_) fun _ _ _ _ h => h)
  obtain ⟨s', rfl, h1, h2⟩ := h
  refine ⟨h1, ?_⟩
  have : (mks s' Y).length = 2 + Y.length := by
    show Y.length + 1 + 1 = _
    omega
  rw [this]
  exact h2
theorem w_mksI {P : LS → Prop} (h : P s) : ∃ s', mks s Y = mks s' Y ∧ P s' := ⟨s, rfl, h⟩
theorem o_appK {l : List D} {x : D} {K : D × Store → Prop} (h : Sd (l.length ≤ cap) (K (.non, mks s (Y ++ [.lst (l ++ [x])])))) : OnO (fApp (mks s (Y ++ [.lst l])) (.obj (2 + Y.length)) [x]) K := o_app getK h.1 (setS_eq setK h.2)
theorem o_appK2 {l : List D} {x : D} {o : Ob} {K : D × Store → Prop} (h : Sd (l.length ≤ cap) (K (.non, mks s (Y ++ [.lst (l ++ [x]), o])))) : OnO (fApp (mks s (Y ++ [.lst l, o])) (.obj (2 + Y.length)) [x]) K := o_app getK2 h.1 (setS_eq setK2 h.2)
theorem o_appK3 {l : List D} {x : D} {o : Ob} {K : D × Store → Prop} (h : Sd (l.length ≤ cap) (K (.non, mks s (Y ++ [o, .lst (l ++ [x])])))) : OnO (fApp (mks s (Y ++ [o, .lst l])) (.obj (3 + Y.length)) [x]) K := o_app getK3 h.1 (setS_eq setK3 h.2)
theorem isL {st : Store} {i : Nat} {l : List D} (h : st[i]? = some (.lst l)) : (lstOf st (.obj i)).isSome = true := by
  unfold lstOf
  simp [h]
theorem lst_isK {l : List D} : (lstOf (mks s (Y ++ [.lst l])) (.obj (2 + Y.length))).isSome = true := isL getK
theorem lst_isK2 {l : List D} {o : Ob} : (lstOf (mks s (Y ++ [.lst l, o])) (.obj (2 + Y.length))).isSome = true := isL getK2
theorem lst_isK3 {l : List D} {o : Ob} : (lstOf (mks s (Y ++ [o, .lst l])) (.obj (3 + Y.length))).isSome = true := isL getK3
theorem o_tupleS {st : Store} {i : Nat} {l : List D} {K : D → Prop} (hs : st[i]? = some (.lst l)) (h : K (.tup l)) : OnO (fTuple st [.obj i]) K := by
  refine ⟨_, ?_, h⟩
  unfold fTuple seqOf lstOf
  simp [hs]
theorem o_tupleK {l : List D} {K : D → Prop} (h : K (.tup l)) : OnO (fTuple (mks s (Y ++ [.lst l])) [.obj (2 + Y.length)]) K := o_tupleS getK h
theorem o_tupleK2 {l : List D} {o : Ob} {K : D → Prop} (h : K (.tup l)) : OnO (fTuple (mks s (Y ++ [.lst l, o])) [.obj (2 + Y.length)]) K := o_tupleS getK2 h
theorem o_tupleK3 {l : List D} {o : Ob} {K : D → Prop} (h : K (.tup l)) : OnO (fTuple (mks s (Y ++ [o, .lst l])) [.obj (3 + Y.length)]) K := o_tupleS getK3 h
end
/-! ### what is equal to itself -/
mutual
theorem eqD_refl : ∀ {k : Nat} {d : D}, shD k d = true → eqD d d = true
  | _, .non, _ => rfl
  | _, .bl a, _ => by simp [eqD]
  | _, .int i, _ => by simp [eqD]
  | _, .str s, _ => by simp [eqD]
  | k + 1, .tup l, h => by
    have := eqL_refl (k := k) (l := l) (by simpa [shD] using h)
    simpa [eqD] using this
  | k + 1, .lst l, h => by
    have := eqL_refl (k := k) (l := l) (by simpa [shD] using h)
    simpa [eqD] using this
  | 0, .tup _, h => by simp [shD] at h
  | 0, .lst _, h => by simp [shD] at h
  | 0, .ty _, h => by simp [shD] at h
  | 0, .scr _, h => by simp [shD] at h
  | 0, .obj _, h => by simp [shD] at h
  | 0, .dic _ _ _, h => by simp [shD] at h
  | 0, .ins _ _ _, h => by simp [shD] at h
  | 0, .exc _ _ _, h => by simp [shD] at h
  | 0, .cls _, h => by simp [shD] at h
  | 0, .fn _ _ _ _ _, h => by simp [shD] at h
  | _ + 1, .ty _, h => by simp [shD] at h
  | _ + 1, .scr _, h => by simp [shD] at h
  | _ + 1, .obj _, h => by simp [shD] at h
  | _ + 1, .dic _ _ _, h => by simp [shD] at h
  | _ + 1, .ins _ _ _, h => by simp [shD] at h
  | _ + 1, .exc _ _ _, h => by simp [shD] at h
  | _ + 1, .cls _, h => by simp [shD] at h
  | _ + 1, .fn _ _ _ _ _, h => by simp [shD] at h
theorem eqL_refl : ∀ {k : Nat} {l : List D}, shL k l = true → eqL l l = true
  | _, [], _ => rfl
  | k, d :: ds, h => by
    have h' : shD k d = true ∧ shL k ds = true := by simpa [shL] using h
    simp [eqL, eqD_refl h'.1, eqL_refl h'.2]
end
theorem o_neRf {st : Store} {a : D} {K : D → Prop} (h : shD 64 a = true) (k : K (.bl false)) : OnO (bNe st a a) K := o_neD h h (by rw [eqD_refl h]; exact k)
theorem o_eqRf {st : Store} {a : D} {K : D → Prop} (h : shD 64 a = true) (k : K (.bl true)) : OnO (bEq st a a) K := o_eqD h h (by rw [eqD_refl h]; exact k)
theorem o_lenTm {α : Type} {f : α → D} {l : List α} {st : Store} {K : D → Prop} (k : K (.int (l.length : Int))) : OnO (fLen st [.tup (l.map f)]) K := ⟨_, by show some (D.int ((l.map f).length : Int)) = _; rw [List.length_map], k⟩
theorem o_lenLm {α : Type} {f : α → D} {l : List α} {st : Store} {K : D → Prop} (k : K (.int (l.length : Int))) : OnO (fLen st [.lst (l.map f)]) K := ⟨_, by show some (D.int ((l.map f).length : Int)) = _; rw [List.length_map], k⟩
theorem o_lenLog {l : List Ed} {st : Store} {K : D → Prop} (k : K (.int (l.length : Int))) : OnO (fLen st [dLog l]) K := o_lenTm k
/-! ### the law's beginning -/
theorem law_of {ns : List Int} {d : D} {N : Nat} {rest : MS} {f : MF} (hl : ns.length ≤ 63) (hd : isScr ns d) (hf : f = runF (N + 2) 1 (sSeq (sAsg (eCall f__law_begun (aCons (eVar 0) aNil)) (gN 1)) rest)) (go : ∀ s : LS, OnQ (rest (some d :: some (.obj 0) :: List.replicate N none) (mks s [])) (EndK (fun x _ => x = .bl true) fun _ _ _ _ => False)) : ∃ st', f [d] [] = .ok (.bl true) st' := by
  obtain ⟨G, a, hG, e⟩ := p_begunS hl hd
  have go2 : OnR (f [d] []) (fun x _ => x = .bl true) fun _ _ _ _ => False := by
    subst hf
    refine f_runK rfl ?_
    refine s_seq (s_asg (w_call (w_cons (w_var (d := d) rfl (w_nil (onR_eq e (setE_eq (e1 := some d :: some (.obj 0) :: List.replicate N none) ?_ (seqK_nx (go ⟨G, a, 0, hG⟩)))))))))
    show List.set (some d :: List.replicate (N + 1) none) 1 _ = _
    rw [List.replicate_succ]
    rfl
  revert go2
  generalize f [d] [] = r
  intro go
  cases r with
  | ok x s => exact ⟨s, by rw [show x = .bl true from go]⟩
  | ex => exact go.elim
  | bad => exact go.elim
theorem rng_law {ns : List Int} {d : D} {env : DEnv} {st : Store} {a c : Int} {K : List D → Store → Prop} {X : String → List String → List D → Store → Prop} (hd : isScr ns d) (ha : 0 ≤ a ∧ a ≤ 100) (hc : 1 ≤ c ∧ c ≤ 100) (k : ∀ j : Nat, K (upTo 0 j) st) :
    OnR (iRng1 (aCons (eBin bAdd (eC (.int a)) (eBin bDiv (eCB fMin (aCons (eC (.int 60)) (aCons (eCB fLen (aCons (eVar 0) aNil)) aNil))) (eC (.int c)))) aNil) (some d :: env) st) K X := by
  have bd : ∀ n : Nat, -(2 ^ 62) ≤ a + (minI 60 (n : Int)).fdiv c ∧ a + (minI 60 (n : Int)).fdiv c < 2 ^ 62 := fun n => by
    have : 0 ≤ minI 60 (n : Int) ∧ minI 60 (n : Int) ≤ 60 := by unfold minI; split <;> omega
    rw [Int.fdiv_eq_ediv_of_nonneg _ (by omega)]
    have h1 := Int.ediv_nonneg this.1 (show 0 ≤ c by omega)
    have h2 := Int.ediv_le_self c this.1
    omega
  have cd : CDivN (minI 60 ((ns.map D.int).length : Int)) c := ⟨by omega, by omega⟩
  rcases hd with rfl | rfl
  · tb_start
    refine sd_mk (bd _) ?_
    exact k _
  · tb_start
    refine sd_mk (bd _) ?_
    exact k _
/-! ### draws told forwards -/
theorem o_ixAny {st : Store} {l : List D} {v : Int} {K : D → Prop} (h0 : 0 ≤ v) (h1 : v < (l.length : Int)) (k : ∀ d ∈ l, K d) : OnO (bIx st (.lst l) (.int v)) K := by
  obtain ⟨j, rfl⟩ := Int.eq_ofNat_of_zero_le h0
  have hj : j < l.length := by omega
  exact o_ixL (d := l[j]) (List.getElem?_eq_getElem hj) (k _ (List.getElem_mem hj))
theorem o_ixT139 {st : Store} {v : Int} {K : D → Prop} (h0 : 0 ≤ v) (h1 : v < 3) (k : ∀ m : Int, 1 ≤ m → m ≤ 9 → K (.int m)) : OnO (bIx st (.lst [.int 1, .int 3, .int 9]) (.int v)) K := o_ixAny h0 h1 fun d hd => by
  simp only [List.mem_cons, List.not_mem_nil, or_false] at hd
  rcases hd with rfl | rfl | rfl
  · exact k 1 (by decide) (by decide)
  · exact k 3 (by decide) (by decide)
  · exact k 9 (by decide) (by decide)
local macro_rules | `(tactic| kts_caughtN) => `(tactic| first
  | ((with_reducible refine T5.G.sp_draw ?h1 ?h2 ?hk); (case h1 => k_caughtC0); (case h2 => k_caughtC0))
  | ((with_reducible refine T5.G.o_ixT139 ?h1 ?h2 ?hk); (case h1 => k_caughtC0); (case h2 => k_caughtC0))
  | with_reducible refine T5.o_eqS ?_ | with_reducible refine T5.G.o_appK ?_)
local macro_rules | `(tactic| k_caughtC0) => `(tactic| first | with_reducible assumption | exact Nat.le_of_ble_eq_true rfl | with_reducible rfl | omega | with_reducible exact T5.G.lst_isK | (simp only [T5.cap, List.length_map, List.length_append, List.length_cons, List.length_nil, List.length_take, List.length_drop]; omega) | (refine And.intro ?_ ?_ <;> first | omega | decide) | decide)
section
variable {Y : Store} {K : D → Store → Prop} {X : String → List String → List D → Store → Prop} {Q : SR → Prop} {n many : Int}
theorem lgK_loop (hn : 0 ≤ n) (hn2 : n ≤ 100) : ∀ (ds : List D) (l : List Ed) (s : LS) (o4 o5 o6 : Option D), l.length + ds.length ≤ 40 → (∀ e ∈ l, e.ok) → Fits l n → (∀ (l' : List Ed) s' o4 o5 o6, l'.length ≤ l.length + ds.length → (∀ e ∈ l', e.ok) → Fits l' n → Q (.nx [some (.obj 0), some (.int (grow l' n)), some (.int many), some (.obj (2 + Y.length)), o4, o5, o6] (mks s' (Y ++ [.lst (l'.map Ed.d)])))) →
    OnQ (loopS (gN 4) bLg ds [some (.obj 0), some (.int (grow l n)), some (.int many), some (.obj (2 + Y.length)), o4, o5, o6] (mks s (Y ++ [.lst (l.map Ed.d)]))) Q
  | [], l, s, o4, o5, o6, _, ho, hf, k => k l s o4 o5 o6 (by simp) ho hf
  | d :: ds, l, s, o4, o5, o6, hl, ho, hf, k => by
    obtain ⟨_, c1, c2⟩ := c_end ho hf
    have g0 := c1 hn
    rw [List.length_cons] at hl
    have next : ∀ (e : Ed) s' o4 o5 o6, e.ok → e.g + (if e.i = true then 0 else e.m) ≤ grow l n → OnQ (loopS (gN 4) bLg ds [some (.obj 0), some (.int (grow l n + if e.i = true then e.m else -e.m)), some (.int many), some (.obj (2 + Y.length)), o4, o5, o6] (mks s' (Y ++ [.lst (l.map Ed.d ++ [e.d])]))) Q := fun e s' o4 o5 o6 he hfe => by
      have := lgK_loop hn hn2 ds (l ++ [e]) s' o4 o5 o6 (by rw [List.length_append, List.length_singleton]; omega) (fun x hx => by
        rcases List.mem_append.mp hx with hx | hx
        · exact ho x hx
        · rw [List.mem_singleton.mp hx]; exact he) (fits_app.mpr ⟨hf, hfe⟩) fun l' s' o4 o5 o6 h => k l' s' o4 o5 o6 (by rw [List.length_append, List.length_singleton] at h; rw [List.length_cons]; omega)
      rw [grow_app, List.map_append] at this
      exact this
    generalize grow l n = len at *
    refine l_cons ?_
    tb_start
    intro v s1 v0 v1
    tb_start
    intro m m0 m1
    tb_start
    intro z s2 z0 z1
    tb_start
    intro w s3 w0 w1
    tb_start
    have bin : ∀ s3, OnQ (bLg2 [some (.obj 0), some (.int len), some (.int many), some (.obj (2 + Y.length)), some d, some (.int (1 + z)), o6] (mks s3 (Y ++ [.lst (l.map Ed.d)]))) (TurnK (fun e s => OnQ (loopS (gN 4) bLg ds e s) Q) Q) := fun s3 => by
      tb_start
      intro u s4 u0 u1
      tb_start
      have := next ⟨true, u, 1 + z⟩ s4 (some d) (some (.int (1 + z))) o6 ⟨by simp only; omega, by simp only; omega, by simp only; omega, by simp only; omega⟩ (by simp only [if_true]; omega)
      exact this
    refine onB_dec (fun z1 => ?_) fun z1 => ?_
    · tb_start
      refine onB_dec (fun z2 => ?_) fun z2 => ?_
      · tb_start
        intro u s4 u0 u1
        tb_start
        have hmin : 1 ≤ minI (1 + z) (len - u) ∧ minI (1 + z) (len - u) ≤ 9 ∧ minI (1 + z) (len - u) ≤ len - u := by
          unfold minI
          split <;> omega
        generalize minI (1 + z) (len - u) = q at *
        have := next ⟨false, u, q⟩ s4 (some d) (some (.int q)) (some (.int u)) ⟨by simp only; omega, by simp only; omega, by simp only; omega, by simp only; omega⟩ (by simp only [Bool.false_eq_true, if_false]; omega)
        exact this
      · exact bin s3
    · exact bin s3
theorem sp_logK {s : LS} (hY : CY Y) (hn : 0 ≤ n) (hn2 : n ≤ 100) (hm : 0 ≤ many) (hm2 : many ≤ 38) (k : ∀ l s', (l.length : Int) ≤ many → (∀ e ∈ l, e.ok) → Fits l n → K (dLog l) (mks s' Y)) : OnR (f__law_log [.obj 0, .int n, .int many] (mks s Y)) K X := by
  refine f_fin (f_runK rfl ?_)
  show OnQ (b__law_log [some (.obj 0), some (.int n), some (.int many), none, none, none, none] (mks s Y)) _
  refine s_seq (s_asg (w_lstMk (w_nil (w_mksI (sd_mk (by decide) ?_)))))
  tb_start
  intro v s1 v0 v1
  tb_start
  refine lgK_loop hn hn2 (upTo 0 v.toNat) [] s1 none none none (by simp [upTo]; omega) (fun e h => by cases h) trivial fun l' s' o4 o5 o6 h1 h2 h3 => ?_
  tb_start
  refine o_tupleK ?_
  tb_start
  have e2 : (mks s' (Y ++ [.lst (l'.map Ed.d)])).take (mks s Y).length = mks s' Y := by
    show (Ob.dic _ _ _ :: Ob.lst _ :: (Y ++ [.lst (l'.map Ed.d)])).take (Y.length + 1 + 1) = _
    rw [List.take_succ_cons, List.take_succ_cons, List.take_left' rfl]
    rfl
  refine ⟨?_, ?_⟩
  · show Y.length + 1 + 1 ≤ (Y ++ [Ob.lst (l'.map Ed.d)]).length + 1 + 1
    rw [List.length_append]
    omega
  rw [e2]
  refine ⟨cl_mks hY (s := s'), cl_log _ l', k l' s' ?_ h2 h3⟩
  simp [upTo] at h1
  omega
end
end T5.G
namespace T5.G
open PySem PySem.Spec PyProof.Rows L2
def chk : Nat → D → Bool
  | 0, _ => false
  | n + 1, d => match d with
    | .non => true
    | .bl _ => true
    | .int i => decide (-10 ^ 30 < i ∧ i < 10 ^ 30)
    | .str s => okS s && decide (s.length ≤ 8)
    | .tup l => l.all (chk n) && decide (l.length ≤ 4)
    | .lst l => l.all (chk n) && decide (l.length ≤ 4)
    | .dic false [] [] => true
    | _ => false
def bnd : Nat → Nat
  | 0 => 8
  | n + 1 => 4 * (bnd n + 1)
theorem bnd3 (n : Nat) : 8 ≤ bnd n := by
  induction n with
  | zero => exact Nat.le_refl _
  | succ n ih => show 8 ≤ 4 * (bnd n + 1); omega
theorem chk_rp : ∀ (n : Nat) (d : D), chk n d = true → Rp n (bnd n) d
  | 0, _, h => nomatch h
  | n + 1, d, h => by
    have go : ∀ l : List D, l.all (chk n) = true → ∀ x ∈ l, Rp n (bnd n) x := fun l h x hx => chk_rp n x (List.all_eq_true.mp h x hx)
    have big : ∀ l : List D, l.length ≤ 4 → l.length * (bnd n + 1) ≤ bnd (n + 1) := fun l h => Nat.mul_le_mul_right _ h
    unfold chk at h
    split at h
    · exact rp_non.mono (Nat.zero_le _)
    · exact rp_bl.mono (Nat.zero_le _)
    · exact (rp_int (of_decide_eq_true h)).mono (Nat.zero_le _)
    · obtain ⟨h1, h2⟩ := Bool.and_eq_true_iff.mp h
      exact (rp_str h1).mono (Nat.le_trans (of_decide_eq_true h2) (bnd3 _))
    · obtain ⟨h1, h2⟩ := Bool.and_eq_true_iff.mp h
      exact (rp_tup (go _ h1)).mono (big _ (of_decide_eq_true h2))
    · obtain ⟨h1, h2⟩ := Bool.and_eq_true_iff.mp h
      exact (rp_lst (go _ h1)).mono (big _ (of_decide_eq_true h2))
    · exact rp_dic.mono (Nat.zero_le _)
    · cases h
theorem rp_ed {e : Ed} (h : e.ok) : Rp 2 12 e.d := by
  obtain ⟨h1, h2, h3, h4⟩ := h
  have := rp_tup (n := 1) (b := 3) (l := [if e.i = true then sIN else sOUT, .int e.g, .int e.m]) fun x hx => by
    simp only [List.mem_cons, List.not_mem_nil, or_false] at hx
    rcases hx with rfl | rfl | rfl
    · split
      · exact (rp_str (n := 0) (s := [105, 110]) rfl).mono (by decide)
      · exact (rp_str (n := 0) (s := [111, 117, 116]) rfl).mono (by decide)
    · exact (rp_int (n := 0) ⟨by omega, by omega⟩).mono (by omega)
    · exact (rp_int (n := 0) ⟨by omega, by omega⟩).mono (by omega)
  exact this
theorem rp_many {b : Nat} {l : List D} (h : ∀ x ∈ l, Rp 8 b x) (hl : l.length * (b + 1) ≤ 16384) : Rp 9 16384 (.tup l) := (rp_tup h).mono hl
theorem rp_manyL {b : Nat} {l : List D} (h : ∀ x ∈ l, Rp 8 b x) (hl : l.length * (b + 1) ≤ 16384) : Rp 9 16384 (.lst l) := (rp_lst h).mono hl
theorem mem_cut {l : List D} {lo hi : Option Int} {x : D} (h : x ∈ cutD l lo hi) : x ∈ l := by
  unfold cutD at h
  exact List.mem_of_mem_drop (List.mem_of_mem_take h)
theorem len_cut {l : List D} {lo hi : Option Int} : (cutD l lo hi).length ≤ l.length := by
  unfold cutD
  rw [List.length_take, List.length_drop]
  omega
theorem o_list {st : Store} {l : List D} {K : D → Prop} (k : K (.lst l)) : OnO (fList st [.tup l]) K := ⟨_, rfl, k⟩
theorem o_pow29 {st : Store} {K : D → Prop} (k : K (.int (10 ^ 29))) : OnO (bPow st (.int 10) (.int 29)) K := by
  refine ⟨_, ?_, k⟩
  show (if CPow 10 29 then some (D.int (10 ^ (29 : Int).toNat)) else none) = _
  rw [if_pos (by unfold CPow; decide)]
  rfl
theorem o_mul41 {st : Store} {l : List D} {K : D → Prop} (h : l ≠ [] ∧ l.length ≤ 1000) (k : K (.tup (List.replicate 41 l).flatten)) : OnO (bMul st (.tup l) (.int 41)) K := by
  refine ⟨_, ?_, k⟩
  show (if l ≠ [] ∧ 2 ≤ (41 : Int) ∧ (41 : Int) ≤ 1000 ∧ l.length ≤ 1000 then some (D.tup (List.replicate (41 : Int).toNat l).flatten) else none) = _
  rw [if_pos ⟨h.1, by decide, by decide, h.2⟩]
  rfl
theorem chk_all {n : Nat} {x : D} {l : List D} (hl : l.all (chk n) = true) (h : x ∈ l) : Rp n (bnd n) x := chk_rp n x (List.all_eq_true.mp hl x h)
local macro_rules | `(tactic| kts_caughtN) => `(tactic| first
  | with_reducible refine T5.o_ixT0 ?_ | with_reducible refine T5.o_ixT1 ?_ | with_reducible refine T5.o_ixT2 ?_)
section
variable {st : Store} {n b : Nat} {d y : D} {K : D → Store → Prop} {X : String → List String → List D → Store → Prop} {Q : SR → Prop} {l : List D}
theorem edB_form (h : edB d = true) : ∃ s i j, d = .tup [.str s, .int i, .int j] := by
  unfold edB at h
  split at h
  · rename_i s x y
    simp only [Bool.and_eq_true] at h
    obtain ⟨_, h1, h2⟩ := h
    have go : ∀ {z : D} {lo hi : Int}, intB z lo hi = true → ∃ i, z = .int i := fun {z lo hi} h => by
      cases z <;> first | exact ⟨_, rfl⟩ | cases h
    obtain ⟨i, rfl⟩ := go h1
    obtain ⟨j, rfl⟩ := go h2
    exact ⟨s, i, j, rfl⟩
  · cases h
def thr : D → Int
  | .tup [_, _, .int j] => j
  | _ => 0
theorem lc_third {env : DEnv} {i : Nat} (hi : i < env.length) (hl : l.length ≤ cap) (h : ∀ x ∈ l, edB x = true) : lcLoop (gN i) cYes (eBin bIx (eVar i) (eC (.int 2))) env l [] st = .ok (l.map fun x => .int (thr x)) st := by
  have := lc_mapP (enc := id) (env := env) (st := st) (g := gN i) (ct := cYes) (me := eBin bIx (eVar i) (eC (.int 2))) (fun _ => true) (fun x => .int (thr x)) (xs := l) (acc := []) (fun x hx => by
    obtain ⟨s, i', j, rfl⟩ := edB_form (h x hx)
    refine tg_n (setE_eq rfl (w_yes ⟨rfl, rfl, fun _ => ?_⟩))
    have hv : (env.set i (some (.tup [.str s, .int i', .int j])))[i]? = some (some (.tup [.str s, .int i', .int j])) := by rw [List.getElem?_set_self hi]
    refine w_bin (w_var hv (w_c (o_ixT2 ⟨rfl, rfl⟩)))) (by simpa using hl)
  rw [List.map_id, List.filter_eq_self.mpr (fun _ _ => rfl), List.nil_append] at this
  exact this
theorem intsD_of : ∀ l : List Int, intsD (l.map D.int) = some l
  | [] => rfl
  | i :: l => by
    show (intsD (l.map D.int)).map _ = _
    rw [intsD_of l]
    rfl
theorem o_sum {l : List D} {K : D → Prop} (k : K (.int (l.map thr).sum)) : OnO (fSum st [.lst (l.map fun x => D.int (thr x))]) K := by
  refine ⟨_, ?_, k⟩
  unfold fSum
  show (some (l.map fun x => D.int (thr x))).bind _ = _
  rw [show (l.map fun x => D.int (thr x)) = (l.map thr).map D.int by rw [List.map_map]; rfl, Option.bind_some, intsD_of]
  rfl
theorem due_none (h : due d = none) : ∃ l, d = .tup l ∧ l.length ≤ 40 ∧ ∀ x ∈ l, edB x = true := by
  unfold due at h
  split at h
  · rename_i l
    split at h
    · cases h
    · rename_i c
      exact ⟨l, rfl, by omega, badAt_none (by simpa using h)⟩
  · cases h
theorem sp_cost (h : Rp (n + 2) b d) (k1 : ∀ l, d = .tup l → due d = none → K (.int (l.map thr).sum) st) (k2 : ∀ p, due d = some p → X "BadLog" ["place"] [p] st) : OnR (f_log_cost [d] st) K X := by
  refine f_runK rfl ?_
  show OnQ (b_log_cost [some d, none] st) _
  unfold b_log_cost
  tb_start
  refine w_lc ?_
  tb_start
  refine sp_needlog h (fun e => ?_) fun p e => ?_
  · obtain ⟨l, rfl, hl, he⟩ := due_none e
    tb_start
    refine ⟨_, _, lc_third (i := 1) (by simp [wipeD]) (by simp [cap]; omega) he, ?_⟩
    tb_start
    refine o_sum ?_
    tb_start
    exact k1 l rfl e
  · tb_start
    exact k2 p e
end
end T5.G
namespace T5.G
open PySem PySem.Spec PyProof.Rows L2
local macro_rules | `(tactic| kts_caughtN) => `(tactic| first
  | ((with_reducible refine T5.o_isTup (n := ?n) (b := ?b) ?h1 ?hk); (case h1 => with_reducible assumption)) | ((with_reducible refine T5.o_isStr (n := ?n) (b := ?b) ?h1 ?hk); (case h1 => with_reducible assumption))
  | ((with_reducible refine T5.G.sp_isint (n := ?n) (b := ?b) ?h1 ?hk); (case h1 => with_reducible assumption))
  | with_reducible refine T5.o_eqS ?_ | with_reducible refine T5.o_neS ?_ | with_reducible refine T5.s_raise1 ?_ | with_reducible refine T5.w_one ?_ | with_reducible refine T5.o_ixT0 ?_ | with_reducible refine T5.o_ixT1 ?_ | with_reducible refine T5.o_ixT2 ?_)
/-! ### marks -/
def markB (n : Int) : D → Bool
  | .tup [x, .str s] => intB x 0 n && (decide (s = [108, 101, 102, 116]) || decide (s = [114, 105, 103, 104, 116]))
  | _ => false
theorem o_inS2 {st : Store} {a b c : List Nat} {K : D → Prop} (k : K (.bl (decide (c = a) || decide (c = b)))) : OnO (bIn st (.str c) (.tup [.str a, .str b])) K := by
  refine ⟨_, ?_, k⟩
  show some (D.bl (eqF (.str a) (.str c) || (eqF (.str b) (.str c) || false))) = _
  have e : ∀ a : List Nat, eqF (.str a) (.str c) = decide (c = a) := fun a => by
    show (a == c) = _
    by_cases z : c = a
    · subst z; simp
    · have : ¬ a = c := fun w => z w.symm
      simp [z, this]
  rw [e, e, Bool.or_false]
theorem two {α : Type} {l : List α} (h : l.length = 2) : ∃ x y, l = [x, y] := by
  match l, h with
  | [x, y], _ => exact ⟨x, y, rfl⟩
theorem markB_len {m : Int} {l : List D} (h : l.length ≠ 2) : markB m (.tup l) = false := by
  unfold markB
  split
  · rename_i e
    cases e
    exact absurd rfl h
  · rfl
section
variable {st : Store} {n b : Nat} {d : D} {K : D → Store → Prop} {X : String → List String → List D → Store → Prop} {m : Int}
theorem sp_ismark (h : Rp (n + 1) b d) (k : K (.bl (markB m d)) st) : OnR (f_is_mark [.int m, d] st) K X := by
  refine f_runK rfl ?_
  show OnQ (b_is_mark [some (.int m), some d] st) _
  unfold b_is_mark
  rcases rp_cases h with rfl | ⟨c, rfl⟩ | ⟨c, rfl⟩ | ⟨c, rfl⟩ | ⟨l, rfl⟩ | ⟨c, rfl⟩ | rfl
  all_goals tb_start
  all_goals try exact k
  by_cases hl : l.length = 2
  · obtain ⟨x, y, rfl⟩ := two hl
    have hx : Rp n b x := rp_mem h (by simp)
    have hy : Rp n b y := rp_mem h (by simp)
    tb_start
    cases e1 : intB x 0 m
    · tb_start
      have : markB m (.tup [x, y]) = false := by
        unfold markB
        split
        · rename_i e; cases e; rw [e1]; rfl
        · rfl
      rw [this] at k
      exact k
    · tb_start
      rcases rp_cases hy with rfl | ⟨c, rfl⟩ | ⟨c, rfl⟩ | ⟨c, rfl⟩ | ⟨c, rfl⟩ | ⟨c, rfl⟩ | rfl
      all_goals tb_start
      all_goals try exact k
      refine o_inS2 ?_
      tb_start
      have : markB m (.tup [x, .str c]) = (decide (c = [108, 101, 102, 116]) || decide (c = [114, 105, 103, 104, 116])) := by
        show (intB x 0 m && _) = _
        rw [e1, Bool.true_and]
      rw [this] at k
      exact k
  · have hl' : ¬ (l.length : Int) = 2 := by omega
    tb_start
    rw [markB_len hl] at k
    exact k
theorem sp_needmark (h : Rp (n + 1) b d) (k1 : markB m d = true → K .non st) (k2 : markB m d = false → X "BadMark" ["given"] [d] st) : OnR (f_need_mark [.int m, d] st) K X := by
  refine f_runK rfl ?_
  show OnQ (b_need_mark [some (.int m), some d] st) _
  unfold b_need_mark
  tb_start
  refine sp_ismark h ?_
  cases e : markB m d
  · tb_start
    exact k2 e
  · tb_start
    exact k1 e
theorem markB_form (h : markB m d = true) : ∃ x lf, d = .tup [.int x, dLean lf] ∧ 0 ≤ x ∧ x ≤ m := by
  unfold markB at h
  split at h
  · rename_i x s
    simp only [Bool.and_eq_true, Bool.or_eq_true, decide_eq_true_eq] at h
    obtain ⟨h1, hs⟩ := h
    cases x with
    | int i =>
      simp only [intB, decide_eq_true_eq] at h1
      rcases hs with rfl | rfl
      · exact ⟨i, true, rfl, h1.1, h1.2⟩
      · exact ⟨i, false, rfl, h1.1, h1.2⟩
    | _ => cases h1
  · cases h
theorem markB_of {x : Int} {lf : Bool} (h0 : 0 ≤ x) (h1 : x ≤ m) : markB m (.tup [.int x, dLean lf]) = true := by
  cases lf <;> simp [markB, dLean, intB, h0, h1]
/-! ### carried -/
theorem p_gap_behind (e : Ed) (x : Int) (lf : Bool) : f_gap_behind [e.d, .int x, dLean lf] st = .ok (.int (gapB e x lf)) st := by
  obtain ⟨i, g, m⟩ := e
  cases i <;> cases lf <;> simp [f_gap_behind, b_gap_behind, z_gap_behind_1, z_gap_behind_0, runF, Ed.d, dLean, gapB, okS]
  · by_cases h : x ≤ g <;> simp [h]
  · by_cases h : x ≤ g <;> simp [h]
  · by_cases h : x < g <;> by_cases h2 : x = g <;> simp [h, h2]
  · by_cases h : x < g <;> by_cases h2 : x = g <;> simp [h, h2]
theorem car_loop (lf : Bool) (d0 : Option D) : ∀ (l : List Ed) (x : Int) (y : Option D), ∃ y', loopS (gN 3) z_carried_0 (l.map Ed.d) [d0, some (.int x), some (dLean lf), y] st = .nx [d0, some (.int (car l x lf)), some (dLean lf), y'] st
  | [], x, y => ⟨y, rfl⟩
  | e :: l, x, y => by
    obtain ⟨y', h⟩ := car_loop lf d0 l (gapB e x lf) (some e.d)
    refine ⟨y', ?_⟩
    simp only [List.map_cons, loopS]
    simp [p_gap_behind]
    exact h
theorem p_carried (l : List Ed) (x : Int) (lf : Bool) : f_carried [dLog l, .int x, dLean lf] st = .ok (.int (car l x lf)) st := by
  obtain ⟨y', h⟩ := car_loop (st := st) lf (some (dLog l)) l x none
  have e : (iSeq (eVar 0)) [some (dLog l), some (.int x), some (dLean lf), none] st = .ok (l.map Ed.d) st := q_iSeqT (by simp [dLog])
  simp [f_carried, b_carried, runF, e, h]
theorem sp_carried {l : List Ed} {x : Int} {lf : Bool} (k : K (.int (car l x lf)) st) : OnR (f_carried [dLog l, .int x, dLean lf] st) K X := onR_eq (p_carried l x lf) k
theorem sp_carriedL {l : List Ed} {x : Int} (k : K (.int (car l x true)) st) : OnR (f_carried [dLog l, .int x, .str [108, 101, 102, 116]] st) K X := sp_carried (lf := true) k
theorem sp_carriedR {l : List Ed} {x : Int} (k : K (.int (car l x false)) st) : OnR (f_carried [dLog l, .int x, .str [114, 105, 103, 104, 116]] st) K X := sp_carried (lf := false) k
/-- carry: the length, the log, the mark, the fit -/
theorem sp_carry {c e : D} {n2 b2 n3 b3 : Nat} (hc : Rp n2 b2 c) (hd : intB c 0 100 = true → Rp (n + 2) b d) (he : intB c 0 100 = true → due d = none → Rp (n3 + 1) b3 e) (k0 : intB c 0 100 = false → X "BadLength" ["given"] [c] st) (k1 : ∀ p, intB c 0 100 = true → due d = some p → X "BadLog" ["place"] [p] st)
    (k2 : ∀ m es, c = .int m → intB c 0 100 = true → d = dLog es → due d = none → (∀ e ∈ es, e.ok) → markB m e = false → X "BadMark" ["given"] [e] st)
    (k3 : ∀ m es i, c = .int m → intB c 0 100 = true → d = dLog es → due d = none → (∀ e ∈ es, e.ok) → markB m e = true → outAt es m = some i → X "OutOfText" ["place"] [.int (i : Nat)] st)
    (k4 : ∀ m es x lf, c = .int m → intB c 0 100 = true → d = dLog es → due d = none → (∀ e ∈ es, e.ok) → e = .tup [.int x, dLean lf] → 0 ≤ x → x ≤ m → Fits es m → K (.tup [.int (car es x lf), dLean lf]) st) : OnR (f_carry [c, d, e] st) K X := by
  refine f_runK rfl ?_
  show OnQ (b_carry [some c, some d, some e] st) _
  unfold b_carry
  tb_start
  refine sp_needlen hc (fun e0 => ?_) fun e0 => ?_
  · tb_start
    refine sp_needlog (hd e0) (fun e1 => ?_) fun p e1 => ?_
    · obtain ⟨es, rfl, hl, ho⟩ := due_log e1
      cases c with
      | int m =>
        tb_start
        refine sp_needmark (he e0 e1) (fun e2 => ?_) fun e2 => ?_
        · obtain ⟨x, lf, rfl, h0, h1⟩ := markB_form e2
          tb_start
          refine sp_grown (fun f => ?_) fun i hi => ?_
          · tb_start
            refine sp_carried ?_
            tb_start
            exact k4 m es x lf rfl e0 rfl e1 ho rfl h0 h1 f
          · tb_start
            exact k3 m es i rfl e0 rfl e1 ho e2 hi
        · tb_start
          exact k2 m es rfl e0 rfl e1 ho e2
      | _ => cases e0
    · tb_start
      exact k1 p e0 e1
  · tb_start
    exact k0 e0
end
/-! ### parts of logs -/
theorem fits_cat : ∀ {a b : List Ed} {n : Int}, Fits (a ++ b) n ↔ Fits a n ∧ Fits b (grow a n)
  | [], b, n => by simp [Fits, grow]
  | e :: a, b, n => by
    exact Iff.trans (and_congr_right fun _ => fits_cat (a := a) (b := b)) and_assoc.symm
theorem fits_take {l : List Ed} {n : Int} (k : Nat) (h : Fits l n) : Fits (l.take k) n ∧ Fits (l.drop k) (grow (l.take k) n) := fits_cat.mp (by rw [List.take_append_drop]; exact h)
theorem car_take {l : List Ed} (k : Nat) {x : Int} {lf : Bool} : car (l.drop k) (car (l.take k) x lf) lf = car l x lf := by
  rw [← car_app, List.take_append_drop]
theorem car_pos : ∀ {l : List Ed} {x : Int} {lf : Bool}, (∀ e ∈ l, e.ok) → 0 ≤ x → 0 ≤ car l x lf
  | [], _, _, _, h => h
  | e :: l, x, lf, ho, h => by
    obtain ⟨h1, _, h3, _⟩ := ho e (List.mem_cons_self ..)
    refine car_pos (l := l) (fun z hz => ho z (List.mem_cons_of_mem _ hz)) ?_
    unfold gapB maxI
    split <;> split <;> try split
    all_goals omega
theorem car_le : ∀ {l : List Ed} {x n : Int} {lf : Bool}, (∀ e ∈ l, e.ok) → Fits l n → x ≤ n → car l x lf ≤ grow l n
  | [], _, _, _, _, _, h => h
  | e :: l, x, n, lf, ho, hf, h => by
    obtain ⟨h1, _, h3, _⟩ := ho e (List.mem_cons_self ..)
    obtain ⟨h5, h6⟩ := hf
    refine car_le (l := l) (fun z hz => ho z (List.mem_cons_of_mem _ hz)) h6 ?_
    revert h5
    unfold gapB maxI
    cases e.i <;> simp only [Bool.false_eq_true, if_false, if_true] <;> intro h5
    · split
      · omega
      · split <;> omega
    · split <;> omega
theorem cut_take' {α : Type} {l : List α} {k : Int} (h0 : 0 ≤ k) (h : k ≤ l.length) : cutD l none (some k) = l.take k.toNat := by
  obtain ⟨j, rfl⟩ := Int.eq_ofNat_of_zero_le h0
  exact cut_take (by omega)
theorem cut_drop' {α : Type} {l : List α} {k : Int} (h0 : 0 ≤ k) (h : k ≤ l.length) : cutD l (some k) none = l.drop k.toNat := by
  obtain ⟨j, rfl⟩ := Int.eq_ofNat_of_zero_le h0
  exact cut_drop (by omega)
section
variable {st : Store} {l : List Ed} {K : D → Prop}
theorem o_takeLog {k : Int} (h0 : 0 ≤ k) (h1 : k ≤ l.length) (q : K (dLog (l.take k.toNat))) : OnO (bSl st (dLog l) none (some k)) K := by
  refine ⟨_, ?_, q⟩
  show some (D.tup (cutD (l.map Ed.d) none (some k))) = _
  rw [cut_take' h0 (by rw [List.length_map]; exact h1), ← List.map_take]
  rfl
theorem o_dropLog {k : Int} (h0 : 0 ≤ k) (h1 : k ≤ l.length) (q : K (dLog (l.drop k.toNat))) : OnO (bSl st (dLog l) (some k) none) K := by
  refine ⟨_, ?_, q⟩
  show some (D.tup (cutD (l.map Ed.d) (some k) none)) = _
  rw [cut_drop' h0 (by rw [List.length_map]; exact h1), ← List.map_drop]
  rfl
theorem o_addLog {r : List D} (h : l.length + r.length ≤ cap) (q : K (.tup (l.map Ed.d ++ r))) : OnO (bAdd st (dLog l) (.tup r)) K := o_addT ⟨by rw [List.length_map]; exact h, q⟩
theorem o_addLL {a b : List Ed} (h : a.length + b.length ≤ cap) (q : K (dLog (a ++ b))) : OnO (bAdd st (dLog a) (dLog b)) K := by
  refine o_addT ⟨by rw [List.length_map, List.length_map]; exact h, ?_⟩
  rw [← List.map_append]
  exact q
end
section
variable {st : Store} {l : List Ed} {K : D → Store → Prop} {X : String → List String → List D → Store → Prop} {n : Int} {k b : Nat} {x d : D}
theorem rpN (hn : 0 ≤ n ∧ n ≤ 100) : Rp 1 0 (.int n) := rp_int ⟨by omega, by omega⟩
theorem intN (hn : 0 ≤ n ∧ n ≤ 100) : intB (.int n) 0 100 = true := by simp [intB, hn.1, hn.2]
theorem dLean_inj {a b : Bool} (h : dLean a = dLean b) : a = b := by cases a <;> cases b <;> simp [dLean] at h ⊢
theorem sp_carryOk {x : Int} {lf : Bool} (hn : 0 ≤ n ∧ n ≤ 100) (ho : ∀ e ∈ l, e.ok) (hl : l.length ≤ 40) (hf : Fits l n) (h0 : 0 ≤ x) (h1 : x ≤ n) (q : K (.tup [.int (car l x lf), dLean lf]) st) : OnR (f_carry [.int n, dLog l, .tup [.int x, dLean lf]] st) K X := by
  have rx : Rp 2 100 (.tup [.int x, dLean lf]) := (rp_tup (n := 1) (b := 8) (l := [.int x, dLean lf]) fun y hy => by
    simp only [List.mem_cons, List.not_mem_nil, or_false] at hy
    rcases hy with rfl | rfl
    · exact (rp_int (n := 0) ⟨by omega, by omega⟩).mono (by decide)
    · cases lf
      · exact (rp_str (n := 0) (s := [114, 105, 103, 104, 116]) rfl).mono (by decide)
      · exact (rp_str (n := 0) (s := [108, 101, 102, 116]) rfl).mono (by decide)).mono (show 2 * (8 + 1) ≤ 100 by decide)
  refine sp_carry (n := 7) (rpN hn) (fun _ => rp_log ho hl) (fun _ _ => rx) (fun e => by rw [intN hn] at e; cases e) (fun p _ e => due_ok ho hl e) (fun m es e1 z0 e2 _ _ e3 => ?_) (fun m es i e1 z0 e2 _ _ _ e3 => ?_) (fun m es y lf' e1 z0 e2 _ _ e3 _ _ _ => ?_)
  · cases e1
    rw [markB_of h0 h1] at e3
    cases e3
  · cases e1
    cases dLog_inj e2
    rw [outAt_fits.mpr hf] at e3
    cases e3
  · cases e1
    cases dLog_inj e2
    injection e3 with e3
    injection e3 with e3 e4
    injection e3 with e3
    injection e4 with e4
    subst e3
    rw [← dLean_inj e4]
    exact q
theorem sp_carryBad (hn : 0 ≤ n ∧ n ≤ 100) (ho : ∀ e ∈ l, e.ok) (hl : l.length ≤ 40) (hr : Rp (k + 1) b x) (hx : markB n x = false) (q : X "BadMark" ["given"] [x] st) : OnR (f_carry [.int n, dLog l, x] st) K X := by
  refine sp_carry (n := 7) (rpN hn) (fun _ => rp_log ho hl) (fun _ _ => hr) (fun e => by rw [intN hn] at e; cases e) (fun p _ e => due_ok ho hl e) (fun m es e1 z0 e2 _ _ e3 => q) (fun m es i e1 z0 e2 _ _ h3 e3 => ?_) (fun m es y lf' e1 z0 e2 _ _ e3 h0 h1 _ => ?_)
  · cases e1
    rw [hx] at h3
    cases h3
  · cases e1
    subst e3
    rw [markB_of h0 h1] at hx
    cases hx
theorem sp_carryLog {p : D} (hn : 0 ≤ n ∧ n ≤ 100) (hd : Rp (k + 2) b d) (e : due d = some p) (q : X "BadLog" ["place"] [p] st) : OnR (f_carry [.int n, d, x] st) K X := by
  have no : ∀ {p : Prop}, due d = none → p := fun z => by rw [e] at z; cases z
  refine sp_carry (n := k) (n3 := 0) (b3 := 0) (rpN hn) (fun _ => hd) (fun _ z => no z) (fun e => by rw [intN hn] at e; cases e) (fun p' _ e' => ?_) (fun m es e1 z0 e2 z _ e3 => no z) (fun m es i e1 z0 e2 z _ h3 e3 => no z) (fun m es y lf' e1 z0 e2 z _ e3 h0 h1 _ => no z)
  rw [e] at e'
  cases e'
  exact q
theorem sp_carryLen {c : D} (hc : Rp k b c) (h : intB c 0 100 = false) (q : X "BadLength" ["given"] [c] st) : OnR (f_carry [c, d, x] st) K X := by
  have no : ∀ {p : Prop}, intB c 0 100 = true → p := fun z => by rw [h] at z; cases z
  refine sp_carry (n := 0) (b := 0) (n3 := 0) (b3 := 0) hc (fun z => no z) (fun z _ => no z) (fun _ => q) (fun _ z _ => no z) (fun m es e1 z0 e2 z1 _ z => no z0) (fun m es i e1 z0 e2 _ _ h3 e3 => no z0) (fun m es y lf' e1 z0 e2 _ _ e3 h0 h1 _ => no z0)
theorem sp_carryOut {i : Nat} (hn : 0 ≤ n ∧ n ≤ 100) (ho : ∀ e ∈ l, e.ok) (hl : l.length ≤ 40) (hr : Rp (k + 1) b x) (hx : markB n x = true) (hi : outAt l n = some i) (q : X "OutOfText" ["place"] [.int (i : Nat)] st) : OnR (f_carry [.int n, dLog l, x] st) K X := by
  refine sp_carry (n := 7) (rpN hn) (fun _ => rp_log ho hl) (fun _ _ => hr) (fun e => by rw [intN hn] at e; cases e) (fun p _ e => due_ok ho hl e) (fun m es e1 z0 e2 _ _ e3 => ?_) (fun m es j e1 z0 e2 _ _ h3 e3 => ?_) (fun m es y lf' e1 z0 e2 _ _ e3 h0 h1 f => ?_)
  · cases e1
    rw [hx] at e3
    cases e3
  · cases e1
    cases dLog_inj e2
    rw [hi] at e3
    cases e3
    exact q
  · cases e1
    cases dLog_inj e2
    rw [outAt_fits.mpr f] at hi
    cases hi
end
/-- a loop over numbers from nought on -/
theorem l_upTo {g : MG0} {b : MS} {Q : SR → Prop} {env : DEnv} {st : Store} {k : Nat} (I : DEnv → Store → Prop) (h : I env st) (hb : ∀ i : Nat, i < k → ∀ env st, I env st → TgE g (.int (i : Int)) env fun e => OnQ (b e st) (TurnK I Q)) (f : ∀ env st, I env st → Q (.nx env st)) : OnQ (loopS g b (upTo 0 k) env st) Q := by
  refine l_num (fun _ => I) (k := 0) h (fun i d env st hi hI => ?_) fun env st h => f env st h
  unfold upTo at hi
  rw [List.getElem?_map] at hi
  obtain ⟨j, hj, rfl⟩ := Option.map_eq_some_iff.mp hi
  obtain ⟨h1, h2⟩ := List.getElem?_eq_some_iff.mp hj
  simp at h1 h2
  subst h2
  have := hb i h1 env st hI
  rw [show (0 : Int) + (i : Int) = i by omega]
  exact this
end T5.G
namespace T5.G
open PySem PySem.Spec PyProof.Rows L2
local macro_rules | `(tactic| kts_caughtN) => `(tactic| first
  | ((with_reducible refine T5.G.sp_draw ?h1 ?h2 ?hk); (case h1 => k_caughtC0); (case h2 => k_caughtC0))
  | ((with_reducible refine T5.o_repr (b := ?b) ?h1 ?h2 ?hk); (case h1 => with_reducible assumption); (case h2 => decide))
  | ((with_reducible refine T5.o_isLst (n := ?n) (b := ?b) ?h1 ?hk); (case h1 => with_reducible assumption))
  | ((with_reducible refine T5.o_isTup (n := ?n) (b := ?b) ?h1 ?hk); (case h1 => with_reducible assumption)) | ((with_reducible refine T5.o_isStr (n := ?n) (b := ?b) ?h1 ?hk); (case h1 => with_reducible assumption))
  | ((with_reducible refine T5.o_isInt (n := ?n) (b := ?b) ?h1 ?hk); (case h1 => with_reducible assumption)) | ((with_reducible refine T5.o_isBool (n := ?n) (b := ?b) ?h1 ?hk); (case h1 => with_reducible assumption))
  | with_reducible refine T5.o_eqS ?_ | with_reducible refine T5.o_neS ?_ | with_reducible refine T5.G.o_appK ?_ | with_reducible refine T5.G.o_tupleK ?_ | with_reducible refine T5.G.o_appK2 ?_ | with_reducible refine T5.G.o_tupleK2 ?_ | with_reducible refine T5.G.o_appK3 ?_ | with_reducible refine T5.G.o_tupleK3 ?_ | with_reducible refine T5.G.o_pow29 ?_ | with_reducible refine T5.G.o_list ?_ | with_reducible refine T5.s_raise1 ?_ | with_reducible refine T5.w_one ?_
  | with_reducible refine T5.o_ixT0 ?_ | with_reducible refine T5.o_ixT1 ?_ | with_reducible refine T5.o_ixT2 ?_ | with_reducible refine T5.o_ixL0 ?_ | with_reducible refine T5.o_ixL1 ?_ | with_reducible refine T5.o_ixL2 ?_)
local macro_rules | `(tactic| k_caughtC0) => `(tactic| first | with_reducible assumption | exact Nat.le_of_ble_eq_true rfl | with_reducible rfl | omega | with_reducible exact T5.G.lst_isK | with_reducible exact T5.G.lst_isK2 | with_reducible exact T5.G.lst_isK3 | (simp only [T5.cap, List.length_map, List.length_append, List.length_cons, List.length_nil, List.length_take, List.length_drop]; omega) | (refine And.intro ?_ ?_ <;> first | omega | decide) | decide)
local macro_rules | `(tactic| kts_caught) => `(tactic| first | with_reducible refine T5.o_eqI ?_ | with_reducible refine T5.o_neI ?_ | ((with_reducible refine T5.G.o_neRf ?h1 ?hk); (case h1 => first | with_reducible assumption | rfl)) | ((with_reducible refine T5.G.o_eqRf ?h1 ?hk); (case h1 => first | with_reducible assumption | rfl)) | with_reducible refine T5.G.o_lenTm ?_ | with_reducible refine T5.G.o_lenLm ?_ | with_reducible refine T5.G.o_lenLog ?_ | with_reducible refine T5.G.w_lstMk ?_ | with_reducible refine T5.G.w_mksI ?_)
section
variable {st : Store}
/-- a chart's rows as Chart wants them -/
structure RowsOk (m : Int) (Ls Rs : List Int) : Prop where
  m0 : 0 ≤ m
  m1 : m ≤ 500
  len : Ls.length = Rs.length
  l1 : 1 ≤ Ls.length
  l2 : Ls.length ≤ 101
  first : Ls[0]? = some 0
  at_ : ∀ i, i < Ls.length → ∃ a b, Ls[i]? = some a ∧ Rs[i]? = some b ∧ a ≤ b ∧ (0 < i → ∃ a' b', Ls[i-1]? = some a' ∧ Rs[i-1]? = some b' ∧ a' ≤ a ∧ b' ≤ b ∧ a ≤ b' + 1) ∧ (i + 1 < Ls.length ∨ b = m)
def chK : List String := ["own_many", "own_lefts", "own_rights", "own_signs"]
def chV (m : Int) (Ls Rs : List Int) : List D := [.int m, dRow Ls, dRow Rs, .tup (cutD (Ls.map D.int) (some 1) none)]
def dChart (m : Int) (Ls Rs : List Int) : D := .ins "Chart" chK (chV m Ls Rs)
theorem rows_ok {l : List Ed} {n : Nat} (h : OkL l) (hf : Fits l n) (hn : n ≤ 100) : RowsOk (grow l n) (rowOf l n true) (rowOf l n false) := by
  obtain ⟨a, b, c⟩ := c_end h.2 hf
  have h40 := h.1
  refine ⟨b (by omega), by omega, by simp [rowOf_len], by simp [rowOf_len], by simp [rowOf_len]; omega, ?_, fun i hi => ?_⟩
  · rw [rowOf_get (by omega)]
    exact congrArg some (c_zero h.2)
  · rw [rowOf_len] at hi
    refine ⟨_, _, rowOf_get hi, rowOf_get hi, c_lr h.2 (Int.le_refl _), fun h0 => ?_, ?_⟩
    · have e : ((i - 1 : Nat) : Int) = i - 1 := by omega
      refine ⟨_, _, rowOf_get (by omega), rowOf_get (by omega), ?_, ?_, ?_⟩
      · exact c_mono h.2 (by omega)
      · exact c_mono h.2 (by omega)
      · exact c_one h.2 (by omega)
    · rw [rowOf_len]
      by_cases z : i = n
      · right
        rw [z]
        exact a
      · left
        omega
end
/-! ### rows of numbers -/
def rg (l : List Int) (x : Int) : Int := l.getD x.toNat 0
theorem o_ixRow {st : Store} {l : List Int} {x : Int} {K : D → Prop} (h0 : 0 ≤ x) (h1 : x < l.length) (k : K (.int (rg l x))) : OnO (bIx st (dRow l) (.int x)) K := by
  obtain ⟨j, rfl⟩ := Int.eq_ofNat_of_zero_le h0
  unfold dRow
  have hj : j < l.length := by omega
  have e : (l.map D.int)[j]? = some (.int (rg l (j : Int))) := by
    rw [List.getElem?_map]
    show Option.map D.int l[j]? = some (.int (l.getD j 0))
    rw [List.getD_eq_getElem?_getD, List.getElem?_eq_getElem hj]
    rfl
  with_reducible exact o_ixT e k
theorem o_lenRow {st : Store} {l : List Int} {K : D → Prop} (k : K (.int (l.length : Int))) : OnO (fLen st [dRow l]) K := o_lenTm k
theorem k_of {b c : Bool} {st : Store} {K : D → Store → Prop} (k : K (.bl b) st) (e : b = c) : K (.bl c) st := e ▸ k
def isI : D → Bool
  | .int _ => true
  | _ => false
def rowB : D → Bool
  | .tup l => decide (1 ≤ l.length ∧ l.length ≤ 101) && l.all isI
  | _ => false
theorem o_allB {α : Type} {f : α → Bool} {l : List α} {st : Store} {K : D → Prop} (k : K (.bl (l.all f))) : OnO (fAll st [.lst (l.map fun x => D.bl (f x))]) K := by
  refine ⟨_, ?_, k⟩
  unfold fAll
  show Option.map _ (blsD (l.map fun x => D.bl (f x))) = _
  rw [blsD_map]
  simp
section
variable {st : Store} {n b : Nat} {d : D} {K : D → Store → Prop} {X : String → List String → List D → Store → Prop} {m x : Int} {Ls Rs : List Int} {Q : SR → Prop}
local macro_rules | `(tactic| kts_caught) => `(tactic| with_reducible refine T5.stp (p := OnQ (T5.G.z_is_row_0 _ _) _) ?_)
theorem sp_isrow (h : Rp (n + 1) b d) (k : K (.bl (rowB d)) st) : OnR (f_is_row [d] st) K X := by
  refine f_runK rfl ?_
  show OnQ (b_is_row [some d, none] st) _
  unfold b_is_row
  rcases rp_cases h with rfl | ⟨c, rfl⟩ | ⟨c, rfl⟩ | ⟨c, rfl⟩ | ⟨l, rfl⟩ | ⟨c, rfl⟩ | rfl
  all_goals tb_start
  all_goals try exact k
  have fin : (1 ≤ (l.length : Int) ∧ (l.length : Int) ≤ 101) → OnQ (z_is_row_0 [some (.tup l), none] st) (EndK K X) := fun hl => by
    have e := lc_mapP (enc := id) (env := wipeD [some (.tup l), none] [1]) (st := st) (g := gN 1) (ct := cYes) (me := (eAnd (eCB fIsi (aCons (eVar 1) (aCons (eC (.ty "int")) aNil))) (eNot (eCB fIsi (aCons (eVar 1) (aCons (eC (.ty "bool")) aNil)))))) (fun _ => true) (fun x => D.bl (isI x)) (xs := l) (acc := []) (fun y hy => by
      have hr : Rp n b y := rp_mem h hy
      refine tg_n (setE_eq rfl (w_yes ⟨rfl, rfl, fun _ => ?_⟩))
      rcases rp_cases hr with rfl | ⟨c, rfl⟩ | ⟨c, rfl⟩ | ⟨c, rfl⟩ | ⟨l, rfl⟩ | ⟨c, rfl⟩ | rfl
      all_goals (simp only [wipeD, id, List.set_cons_succ, List.set_cons_zero]; tb_start; exact ⟨rfl, rfl⟩)) (by simp [cap]; omega)
    rw [List.map_id, List.filter_eq_self.mpr (fun _ _ => rfl), List.nil_append] at e
    refine s_ret ?_
    tb_start
    refine w_lc ?_
    tb_start
    refine ⟨_, _, e, ?_⟩
    tb_start
    refine o_allB ?_
    tb_start
    refine k_of k ?_
    show (decide (1 ≤ l.length ∧ l.length ≤ 101) && l.all isI) = _
    rw [decide_eq_true (by omega), Bool.true_and]
  refine onB_dec (fun z => ?_) fun z => ?_
  · tb_start
    refine onB_not (onB_dec (fun z2 => ?_) fun z2 => ?_)
    · tb_start
      exact fin ⟨by omega, by omega⟩
    · tb_start
      refine k_of k ?_
      show (decide (1 ≤ l.length ∧ l.length ≤ 101) && l.all isI) = _
      rw [decide_eq_false (by omega), Bool.false_and]
  · tb_start
    refine k_of k ?_
    show (decide (1 ≤ l.length ∧ l.length ≤ 101) && l.all isI) = _
    rw [decide_eq_false (by omega), Bool.false_and]
local macro_rules | `(tactic| kts_caughtN) => `(tactic| first
  | ((with_reducible refine T5.G.o_ixRow ?h0 ?h1 ?hk); (case h0 => k_caughtC0); (case h1 => k_caughtC0)) | with_reducible refine T5.G.o_lenRow ?_ | with_reducible refine T5.s_raise1 ?_ | with_reducible refine T5.w_one ?_)
/-- all that a chart keeps at a gap -/
def gapOk (m : Int) (Ls Rs : List Int) (x : Int) : Bool :=
  !(decide (rg Rs x < rg Ls x) || (decide (x = 0) && !decide (rg Ls 0 = 0))) && !(decide (0 < x) && (decide (rg Ls x < rg Ls (x - 1)) || decide (rg Rs x < rg Rs (x - 1)))) && !(decide (0 < x) && decide (rg Rs (x - 1) + 1 < rg Ls x)) && (decide (x < (Ls.length : Int) - 1) || decide (rg Rs x = m))
theorem sp_gapright (h0 : 0 ≤ x) (h1 : x < Ls.length) (hl : Ls.length = Rs.length) (k : K (.bl (gapOk m Ls Rs x)) st) : OnR (f_is_gap_right [.int m, dRow Ls, dRow Rs, .int x] st) K X := by
  have h2 : x < Rs.length := by omega
  refine f_runK rfl ?_
  show OnQ (b_is_gap_right [some (.int m), some (dRow Ls), some (dRow Rs), some (.int x)] st) _
  unfold b_is_gap_right
  by_cases hx : x = 0
  · subst hx
    top_raiseIn0
    all_goals (refine k_of k ?_; clear hl h2 k; simp only [gapOk, *, Int.lt_irrefl, decide_true, decide_false, Bool.not_true, Bool.not_false, Bool.true_and, Bool.false_and, Bool.and_true, Bool.and_false, Bool.or_false, Bool.false_or, Bool.true_or, Bool.or_true])
    all_goals simp_all
    all_goals omega
  · have h3 : 0 < x := by omega
    top_raiseIn0
    all_goals (refine k_of k ?_; clear hl h2 k; simp only [gapOk, *, Int.lt_irrefl, decide_true, decide_false, Bool.not_true, Bool.not_false, Bool.true_and, Bool.false_and, Bool.and_true, Bool.and_false, Bool.or_false, Bool.false_or, Bool.true_or, Bool.or_true])
/-! ### charts made -/
theorem RowsOk.gaps (h : RowsOk m Ls Rs) : ∀ i : Nat, i < Ls.length → gapOk m Ls Rs i = true := fun i hi => by
  obtain ⟨a, b, e1, e2, hab, hp, hm⟩ := h.at_ i hi
  have g1 : rg Ls i = a := by
    show Ls.getD i 0 = a
    rw [List.getD_eq_getElem?_getD, e1]; rfl
  have g2 : rg Rs i = b := by
    show Rs.getD i 0 = b
    rw [List.getD_eq_getElem?_getD, e2]; rfl
  have g0 : rg Ls 0 = 0 := by
    show Ls.getD 0 0 = 0
    rw [List.getD_eq_getElem?_getD, h.first]; rfl
  unfold gapOk
  rw [g1, g2, g0]
  by_cases z : i = 0
  · subst z
    have : b = m ∨ (0 : Int) < (Ls.length : Int) - 1 := by omega
    have e1 : a = 0 := by rw [← g1, ← g0]; rfl
    rcases this with e | e <;> simp [e1] <;> omega
  · obtain ⟨a', b', e3, e4, h3, h4, h5⟩ := hp (by omega)
    have g3 : rg Ls ((i : Int) - 1) = a' := by
      show Ls.getD ((i : Int) - 1).toNat 0 = a'
      rw [show ((i : Int) - 1).toNat = i - 1 by omega, List.getD_eq_getElem?_getD, e3]; rfl
    have g4 : rg Rs ((i : Int) - 1) = b' := by
      show Rs.getD ((i : Int) - 1).toNat 0 = b'
      rw [show ((i : Int) - 1).toNat = i - 1 by omega, List.getD_eq_getElem?_getD, e4]; rfl
    rw [g3, g4]
    simp only [Bool.and_eq_true, Bool.not_eq_true', Bool.or_eq_false_iff, Bool.and_eq_false_iff, Bool.or_eq_true, decide_eq_true_eq, decide_eq_false_iff_not]
    refine ⟨⟨⟨⟨by omega, .inl (by omega)⟩, .inr ⟨by omega, by omega⟩⟩, .inr (by omega)⟩, by omega⟩
theorem l_upToE {g : MG0} {b : MS} {env : DEnv} {st : Store} {k : Nat} (I : Nat → DEnv → Store → Prop) (h : I 0 env st) (hb : ∀ i : Nat, i < k → ∀ env st, I i env st → TgE g (.int (i : Int)) env fun e => OnQ (b e st) (TurnK (I (i + 1)) Q)) (f : ∀ env st, I k env st → Q (.nx env st)) : OnQ (loopS g b (upTo 0 k) env st) Q := by
  refine l_num I (k := 0) h (fun i d env st hi hI => ?_) fun env st h => f env st (by rw [Nat.zero_add] at h; unfold upTo at h; rw [List.length_map, List.length_range] at h; exact h)
  unfold upTo at hi
  rw [List.getElem?_map] at hi
  obtain ⟨j, hj, rfl⟩ := Option.map_eq_some_iff.mp hi
  obtain ⟨h1, h2⟩ := List.getElem?_eq_some_iff.mp hj
  simp at h1 h2
  subst h2
  rw [Nat.zero_add] at hI ⊢
  have := hb i h1 env st hI
  rw [show (0 : Int) + (i : Int) = i by omega]
  exact this
theorem s_fld {c f : String} {mo mv : ME} {env : DEnv} (h : OnR (mv env st) (fun v st1 => OnR (mo env st1) (fun d st2 => ∃ n ks ds, d = .obj n ∧ st2[n]? = some (.ins c ks ds) ∧ ks.length ≤ 100 ∧ Q (.nx env (st2.set n (.ins c (putFd f v ks ds).1 (putFd f v ks ds).2)))) (fun c ks vs st2 => Q (.ex c ks vs env st2))) (fun c ks vs st1 => Q (.ex c ks vs env st1))) : OnQ (sFldD c f mo mv env st) Q := by
  unfold sFldD
  refine onR_toS (onR_imp h (fun v st1 h => ?_) fun _ _ _ _ h => h)
  refine onR_toS (onR_imp h (fun d st2 h => ?_) fun _ _ _ _ h => h)
  obtain ⟨n, ks, ds, rfl, e, hl, q⟩ := h
  simp only [e, true_and, if_pos hl]
  exact q
/-- what Chart says of three things: None of a chart, else the place -/
def chBad (c l r : D) : Prop := intB c 0 500 = false ∨ rowB l = false ∨ rowB r = false ∨ ∃ a b, l = .tup a ∧ r = .tup b ∧ a.length ≠ b.length
theorem rowB_ints {d : D} (h : rowB d = true) : ∃ l : List Int, d = dRow l ∧ 1 ≤ l.length ∧ l.length ≤ 101 := by
  unfold rowB at h
  split at h
  · rename_i l
    rw [Bool.and_eq_true, decide_eq_true_eq] at h
    obtain ⟨⟨h1, h2⟩, h3⟩ := h
    have go : ∀ l : List D, l.all isI = true → ∃ z : List Int, l = z.map D.int := fun l => by
      induction l with
      | nil => intro _; exact ⟨[], rfl⟩
      | cons x l ih =>
        intro h
        rw [List.all_cons, Bool.and_eq_true] at h
        obtain ⟨z, rfl⟩ := ih h.2
        cases x with
        | int i => exact ⟨i :: z, rfl⟩
        | _ => cases h.1
    obtain ⟨z, rfl⟩ := go l h3
    rw [List.length_map] at h1 h2
    exact ⟨z, rfl, h1, h2⟩
  · cases h
theorem intB_int {d : D} {lo hi : Int} (h : intB d lo hi = true) : ∃ i, d = .int i ∧ lo ≤ i ∧ i ≤ hi := by
  cases d with
  | int i => simp only [intB, decide_eq_true_eq] at h; exact ⟨i, rfl, h⟩
  | _ => cases h
end
end T5.G
namespace T5.G
open PySem PySem.Spec PyProof.Rows L2
local macro_rules | `(tactic| kts_caughtN) => `(tactic| first
  | ((with_reducible refine T5.G.sp_draw ?h1 ?h2 ?hk); (case h1 => k_caughtC0); (case h2 => k_caughtC0))
  | ((with_reducible refine T5.o_repr (b := ?b) ?h1 ?h2 ?hk); (case h1 => with_reducible assumption); (case h2 => decide))
  | ((with_reducible refine T5.o_isLst (n := ?n) (b := ?b) ?h1 ?hk); (case h1 => with_reducible assumption))
  | ((with_reducible refine T5.o_isTup (n := ?n) (b := ?b) ?h1 ?hk); (case h1 => with_reducible assumption)) | ((with_reducible refine T5.o_isStr (n := ?n) (b := ?b) ?h1 ?hk); (case h1 => with_reducible assumption))
  | ((with_reducible refine T5.o_isInt (n := ?n) (b := ?b) ?h1 ?hk); (case h1 => with_reducible assumption)) | ((with_reducible refine T5.o_isBool (n := ?n) (b := ?b) ?h1 ?hk); (case h1 => with_reducible assumption))
  | with_reducible refine T5.o_eqS ?_ | with_reducible refine T5.o_neS ?_ | with_reducible refine T5.G.o_appK ?_ | with_reducible refine T5.G.o_tupleK ?_ | with_reducible refine T5.G.o_appK2 ?_ | with_reducible refine T5.G.o_tupleK2 ?_ | with_reducible refine T5.G.o_appK3 ?_ | with_reducible refine T5.G.o_tupleK3 ?_ | with_reducible refine T5.G.o_pow29 ?_ | with_reducible refine T5.G.o_list ?_ | with_reducible refine T5.s_raise1 ?_ | with_reducible refine T5.w_one ?_
  | with_reducible refine T5.o_ixT0 ?_ | with_reducible refine T5.o_ixT1 ?_ | with_reducible refine T5.o_ixT2 ?_ | with_reducible refine T5.o_ixL0 ?_ | with_reducible refine T5.o_ixL1 ?_ | with_reducible refine T5.o_ixL2 ?_)
local macro_rules | `(tactic| k_caughtC0) => `(tactic| first | with_reducible assumption | exact Nat.le_of_ble_eq_true rfl | with_reducible rfl | omega | with_reducible exact T5.G.lst_isK | with_reducible exact T5.G.lst_isK2 | with_reducible exact T5.G.lst_isK3 | (simp only [T5.cap, List.length_map, List.length_append, List.length_cons, List.length_nil, List.length_take, List.length_drop]; omega) | (refine And.intro ?_ ?_ <;> first | omega | decide) | decide)
local macro_rules | `(tactic| kts_caught) => `(tactic| first | with_reducible refine T5.o_eqI ?_ | with_reducible refine T5.o_neI ?_ | ((with_reducible refine T5.G.o_neRf ?h1 ?hk); (case h1 => first | with_reducible assumption | rfl)) | ((with_reducible refine T5.G.o_eqRf ?h1 ?hk); (case h1 => first | with_reducible assumption | rfl)) | with_reducible refine T5.G.o_lenTm ?_ | with_reducible refine T5.G.o_lenLm ?_ | with_reducible refine T5.G.o_lenLog ?_ | with_reducible refine T5.G.w_lstMk ?_ | with_reducible refine T5.G.w_mksI ?_)
section
variable {st : Store} {n b : Nat} {d : D} {K : D → Store → Prop} {X : String → List String → List D → Store → Prop} {m x : Int} {Ls Rs : List Int} {Q : SR → Prop}
theorem f_finI {f : MF} {ds : List D} (h : OnR (f ds st) (fun d st1 => ∃ c ks vs, d = .obj st.length ∧ st1[st.length]? = some (.ins c ks vs) ∧ st.length ≤ st1.length ∧ (st1.take st.length).all (clO st.length) = true ∧ clL st.length vs = true ∧ K (.ins c ks vs) (st1.take st.length)) (fun c ks vs st1 => st.length ≤ st1.length ∧ (st1.take st.length).all (clO st.length) = true ∧ clL st.length vs = true ∧ X c ks vs (st1.take st.length))) : OnR (fin f ds st) K X := by
  unfold fin
  revert h
  generalize f ds st = r
  intro h
  cases r with
  | ok d st1 =>
    obtain ⟨c, ks, vs, rfl, e, h1, h2, h3, k⟩ := h
    have c2 : ¬ clD st.length (.obj st.length) = true := by simp [clD]
    simp only [if_pos (And.intro h1 h2), if_neg c2, e, if_pos h3]
    exact k
  | ex c ks vs st1 =>
    obtain ⟨h1, h2, h3, h4⟩ := h
    simp only [if_pos (And.intro h1 (And.intro h2 h3))]
    exact h4
  | bad => exact h.elim
theorem w_mkF {c : String} {f : MF} {ds : List D} (h : OnR (f (.obj st.length :: ds) (st ++ [.ins c [] []])) (fun d st2 => d = .non ∧ K (.obj st.length) st2) X) : OnR (mkF c f ds st) K X := by
  unfold mkF
  refine onR_bind (onR_imp h (fun d st2 h => ?_) fun _ _ _ _ h => h)
  obtain ⟨rfl, k⟩ := h
  exact k
theorem f_runE {N n : Nat} {b : MS} {ds : List D} {env : DEnv} (hl : ds.length = n) (he : ds.map some ++ List.replicate (N - n) none = env) (h : OnQ (b env st) (EndK K X)) : OnR (runF N n b ds st) K X := by
  subst he
  exact f_runK hl h
theorem get_lastO {x : Ob} : (st ++ [x])[st.length]? = some x := by simp
theorem set_lastO {x y : Ob} : (st ++ [x]).set st.length y = st ++ [y] := by simp
theorem clL_chV (k : Nat) : clL k (chV m Ls Rs) = true := by
  have : cutD (Ls.map D.int) (some 1) none = ((Ls.drop (HT.sIx Ls.length 0 (some 1))).take (HT.sIx Ls.length Ls.length none - HT.sIx Ls.length 0 (some 1))).map D.int := by
    unfold cutD
    simp
  unfold chV
  rw [this]
  simp only [clL, clD, dRow, cl_ints, Bool.and_self, Bool.and_true, Bool.true_and]
local macro_rules | `(tactic| kts_caughtN) => `(tactic| first
  | ((with_reducible refine T5.G.sp_isint (n := ?n) (b := ?b) ?h1 ?hk); (case h1 => with_reducible assumption))
  | ((with_reducible refine T5.G.sp_isrow (n := ?n) (b := ?b) ?h1 ?hk); (case h1 => with_reducible assumption))
  | with_reducible refine T5.G.o_lenRow ?_ | with_reducible refine T5.s_raise1 ?_ | with_reducible refine T5.w_one ?_)
theorem sp_mk {c l r : D} {n1 b1 n2 b2 n3 b3 : Nat} (hc : Rp (n1 + 1) b1 c) (hl : Rp (n2 + 1) b2 l) (hr : Rp (n3 + 1) b3 r) (hC : Cl st) (k0 : chBad c l r → X "BadChart" ["place"] [.non] st)
    (k1 : ∀ M Ls Rs (i : Nat), c = .int M → 0 ≤ M → M ≤ 500 → l = dRow Ls → r = dRow Rs → 1 ≤ Ls.length → Ls.length ≤ 101 → Ls.length = Rs.length → i < Ls.length → gapOk M Ls Rs i = false → (∀ j : Nat, j < i → gapOk M Ls Rs j = true) → X "BadChart" ["place"] [.int (i : Int)] st)
    (k2 : ∀ M Ls Rs, c = .int M → 0 ≤ M → M ≤ 500 → l = dRow Ls → r = dRow Rs → 1 ≤ Ls.length → Ls.length ≤ 101 → Ls.length = Rs.length → (∀ j : Nat, j < Ls.length → gapOk M Ls Rs j = true) → K (dChart M Ls Rs) st) : OnR (fin (mkF "Chart" f_Chart_init) [c, l, r] st) K X := by
  have tk : ∀ {o : Ob}, (st ++ [o]).take st.length = st := List.take_left' rfl
  have le : ∀ {o : Ob}, st.length ≤ (st ++ [o]).length := by simp
  have bad : ∀ {p : D} {o : Ob}, clD st.length p = true → X "BadChart" ["place"] [p] st → (st.length ≤ (st ++ [o]).length ∧ ((st ++ [o]).take st.length).all (clO st.length) = true ∧ clL st.length [p] = true ∧ X "BadChart" ["place"] [p] ((st ++ [o]).take st.length)) := fun hp x => by
    rw [tk]
    exact ⟨le, hC, by simp [clL, hp], x⟩
  refine f_finI (w_mkF ?_)
  unfold f_Chart_init
  refine f_runE (env := [some (.obj st.length), some c, some l, some r, none]) rfl rfl ?_
  unfold b_Chart_init
  tb_start
  cases e0 : intB c 0 500
  · tb_start
    exact bad rfl (k0 (.inl e0))
  · obtain ⟨M, rfl, m0, m1⟩ := intB_int e0
    tb_start
    cases e1 : rowB l
    · tb_start
      exact bad rfl (k0 (.inr (.inl e1)))
    · obtain ⟨Ls, rfl, l0, l1⟩ := rowB_ints e1
      tb_start
      cases e2 : rowB r
      · tb_start
        exact bad rfl (k0 (.inr (.inr (.inl e2))))
      · obtain ⟨Rs, rfl, r0, r1⟩ := rowB_ints e2
        tb_start
        refine onB_not (onB_dec (fun z => ?_) fun z => ?_)
        · have hl : Ls.length = Rs.length := by omega
          tb_start
          refine l_upToE (fun i env s => s = st ++ [.ins "Chart" [] []] ∧ (∃ o4, env = [some (.obj st.length), some (.int M), some (dRow Ls), some (dRow Rs), o4]) ∧ ∀ j : Nat, j < i → gapOk M Ls Rs j = true) ⟨rfl, ⟨_, rfl⟩, fun j h => nomatch h⟩ (fun i hi env s h => ?_) fun env s h => ?_
          · obtain ⟨rfl, ⟨o4, rfl⟩, hj⟩ := h
            tb_start
            refine sp_gapright (by omega) (by omega) hl ?_
            cases e3 : gapOk M Ls Rs i
            · tb_start
              exact bad rfl (k1 M Ls Rs i rfl m0 m1 rfl rfl l0 l1 hl (by simpa using hi) e3 hj)
            · tb_start
              refine ⟨rfl, ⟨_, rfl⟩, fun j h => ?_⟩
              by_cases z : j = i
              · subst z; exact e3
              · exact hj j (by omega)
          · obtain ⟨rfl, ⟨o4, rfl⟩, hj⟩ := h
            tb_start
            refine s_fld ?_
            tb_start
            refine ⟨_, _, _, rfl, get_lastO, Nat.le_of_ble_eq_true rfl, ?_⟩
            rw [set_lastO]
            tb_start
            refine s_fld ?_
            tb_start
            refine ⟨_, _, _, rfl, get_lastO, Nat.le_of_ble_eq_true rfl, ?_⟩
            rw [set_lastO]
            tb_start
            refine s_fld ?_
            tb_start
            refine ⟨_, _, _, rfl, get_lastO, Nat.le_of_ble_eq_true rfl, ?_⟩
            rw [set_lastO]
            tb_start
            refine s_fld ?_
            unfold dRow
            tb_start
            refine ⟨_, _, _, rfl, get_lastO, Nat.le_of_ble_eq_true rfl, ?_⟩
            rw [set_lastO]
            tb_start
            refine ⟨rfl, _, _, _, rfl, get_lastO, le, by rw [tk]; exact hC, clL_chV (m := M) (Ls := Ls) (Rs := Rs) _, ?_⟩
            rw [tk]
            exact k2 M Ls Rs rfl m0 m1 rfl rfl l0 l1 hl (fun j h => hj j (by simpa using h))
        · tb_start
          refine bad rfl (k0 (.inr (.inr (.inr ⟨_, _, rfl, rfl, ?_⟩))))
          rw [List.length_map, List.length_map]
          omega
end
end T5.G
namespace T5.G
open PySem PySem.Spec PyProof.Rows L2
local macro_rules | `(tactic| kts_caughtN) => `(tactic| first
  | ((with_reducible refine T5.G.sp_draw ?h1 ?h2 ?hk); (case h1 => k_caughtC0); (case h2 => k_caughtC0))
  | ((with_reducible refine T5.o_repr (b := ?b) ?h1 ?h2 ?hk); (case h1 => with_reducible assumption); (case h2 => decide))
  | ((with_reducible refine T5.o_isLst (n := ?n) (b := ?b) ?h1 ?hk); (case h1 => with_reducible assumption))
  | ((with_reducible refine T5.o_isTup (n := ?n) (b := ?b) ?h1 ?hk); (case h1 => with_reducible assumption)) | ((with_reducible refine T5.o_isStr (n := ?n) (b := ?b) ?h1 ?hk); (case h1 => with_reducible assumption))
  | ((with_reducible refine T5.o_isInt (n := ?n) (b := ?b) ?h1 ?hk); (case h1 => with_reducible assumption)) | ((with_reducible refine T5.o_isBool (n := ?n) (b := ?b) ?h1 ?hk); (case h1 => with_reducible assumption))
  | with_reducible refine T5.o_eqS ?_ | with_reducible refine T5.o_neS ?_ | with_reducible refine T5.G.o_appK ?_ | with_reducible refine T5.G.o_tupleK ?_ | with_reducible refine T5.G.o_appK2 ?_ | with_reducible refine T5.G.o_tupleK2 ?_ | with_reducible refine T5.G.o_appK3 ?_ | with_reducible refine T5.G.o_tupleK3 ?_ | with_reducible refine T5.G.o_pow29 ?_ | with_reducible refine T5.G.o_list ?_ | with_reducible refine T5.s_raise1 ?_ | with_reducible refine T5.w_one ?_
  | with_reducible refine T5.o_ixT0 ?_ | with_reducible refine T5.o_ixT1 ?_ | with_reducible refine T5.o_ixT2 ?_ | with_reducible refine T5.o_ixL0 ?_ | with_reducible refine T5.o_ixL1 ?_ | with_reducible refine T5.o_ixL2 ?_)
local macro_rules | `(tactic| k_caughtC0) => `(tactic| first | with_reducible assumption | exact Nat.le_of_ble_eq_true rfl | with_reducible rfl | omega | with_reducible exact T5.G.lst_isK | with_reducible exact T5.G.lst_isK2 | with_reducible exact T5.G.lst_isK3 | (simp only [T5.cap, List.length_map, List.length_append, List.length_cons, List.length_nil, List.length_take, List.length_drop]; omega) | (refine And.intro ?_ ?_ <;> first | omega | decide) | decide)
local macro_rules | `(tactic| kts_caught) => `(tactic| first | with_reducible refine T5.o_eqI ?_ | with_reducible refine T5.o_neI ?_ | ((with_reducible refine T5.G.o_neRf ?h1 ?hk); (case h1 => first | with_reducible assumption | rfl)) | ((with_reducible refine T5.G.o_eqRf ?h1 ?hk); (case h1 => first | with_reducible assumption | rfl)) | with_reducible refine T5.G.o_lenTm ?_ | with_reducible refine T5.G.o_lenLm ?_ | with_reducible refine T5.G.o_lenLog ?_ | with_reducible refine T5.G.w_lstMk ?_ | with_reducible refine T5.G.w_mksI ?_)
section
variable {st : Store} {n : Int} {d : D} {l : List Ed} {K : D → Store → Prop} {X : String → List String → List D → Store → Prop} {m x : Int} {Ls Rs : List Int} {Q : SR → Prop}
theorem rp_row {l : List Int} (h : ∀ x ∈ l, -10 ≤ x ∧ x ≤ 3000) : Rp 2 l.length (dRow l) := by
  have := rp_tup (n := 1) (b := 0) (l := l.map D.int) fun y hy => by
    obtain ⟨x, hx, rfl⟩ := List.mem_map.mp hy
    have := h x hx
    exact rp_int ⟨by omega, by omega⟩
  rw [List.length_map, Nat.zero_add, Nat.mul_one] at this
  exact this
theorem dRow_inj {a b : List Int} (h : dRow a = dRow b) : a = b := by
  have h : a.map D.int = b.map D.int := D.tup.inj h
  exact (List.map_inj_right fun x y e => D.int.inj e).mp h
theorem sp_mkOk (h : RowsOk m Ls Rs) (hL : ∀ x ∈ Ls, -10 ≤ x ∧ x ≤ 3000) (hR : ∀ x ∈ Rs, -10 ≤ x ∧ x ≤ 3000) (hC : Cl st) (k : K (dChart m Ls Rs) st) : OnR (fin (mkF "Chart" f_Chart_init) [.int m, dRow Ls, dRow Rs] st) K X := by
  have m0 := h.m0
  have m1 := h.m1
  have rb : ∀ {l : List Int}, 1 ≤ l.length → l.length ≤ 101 → rowB (dRow l) = true := fun {l} h1 h2 => by
    show (decide (1 ≤ (l.map D.int).length ∧ (l.map D.int).length ≤ 101) && (l.map D.int).all isI) = true
    rw [List.length_map, decide_eq_true ⟨h1, h2⟩, Bool.true_and, List.all_eq_true]
    intro y hy
    obtain ⟨x, _, rfl⟩ := List.mem_map.mp hy
    rfl
  refine sp_mk (n1 := 0) (b1 := 0) (rp_int ⟨by omega, by omega⟩) (rp_row hL) (rp_row hR) hC (fun hb => ?_) (fun M Ls' Rs' i e1 _ _ e2 e3 _ _ _ hi hg _ => ?_) (fun M Ls' Rs' e1 _ _ e2 e3 _ _ _ _ => ?_)
  · rcases hb with hb | hb | hb | ⟨a, b, e1, e2, hb⟩
    · rw [show intB (.int m) 0 500 = true by simp [intB, m0, m1]] at hb
      cases hb
    · rw [rb h.l1 h.l2] at hb
      cases hb
    · rw [rb (by rw [← h.len]; exact h.l1) (by rw [← h.len]; exact h.l2)] at hb
      cases hb
    · cases e1
      cases e2
      rw [List.length_map, List.length_map] at hb
      exact absurd h.len hb
  · cases e1
    cases dRow_inj e2
    cases dRow_inj e3
    rw [h.gaps i hi] at hg
    cases hg
  · cases e1
    cases dRow_inj e2
    cases dRow_inj e3
    exact k
theorem lc_row {k : Nat} {lf : Bool} {env : DEnv} {w : List Nat} (h1 : env[1]? = some (some (dLog l))) (h4 : env.length = 5) (hw : .str w = dLean lf) (hn : k ≤ 1000) :
    lcLoop (gN 4) cYes (eCall f_carried (aCons (eVar 1) (aCons (eVar 4) (aCons (eC (.str w)) aNil)))) env (upTo 0 (k + 1)) [] st = .ok ((rowOf l k lf).map D.int) st := by
  have e := lc_mapP (enc := fun (i : Nat) => D.int (0 + (i : Int))) (env := env) (st := st) (g := gN 4) (ct := cYes) (me := eCall f_carried (aCons (eVar 1) (aCons (eVar 4) (aCons (eC (.str w)) aNil)))) (fun _ => true) (fun i => D.int (car l (i : Int) lf)) (xs := List.range (k + 1)) (acc := []) (fun i hi => by
    refine tg_n (setE_eq rfl (w_yes ⟨rfl, rfl, fun _ => ?_⟩))
    have v1 : (env.set 4 (some (.int (0 + (i : Int)))))[1]? = some (some (dLog l)) := by rw [List.getElem?_set_ne (by decide)]; exact h1
    have v4 : (env.set 4 (some (.int (0 + (i : Int)))))[4]? = some (some (.int (0 + (i : Int)))) := by rw [List.getElem?_set_self (by omega)]
    refine w_call (w_cons (w_var v1 (w_cons (w_var v4 (w_cons (w_c (w_nil ?_)))))))
    rw [hw]
    refine sp_carried ⟨rfl, ?_⟩
    rw [show (0 : Int) + (i : Int) = i by omega]) (by simp [cap]; omega)
  rw [List.filter_eq_self.mpr (fun _ _ => rfl), List.nil_append] at e
  unfold upTo
  rw [e]
  unfold rowOf
  rw [List.map_map]
  rfl
local macro_rules | `(tactic| kts_caught) => `(tactic| with_reducible refine T5.stp (p := OnR (eLc _ _ _ _ _ _ _) _ _) ?_)
theorem sp_cby (h : OkL l) (h0 : 0 ≤ n) (hn : n ≤ 100) (hC : Cl st) (k1 : Fits l n → K (dChart (grow l n) (rowOf l n.toNat true) (rowOf l n.toNat false)) st) (k2 : ∀ i, outAt l n = some i → X "OutOfText" ["place"] [.int (i : Nat)] st) : OnR (f_chart_by [.int n, dLog l] st) K X := by
  have ek : (n.toNat : Int) = n := by omega
  have en : (n + 1).toNat = n.toNat + 1 := by omega
  unfold f_chart_by
  refine f_runE (env := [some (.int n), some (dLog l), none, none, none]) rfl rfl ?_
  unfold b_chart_by
  tb_start
  refine sp_grown (fun f => ?_) fun i hi => ?_
  · have ce := c_end h.2 f
    have rb : ∀ {lf : Bool}, ∀ x ∈ rowOf l n.toNat lf, -10 ≤ x ∧ x ≤ 3000 := fun {lf} x hx => by
      obtain ⟨i, hi, rfl⟩ := List.mem_map.mp hx
      have hi := List.mem_range.mp hi
      have p1 := car_pos (lf := lf) h.2 (show (0 : Int) ≤ (i : Int) by omega)
      have p2 := car_le (lf := lf) h.2 f (show (i : Int) ≤ n by omega)
      have := ce.2.2
      have := h.1
      constructor <;> omega
    have ro : RowsOk (grow l n) (rowOf l n.toNat true) (rowOf l n.toNat false) := by
      have := rows_ok (n := n.toNat) h (by rw [ek]; exact f) (by omega)
      rw [ek] at this
      exact this
    tb_start
    refine w_lc ?_
    tb_start
    rw [en]
    refine ⟨_, _, lc_row (k := n.toNat) (lf := true) rfl rfl rfl (by omega), ?_⟩
    tb_start
    refine w_lc ?_
    tb_start
    rw [en]
    refine ⟨_, _, lc_row (k := n.toNat) (lf := false) rfl rfl rfl (by omega), ?_⟩
    tb_start
    refine sp_mkOk ro rb rb hC ?_
    tb_start
    exact k1 f
  · tb_start
    exact k2 i hi
end
end T5.G
namespace T5.G
open PySem PySem.Spec PyProof.Rows L2
local macro_rules | `(tactic| kts_caughtN) => `(tactic| first
  | ((with_reducible refine T5.G.sp_draw ?h1 ?h2 ?hk); (case h1 => k_caughtC0); (case h2 => k_caughtC0))
  | ((with_reducible refine T5.o_repr (b := ?b) ?h1 ?h2 ?hk); (case h1 => with_reducible assumption); (case h2 => decide))
  | ((with_reducible refine T5.o_isLst (n := ?n) (b := ?b) ?h1 ?hk); (case h1 => with_reducible assumption))
  | ((with_reducible refine T5.o_isTup (n := ?n) (b := ?b) ?h1 ?hk); (case h1 => with_reducible assumption)) | ((with_reducible refine T5.o_isStr (n := ?n) (b := ?b) ?h1 ?hk); (case h1 => with_reducible assumption))
  | ((with_reducible refine T5.o_isInt (n := ?n) (b := ?b) ?h1 ?hk); (case h1 => with_reducible assumption)) | ((with_reducible refine T5.o_isBool (n := ?n) (b := ?b) ?h1 ?hk); (case h1 => with_reducible assumption))
  | with_reducible refine T5.o_eqS ?_ | with_reducible refine T5.o_neS ?_ | with_reducible refine T5.G.o_appK ?_ | with_reducible refine T5.G.o_tupleK ?_ | with_reducible refine T5.G.o_appK2 ?_ | with_reducible refine T5.G.o_tupleK2 ?_ | with_reducible refine T5.G.o_appK3 ?_ | with_reducible refine T5.G.o_tupleK3 ?_ | with_reducible refine T5.G.o_pow29 ?_ | with_reducible refine T5.G.o_list ?_ | with_reducible refine T5.s_raise1 ?_ | with_reducible refine T5.w_one ?_
  | with_reducible refine T5.o_ixT0 ?_ | with_reducible refine T5.o_ixT1 ?_ | with_reducible refine T5.o_ixT2 ?_ | with_reducible refine T5.o_ixL0 ?_ | with_reducible refine T5.o_ixL1 ?_ | with_reducible refine T5.o_ixL2 ?_)
local macro_rules | `(tactic| k_caughtC0) => `(tactic| first | with_reducible assumption | exact Nat.le_of_ble_eq_true rfl | with_reducible rfl | omega | with_reducible exact T5.G.lst_isK | with_reducible exact T5.G.lst_isK2 | with_reducible exact T5.G.lst_isK3 | (simp only [T5.cap, List.length_map, List.length_append, List.length_cons, List.length_nil, List.length_take, List.length_drop]; omega) | (refine And.intro ?_ ?_ <;> first | omega | decide) | decide)
local macro_rules | `(tactic| kts_caught) => `(tactic| first | with_reducible refine T5.o_eqI ?_ | with_reducible refine T5.o_neI ?_ | ((with_reducible refine T5.G.o_neRf ?h1 ?hk); (case h1 => first | with_reducible assumption | rfl)) | ((with_reducible refine T5.G.o_eqRf ?h1 ?hk); (case h1 => first | with_reducible assumption | rfl)) | with_reducible refine T5.G.o_lenTm ?_ | with_reducible refine T5.G.o_lenLm ?_ | with_reducible refine T5.G.o_lenLog ?_ | with_reducible refine T5.G.w_lstMk ?_ | with_reducible refine T5.G.w_mksI ?_)
section
variable {st : Store} {n : Int} {c d : D} {k b k2 b2 : Nat} {l : List Ed} {env : DEnv} {K : D → Store → Prop} {X : String → List String → List D → Store → Prop} {m x : Int} {Ls Rs : List Int} {Q : SR → Prop}
theorem sp_cof (hc : Rp k b c) (hd : intB c 0 100 = true → Rp (k2 + 2) b2 d) (hC : Cl st) (q0 : intB c 0 100 = false → X "BadLength" ["given"] [c] st) (q1 : ∀ p, intB c 0 100 = true → due d = some p → X "BadLog" ["place"] [p] st)
    (q2 : ∀ m es i, c = .int m → d = dLog es → due d = none → (∀ e ∈ es, e.ok) → outAt es m = some i → X "OutOfText" ["place"] [.int (i : Nat)] st)
    (q3 : ∀ m es, c = .int m → d = dLog es → due d = none → (∀ e ∈ es, e.ok) → Fits es m → K (dChart (grow es m) (rowOf es m.toNat true) (rowOf es m.toNat false)) st) : OnR (f_chart_of [c, d] st) K X := by
  unfold f_chart_of
  refine f_runE (env := [some c, some d]) rfl rfl ?_
  unfold b_chart_of
  tb_start
  refine sp_needlen hc (fun e0 => ?_) fun e0 => ?_
  · obtain ⟨m, rfl, m0, m1⟩ := intB_int e0
    tb_start
    refine sp_needlog (hd e0) (fun e => ?_) fun p e => ?_
    · obtain ⟨es, rfl, hl, he⟩ := due_log e
      tb_start
      refine sp_cby ⟨hl, he⟩ m0 m1 hC (fun f => ?_) fun i hi => ?_
      · tb_start
        exact q3 m es rfl rfl e he f
      · tb_start
        exact q2 m es i rfl rfl e he hi
    · tb_start
      exact q1 p e0 e
  · tb_start
    exact q0 e0
theorem sp_cofOk (hn : 0 ≤ n ∧ n ≤ 100) (h : OkL l) (hf : Fits l n) (hC : Cl st) (q : K (dChart (grow l n) (rowOf l n.toNat true) (rowOf l n.toNat false)) st) : OnR (f_chart_of [.int n, dLog l] st) K X := by
  refine sp_cof (k2 := 7) (rpN hn) (fun _ => rp_log h.2 h.1) hC (fun e => by rw [intN hn] at e; cases e) (fun p _ e => due_ok h.2 h.1 e) (fun m es i e1 e2 _ _ e3 => ?_) fun m es e1 e2 _ _ _ => ?_
  · cases e1
    cases dLog_inj e2
    rw [outAt_fits.mpr hf] at e3
    cases e3
  · cases e1
    cases dLog_inj e2
    exact q
theorem sp_same (hc : Rp k b c) (hC : Cl st) (q0 : intB c 0 100 = false → X "BadLength" ["given"] [c] st) (q1 : ∀ m, c = .int m → 0 ≤ m → m ≤ 100 → K (dChart m (rowOf [] m.toNat true) (rowOf [] m.toNat false)) st) : OnR (f_same_chart [c] st) K X := by
  unfold f_same_chart
  refine f_runE (env := [some c]) rfl rfl ?_
  unfold b_same_chart
  tb_start
  refine sp_needlen hc (fun e0 => ?_) fun e0 => ?_
  · obtain ⟨m, rfl, m0, m1⟩ := intB_int e0
    tb_start
    refine sp_cby (l := []) ⟨by decide, fun e h => nomatch h⟩ m0 m1 hC (fun f => ?_) fun i hi => ?_
    · tb_start
      exact q1 m rfl m0 m1
    · cases hi
  · tb_start
    exact q0 e0
/-! ### what a chart tells of itself -/
theorem w_many {mo : ME} (h : OnR (mo env st) (fun d st1 => ∃ m a b, d = dChart m a b ∧ K (.int m) st1) X) : OnR (eProp "Chart" f_Chart_many mo env st) K X := by
  unfold eProp
  refine onR_bind (onR_imp h (fun d st1 h => ?_) fun _ _ _ _ h => h)
  obtain ⟨m, a, b, rfl, k⟩ := h
  exact k
theorem w_lefts {mo : ME} (h : OnR (mo env st) (fun d st1 => ∃ m a b, d = dChart m a b ∧ K (dRow a) st1) X) : OnR (eProp "Chart" f_Chart_lefts mo env st) K X := by
  unfold eProp
  refine onR_bind (onR_imp h (fun d st1 h => ?_) fun _ _ _ _ h => h)
  obtain ⟨m, a, b, rfl, k⟩ := h
  exact k
theorem w_rights {mo : ME} (h : OnR (mo env st) (fun d st1 => ∃ m a b, d = dChart m a b ∧ K (dRow b) st1) X) : OnR (eProp "Chart" f_Chart_rights mo env st) K X := by
  unfold eProp
  refine onR_bind (onR_imp h (fun d st1 h => ?_) fun _ _ _ _ h => h)
  obtain ⟨m, a, b, rfl, k⟩ := h
  exact k
theorem w_ch {P : Int → List Int → List Int → Prop} {m : Int} {a b : List Int} (h : P m a b) : ∃ m' a' b', dChart m a b = dChart m' a' b' ∧ P m' a' b' := ⟨m, a, b, rfl, h⟩
theorem w_ch2 {P : Int → List Int → List Int → Int → List Int → List Int → Prop} {m m2 : Int} {a b a2 b2 : List Int} (h : P m a b m2 a2 b2) : ∃ m' a' b' m2' a2' b2', dChart m a b = dChart m' a' b' ∧ dChart m2 a2 b2 = dChart m2' a2' b2' ∧ P m' a' b' m2' a2' b2' := ⟨m, a, b, m2, a2, b2, rfl, rfl, h⟩
theorem q_fldI {c f : String} {m : ME} {env : DEnv} {ks : List String} {vs : List D} {d : D} (h : m env st = .ok (.ins c ks vs) st) (hl : lookF f ks vs = some d) : eFld c f m env st = .ok d st := by
  unfold eFld
  rw [h]
  simp [insOf, hl]
theorem p_eq {m m' : Int} {a b a' b' : List Int} : f_Chart_eq [dChart m a b, dChart m' a' b'] st = .ok (.bl (decide (m = m' ∧ a = a' ∧ b = b'))) st := by
  have l1 : ∀ (i : Nat) (env : DEnv) (m : Int) (a b : List Int), env[i]? = some (some (dChart m a b)) → eFld "Chart" "own_many" (eVar i) env st = .ok (.int m) st ∧ eFld "Chart" "own_lefts" (eVar i) env st = .ok (.tup (a.map .int)) st ∧ eFld "Chart" "own_rights" (eVar i) env st = .ok (.tup (b.map .int)) st := fun i env m a b h =>
    ⟨q_fldI (q_var h) rfl, q_fldI (q_var h) rfl, q_fldI (q_var h) rfl⟩
  obtain ⟨x1, x2, x3⟩ := l1 0 [some (dChart m a b), some (dChart m' a' b')] m a b rfl
  obtain ⟨y1, y2, y3⟩ := l1 1 [some (dChart m a b), some (dChart m' a' b')] m' a' b' rfl
  have i1 : fIsiC "Chart" st [dChart m' a' b', .cls "Chart"] = some (.bl true) := rfl
  by_cases h1 : m = m'
  · subst h1
    by_cases h2 : a = a'
    · subst h2
      simp [f_Chart_eq, b_Chart_eq, z_Chart_eq_0, runF, x1, x2, x3, y1, y2, y3, i1, bTru]
    · simp [f_Chart_eq, b_Chart_eq, z_Chart_eq_0, runF, x1, x2, y1, y2, i1, bTru, h2]
  · simp [f_Chart_eq, b_Chart_eq, runF, x1, y1, i1, bTru, h1]
theorem w_eqD {ma mb : ME} (h : OnR (ma env st) (fun d1 st1 => OnR (mb env st1) (fun d2 st2 => ∃ m a b m' a' b', d1 = dChart m a b ∧ d2 = dChart m' a' b' ∧ K (.bl (decide (m = m' ∧ a = a' ∧ b = b'))) st2) X) X) : OnR (eEqD "Chart" f_Chart_eq ma mb env st) K X := by
  unfold eEqD
  refine onR_bind (onR_imp h (fun d1 st1 h => ?_) fun _ _ _ _ h => h)
  refine onR_bind (onR_imp h (fun d2 st2 h => ?_) fun _ _ _ _ h => h)
  obtain ⟨m, a, b, m', a', b', rfl, rfl, q⟩ := h
  show OnR (asBl (f_Chart_eq [dChart m a b, dChart m' a' b'] st2)) K X
  rw [p_eq]
  exact q
theorem w_neD {ma mb : ME} (h : OnR (ma env st) (fun d1 st1 => OnR (mb env st1) (fun d2 st2 => ∃ m a b m' a' b', d1 = dChart m a b ∧ d2 = dChart m' a' b' ∧ K (.bl (!decide (m = m' ∧ a = a' ∧ b = b'))) st2) X) X) : OnR (eNeD "Chart" f_Chart_eq ma mb env st) K X := by
  unfold eNeD
  refine onR_bind (onR_imp h (fun d1 st1 h => ?_) fun _ _ _ _ h => h)
  refine onR_bind (onR_imp h (fun d2 st2 h => ?_) fun _ _ _ _ h => h)
  obtain ⟨m, a, b, m', a', b', rfl, rfl, q⟩ := h
  show OnR (notBl (f_Chart_eq [dChart m a b, dChart m' a' b'] st2)) K X
  rw [p_eq]
  exact q
theorem w_tupRg {mo : ME} (h : OnR (mo env st) (fun d st1 => ∃ n : Int, d = .int n ∧ Sd (0 ≤ n ∧ n ≤ 10000) (K (.tup (upTo 0 n.toNat)) st1)) X) : OnR (eTupRg mo env st) K X := by
  unfold eTupRg
  refine onR_bind (onR_imp h (fun d st1 h => ?_) fun _ _ _ _ h => h)
  obtain ⟨n, rfl, ⟨h0, h1⟩, k⟩ := h
  have c : n ≤ cap ∧ -(2 ^ 62) ≤ n := by
    have : (cap : Int) = 16000000 := rfl
    omega
  show OnR (if n ≤ cap ∧ -(2 ^ 62) ≤ n then R.ok (D.tup (upTo 0 n.toNat)) st1 else .bad) K X
  rw [if_pos c]
  exact k
end
end T5.G
namespace T5.G
open PySem PySem.Spec PyProof.Rows L2
local macro_rules | `(tactic| kts_caughtN) => `(tactic| first
  | ((with_reducible refine T5.G.sp_draw ?h1 ?h2 ?hk); (case h1 => k_caughtC0); (case h2 => k_caughtC0))
  | ((with_reducible refine T5.o_repr (b := ?b) ?h1 ?h2 ?hk); (case h1 => with_reducible assumption); (case h2 => decide))
  | ((with_reducible refine T5.o_isLst (n := ?n) (b := ?b) ?h1 ?hk); (case h1 => with_reducible assumption))
  | ((with_reducible refine T5.o_isTup (n := ?n) (b := ?b) ?h1 ?hk); (case h1 => with_reducible assumption)) | ((with_reducible refine T5.o_isStr (n := ?n) (b := ?b) ?h1 ?hk); (case h1 => with_reducible assumption))
  | ((with_reducible refine T5.o_isInt (n := ?n) (b := ?b) ?h1 ?hk); (case h1 => with_reducible assumption)) | ((with_reducible refine T5.o_isBool (n := ?n) (b := ?b) ?h1 ?hk); (case h1 => with_reducible assumption))
  | with_reducible refine T5.o_eqS ?_ | with_reducible refine T5.o_neS ?_ | with_reducible refine T5.G.o_appK ?_ | with_reducible refine T5.G.o_tupleK ?_ | with_reducible refine T5.G.o_appK2 ?_ | with_reducible refine T5.G.o_tupleK2 ?_ | with_reducible refine T5.G.o_appK3 ?_ | with_reducible refine T5.G.o_tupleK3 ?_ | with_reducible refine T5.G.o_pow29 ?_ | with_reducible refine T5.G.o_list ?_ | with_reducible refine T5.s_raise1 ?_ | with_reducible refine T5.w_one ?_
  | with_reducible refine T5.o_ixT0 ?_ | with_reducible refine T5.o_ixT1 ?_ | with_reducible refine T5.o_ixT2 ?_ | with_reducible refine T5.o_ixL0 ?_ | with_reducible refine T5.o_ixL1 ?_ | with_reducible refine T5.o_ixL2 ?_)
local macro_rules | `(tactic| k_caughtC0) => `(tactic| first | with_reducible assumption | exact Nat.le_of_ble_eq_true rfl | with_reducible rfl | omega | with_reducible exact T5.G.lst_isK | with_reducible exact T5.G.lst_isK2 | with_reducible exact T5.G.lst_isK3 | (simp only [T5.cap, List.length_map, List.length_append, List.length_cons, List.length_nil, List.length_take, List.length_drop]; omega) | (refine And.intro ?_ ?_ <;> first | omega | decide) | decide)
local macro_rules | `(tactic| kts_caught) => `(tactic| first | with_reducible refine T5.o_eqI ?_ | with_reducible refine T5.o_neI ?_ | ((with_reducible refine T5.G.o_neRf ?h1 ?hk); (case h1 => first | with_reducible assumption | rfl)) | ((with_reducible refine T5.G.o_eqRf ?h1 ?hk); (case h1 => first | with_reducible assumption | rfl)) | with_reducible refine T5.G.o_lenTm ?_ | with_reducible refine T5.G.o_lenLm ?_ | with_reducible refine T5.G.o_lenLog ?_ | with_reducible refine T5.G.w_lstMk ?_ | with_reducible refine T5.G.w_mksI ?_)
/-! ### two writers, told forwards -/
section
variable {st : Store} {K : D → Store → Prop} {X : String → List String → List D → Store → Prop} {Q : SR → Prop} {a b : Ed} {d : D}
theorem w_revL {env : DEnv} {mo : ME} (h : OnR (mo env st) (fun d st1 => ∃ l, d = .lst l ∧ K (.lst l.reverse) st1) X) : OnR (eRev mo env st) K X := by
  unfold eRev
  refine onR_bind (onR_imp h (fun d st1 h => ?_) fun _ _ _ _ h => h)
  obtain ⟨l, rfl, k⟩ := h
  exact k
theorem sp_gapb {e : Ed} {x : Int} {lf : Bool} (k : K (.int (gapB e x lf)) st) : OnR (f_gap_behind [e.d, .int x, dLean lf] st) K X := onR_eq (p_gap_behind e x lf) k
theorem kept_filter {g m : Int} : ∀ (k : Nat) (b : Int), (((List.range k).map fun (i : Nat) => b + (i : Int)).filter fun x => !(decide (g ≤ x) && decide (x < g + m))).length = kept g m b k
  | 0, _ => rfl
  | k + 1, b => by
    have ih := kept_filter (g := g) (m := m) k (b + 1)
    rw [List.range_succ_eq_map, List.map_cons, List.map_map]
    have e : ((fun (i : Nat) => b + (i : Int)) ∘ Nat.succ) = fun (i : Nat) => b + 1 + (i : Int) := by
      funext i
      show b + ((i + 1 : Nat) : Int) = _
      omega
    rw [e]
    unfold kept
    rw [← ih, List.filter_cons]
    by_cases z : g ≤ b ∧ b < g + m
    · rw [if_pos z]
      have : (!(decide (g ≤ b + ((0 : Nat) : Int)) && decide (b + ((0 : Nat) : Int) < g + m))) = false := by simp; omega
      rw [if_neg (by rw [this]; decide)]
      omega
    · rw [if_neg z]
      have : (!(decide (g ≤ b + ((0 : Nat) : Int)) && decide (b + ((0 : Nat) : Int) < g + m))) = true := by simp; omega
      rw [if_pos this, List.length_cons]
      omega
def dPc (p : Int × Int) : D := .tup [.int p.1, .int p.2]
theorem sp_still (hm : 0 ≤ a.m) (hm2 : a.m ≤ 100) (hg : -10000 ≤ a.g ∧ a.g ≤ 10000) (k : K (.lst ((still a b).map dPc)) st) : OnR (f_still_there [a.d, b.d] st) K X := by
  obtain ⟨i, g, m⟩ := a
  obtain ⟨j, h, n⟩ := b
  simp only at hm hm2 hg
  unfold f_still_there
  refine f_runE (env := [some (Ed.mk i g m).d, some (Ed.mk j h n).d, none, none, none, none, none, none, none]) rfl rfl ?_
  unfold b_still_there
  unfold still at k
  unfold Ed.d at *
  dsimp only at *
  tb_start
  cases j
  · simp only [Bool.false_eq_true, if_false] at k ⊢
    tb_start
    have e := lc_mapP (enc := D.int) (env := wipeD [some (D.tup [if i = true then sIN else sOUT, D.int g, D.int m]), some (D.tup [sOUT, D.int h, D.int n]), some sOUT, some (D.int h), some (D.int n), some (D.int g), some (D.int (g + m)), none, none] [8]) (st := st) (g := gN 8) (ct := (cNot (cBool (eChain bLe bLt (eVar 3) (eVar 8) (eBin bAdd (eVar 3) (eVar 4)))))) (me := eVar 8) (fun x => !(decide (h ≤ x) && decide (x < h + n))) (fun x => D.int x) (xs := (List.range m.toNat).map fun (i : Nat) => g + (i : Int)) (acc := []) (fun x hx => by
      by_cases z1 : h ≤ x <;> by_cases z2 : x < h + n <;> simp only [z1, z2, decide_true, decide_false, Bool.and_true, Bool.and_false, Bool.not_true, Bool.not_false]
      all_goals tb_start
      all_goals refine ⟨rfl, by first | rfl | simp [z2], fun z => ?_⟩
      all_goals tb_start
      all_goals exact ⟨rfl, rfl⟩) (by simp [cap]; omega)
    refine w_lc ?_
    tb_start
    have e2 : ((List.range m.toNat).map fun (i : Nat) => g + (i : Int)).map D.int = upTo g (g + m - g).toNat := by
      rw [List.map_map, show g + m - g = m by omega]
      rfl
    rw [e2] at e
    refine ⟨_, _, e, ?_⟩
    tb_start
    rw [List.nil_append, List.length_map, kept_filter]
    tb_start
    generalize kept h n g m.toNat = c at *
    by_cases z : 0 < c
    · rw [if_pos z] at k
      have z' : (0 : Int) < (c : Int) := by omega
      tb_start
      refine sp_gapb (e := ⟨false, h, n⟩) (lf := true) ?_
      tb_start
      exact k
    · rw [if_neg z] at k
      have z' : ¬ (0 : Int) < (c : Int) := by omega
      tb_start
      exact k
  · simp only [if_true] at k ⊢
    by_cases z1 : g < h <;> by_cases z2 : h < g + m <;> by_cases z3 : h ≤ g <;> simp only [z1, z2, z3, and_self, and_true, and_false, if_true, if_false] at k <;> first | omega | skip
    all_goals tb_start
    all_goals exact k
theorem sp_doneb {f : Bool} (hm : 0 ≤ a.m) (hm2 : a.m ≤ 100) (hg : -10000 ≤ a.g ∧ a.g ≤ 10000) (hl : (bhd a b f).length ≤ 2) (k : K (dLog (bhd a b f)) st) : OnR (f_done_behind [a.d, b.d, .bl f] st) K X := by
  unfold f_done_behind
  refine f_runE (env := [some a.d, some b.d, some (.bl f), none, none]) rfl rfl ?_
  unfold b_done_behind
  obtain ⟨i, g, m⟩ := a
  cases i
  · unfold Ed.d
    dsimp only
    simp only [Bool.false_eq_true, if_false]
    tb_start
    refine w_lc ?_
    refine i_seq (w_revL ?_)
    tb_start
    refine sp_still (a := ⟨false, g, m⟩) hm hm2 hg ?_
    refine ⟨_, rfl, seqE_l ?_⟩
    rw [← List.map_reverse]
    have e := lc_mapP (enc := dPc) (env := wipeD [some (D.tup [sOUT, D.int g, D.int m]), some (D.tup [if b.i = true then sIN else sOUT, D.int b.g, D.int b.m]), some (D.bl f), none, none] [3, 4]) (st := st) (g := (gT (gsCons (gN 3) (gsCons (gN 4) gsNil)))) (ct := cYes) (me := (eTup (aCons (eC (D.str [111, 117, 116])) (aCons (eVar 3) (aCons (eVar 4) aNil))))) (fun _ => true) (fun p => (Ed.mk false p.1 p.2).d) (xs := (still ⟨false, g, m⟩ b).reverse) (acc := []) (fun z hz => by
      obtain ⟨u, v⟩ := z
      unfold dPc Ed.d
      dsimp only
      simp only [wipeD, Bool.false_eq_true, if_false, List.set_cons_succ, List.set_cons_zero]
      tb_start
      refine w_yes ⟨rfl, rfl, fun _ => ?_⟩
      tb_start
      exact ⟨rfl, rfl⟩) (by
      have : (bhd ⟨false, g, m⟩ b f).length = (still ⟨false, g, m⟩ b).reverse.length := by
        unfold bhd
        rw [if_neg Bool.false_ne_true, List.length_map]
      rw [List.length_nil, ← this, cap]
      omega)
    rw [List.filter_eq_self.mpr (fun _ _ => rfl), List.nil_append] at e
    have r : D.tup ((still ⟨false, g, m⟩ b).reverse.map fun p => (Ed.mk false p.1 p.2).d) = dLog (bhd ⟨false, g, m⟩ b f) := by
      unfold dLog bhd
      rw [if_neg Bool.false_ne_true, List.map_map]
      rfl
    refine ⟨_, _, e, ?_⟩
    tb_start
    rw [r]
    exact k
  · unfold Ed.d
    dsimp only
    simp only [if_true]
    tb_start
    have r : ∀ f, D.tup [.tup [sIN, .int (gapB b g f), .int m]] = dLog (bhd ⟨true, g, m⟩ b f) := fun f => rfl
    refine onB_any (fun z => ?_) fun z => ?_
    · subst z
      tb_start
      refine sp_gapb (e := b) (lf := true) ?_
      tb_start
      rw [r]
      exact k
    · subst z
      tb_start
      refine sp_gapb (e := b) (lf := false) ?_
      tb_start
      rw [r]
      exact k
theorem ok_okE (h : a.ok) : okE a := ⟨h.1, h.2.2⟩
theorem sp_bways {x y : D} {n1 b1 n2 b2 : Nat} (hx : Rp (n1 + 1) b1 x) (hy : edB x = true → Rp (n2 + 1) b2 y) (k0 : edB x = false → X "BadEdit" ["given"] [x] st) (k1 : edB x = true → edB y = false → X "BadEdit" ["given"] [y] st)
    (k : ∀ a b, x = a.d → y = b.d → a.ok → b.ok → K (.tup [dLog (wayA a b), dLog (wayB a b)]) st) : OnR (f_both_ways [x, y] st) K X := by
  unfold f_both_ways
  refine f_runE (env := [some x, some y]) rfl rfl ?_
  unfold b_both_ways
  tb_start
  refine sp_needed hx (fun e1 => ?_) fun e1 => ?_
  · tb_start
    refine sp_needed (hy e1) (fun e2 => ?_) fun e2 => ?_
    · obtain ⟨a, rfl, ha⟩ := edB_ed e1
      obtain ⟨b, rfl, hb⟩ := edB_ed e2
      obtain ⟨oa, la⟩ := bhd_ok (ok_okE hb) (ok_okE ha) false
      obtain ⟨ob, lb⟩ := bhd_ok (ok_okE ha) (ok_okE hb) true
      obtain ⟨a1, a2, a3, a4⟩ := ha
      obtain ⟨c1, c2, c3, c4⟩ := hb
      tb_start
      refine sp_doneb (by omega) (by omega) ⟨by omega, by omega⟩ la ?_
      tb_start
      have e1 : ∀ (e : Ed) l, D.tup ([e.d] ++ l.map Ed.d) = dLog (e :: l) := fun _ _ => rfl
      refine o_addT ⟨by simp [cap]; omega, ?_⟩
      rw [e1]
      tb_start
      refine sp_doneb (by omega) (by omega) ⟨by omega, by omega⟩ lb ?_
      tb_start
      refine o_addT ⟨by simp [cap]; omega, ?_⟩
      rw [e1]
      tb_start
      exact k a b rfl rfl ⟨a1, a2, a3, a4⟩ ⟨c1, c2, c3, c4⟩
    · tb_start
      exact k1 e1 e2
  · tb_start
    exact k0 e1
theorem o_anyB {α : Type} {f : α → Bool} {l : List α} {st : Store} {K : D → Prop} (k : K (.bl (l.any f))) : OnO (fAny st [.lst (l.map fun x => D.bl (f x))]) K := by
  refine ⟨_, ?_, k⟩
  unfold fAny
  show Option.map _ (blsD (l.map fun x => D.bl (f x))) = _
  rw [blsD_map]
  simp
theorem reach_0 {l : List Ed} (h : ∀ e ∈ l, 0 ≤ e.g ∧ e.g ≤ 10000 ∧ 1 ≤ e.m ∧ e.m ≤ 9) : 0 ≤ reach l 0 0 := (reach_bound (B := 10000) h).2
/-- where two ways part, up to a length -/
def prt (A B : List Ed) (N : Int) (lf : Bool) : Bool := (List.range (N + 1).toNat).any fun (i : Nat) => !decide (car A (i : Int) lf = car B (i : Int) lf)
theorem prt_t {A B : List Ed} {N x : Int} {lf : Bool} (h0 : 0 ≤ x) (h1 : x ≤ N) (h : car A x lf ≠ car B x lf) : prt A B N lf = true := by
  unfold prt
  refine List.any_eq_true.mpr ⟨x.toNat, List.mem_range.mpr (by omega), ?_⟩
  rw [Int.toNat_of_nonneg h0]
  simp [h]
theorem prt_f {A B : List Ed} {N : Int} {lf : Bool} (h : ∀ x, car A x lf = car B x lf) : prt A B N lf = false := by
  unfold prt
  refine List.any_eq_false.mpr fun i _ => ?_
  simp [h]
abbrev eWa (a b : Ed) (A B : List Ed) (N : Int) (o5 o6 : Option D) : DEnv := [some a.d, some b.d, some (dLog A), some (dLog B), some (.int N), o5, o6]
theorem lc_part {a b : Ed} {A B : List Ed} {N : Int} {lf : Bool} {w : List Nat} (hw : .str w = dLean lf) (h0 : 0 ≤ N) (hN : N ≤ 5000) {o6 : Option D} : lcLoop (gN 6) cYes (eBin bNe (eCall f_carried (aCons (eVar 2) (aCons (eVar 6) (aCons (eVar 5) aNil)))) (eCall f_carried (aCons (eVar 3) (aCons (eVar 6) (aCons (eVar 5) aNil))))) (wipeD (eWa a b A B N (some (.str w)) o6) [6]) (upTo 0 (N + 1).toNat) [] st = .ok ((List.range (N + 1).toNat).map fun (i : Nat) => D.bl (!decide (car A (i : Int) lf = car B (i : Int) lf))) st := by
  have e := lc_mapP (enc := fun (i : Nat) => D.int (0 + (i : Int))) (env := wipeD (eWa a b A B N (some (.str w)) o6) [6]) (st := st) (g := gN 6) (ct := cYes) (me := eBin bNe (eCall f_carried (aCons (eVar 2) (aCons (eVar 6) (aCons (eVar 5) aNil)))) (eCall f_carried (aCons (eVar 3) (aCons (eVar 6) (aCons (eVar 5) aNil))))) (fun _ => true) (fun i => D.bl (!decide (car A (i : Int) lf = car B (i : Int) lf))) (xs := List.range (N + 1).toNat) (acc := []) (fun z hz => by
    tb_start
    refine w_yes ⟨rfl, rfl, fun _ => ?_⟩
    rw [hw, Int.zero_add]
    tb_start
    refine sp_carried ?_
    tb_start
    refine sp_carried ?_
    tb_start
    exact ⟨rfl, rfl⟩) (by rw [List.length_nil, List.length_range, cap]; omega)
  rw [List.filter_eq_self.mpr (fun _ _ => rfl), List.nil_append] at e
  exact e
local macro_rules | `(tactic| kts_caught) => `(tactic| with_reducible refine T5.stp (p := OnR (eLc _ _ _ _ _ _ _) _ _) ?_)
theorem sp_walike {x y : D} {n1 b1 n2 b2 : Nat} (hx : Rp (n1 + 1) b1 x) (hy : edB x = true → Rp (n2 + 1) b2 y) (k0 : edB x = false → X "BadEdit" ["given"] [x] st) (k1 : edB x = true → edB y = false → X "BadEdit" ["given"] [y] st)
    (k : ∀ a b, x = a.d → y = b.d → a.ok → b.ok → K (.bl (isSo a b)) st) : OnR (f_ways_alike [x, y] st) K X := by
  unfold f_ways_alike
  refine f_runE (env := [some x, some y, none, none, none, none, none]) rfl rfl ?_
  unfold b_ways_alike
  tb_start
  refine sp_bways hx hy (fun e => ?_) (fun e1 e2 => ?_) fun a b ea eb ha hb => ?_
  · tb_start
    exact k0 e
  · tb_start
    exact k1 e1 e2
  have kk := k a b ea eb ha hb
  subst ea eb
  have a0 := ok_okE ha
  have b0 := ok_okE hb
  have fa : fitE a 2000 := by unfold fitE; obtain ⟨h1, h2, h3, h4⟩ := ha; split <;> omega
  have fb : fitE b 2000 := by unfold fitE; obtain ⟨h1, h2, h3, h4⟩ := hb; split <;> omega
  obtain ⟨f1, f2, _⟩ := ways_fit a0 b0 fa fb
  have r1 : reach (wayA a b) 0 0 ≤ 2000 := reach_fits.mpr ⟨by omega, f1⟩
  have r2 : reach (wayB a b) 0 0 ≤ 2000 := reach_fits.mpr ⟨by omega, f2⟩
  have bd : ∀ a b : Ed, a.ok → b.ok → ∀ f, ∀ e ∈ a :: bhd b a f, 0 ≤ e.g ∧ e.g ≤ 10000 ∧ 1 ≤ e.m ∧ e.m ≤ 9 := fun a b ha hb f e he => by
    obtain ⟨h1, h2, h3, h4⟩ := ha
    rcases List.mem_cons.mp he with rfl | he
    · exact ⟨h1, by omega, h3, h4⟩
    · have := (bhd_ok (ok_okE hb) (ok_okE ⟨h1, h2, h3, h4⟩) f).1 e he
      obtain ⟨k1, k2, k3, k4⟩ := hb
      omega
  have z1 : 0 ≤ reach (wayA a b) 0 0 := reach_0 (bd a b ha hb false)
  have z2 : 0 ≤ reach (wayB a b) 0 0 := reach_0 (bd b a hb ha true)
  have part : isSo a b = false → ∀ N, reach (wayA a b) 0 0 ≤ N → reach (wayB a b) 0 0 ≤ N → prt (wayA a b) (wayB a b) N true = true ∨ prt (wayA a b) (wayB a b) N false = true := fun h N n1 n2 => by
    obtain ⟨x, lf, x0, x1, ne⟩ := ways_part a0 b0 h
    have g1 := (reach_fits.mp n1).2.1
    have g2 := (reach_fits.mp n2).2.1
    have : x ≤ N := by
      rcases x1 with ⟨i, x1⟩ | ⟨i, x1⟩
      · rw [i] at g1
        simp only [Bool.false_eq_true, if_false] at g1
        omega
      · rw [i] at g2
        simp only [Bool.false_eq_true, if_false] at g2
        omega
    cases lf
    · exact .inr (prt_t x0 this ne)
    · exact .inl (prt_t x0 this ne)
  have same : isSo a b = true → ∀ N lf, prt (wayA a b) (wayB a b) N lf = false := fun h N lf => prt_f fun x => ways_so a0 b0 h
  generalize wayA a b = A at *
  generalize wayB a b = B at *
  tb_start
  refine sp_reachof ?_
  tb_start
  refine sp_reachof ?_
  tb_start
  have n1 : reach A 0 0 ≤ maxI (reach A 0 0) (reach B 0 0) ∧ reach B 0 0 ≤ maxI (reach A 0 0) (reach B 0 0) ∧ maxI (reach A 0 0) (reach B 0 0) ≤ 2000 := by unfold maxI; split <;> omega
  generalize maxI (reach A 0 0) (reach B 0 0) = N at *
  have bad : ∀ lf, prt A B N lf = true → K (.bl false) st := fun lf z => by
    have : isSo a b = false := by
      cases h : isSo a b
      · rfl
      · rw [same h N lf] at z
        cases z
    rw [this] at kk
    exact kk
  refine l_cons ?_
  tb_start
  refine w_lc ?_
  tb_start
  refine ⟨_, _, lc_part (lf := true) rfl (by omega) (by omega), ?_⟩
  tb_start
  refine o_anyB ?_
  change OnO (bTru st (.bl (prt A B N true))) _
  tb_start
  refine onB_any (fun z => ?_) fun z => ?_
  · tb_start
    exact bad _ z
  tb_start
  refine l_cons ?_
  tb_start
  refine w_lc ?_
  tb_start
  refine ⟨_, _, lc_part (lf := false) rfl (by omega) (by omega), ?_⟩
  tb_start
  refine o_anyB ?_
  change OnO (bTru st (.bl (prt A B N false))) _
  tb_start
  refine onB_any (fun z2 => ?_) fun z2 => ?_
  · tb_start
    exact bad _ z2
  tb_start
  refine l_nil ?_
  tb_start
  have : isSo a b = true := by
    cases h : isSo a b
    · rcases part h N n1.1 n1.2.1 with q | q
      · rw [z] at q; cases q
      · rw [z2] at q; cases q
    · rfl
  rw [this] at kk
  exact kk
end
end T5.G
namespace T5.G
open PySem PySem.Spec PyProof.Rows L2
/-- what is made of a refusal -/
def XH (K : D → Store → Prop) (c : String) (ks : List String) (vs : List D) (s : Store) : Prop := (c = "BadEdit" ∧ ks = ["given"] ∧ ∃ p0, vs = [p0] ∧ K (.lst [.str [101, 100, 105, 116], p0]) s) ∨ (c = "BadLength" ∧ ks = ["given"] ∧ ∃ p0, vs = [p0] ∧ K (.lst [.str [108, 101, 110, 103, 116, 104], p0]) s) ∨ (c = "OutOfText" ∧ ks = ["place"] ∧ ∃ p0, vs = [p0] ∧ K (.lst [.str [111, 117, 116], p0]) s) ∨ (c = "BadChart" ∧ ks = ["place"] ∧ ∃ p0, vs = [p0] ∧ K (.lst [.str [99, 104, 97, 114, 116], p0]) s) ∨ (c = "BadLog" ∧ ks = ["place"] ∧ ∃ p0, vs = [p0] ∧ K (.lst [.str [108, 111, 103], p0]) s)
theorem xh_BadEdit {K : D → Store → Prop} {p0 : D} {s : Store} (k : K (.lst [.str [101, 100, 105, 116], p0]) s) : XH K "BadEdit" ["given"] [p0] s := .inl ⟨rfl, rfl, _, rfl, k⟩
theorem xh_BadLength {K : D → Store → Prop} {p0 : D} {s : Store} (k : K (.lst [.str [108, 101, 110, 103, 116, 104], p0]) s) : XH K "BadLength" ["given"] [p0] s := .inr (.inl ⟨rfl, rfl, _, rfl, k⟩)
theorem xh_OutOfText {K : D → Store → Prop} {p0 : D} {s : Store} (k : K (.lst [.str [111, 117, 116], p0]) s) : XH K "OutOfText" ["place"] [p0] s := .inr (.inr (.inl ⟨rfl, rfl, _, rfl, k⟩))
theorem xh_BadChart {K : D → Store → Prop} {p0 : D} {s : Store} (k : K (.lst [.str [99, 104, 97, 114, 116], p0]) s) : XH K "BadChart" ["place"] [p0] s := .inr (.inr (.inr (.inl ⟨rfl, rfl, _, rfl, k⟩)))
theorem xh_BadLog {K : D → Store → Prop} {p0 : D} {s : Store} (k : K (.lst [.str [108, 111, 103], p0]) s) : XH K "BadLog" ["place"] [p0] s := .inr (.inr (.inr (.inr (⟨rfl, rfl, _, rfl, k⟩))))
/-- a call heard -/
theorem w_h {mE : ME} {env : DEnv} {st : Store} {K : D → Store → Prop} {X : String → List String → List D → Store → Prop} (h : OnR (mE env st) (fun _ s => K (.str [116, 111, 108, 100]) s) (XH K)) : OnR (eHeard h__law_heard mE env st) K X := by
  unfold eHeard h__law_heard
  cases e : mE env st with
  | ok a s =>
    rw [e] at h
    simp only [e]
    exact h
  | bad => rw [e] at h; exact h.elim
  | ex c ks vs s =>
    rw [e] at h
    simp only [e]
    unfold OnR XH at h
    rcases h with ⟨rfl, rfl, p0, rfl, k⟩ | ⟨rfl, rfl, p0, rfl, k⟩ | ⟨rfl, rfl, p0, rfl, k⟩ | ⟨rfl, rfl, p0, rfl, k⟩ | ⟨rfl, rfl, p0, rfl, k⟩
    all_goals exact k
end T5.G
namespace T5.G
open PySem PySem.Spec PyProof.Rows L2
local macro_rules | `(tactic| kts_caughtN) => `(tactic| first
  | ((with_reducible refine T5.G.sp_draw ?h1 ?h2 ?hk); (case h1 => k_caughtC0); (case h2 => k_caughtC0))
  | ((with_reducible refine T5.o_repr (b := ?b) ?h1 ?h2 ?hk); (case h1 => with_reducible assumption); (case h2 => decide))
  | ((with_reducible refine T5.o_isLst (n := ?n) (b := ?b) ?h1 ?hk); (case h1 => with_reducible assumption))
  | ((with_reducible refine T5.o_isTup (n := ?n) (b := ?b) ?h1 ?hk); (case h1 => with_reducible assumption)) | ((with_reducible refine T5.o_isStr (n := ?n) (b := ?b) ?h1 ?hk); (case h1 => with_reducible assumption))
  | ((with_reducible refine T5.o_isInt (n := ?n) (b := ?b) ?h1 ?hk); (case h1 => with_reducible assumption)) | ((with_reducible refine T5.o_isBool (n := ?n) (b := ?b) ?h1 ?hk); (case h1 => with_reducible assumption))
  | with_reducible refine T5.o_eqS ?_ | with_reducible refine T5.o_neS ?_ | with_reducible refine T5.G.o_appK ?_ | with_reducible refine T5.G.o_tupleK ?_ | with_reducible refine T5.G.o_appK2 ?_ | with_reducible refine T5.G.o_tupleK2 ?_ | with_reducible refine T5.G.o_appK3 ?_ | with_reducible refine T5.G.o_tupleK3 ?_ | with_reducible refine T5.G.o_pow29 ?_ | with_reducible refine T5.G.o_list ?_ | with_reducible refine T5.s_raise1 ?_ | with_reducible refine T5.w_one ?_
  | with_reducible refine T5.o_ixT0 ?_ | with_reducible refine T5.o_ixT1 ?_ | with_reducible refine T5.o_ixT2 ?_ | with_reducible refine T5.o_ixL0 ?_ | with_reducible refine T5.o_ixL1 ?_ | with_reducible refine T5.o_ixL2 ?_)
local macro_rules | `(tactic| k_caughtC0) => `(tactic| first | with_reducible assumption | exact Nat.le_of_ble_eq_true rfl | with_reducible rfl | omega | with_reducible exact T5.G.lst_isK | with_reducible exact T5.G.lst_isK2 | with_reducible exact T5.G.lst_isK3 | (simp only [T5.cap, List.length_map, List.length_append, List.length_cons, List.length_nil, List.length_take, List.length_drop]; omega) | (refine And.intro ?_ ?_ <;> first | omega | decide) | decide)
local macro_rules | `(tactic| kts_caught) => `(tactic| first | with_reducible refine T5.o_eqI ?_ | with_reducible refine T5.o_neI ?_ | ((with_reducible refine T5.G.o_neRf ?h1 ?hk); (case h1 => first | with_reducible assumption | rfl)) | ((with_reducible refine T5.G.o_eqRf ?h1 ?hk); (case h1 => first | with_reducible assumption | rfl)) | with_reducible refine T5.G.o_lenTm ?_ | with_reducible refine T5.G.o_lenLm ?_ | with_reducible refine T5.G.o_lenLog ?_ | with_reducible refine T5.G.w_lstMk ?_ | with_reducible refine T5.G.w_mksI ?_)
/-! ### equal rows; a drawn edit -/
theorem shL_of {k : Nat} {l : List D} (h : ∀ x ∈ l, shD k x = true) : shL k l = true := by
  have := shL_map (enc := id) (k := k) (l := l) h
  rwa [List.map_id] at this
theorem eqL_ints {a b : List Int} : eqL (a.map D.int) (b.map D.int) = decide (a = b) := eqL_map (fun x y => by simp [eqD]) a b
theorem sh_row {l : List Int} {k : Nat} : shD (k + 1) (dRow l) = true := by
  show shL k (l.map D.int) = true
  exact shL_map fun x _ => by cases k <;> rfl
theorem sh_own3 {l : List Ed} {n : Nat} : shD 64 (dOwn l n) = true := by
  show (shD 63 (.int (grow l n)) && (shD 63 (dRow _) && (shD 63 (dRow _) && true))) = true
  rw [sh_row, sh_row]
  rfl
theorem eq_own3 {a b : List Ed} {n : Nat} : eqD (dOwn a n) (dOwn b n) = decide (grow a n = grow b n ∧ rowOf a n true = rowOf b n true ∧ rowOf a n false = rowOf b n false) := by
  show (decide (grow a n = grow b n) && (eqL ((rowOf a n true).map D.int) ((rowOf b n true).map D.int) && (eqL ((rowOf a n false).map D.int) ((rowOf b n false).map D.int) && true))) = _
  rw [eqL_ints, eqL_ints, Bool.and_true, ← Bool.decide_and, ← Bool.decide_and]
theorem rng_law0 {ns : List Int} {d : D} {env : DEnv} {st : Store} {a : Int} {K : List D → Store → Prop} {X : String → List String → List D → Store → Prop} (hd : isScr ns d) (ha : 0 ≤ a ∧ a ≤ 100) (k : ∀ j : Nat, K (upTo 0 j) st) :
    OnR (iRng1 (aCons (eBin bAdd (eC (.int a)) (eCB fMin (aCons (eC (.int 60)) (aCons (eCB fLen (aCons (eVar 0) aNil)) aNil)))) aNil) (some d :: env) st) K X := by
  have bd : ∀ n : Nat, -(2 ^ 62) ≤ a + minI 60 (n : Int) ∧ a + minI 60 (n : Int) < 2 ^ 62 := fun n => by
    have : 0 ≤ minI 60 (n : Int) ∧ minI 60 (n : Int) ≤ 60 := by unfold minI; split <;> omega
    omega
  rcases hd with rfl | rfl
  · tb_start
    refine sd_mk (bd _) ?_
    exact k _
  · tb_start
    refine sd_mk (bd _) ?_
    exact k _
section
variable {s : LS} {Y : Store} {K : D → Store → Prop} {X : String → List String → List D → Store → Prop} {n : Int}
theorem sp_ledit (h0 : 0 ≤ n) (h1 : n ≤ 900) (k : ∀ e s', okE e → e.g ≤ n → fitE e n → K e.d (mks s' Y)) : OnR (f__law_edit [.obj 0, .int n] (mks s Y)) K X := by
  unfold f__law_edit
  refine f_runE (env := [some (.obj 0), some (.int n), none, none]) rfl rfl ?_
  unfold b__law_edit
  tb_start
  intro g s1 g0 g1
  tb_start
  intro m s2 m0 m1
  tb_start
  intro c s3 c0 c1
  have ins : ∀ s, K (D.tup [.str [105, 110], .int g, .int (1 + m)]) (mks s Y) := fun s => k ⟨true, g, 1 + m⟩ s ⟨g0, by simp only; omega, by simp only; omega⟩ (by simp only; omega) (by simp only [fitE, if_true]; omega)
  tb_start
  refine onB_dec (fun z => ?_) fun z => ?_
  · tb_start
    refine onB_dec (fun z => ?_) fun z => ?_
    · tb_start
      have : 1 ≤ minI (1 + m) (n - g) ∧ minI (1 + m) (n - g) ≤ 9 ∧ minI (1 + m) (n - g) ≤ n - g := by unfold minI; split <;> omega
      exact k ⟨false, g, minI (1 + m) (n - g)⟩ s3 ⟨g0, this.1, this.2.1⟩ (by simp only; omega) (by simp only [fitE, Bool.false_eq_true, if_false]; omega)
    · tb_start
      exact ins _
  · tb_start
    exact ins _
end
end T5.G
namespace T5.G
open PySem PySem.Spec PyProof.Rows L2
local macro_rules | `(tactic| kts_caughtN) => `(tactic| first
  | ((with_reducible refine T5.G.sp_draw ?h1 ?h2 ?hk); (case h1 => k_caughtC0); (case h2 => k_caughtC0))
  | ((with_reducible refine T5.o_repr (b := ?b) ?h1 ?h2 ?hk); (case h1 => with_reducible assumption); (case h2 => decide))
  | ((with_reducible refine T5.o_isLst (n := ?n) (b := ?b) ?h1 ?hk); (case h1 => with_reducible assumption))
  | ((with_reducible refine T5.o_isTup (n := ?n) (b := ?b) ?h1 ?hk); (case h1 => with_reducible assumption)) | ((with_reducible refine T5.o_isStr (n := ?n) (b := ?b) ?h1 ?hk); (case h1 => with_reducible assumption))
  | ((with_reducible refine T5.o_isInt (n := ?n) (b := ?b) ?h1 ?hk); (case h1 => with_reducible assumption)) | ((with_reducible refine T5.o_isBool (n := ?n) (b := ?b) ?h1 ?hk); (case h1 => with_reducible assumption))
  | with_reducible refine T5.o_eqS ?_ | with_reducible refine T5.o_neS ?_ | with_reducible refine T5.G.o_appK ?_ | with_reducible refine T5.G.o_tupleK ?_ | with_reducible refine T5.G.o_appK2 ?_ | with_reducible refine T5.G.o_tupleK2 ?_ | with_reducible refine T5.G.o_appK3 ?_ | with_reducible refine T5.G.o_tupleK3 ?_ | with_reducible refine T5.G.o_pow29 ?_ | with_reducible refine T5.G.o_list ?_ | with_reducible refine T5.s_raise1 ?_ | with_reducible refine T5.w_one ?_
  | with_reducible refine T5.o_ixT0 ?_ | with_reducible refine T5.o_ixT1 ?_ | with_reducible refine T5.o_ixT2 ?_ | with_reducible refine T5.o_ixL0 ?_ | with_reducible refine T5.o_ixL1 ?_ | with_reducible refine T5.o_ixL2 ?_)
local macro_rules | `(tactic| k_caughtC0) => `(tactic| first | with_reducible assumption | exact Nat.le_of_ble_eq_true rfl | with_reducible rfl | omega | with_reducible exact T5.G.lst_isK | with_reducible exact T5.G.lst_isK2 | with_reducible exact T5.G.lst_isK3 | (simp only [T5.cap, List.length_map, List.length_append, List.length_cons, List.length_nil, List.length_take, List.length_drop]; omega) | (refine And.intro ?_ ?_ <;> first | omega | decide) | decide)
local macro_rules | `(tactic| kts_caught) => `(tactic| first | with_reducible refine T5.o_eqI ?_ | with_reducible refine T5.o_neI ?_ | ((with_reducible refine T5.G.o_neRf ?h1 ?hk); (case h1 => first | with_reducible assumption | rfl)) | ((with_reducible refine T5.G.o_eqRf ?h1 ?hk); (case h1 => first | with_reducible assumption | rfl)) | with_reducible refine T5.G.o_lenTm ?_ | with_reducible refine T5.G.o_lenLm ?_ | with_reducible refine T5.G.o_lenLog ?_ | with_reducible refine T5.G.w_lstMk ?_ | with_reducible refine T5.G.w_mksI ?_)
theorem o_mulLs {st : Store} {x : D} {k : Int} {K : D → Prop} (h0 : 0 ≤ k) (h1 : k ≤ 10000) (q : K (.lst (List.replicate k.toNat x))) : OnO (bMul st (.lst [x]) (.int k)) K := by
  refine ⟨_, ?_, q⟩
  show (if -(2 ^ 63) ≤ k ∧ k < 2 ^ 63 ∧ [x].length * k.toNat ≤ cap then some (D.lst (List.replicate k.toNat [x]).flatten) else none) = _
  rw [if_pos ⟨by omega, by omega, by simp [cap]; omega⟩]
  have : ∀ n : Nat, (List.replicate n [x]).flatten = List.replicate n x := fun n => by
    induction n with
    | zero => rfl
    | succ n ih => rw [List.replicate_succ, List.flatten_cons, ih]; rfl
  rw [this]
section
variable {st : Store} {K : D → Store → Prop} {X : String → List String → List D → Store → Prop} {Q : SR → Prop}
theorem sg_loop {names : List Nat} {f : Nat → D} {d0 d1 : Option D} (hf : ∀ j : Nat, j < 4 → bIx st (.str names) (.int (j : Int)) = some (f j)) : ∀ (l : List Ed) (k : Nat) (L : List D) (o4 o5 o6 o7 o8 : Option D), (∀ e ∈ l, okE e) → Fits l L.length → k + l.length ≤ 4 → L.length + 9 * l.length ≤ 900 →
    (∀ o4 o5 o6 o7 o8, Q (.nx [d0, d1, some (.str names), some (.lst (sgn l L f k)), o4, o5, o6, o7, o8] st)) →
    OnQ (loopS (gT (gsCons (gN 4) (gsCons (gN 5) gsNil))) z_law_signs_1 (((l.map Ed.d).zipIdx k).map fun p => .tup [.int (p.2 : Nat), p.1]) [d0, d1, some (.str names), some (.lst L), o4, o5, o6, o7, o8] st) Q
  | [], k, L, o4, o5, o6, o7, o8, _, _, _, _, q => q o4 o5 o6 o7 o8
  | ⟨i, g, m⟩ :: l, k, L, o4, o5, o6, o7, o8, ho, hfit, hk, hL, q => by
    obtain ⟨h1, h2, h3⟩ := ho _ (List.mem_cons_self ..)
    obtain ⟨f1, f2⟩ := hfit
    simp only at h1 h2 h3 f1 f2
    rw [List.length_cons] at hk hL
    have sl := sgnE_len (L := L) (c := f k) (e := ⟨i, g, m⟩) ⟨h1, h2, h3⟩ f1
    simp only at sl
    have next : ∀ o4 o5 o6 o7 o8, OnQ (loopS (gT (gsCons (gN 4) (gsCons (gN 5) gsNil))) z_law_signs_1 (((l.map Ed.d).zipIdx (k + 1)).map fun p => .tup [.int (p.2 : Nat), p.1]) [d0, d1, some (.str names), some (.lst (sgnE ⟨i, g, m⟩ (f k) L)), o4, o5, o6, o7, o8] st) Q := fun o4 o5 o6 o7 o8 =>
      sg_loop hf l (k + 1) _ o4 o5 o6 o7 o8 (fun e he => ho e (List.mem_cons_of_mem _ he)) (by rw [sl]; exact f2) (by omega) (by revert sl; split <;> intro sl <;> omega) q
    rw [List.map_cons, List.zipIdx_cons, List.map_cons]
    unfold Ed.d
    dsimp only
    refine l_cons ?_
    unfold sgnE at next
    cases i
    · simp only [Bool.false_eq_true, if_false] at f1 next sl ⊢
      tb_start
      rw [cut_take' h1 (by omega), cut_drop' (by omega) (by omega)]
      tb_start
      exact next _ _ _ _ _
    · simp only [if_true] at f1 next sl ⊢
      tb_start
      refine ⟨_, hf k (by omega), ?_⟩
      tb_start
      refine o_mulLs (by omega) (by omega) ?_
      rw [cut_take' h1 (by omega)]
      refine o_addL (sd_mk ?_ ?_)
      · simp [cap]; omega
      tb_start
      rw [cut_drop' (by omega) (by omega)]
      refine sd_mk ?_ ?_
      · simp [cap]; omega
      tb_start
      rw [List.append_assoc]
      exact next _ _ _ _ _
theorem sgn_all {α : Type} {P : α → Prop} {f : Nat → α} (hf : ∀ j, P (f j)) : ∀ {l : List Ed} {L : List α} {k : Nat}, (∀ x ∈ L, P x) → ∀ x ∈ sgn l L f k, P x
  | [], L, k, h => h
  | e :: l, L, k, h => by
    refine sgn_all hf (l := l) fun x hx => ?_
    unfold sgnE at hx
    split at hx
    · rcases List.mem_append.mp hx with hx | hx
      · exact h x (List.mem_of_mem_take hx)
      · rcases List.mem_append.mp hx with hx | hx
        · rw [(List.mem_replicate.mp hx).2]; exact hf k
        · exact h x (List.mem_of_mem_drop hx)
    · rcases List.mem_append.mp hx with hx | hx
      · exact h x (List.mem_of_mem_take hx)
      · exact h x (List.mem_of_mem_drop hx)
theorem w_lstRg {mo : ME} {env : DEnv} (h : OnR (mo env st) (fun d st1 => ∃ n : Int, d = .int n ∧ Sd (n ≤ cap ∧ -(2 ^ 62) ≤ n) (K (.lst (upTo 0 n.toNat)) st1)) X) : OnR (eLstRg mo env st) K X := by
  unfold eLstRg
  refine onR_bind (onR_imp h (fun d st1 h => ?_) fun _ _ _ _ h => h)
  obtain ⟨n, rfl, h1, k⟩ := h
  simp only
  rw [if_pos h1]
  exact k
theorem sp_signs {names : List Nat} {f : Nat → D} {n : Int} {l : List Ed} (hf : ∀ j : Nat, j < 4 → bIx st (.str names) (.int (j : Int)) = some (f j)) (ho : ∀ e ∈ l, okE e) (hfit : Fits l n) (hl : l.length ≤ 4) (h0 : 0 ≤ n) (h1 : n ≤ 100) (q : K (.lst (sgn l (upTo 0 n.toNat) f 0)) st) : OnR (f__law_signs [.int n, dLog l, .str names] st) K X := by
  unfold f__law_signs
  refine f_runE (env := [some (.int n), some (dLog l), some (.str names), none, none, none, none, none, none]) rfl rfl ?_
  unfold b__law_signs
  have hn : ((upTo 0 n.toNat).length : Int) = n := by simp [upTo]; omega
  tb_start
  refine w_lstRg ?_
  tb_start
  unfold dLog
  tb_start
  refine sg_loop hf l 0 _ none none none none none ho (by rw [hn]; exact hfit) (by omega) (by omega) fun o4 o5 o6 o7 o8 => ?_
  tb_start
  exact q
theorem sp_within {a b : Ed} (q : K (.bl (within a b)) st) : OnR (f__law_is_within [a.d, b.d] st) K X := by
  unfold f__law_is_within
  refine f_runE (env := [some a.d, some b.d]) rfl rfl ?_
  unfold b__law_is_within
  obtain ⟨i, g, m⟩ := a
  obtain ⟨j, h, n⟩ := b
  unfold within at q
  unfold Ed.d
  simp only at q ⊢
  cases i <;> cases j <;> simp only [Bool.false_eq_true, if_false, if_true, Bool.true_and, Bool.false_and, Bool.not_true, Bool.not_false] at q ⊢
  all_goals tb_start
  all_goals try exact q
  all_goals refine onB_dec (fun z => ?_) fun z => ?_
  all_goals tb_start
  all_goals simp only [z, decide_true, decide_false, Bool.true_and, Bool.false_and] at q
  all_goals exact q
theorem sp_moved {l : List Ed} {z : Int} (hl : l.length ≤ 10) (q : K (dLog (l.map (Ed.sh z))) st) : OnR (f__law_moved [dLog l, .int z] st) K X := by
  unfold f__law_moved
  refine f_runE (env := [some (dLog l), some (.int z), none, none, none]) rfl rfl ?_
  unfold b__law_moved
  have e := lc_mapP (enc := Ed.d) (env := wipeD [some (dLog l), some (.int z), none, none, none] [2, 3, 4]) (st := st) (g := gT (gsCons (gN 2) (gsCons (gN 3) (gsCons (gN 4) gsNil)))) (ct := cYes) (me := (eTup (aCons (eVar 2) (aCons (eBin bAdd (eVar 3) (eVar 1)) (aCons (eVar 4) aNil))))) (fun _ => true) (fun e => (e.sh z).d) (xs := l) (acc := []) (fun e he => by
    obtain ⟨i, g, m⟩ := e
    unfold Ed.d Ed.sh
    dsimp only
    simp only [wipeD, List.set_cons_succ, List.set_cons_zero]
    tb_start
    refine w_yes ⟨rfl, rfl, fun _ => ?_⟩
    tb_start
    exact ⟨rfl, rfl⟩) (by simp [cap]; omega)
  rw [List.filter_eq_self.mpr (fun _ _ => rfl), List.nil_append] at e
  have r : D.tup (l.map fun e => (e.sh z).d) = dLog (l.map (Ed.sh z)) := by
    unfold dLog
    rw [List.map_map]
    rfl
  tb_start
  refine w_lc ?_
  refine i_seq (w_var rfl (seqE_t ?_))
  refine ⟨_, _, e, ?_⟩
  tb_start
  rw [r]
  exact q
end
end T5.G
namespace T5.G
open PySem PySem.Spec PyProof.Rows L2
local macro_rules | `(tactic| kts_caughtN) => `(tactic| first
  | ((with_reducible refine T5.G.sp_draw ?h1 ?h2 ?hk); (case h1 => k_caughtC0); (case h2 => k_caughtC0))
  | ((with_reducible refine T5.o_repr (b := ?b) ?h1 ?h2 ?hk); (case h1 => with_reducible assumption); (case h2 => decide))
  | ((with_reducible refine T5.o_isLst (n := ?n) (b := ?b) ?h1 ?hk); (case h1 => with_reducible assumption))
  | ((with_reducible refine T5.o_isTup (n := ?n) (b := ?b) ?h1 ?hk); (case h1 => with_reducible assumption)) | ((with_reducible refine T5.o_isStr (n := ?n) (b := ?b) ?h1 ?hk); (case h1 => with_reducible assumption))
  | ((with_reducible refine T5.o_isInt (n := ?n) (b := ?b) ?h1 ?hk); (case h1 => with_reducible assumption)) | ((with_reducible refine T5.o_isBool (n := ?n) (b := ?b) ?h1 ?hk); (case h1 => with_reducible assumption))
  | with_reducible refine T5.o_eqS ?_ | with_reducible refine T5.o_neS ?_ | with_reducible refine T5.G.o_appK ?_ | with_reducible refine T5.G.o_tupleK ?_ | with_reducible refine T5.G.o_appK2 ?_ | with_reducible refine T5.G.o_tupleK2 ?_ | with_reducible refine T5.G.o_appK3 ?_ | with_reducible refine T5.G.o_tupleK3 ?_ | with_reducible refine T5.G.o_pow29 ?_ | with_reducible refine T5.G.o_list ?_ | with_reducible refine T5.s_raise1 ?_ | with_reducible refine T5.w_one ?_
  | with_reducible refine T5.o_ixT0 ?_ | with_reducible refine T5.o_ixT1 ?_ | with_reducible refine T5.o_ixT2 ?_ | with_reducible refine T5.o_ixL0 ?_ | with_reducible refine T5.o_ixL1 ?_ | with_reducible refine T5.o_ixL2 ?_)
local macro_rules | `(tactic| k_caughtC0) => `(tactic| first | with_reducible assumption | exact Nat.le_of_ble_eq_true rfl | with_reducible rfl | omega | with_reducible exact T5.G.lst_isK | with_reducible exact T5.G.lst_isK2 | with_reducible exact T5.G.lst_isK3 | (simp only [T5.cap, List.length_map, List.length_append, List.length_cons, List.length_nil, List.length_take, List.length_drop]; omega) | (refine And.intro ?_ ?_ <;> first | omega | decide) | decide)
local macro_rules | `(tactic| kts_caught) => `(tactic| first | with_reducible refine T5.o_eqI ?_ | with_reducible refine T5.o_neI ?_ | ((with_reducible refine T5.G.o_neRf ?h1 ?hk); (case h1 => first | with_reducible assumption | rfl)) | ((with_reducible refine T5.G.o_eqRf ?h1 ?hk); (case h1 => first | with_reducible assumption | rfl)) | with_reducible refine T5.G.o_lenTm ?_ | with_reducible refine T5.G.o_lenLm ?_ | with_reducible refine T5.G.o_lenLog ?_ | with_reducible refine T5.G.w_lstMk ?_ | with_reducible refine T5.G.w_mksI ?_)
section
variable {st : Store} {d : D} {K : D → Store → Prop} {X : String → List String → List D → Store → Prop} {Q : SR → Prop} {s : LS} {a b : Ed} {n : Int}
abbrev eL (d o2 o3 o4 o5 o6 o7 o8 o9 o10 o11 : Option D) : DEnv := [d, some (.obj 0), o2, o3, o4, o5, o6, o7, o8, o9, o10, o11]
theorem so_comm : isSo b a = isSo a b := by
  unfold isSo
  exact Bool.and_comm _ _
theorem way_ok (ha : okE a) (hb : okE b) (ga : a.g ≤ 100) (gb : b.g ≤ 100) : OkL (wayA a b) ∧ OkL (wayB a b) ∧ (wayA a b).length ≤ 4 ∧ (wayB a b).length ≤ 4 := by
  obtain ⟨h1, l1⟩ := bhd_ok hb ha false
  obtain ⟨h2, l2⟩ := bhd_ok ha hb true
  have o1 : ∀ e ∈ wayA a b, e.ok := fun e he => by
    rcases List.mem_cons.mp he with rfl | he
    · exact ⟨ha.1, by omega, ha.2.1, ha.2.2⟩
    · have := h1 e he
      exact ⟨by omega, by omega, by omega, by omega⟩
  have o2 : ∀ e ∈ wayB a b, e.ok := fun e he => by
    rcases List.mem_cons.mp he with rfl | he
    · exact ⟨hb.1, by omega, hb.2.1, hb.2.2⟩
    · have := h2 e he
      exact ⟨by omega, by omega, by omega, by omega⟩
  have m1 : (wayA a b).length ≤ 4 := by
    show (bhd b a false).length + 1 ≤ 4
    omega
  have m2 : (wayB a b).length ≤ 4 := by
    show (bhd a b true).length + 1 ≤ 4
    omega
  exact ⟨⟨by omega, o1⟩, ⟨by omega, o2⟩, m1, m2⟩
theorem row_eq {A B : List Ed} {k : Nat} {lf : Bool} (h : ∀ x, car A x lf = car B x lf) : rowOf A k lf = rowOf B k lf := by
  unfold rowOf
  exact List.map_congr_left fun i _ => h _
theorem row_ne {A B : List Ed} {k : Nat} {lf : Bool} {x : Int} (h0 : 0 ≤ x) (h1 : x ≤ k) (h : car A x lf ≠ car B x lf) : rowOf A k lf ≠ rowOf B k lf := fun e => by
  have e1 := rowOf_get (l := A) (lf := lf) (show x.toNat < k + 1 by omega)
  have e2 := rowOf_get (l := B) (lf := lf) (show x.toNat < k + 1 by omega)
  rw [e, e2, Option.some.injEq, Int.toNat_of_nonneg h0] at e1
  exact h e1.symm
/-- both charts are alike just if no insertion lies within the other one's deletion -/
theorem chart_so (ha : okE a) (hb : okE b) (fa : fitE a n) (fb : fitE b n) (hn : 0 ≤ n) : decide (grow (wayA a b) n = grow (wayB a b) n ∧ rowOf (wayA a b) n.toNat true = rowOf (wayB a b) n.toNat true ∧ rowOf (wayA a b) n.toNat false = rowOf (wayB a b) n.toNat false) = isSo a b := by
  cases h : isSo a b
  · refine decide_eq_false fun ⟨_, e1, e2⟩ => ?_
    obtain ⟨x, lf, x0, x1, ne⟩ := ways_part ha hb h
    have : x ≤ n := by
      unfold fitE at fa fb
      rcases x1 with ⟨i, x1⟩ | ⟨i, x1⟩
      · rw [i] at fa
        simp only [Bool.false_eq_true, if_false] at fa
        omega
      · rw [i] at fb
        simp only [Bool.false_eq_true, if_false] at fb
        omega
    cases lf
    · exact row_ne x0 (by omega) ne e2
    · exact row_ne x0 (by omega) ne e1
  · exact decide_eq_true ⟨(ways_fit ha hb fa fb).2.2, row_eq fun x => ways_so ha hb h, row_eq fun x => ways_so ha hb h⟩
theorem rp_b2 {b1 b2 : Bool} : Rp 12 2 (.lst [.bl b1, .bl b2]) := (rp_lst (n := 1) (b := 0) (l := [.bl b1, .bl b2]) fun y hy => by
    simp only [List.mem_cons, List.not_mem_nil, or_false] at hy
    rcases hy with rfl | rfl <;> exact rp_bl).up (by decide)
theorem ed_edB {e : Ed} (h : e.ok) : edB e.d = true := by
  obtain ⟨h1, h2, h3, h4⟩ := h
  obtain ⟨i, g, q⟩ := e
  simp only at h1 h2 h3 h4
  cases i <;> simp [edB, Ed.d, intB, h1, h2, h3, h4]
theorem sh_log2 {l : List Ed} : shD 63 (dLog l) = true := by
  show shL 62 (l.map Ed.d) = true
  exact shL_map fun e _ => by cases e with | mk i g m => cases i <;> rfl
def odds : List D := [.non, .int 5, .tup [], .tup [.str [105, 110], .int 0], .tup [.str [111, 117, 116], .int 0, .int 0], .lst [.str [105, 110], .int 0, .int 1]]
theorem odds_ok {x : D} (hx : x ∈ odds) : Rp 4 (bnd 4) x ∧ edB x = false := by
  refine ⟨chk_all (l := odds) (by decide +kernel) hx, ?_⟩
  simp only [odds, List.mem_cons, List.not_mem_nil, or_false] at hx
  rcases hx with rfl | rfl | rfl | rfl | rfl | rfl <;> first | rfl | (simp [edB, intB]; done) | decide
theorem rp_edit {x : D} (h : Rp 4 (bnd 4) x) : Rp 12 100000 (.lst [.str [101, 100, 105, 116], x]) := ((rp_lst (n := 4) (b := bnd 4) (l := [.str [101, 100, 105, 116], x]) fun y hy => by
    simp only [List.mem_cons, List.not_mem_nil, or_false] at hy
    rcases hy with rfl | rfl
    · exact (rp_str rfl).mono (by decide)
    · exact h).up (by decide)).mono (show 2 * (bnd 4 + 1) ≤ 100000 by decide)
/-- the step with moved edits -/
theorem moved_ok {z c : Int} {o3 o9 p11 : Option D} (ha : okE a) (hb : okE b) (ga : a.g ≤ 20) (gb : b.g ≤ 20) (hz : 0 ≤ z ∧ z ≤ 979) (q : ∀ o5 o10 o11, Q (.nx (eL (some d) (some (.int c)) o3 (some a.d) o5 (some (dLog (wayA a b))) (some (dLog (wayB a b))) (some (.bl (isSo a b))) o9 o10 o11) st)) :
    OnQ (z_law_2 (eL (some d) (some (.int c)) o3 (some a.d) (some b.d) (some (dLog (wayA a b))) (some (dLog (wayB a b))) (some (.bl (isSo a b))) o9 (some (.int z)) p11) st) Q := by
  obtain ⟨w1, w2, l1, l2⟩ := way_ok ha hb (by omega) (by omega)
  have oa : (a.sh z).ok := ⟨by show 0 ≤ a.g + z; have := ha.1; omega, by show a.g + z ≤ 999; omega, ha.2.1, ha.2.2⟩
  have ob : (b.sh z).ok := ⟨by show 0 ≤ b.g + z; have := hb.1; omega, by show b.g + z ≤ 999; omega, hb.2.1, hb.2.2⟩
  have ra := rp_edd oa
  have rb := rp_edd ob
  have eA : (wayA a b).map (Ed.sh z) = wayA (a.sh z) (b.sh z) := by
    unfold wayA
    rw [List.map_cons, bhd_sh]
  have eB : (wayB a b).map (Ed.sh z) = wayB (a.sh z) (b.sh z) := by
    unfold wayB
    rw [List.map_cons, bhd_sh]
  tb_start
  refine onB_dec (fun z0 => ?_) fun z0 => ?_
  · tb_start
    have e2 : ∀ {K : D → Store → Prop} {X}, OnR (f__law_moved [dLog [a, b], .int z] st) K X → OnR (f__law_moved [.tup [a.d, b.d], .int z] st) K X := fun h => h
    refine e2 (sp_moved (by simp) ?_)
    rw [show dLog ([a, b].map (Ed.sh z)) = .tup [(a.sh z).d, (b.sh z).d] from rfl]
    tb_start
    refine sp_bways ra (fun _ => rb) (fun e => ?_) (fun _ e => ?_) fun a' b' e1 e2 _ _ => ?_
    · rw [ed_edB oa] at e
      cases e
    · rw [ed_edB ob] at e
      cases e
    rw [← Ed.d_inj e1, ← Ed.d_inj e2, ← eA, ← eB]
    tb_start
    refine sp_moved (by omega) ?_
    tb_start
    refine sp_moved (by omega) ?_
    tb_start
    refine o_neRf ?_ ?_
    · show (shD 63 (dLog _) && (shD 63 (dLog _) && true)) = true
      rw [sh_log2, sh_log2]
      rfl
    tb_start
    refine sp_walike ra (fun _ => rb) (fun e => ?_) (fun _ e => ?_) fun a' b' e1 e2 _ _ => ?_
    · rw [ed_edB oa] at e
      cases e
    · rw [ed_edB ob] at e
      cases e
    rw [← Ed.d_inj e1, ← Ed.d_inj e2, so_sh]
    have r1 : Rp 12 0 (.bl (isSo a b)) := rp_bl
    tb_start
    exact q _ _ _
  · tb_start
    exact q _ _ _
local macro_rules | `(tactic| kts_caught) => `(tactic| first | with_reducible refine T5.stp (p := OnQ (T5.G.z_law_2 _ _) _) ?_ | with_reducible refine T5.stp (p := OnQ (T5.G.z_law_8 _ _) _) ?_)
theorem o_ix420 {st : Store} {v : Int} {K : D → Prop} (h0 : 0 ≤ v) (h1 : v < 2) (k : ∀ m : Int, 4 ≤ m → m ≤ 20 → K (.int m)) : OnO (bIx st (.lst [.int 4, .int 20]) (.int v)) K := o_ixAny h0 h1 fun d hd => by
  simp only [List.mem_cons, List.not_mem_nil, or_false] at hd
  rcases hd with rfl | rfl
  · exact k 4 (by decide) (by decide)
  · exact k 20 (by decide) (by decide)
theorem names1 {st : Store} : ∀ j : Nat, j < 4 → bIx st (.str [97, 98, 98, 98]) (.int (j : Int)) = some (if j = 0 then .str [97] else .str [98])
  | 0, _ => rfl
  | 1, _ => rfl
  | 2, _ => rfl
  | 3, _ => rfl
  | j + 4, h => by omega
theorem names2 {st : Store} : ∀ j : Nat, j < 4 → bIx st (.str [98, 97, 97, 97]) (.int (j : Int)) = some (if j = 0 then .str [98] else .str [97])
  | 0, _ => rfl
  | 1, _ => rfl
  | 2, _ => rfl
  | 3, _ => rfl
  | j + 4, h => by omega
theorem turn_loop : ∀ (ds : List D) (s : LS) (o2 o3 o4 o5 o6 o7 o8 o9 o10 o11 : Option D), (∀ x ∈ ds, ∃ c : Int, x = .int c) → (∀ o2 o3 o4 o5 o6 o7 o8 o9 o10 o11 s', Q (.nx (eL (some d) o2 o3 o4 o5 o6 o7 o8 o9 o10 o11) (mks s' []))) → OnQ (loopS (gN 2) z_law_13 ds (eL (some d) o2 o3 o4 o5 o6 o7 o8 o9 o10 o11) (mks s [])) Q
  | [], s, o2, o3, o4, o5, o6, o7, o8, o9, o10, o11, _, k => k o2 o3 o4 o5 o6 o7 o8 o9 o10 o11 s
  | x :: ds, s, o2, o3, o4, o5, o6, o7, o8, o9, o10, o11, hx0, k => by
    obtain ⟨c, rfl⟩ := hx0 _ (List.mem_cons_self ..)
    refine l_cons ?_
    tb_start
    intro v s1 v0 v1
    refine o_ix420 v0 v1 fun m m0 m1 => ?_
    tb_start
    intro n1 s2 n0 n2
    tb_start
    generalize hn : 1 + n1 = n
    refine sp_ledit (by omega) (by omega) fun a s3 ha ga fa => ?_
    tb_start
    refine sp_ledit (by omega) (by omega) fun b s4 hb gb fb => ?_
    tb_start
    obtain ⟨w1, w2, l1, l2⟩ := way_ok ha hb (by omega) (by omega)
    obtain ⟨f1, f2, f3⟩ := ways_fit ha hb fa fb
    have oa : a.ok := ⟨ha.1, by omega, ha.2.1, ha.2.2⟩
    have ob : b.ok := ⟨hb.1, by omega, hb.2.1, hb.2.2⟩
    have ra := rp_edd oa
    have rb := rp_edd ob
    refine sp_bways ra (fun _ => rb) (fun e => ?_) (fun _ e => ?_) fun a' b' e1 e2 _ _ => ?_
    · rw [ed_edB oa] at e
      cases e
    · rw [ed_edB ob] at e
      cases e
    rw [← Ed.d_inj e1, ← Ed.d_inj e2]
    clear e1 e2
    have okE1 : ∀ e ∈ wayA a b, okE e := fun e he => ok_okE (w1.2 e he)
    have okE2 : ∀ e ∈ wayB a b, okE e := fun e he => ok_okE (w2.2 e he)
    tb_start
    refine sp_signs names1 okE1 f1 l1 (by omega) (by omega) ?_
    tb_start
    refine sp_signs names2 okE2 f2 l2 (by omega) (by omega) ?_
    rw [sgn_ways ha hb (by simp only [upTo, List.length_map, List.length_range]; rw [Int.toNat_of_nonneg (by omega)]; exact fa) (by simp only [upTo, List.length_map, List.length_range]; rw [Int.toNat_of_nonneg (by omega)]; exact fb)]
    refine o_neRf ?_ ?_
    · show shL 63 _ = true
      refine shL_of (sgn_all (fun j => ?_) fun x hx => ?_)
      · split <;> rfl
      · unfold upTo at hx
        obtain ⟨i, _, rfl⟩ := List.mem_map.mp hx
        rfl
    tb_start
    have rest : ∀ c', c' = isSo a b → OnQ (z_law_8 (eL (some d) (some (.int c)) (some (.int n)) (some a.d) (some b.d) (some (dLog (wayA a b))) (some (dLog (wayB a b))) (some (.bl c')) o9 o10 o11) (mks s4 [])) (TurnK (fun e s => OnQ (loopS (gN 2) z_law_13 ds e s) Q) Q) := fun c' hc' => by
      have rso := rp_b2 (b1 := isSo a b) (b2 := isSo a b)
      subst hc'
      refine s_seq ?_
      tb_start
      refine sp_walike ra (fun _ => rb) (fun e => ?_) (fun _ e => ?_) fun a' b' e1 e2 _ _ => ?_
      · rw [ed_edB oa] at e
        cases e
      · rw [ed_edB ob] at e
        cases e
      rw [← Ed.d_inj e1, ← Ed.d_inj e2]
      tb_start
      refine sp_walike rb (fun _ => ra) (fun e => ?_) (fun _ e => ?_) fun a' b' e1 e2 _ _ => ?_
      · rw [ed_edB ob] at e
        cases e
      · rw [ed_edB oa] at e
        cases e
      rw [← Ed.d_inj e1, ← Ed.d_inj e2, so_comm (a := a) (b := b)]
      tb_start
      refine sp_own w1 f1 (by omega) (by omega) (cl_mks cy_nil) ?_
      tb_start
      refine sp_own w2 f2 (by omega) (by omega) (cl_mks cy_nil) ?_
      refine o_eqD sh_own3 sh_own3 ?_
      rw [eq_own3, Int.toNat_of_nonneg (by omega), chart_so ha hb fa fb (by omega)]
      tb_start
      refine w_eqD ?_
      tb_start
      refine sp_cofOk ⟨by omega, by omega⟩ w1 f1 (cl_mks cy_nil) ?_
      tb_start
      refine sp_cofOk ⟨by omega, by omega⟩ w2 f2 (cl_mks cy_nil) ?_
      refine ⟨_, _, _, _, _, _, rfl, rfl, ?_⟩
      rw [chart_so ha hb fa fb (by omega)]
      tb_start
      refine sp_among (by simp) (by simp) fun x s5 hx => ?_
      obtain ⟨rx, ex⟩ := odds_ok hx
      have rd := rp_edit rx
      tb_start
      refine w_h ?_
      tb_start
      refine sp_walike ra (fun _ => rx) (fun e => ?_) (fun _ e => xh_BadEdit ?_) fun a' b' e1 e2 _ ob' => ?_
      · rw [ed_edB oa] at e
        cases e
      rotate_left
      · rw [e2, ed_edB ob'] at ex
        cases ex
      tb_start
      have last : ∀ z s, 0 ≤ z ∧ z ≤ 979 → OnQ (z_law_2 (eL (some d) (some (.int c)) (some (.int n)) (some a.d) (some b.d) (some (dLog (wayA a b))) (some (dLog (wayB a b))) (some (.bl (isSo a b))) (some x) (some (.int z)) o11) (mks s [])) (TurnK (fun e s => OnQ (loopS (gN 2) z_law_13 ds e s) Q) Q) := fun z s hz => moved_ok ha hb (by omega) (by omega) hz fun o5 o10 o11 => turn_loop ds s _ _ _ _ _ _ _ _ _ _ (fun y hy => hx0 y (List.mem_cons_of_mem _ hy)) k
      refine onB_dec (fun _ => ?_) fun _ => ?_
      · tb_start
        refine sp_among (by simp) (by simp) fun y s6 hy => ?_
        simp only [List.mem_cons, List.not_mem_nil, or_false] at hy
        rcases hy with rfl | rfl | rfl
        · tb_start
          exact last _ _ (by decide)
        · tb_start
          exact last _ _ (by decide)
        · tb_start
          exact last _ _ (by decide)
      · tb_start
        exact last _ _ (by decide)
    refine sp_within ?_
    tb_start
    cases hu : within a b
    · tb_start
      refine sp_within ?_
      tb_start
      exact rest _ (by unfold isSo; rw [hu]; rfl)
    · tb_start
      exact rest _ (by unfold isSo; rw [hu]; rfl)
end
end T5.G
namespace T5.G
open PySem PySem.Spec PyProof.Rows L2
local macro_rules | `(tactic| kts_caughtN) => `(tactic| first
  | ((with_reducible refine T5.G.sp_draw ?h1 ?h2 ?hk); (case h1 => k_caughtC0); (case h2 => k_caughtC0))
  | ((with_reducible refine T5.o_repr (b := ?b) ?h1 ?h2 ?hk); (case h1 => with_reducible assumption); (case h2 => decide))
  | ((with_reducible refine T5.o_isLst (n := ?n) (b := ?b) ?h1 ?hk); (case h1 => with_reducible assumption))
  | ((with_reducible refine T5.o_isTup (n := ?n) (b := ?b) ?h1 ?hk); (case h1 => with_reducible assumption)) | ((with_reducible refine T5.o_isStr (n := ?n) (b := ?b) ?h1 ?hk); (case h1 => with_reducible assumption))
  | ((with_reducible refine T5.o_isInt (n := ?n) (b := ?b) ?h1 ?hk); (case h1 => with_reducible assumption)) | ((with_reducible refine T5.o_isBool (n := ?n) (b := ?b) ?h1 ?hk); (case h1 => with_reducible assumption))
  | with_reducible refine T5.o_eqS ?_ | with_reducible refine T5.o_neS ?_ | with_reducible refine T5.G.o_appK ?_ | with_reducible refine T5.G.o_tupleK ?_ | with_reducible refine T5.G.o_appK2 ?_ | with_reducible refine T5.G.o_tupleK2 ?_ | with_reducible refine T5.G.o_appK3 ?_ | with_reducible refine T5.G.o_tupleK3 ?_ | with_reducible refine T5.G.o_pow29 ?_ | with_reducible refine T5.G.o_list ?_ | with_reducible refine T5.s_raise1 ?_ | with_reducible refine T5.w_one ?_
  | with_reducible refine T5.o_ixT0 ?_ | with_reducible refine T5.o_ixT1 ?_ | with_reducible refine T5.o_ixT2 ?_ | with_reducible refine T5.o_ixL0 ?_ | with_reducible refine T5.o_ixL1 ?_ | with_reducible refine T5.o_ixL2 ?_)
local macro_rules | `(tactic| k_caughtC0) => `(tactic| first | with_reducible assumption | exact Nat.le_of_ble_eq_true rfl | with_reducible rfl | omega | with_reducible exact T5.G.lst_isK | with_reducible exact T5.G.lst_isK2 | with_reducible exact T5.G.lst_isK3 | (simp only [T5.cap, List.length_map, List.length_append, List.length_cons, List.length_nil, List.length_take, List.length_drop]; omega) | (refine And.intro ?_ ?_ <;> first | omega | decide) | decide)
local macro_rules | `(tactic| kts_caught) => `(tactic| first | with_reducible refine T5.o_eqI ?_ | with_reducible refine T5.o_neI ?_ | ((with_reducible refine T5.G.o_neRf ?h1 ?hk); (case h1 => first | with_reducible assumption | rfl)) | ((with_reducible refine T5.G.o_eqRf ?h1 ?hk); (case h1 => first | with_reducible assumption | rfl)) | with_reducible refine T5.G.o_lenTm ?_ | with_reducible refine T5.G.o_lenLm ?_ | with_reducible refine T5.G.o_lenLog ?_ | with_reducible refine T5.G.w_lstMk ?_ | with_reducible refine T5.G.w_mksI ?_)
theorem law_pure (ns : List Int) (h : ns.length ≤ 63) : ∀ d, isScr ns d → ∃ st', f_law [d] [] = .ok (.bl true) st' := by
  intro d hd
  refine law_of (N := 10) (rest := z_law_14) h hd rfl fun s => ?_
  show OnQ (z_law_14 (eL (some d) none none none none none none none none none none) (mks s [])) _
  refine s_seq (s_for ?_)
  refine rng_law0 hd (by decide) fun j => ?_
  refine turn_loop _ s _ _ _ _ _ _ _ _ _ _ (fun x hx => ?_) fun o2 o3 o4 o5 o6 o7 o8 o9 o10 o11 s' => ?_
  · unfold upTo at hx
    obtain ⟨i, _, rfl⟩ := List.mem_map.mp hx
    exact ⟨_, rfl⟩
  tb_start
  rfl
end T5.G
open PySem PySem.W PySem.Calls PyProof.Rows
theorem PySem.Challenge.cw_tiltmarks_k21_whole_both_ways_holds : PySem.Challenge.rw_tiltmarks_k21_whole_both_ways.Holds := by
  w_on; o_law
  refine HandSHeadRun.head_any (r := OpenLaw.row PySem.Challenge.rw_tiltmarks_k21_whole_both_ways) (q := view (OpenLaw.row PySem.Challenge.rw_tiltmarks_k21_whole_both_ways).prog [54]) (H := T5.G.hk) (ob := T5.G.ob) (M := 8000) (loose := T5.G.looseNames) (d := HandSHeadRun.topDef (OpenLaw.row PySem.Challenge.rw_tiltmarks_k21_whole_both_ways).prog 54) (kwd := []) T5.G.ob_eq
    (by kernel_rfl) (fun s => by kernel_rfl) T5.G.run (by kernel_rfl) (by kernel_rfl) (by kernel_rfl) (by rfl) (by first | assumption | decide +kernel) (by decide +kernel) ⟨rfl, rfl, rfl, rfl, rfl, by decide +kernel⟩ ?hw ?hc
  case hw => w_witness2
  case hc =>
    refine T5.walk_ofX (l := PySem.Challenge.rw_tiltmarks_k21_whole_both_ways) (n := 63) (k := 8) (x := "_law_script") rfl (by decide) (by kernel_rfl) ⟨rfl, by decide, by decide⟩ ?F
    intro w mg f h Y G hmg0
    obtain ⟨K, KX, c, t⟩ := Y
    have hmg : mg ("law" : PySem.Str) = some (.ref f) := by
      have e : (HandSHeadRun.topDef (OpenLaw.row PySem.Challenge.rw_tiltmarks_k21_whole_both_ways).prog 54).name = ("law" : PySem.Str) := by kernel_rfl
      rw [← e]
      exact hmg0
    have hg := He.glo_ok KX G (c.d.fact 75 (f := .glo "law") rfl)
    cases hmg.symm.trans hg
    obtain ⟨e1, e2, e3, e4⟩ := T5.tabs_end (lq := T5.G.lq) KX c t
    exact ⟨T5.tabsC K T5.G.lq, K, T5.G.f_law, _, KX, e1, e2, e3, e4, T5.G.law_pure, fun base KB GB TB => @T5.G.fn_law (T5.tabsC K T5.G.lq) _ _ _ _ _ (T5.G.facts_of KB GB c TB)⟩
