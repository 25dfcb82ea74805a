import PyProof.Rows.All
import Wide.All
import OpenK.AllK
import Wide.FinOn
import HandS.ForMost
import HandS.IsInst
import HandS.ForExc
import HandS.Walk
import HandS.CallSlots
import HandS.Strs
import HandS.Wide
import KE.KSuper
import KE.KExcSuper
import HandS.ExcInit
import HandS.ExcIs
import HandS.ExcField
import HandS.ExcOwn
import HandS.SetBool
import KE.GoesMore
import HandS.WordsExc
import HandS.Defaults
import HandS.Conv
import HandS.Dict
import PySem.Challenge.RW_namesakes_k03_lists_refused_as_a_whole
import KE.RegKSuper
set_option Elab.async false
set_option linter.all false
set_option maxRecDepth 100000
set_option maxHeartbeats 2000000
/-! NK: a certified mirror. Each def of the text gets a total Lean function over trees of data; one theorem a construct says that the model does what the mirror does. -/
namespace NK
open PySem L2

/-- the built-in classes that the text names -/
inductive Ty where
  | none | bool | int | str | list | tuple | dict
  deriving DecidableEq
def Ty.name : Ty → String
  | .none => "NoneType" | .bool => "bool" | .int => "int" | .str => "str" | .list => "list" | .tuple => "tuple" | .dict => "dict"
/-- a value of the mirror: scalars, trees of what never changes any more, places of what may change, classes, the script -/
inductive U where
  | non | bl (b : Bool) | int (i : Int) | str (x : Str)
  | tup (us : List U) | lst (us : List U) | ins (k : Nat) (us : List U)
  | loc (i : Nat)
  | ty (t : Ty) | cls (k : Nat) | scr (us : List U)

/-- what may change -/
inductive Ob where
  | lst (us : List U)
  | dK (kvs : List (Key × U))
  | ins (k : Nat) (us : List U)
  | iset (ks : List Int)
  | dead

abbrev Sto := List Ob

/-- an exception in the air: its class, its fields -/
structure Ex where
  k : Nat
  us : List U

inductive Out (α : Type) where
  | ok (a : α) (s : Sto)
  | exc (x : Ex) (s : Sto)
  | bad

def Out.bind {α β : Type} (r : Out α) (f : α → Sto → Out β) : Out β := match r with
  | .ok a s => f a s
  | .exc x s => .exc x s
  | .bad => .bad

/-- the world's part: the classes' addresses, the names of their fields (in the order in which __init__ stores them) -/
structure Tb where
  w : World
  K : PySem.W.Frag
  cls : Nat → Addr
  fld : Nat → List Str

/-- where the places lie; what stands still -/
structure Cn where
  ρ : Nat → Addr
  n : Nat
  F : Hp

mutual
inductive Rp (T : Tb) (c : Cn) : U → V → Prop
  | non : Rp T c .non .non
  | bl (b : Bool) : Rp T c (.bl b) (.bl b)
  | int (i : Int) : Rp T c (.int i) (.int i)
  | str (x : Str) : Rp T c (.str x) (.str x)
  | ty (t : Ty) : Rp T c (.ty t) (.ty t.name)
  | cls (k : Nat) : Rp T c (.cls k) (.ref (T.cls k))
  | scr {us : List U} {a : Addr} {vs : List V} : SqL T.K c.F a vs → RpL T c us vs → Rp T c (.scr us) (.ref a)
  | tup {us : List U} {a : Addr} {vs : List V} : SqT T.K c.F a vs → RpL T c us vs → Rp T c (.tup us) (.ref a)
  | lst {us : List U} {a : Addr} {vs : List V} : c.F a = some (.lst vs) → RpL T c us vs → Rp T c (.lst us) (.ref a)
  | ins {k : Nat} {us : List U} {a dx : Addr} {vs : List V} : c.F a = some (.ins (T.cls k) dx ((T.fld k).zip vs)) → vs.length ≤ (T.fld k).length → RpL T c us vs → Rp T c (.ins k us) (.ref a)
  | loc {i : Nat} : i < c.n → Rp T c (.loc i) (.ref (c.ρ i))
inductive RpL (T : Tb) (c : Cn) : List U → List V → Prop
  | nil : RpL T c [] []
  | cons {u : U} {v : V} {us : List U} {vs : List V} : Rp T c u v → RpL T c us vs → RpL T c (u :: us) (v :: vs)
end

inductive RpK (T : Tb) (c : Cn) : List (Key × U) → List (Key × V) → Prop
  | nil : RpK T c [] []
  | cons {k : Key} {u : U} {v : V} {us : List (Key × U)} {vs : List (Key × V)} : Rp T c u v → RpK T c us vs → RpK T c ((k, u) :: us) ((k, v) :: vs)

/-- later -/
structure Le (c c' : Cn) : Prop where
  n : c.n ≤ c'.n
  ρ : ∀ i, i < c.n → c'.ρ i = c.ρ i
  F : ∀ a o, c.F a = some o → c'.F a = some o
theorem Le.refl (c : Cn) : Le c c := ⟨Nat.le_refl _, fun _ _ => rfl, fun _ _ h => h⟩
theorem Le.trans {a b c : Cn} (h : Le a b) (g : Le b c) : Le a c :=
  ⟨Nat.le_trans h.n g.n, fun i hi => (g.ρ i (Nat.lt_of_lt_of_le hi h.n)).trans (h.ρ i hi), fun x o e => g.F x o (h.F x o e)⟩

theorem rd_mono {F F' : Hp} (h : ∀ a o, F a = some o → F' a = some o) {a : Addr} {u : HO} (r : Rd F a u) : Rd F' a u := by
  rcases r with r | ⟨o, r⟩
  · exact .inl (h _ _ r)
  · exact .inr ⟨o, h _ _ r⟩
theorem sqT_mono {K : PySem.W.Frag} {F F' : Hp} (h : ∀ a o, F a = some o → F' a = some o) {a : Addr} {vs : List V} (r : SqT K F a vs) : SqT K F' a vs := by
  rcases r with r | r
  · exact .inl (rd_mono h r)
  · exact .inr r
theorem sqL_mono {K : PySem.W.Frag} {F F' : Hp} (h : ∀ a o, F a = some o → F' a = some o) {a : Addr} {vs : List V} (r : SqL K F a vs) : SqL K F' a vs := by
  rcases r with r | r
  · exact .inl (rd_mono h r)
  · exact .inr r

mutual
theorem Rp.mono {T : Tb} {c c' : Cn} (h : Le c c') : ∀ {u : U} {v : V}, Rp T c u v → Rp T c' u v
  | _, _, .non => .non
  | _, _, .bl b => .bl b
  | _, _, .int i => .int i
  | _, _, .str x => .str x
  | _, _, .ty n => .ty n
  | _, _, .cls k => .cls k
  | _, _, .scr e r => .scr (sqL_mono h.F e) (RpL.mono h r)
  | _, _, .tup e r => .tup (sqT_mono h.F e) (RpL.mono h r)
  | _, _, .lst e r => .lst (h.F _ _ e) (RpL.mono h r)
  | _, _, .ins e l r => .ins (h.F _ _ e) l (RpL.mono h r)
  | _, _, .loc (i := i) hi => by
    have e := h.ρ i hi
    rw [← e]
    exact .loc (Nat.lt_of_lt_of_le hi h.n)
theorem RpL.mono {T : Tb} {c c' : Cn} (h : Le c c') : ∀ {us : List U} {vs : List V}, RpL T c us vs → RpL T c' us vs
  | _, _, .nil => .nil
  | _, _, .cons r t => .cons (Rp.mono h r) (RpL.mono h t)
end
theorem RpK.mono {T : Tb} {c c' : Cn} (h : Le c c') : ∀ {us : List (Key × U)} {vs : List (Key × V)}, RpK T c us vs → RpK T c' us vs
  | _, _, .nil => .nil
  | _, _, .cons r t => .cons (Rp.mono h r) (RpK.mono h t)

section
variable {T : Tb} {c : Cn}
theorem RpL.length : ∀ {us : List U} {vs : List V}, RpL T c us vs → us.length = vs.length
  | _, _, .nil => rfl
  | _, _, .cons _ t => by simp [RpL.length t]
theorem RpL.get : ∀ {us : List U} {vs : List V} {i : Nat} {u : U}, RpL T c us vs → us[i]? = some u → ∃ v, vs[i]? = some v ∧ Rp T c u v
  | _, _, _, _, .nil, e => by simp at e
  | _, _, 0, _, .cons r _, e => by simp at e; subst e; exact ⟨_, rfl, r⟩
  | _, _, i + 1, u, .cons _ t, e => by
    obtain ⟨v, h1, h2⟩ := RpL.get (i := i) (u := u) t (by simpa using e)
    exact ⟨v, by simpa using h1, h2⟩
theorem RpL.getV : ∀ {us : List U} {vs : List V} {i : Nat} {v : V}, RpL T c us vs → vs[i]? = some v → ∃ u, us[i]? = some u ∧ Rp T c u v
  | _, _, _, _, .nil, e => by simp at e
  | _, _, 0, _, .cons r _, e => by simp at e; subst e; exact ⟨_, rfl, r⟩
  | _, _, i + 1, v, .cons _ t, e => by
    obtain ⟨u, h1, h2⟩ := RpL.getV (i := i) (v := v) t (by simpa using e)
    exact ⟨u, by simpa using h1, h2⟩
theorem RpL.append : ∀ {us us' : List U} {vs vs' : List V}, RpL T c us vs → RpL T c us' vs' → RpL T c (us ++ us') (vs ++ vs')
  | _, _, _, _, .nil, s => s
  | _, _, _, _, .cons r t, s => .cons r (RpL.append t s)
theorem RpL.set : ∀ {us : List U} {vs : List V} (i : Nat) {u : U} {v : V}, RpL T c us vs → Rp T c u v → RpL T c (us.set i u) (vs.set i v)
  | _, _, _, _, _, .nil, _ => .nil
  | _, _, 0, _, _, .cons _ t, r => .cons r t
  | _, _, i + 1, _, _, .cons q t, r => .cons q (RpL.set i t r)
theorem RpL.take : ∀ {us : List U} {vs : List V} (i : Nat), RpL T c us vs → RpL T c (us.take i) (vs.take i)
  | _, _, 0, _ => .nil
  | _, _, _ + 1, .nil => .nil
  | _, _, i + 1, .cons r t => .cons r (RpL.take i t)
theorem RpL.drop : ∀ {us : List U} {vs : List V} (i : Nat), RpL T c us vs → RpL T c (us.drop i) (vs.drop i)
  | _, _, 0, r => r
  | _, _, _ + 1, .nil => .nil
  | _, _, i + 1, .cons _ t => RpL.drop i t
theorem RpL.one {u : U} {v : V} (r : Rp T c u v) : RpL T c [u] [v] := .cons r .nil
theorem RpL.inv_cons {u : U} {us : List U} {ws : List V} (r : RpL T c (u :: us) ws) : ∃ v vs, ws = v :: vs ∧ Rp T c u v ∧ RpL T c us vs := by
  cases r with
  | cons a b => exact ⟨_, _, rfl, a, b⟩
theorem RpL.inv_nil {ws : List V} (r : RpL T c [] ws) : ws = [] := by
  cases r with
  | nil => rfl
end

/-- an object that may change, and what stands at its place -/
def RO (T : Tb) (c : Cn) : Ob → Addr → HO → Prop
  | .lst us, _, h => ∃ vs, h = .lst vs ∧ RpL T c us vs
  | .dK kvs, _, h => ∃ vs, h = .dK vs ∧ RpK T c kvs vs
  | .ins k us, _, h => ∃ dx vs, h = .ins (T.cls k) dx ((T.fld k).zip vs) ∧ vs.length ≤ (T.fld k).length ∧ RpL T c us vs
  | .iset ks, a, h => h = SetO T.w a (fun k => decide (k ∈ ks)) ks.length
  | .dead, _, _ => False
theorem RO.mono {T : Tb} {c c' : Cn} (l : Le c c') {o : Ob} {a : Addr} {h : HO} (r : RO T c o a h) : RO T c' o a h := by
  cases o with
  | lst us => obtain ⟨vs, e, r⟩ := r; exact ⟨vs, e, r.mono l⟩
  | dK kvs => obtain ⟨vs, e, r⟩ := r; exact ⟨vs, e, r.mono l⟩
  | ins k us => obtain ⟨dx, vs, e, z, r⟩ := r; exact ⟨dx, vs, e, z, r.mono l⟩
  | iset ks => exact r
  | dead => exact r.elim

/-- the heap holds what the mirror says -/
structure RH (T : Tb) (c : Cn) (st : Sto) (H : Hp) : Prop where
  n : c.n = st.length
  sub : ∀ a o, c.F a = some o → H a = some o
  act : ∀ i o, st[i]? = some o → o ≠ .dead → ∃ h, H (c.ρ i) = some h ∧ RO T c o (c.ρ i) h ∧ c.F (c.ρ i) = none
  inj : ∀ i j a b, st[i]? = some a → a ≠ .dead → st[j]? = some b → b ≠ .dead → c.ρ i = c.ρ j → i = j

/-- an exception in the air: its class, its own dict with its fields -/
def RX (T : Tb) (c : Cn) (x : Ex) (cls : Value) (d : Option Addr) : Prop :=
  cls = .ref (T.cls x.k) ∧ ∃ (dx : Addr) (vs : List V), d = some dx ∧ c.F dx = some (.xd (((T.fld x.k).zip vs).reverse)) ∧ vs.length = (T.fld x.k).length ∧ RpL T c x.us vs
theorem RX.mono {T : Tb} {c c' : Cn} (l : Le c c') {x : Ex} {cls : Value} {d : Option Addr} (r : RX T c x cls d) : RX T c' x cls d := by
  obtain ⟨e, dx, vs, h1, h2, h3, h4⟩ := r
  exact ⟨e, dx, vs, h1, l.F _ _ h2, h3, h4.mono l⟩

/-- within an except suite: the slot that holds the exception, where it lies, what it is -/
structure PinD where
  i : Nat
  a : Addr
  x : Ex
  cls : Value
  d : Option Addr
abbrev Pin := Option PinD
def pinned (P : Pin) (i : Nat) : Bool := match P with
  | some p => p.i == i
  | none => false

/-- the names -/
abbrev Env := List (Option U)
structure RE (T : Tb) (P : Pin) (c : Cn) (env : Env) (σ : St) : Prop where
  len : env.length = σ.length
  get : ∀ (i : Nat) (u : U), env[i]? = some (some u) → ∃ v, σ[i]? = some (some v) ∧ Rp T c u v
  pin : ∀ p, P = some p → σ[p.i]? = some (some (.ref p.a)) ∧ RX T c p.x p.cls p.d
theorem RE.mono {T : Tb} {P : Pin} {c c' : Cn} (l : Le c c') {env : Env} {σ : St} (r : RE T P c env σ) : RE T P c' env σ :=
  ⟨r.len, fun i u e => let ⟨v, h, q⟩ := r.get i u e; ⟨v, h, q.mono l⟩, fun p e => ⟨(r.pin p e).1, (r.pin p e).2.mono l⟩⟩
theorem RE.set {T : Tb} {P : Pin} {c : Cn} {env : Env} {σ : St} (r : RE T P c env σ) {u : U} {v : V} (q : Rp T c u v) (i : Nat) (hp : pinned P i = false) : RE T P c (env.set i (some u)) (σ.set i (some v)) := by
  refine ⟨by simp [r.len], fun j w e => ?_, fun p e => ⟨?_, (r.pin p e).2⟩⟩
  · by_cases h : i = j
    · subst h
      have hi : i < env.length := by
        have := (List.getElem?_eq_some_iff.mp e).1
        simpa using this
      rw [List.getElem?_set_self hi] at e
      cases e
      exact ⟨v, by rw [List.getElem?_set_self (by rw [← r.len]; exact hi)], q⟩
    · rw [List.getElem?_set_ne h] at e
      rw [List.getElem?_set_ne h]
      exact r.get j w e
  · subst e
    have h : i ≠ p.i := fun z => by
      have z' : (p.i == i) = false := hp
      rw [z] at z'
      simp at z'
    rw [List.getElem?_set_ne h]
    exact (r.pin p rfl).1
theorem RE.unset {T : Tb} {P : Pin} {c : Cn} {env : Env} {σ : St} (r : RE T P c env σ) (i : Nat) (hp : pinned P i = false) : RE T P c (env.set i none) (σ.set i none) := by
  refine ⟨by simp [r.len], fun j w e => ?_, fun p e => ⟨?_, (r.pin p e).2⟩⟩
  · by_cases h : i = j
    · subst h
      have hi : i < env.length := by
        have := (List.getElem?_eq_some_iff.mp e).1
        simpa using this
      rw [List.getElem?_set_self hi] at e
      cases e
    · rw [List.getElem?_set_ne h] at e
      rw [List.getElem?_set_ne h]
      exact r.get j w e
  · subst e
    have h : i ≠ p.i := fun z => by
      have z' : (p.i == i) = false := hp
      rw [z] at z'
      simp at z'
    rw [List.getElem?_set_ne h]
    exact (r.pin p rfl).1
/-- names forgotten -/
theorem RE.weak {T : Tb} {P : Pin} {c : Cn} {env env' : Env} {σ : St} (r : RE T P c env σ) (hl : env'.length = env.length) (h : ∀ (i : Nat) u, env'[i]? = some (some u) → env[i]? = some (some u)) : RE T P c env' σ :=
  ⟨hl.trans r.len, fun i u e => r.get i u (h i u e), r.pin⟩

/-- what is wanted of an outcome -/
def ResG {α β : Type} (T : Tb) (Wx : WX) (c : Cn) (σ : St) (R : Cn → α → β → Prop) (r : Out α) (Q : β → Hp → Prop) : Prop := match r with
  | .ok u st' => ∀ c' v H', Le c c' → RH T c' st' H' → R c' u v → Q v H'
  | .exc x st' => ∀ c' cls d H', Le c c' → RH T c' st' H' → RX T c' x cls d → Wx cls d σ H'
  | .bad => False
abbrev MG (α : Type) := Env → Sto → Out α
abbrev ME := MG U
abbrev MT := MG Bool
abbrev MA := MG (List U)
/-- the reading of a mirrored thing -/
def tgOf {α β : Type} (T : Tb) (P : Pin) (Wx : WX) (R : Cn → α → β → Prop) (m : MG α) : St → Hp → (β → Hp → Prop) → Prop :=
  fun σ H Q => ∃ c env st, RH T c st H ∧ RE T P c env σ ∧ ResG T Wx c σ R (m env st) Q
abbrev teOf (T : Tb) (P : Pin) (Wx : WX) (m : ME) : TE := tgOf T P Wx (Rp T) m
abbrev ttOf (T : Tb) (P : Pin) (Wx : WX) (m : MT) : TT := tgOf T P Wx (fun _ a b => a = b) m
abbrev taOf (T : Tb) (P : Pin) (Wx : WX) (m : MA) : TA := tgOf T P Wx (RpL T) m

section
variable {α β γ δ : Type} {T : Tb} {P : Pin} {Wx : WX} {R : Cn → α → β → Prop} {R' : Cn → γ → δ → Prop} {c c' : Cn} {σ : St} {r : Out α} {H : Hp} {m : MG α}
theorem ResG.mono {Q Q' : β → Hp → Prop} (h : ResG T Wx c σ R r Q) (k : ∀ v H, Q v H → Q' v H) : ResG T Wx c σ R r Q' := by
  cases r with
  | ok u st => exact fun c' v H' a b d => k _ _ (h c' v H' a b d)
  | exc x st => exact h
  | bad => exact h
theorem ResG.later {Q : β → Hp → Prop} (l : Le c c') (h : ResG T Wx c σ R r Q) : ResG T Wx c' σ R r Q := by
  cases r with
  | ok u st => exact fun c2 v H' a b d => h c2 v H' (l.trans a) b d
  | exc x st => exact fun c2 cls d H' a b e => h c2 cls d H' (l.trans a) b e
  | bad => exact h
theorem tgOf.mono {Q Q' : β → Hp → Prop} (h : tgOf T P Wx R m σ H Q) (k : ∀ v H, Q v H → Q' v H) : tgOf T P Wx R m σ H Q' :=
  let ⟨c, env, st, a, b, r⟩ := h
  ⟨c, env, st, a, b, r.mono k⟩
/-- a mirrored thing first, then the rest -/
theorem tg_bind {k : α → Sto → Out γ} {env : Env} {st : Sto} {Q : δ → Hp → Prop} (hH : RH T c st H) (hE : RE T P c env σ) (hR : ResG T Wx c σ R' ((m env st).bind k) Q) :
    tgOf T P Wx R m σ H fun x H1 => ∃ u c1 st1, Le c c1 ∧ RH T c1 st1 H1 ∧ RE T P c1 env σ ∧ R c1 u x ∧ ResG T Wx c1 σ R' (k u st1) Q := by
  refine ⟨c, env, st, hH, hE, ?_⟩
  cases e : m env st with
  | ok u st1 =>
    rw [e] at hR
    exact fun c1 v H1 l h r => ⟨u, c1, st1, l, h, hE.mono l, r, ResG.later l hR⟩
  | exc x st1 =>
    rw [e] at hR
    exact hR
  | bad =>
    rw [e] at hR
    exact hR
/-- at the end: the value -/
theorem ResG.ret {Q : β → Hp → Prop} {u : α} {v : β} {st : Sto} (h : ResG T Wx c σ R (.ok u st) Q) (hH : RH T c st H) (r : R c u v) : Q v H := h c v H (Le.refl c) hH r
end

/-- the judgements: the code does what its mirror does -/
def PEm (X : Cx) (T : Tb) (P : Pin) (Wx : WX) (e : Expr) (m : ME) : Prop := PE X e (teOf T P Wx m)
def PTm (X : Cx) (T : Tb) (P : Pin) (Wx : WX) (e : Expr) (m : MT) : Prop := PT X e (ttOf T P Wx m)
def PWm (X : Cx) (T : Tb) (P : Pin) (Wx : WX) (e : Expr) (m : MT) : Prop := PW X e (ttOf T P Wx m)
def PAm (X : Cx) (T : Tb) (P : Pin) (Wx : WX) (es : List Expr) (m : MA) : Prop := PA X es (taOf T P Wx m)
theorem PE.imp {X : Cx} {e : Expr} {t t' : TE} (h : PE X e t) (k : ∀ σ H Q, t' σ H Q → t σ H Q) : PE X e t' := ⟨fun pins s σ H Q I q => h.run pins s σ H Q I (k σ H Q q)⟩
theorem PT.imp {X : Cx} {e : Expr} {t t' : TT} (h : PT X e t) (k : ∀ σ H Q, t' σ H Q → t σ H Q) : PT X e t' := ⟨fun pins s σ H Q I q => h.run pins s σ H Q I (k σ H Q q)⟩
theorem PW.imp {X : Cx} {e : Expr} {t t' : TT} (h : PW X e t) (k : ∀ σ H Q, t' σ H Q → t σ H Q) : PW X e t' := ⟨fun wh pins s σ H Q I q => h.run wh pins s σ H Q I (k σ H Q q)⟩
theorem PA.imp {X : Cx} {e : List Expr} {t t' : TA} (h : PA X e t) (k : ∀ σ H Q, t' σ H Q → t σ H Q) : PA X e t' := ⟨fun pos pins s σ H Q I q => h.run pos pins s σ H Q I (k σ H Q q)⟩
theorem PS.imp {X : Cx} {e : Stmt} {t t' : TS} (h : PS X e t) (k : ∀ D σ H, t' D σ H → t D σ H) : PS X e t' := ⟨fun pins s σ H D I q => h.run pins s σ H D I (k D σ H q)⟩
theorem PSs.imp {X : Cx} {e : List Stmt} {t t' : TS} (h : PSs X e t) (k : ∀ D σ H, t' D σ H → t D σ H) : PSs X e t' := ⟨fun pins s σ H D I q => h.run pins s σ H D I (k D σ H q)⟩
theorem PI.imp {X : Cx} {tg e : Expr} {t t' : TI} (h : PI X tg e t) (k : ∀ σ H R, t' σ H R → t σ H R) : PI X tg e t' := ⟨fun pins s σ H R I q => h.run pins s σ H R I (k σ H R q)⟩
theorem PI.or {X : Cx} {tg iter : Expr} {w w' : TI} (h : PI X tg iter w) (g : PI X tg iter w') : PI X tg iter (fun σ H R => w σ H R ∨ w' σ H R) := ⟨fun pins s σ H R I q => by
  rcases q with q | q
  · exact h.run pins s σ H R I q
  · exact g.run pins s σ H R I q⟩
end NK

set_option Elab.async false
set_option linter.all false
set_option maxRecDepth 100000
set_option maxHeartbeats 2000000
/-! NK2: expressions. -/
namespace NK
open PySem L2

/-! ### mirrors of expressions -/
def eVar (i : Nat) : ME := fun env st => match env[i]? with
  | some (some u) => .ok u st
  | _ => .bad
def eC (u : U) : ME := fun _ st => .ok u st
def eOp (f : U → U → Sto → Out U) (ma mb : ME) : ME := fun env st => (ma env st).bind fun x st1 => (mb env st1).bind fun y st2 => f x y st2
def eUn (f : U → Sto → Out U) (ma : ME) : ME := fun env st => (ma env st).bind fun x st1 => f x st1
def aNil : MA := fun _ st => .ok [] st
def aCons (m : ME) (r : MA) : MA := fun env st => (m env st).bind fun x st1 => (r env st1).bind fun xs st2 => .ok (x :: xs) st2
def eCB (f : List U → Sto → Out U) (m : MA) : ME := fun env st => (m env st).bind fun xs st1 => f xs st1
def eTup (m : MA) : ME := fun env st => (m env st).bind fun xs st1 => if xs.length ≤ 16777216 then .ok (.tup xs) st1 else .bad
def eLst (m : MA) : ME := fun env st => (m env st).bind fun xs st1 => if xs.length ≤ 16777216 then .ok (.loc st1.length) (st1 ++ [.lst xs]) else .bad
/-- what stood in the store stands still from now on -/
def frz (u : U) (st : Sto) : Out U := match u with
  | .loc i => match st[i]? with
    | some (.lst us) => .ok (.lst us) (st.set i .dead)
    | some (.ins k us) => .ok (.ins k us) (st.set i .dead)
    | _ => .bad
  | u => .ok u st
def eFrz (m : ME) : ME := eUn frz m
def eIf (mt : MT) (ma mb : ME) : ME := fun env st => (mt env st).bind fun b st1 => if b = true then ma env st1 else mb env st1
def eAnd (ma mb : ME) : ME := fun env st => (ma env st).bind fun x st1 => match x with
  | .bl true => mb env st1
  | .bl false => .ok (.bl false) st1
  | _ => .bad
def eOr (ma mb : ME) : ME := fun env st => (ma env st).bind fun x st1 => match x with
  | .bl true => .ok (.bl true) st1
  | .bl false => mb env st1
  | _ => .bad
def eNot (ma : ME) : ME := fun env st => (ma env st).bind fun x st1 => match x with
  | .bl b => .ok (.bl (!b)) st1
  | _ => .bad
/-- tests -/
def tB (m : ME) : MT := fun env st => (m env st).bind fun x st1 => match x with
  | .bl b => .ok b st1
  | _ => .bad
/-- the items of a list or tuple -/
def items (u : U) (st : Sto) : Option (List U) := match u with
  | .tup us => some us
  | .lst us => some us
  | .scr us => some us
  | .loc i => match st[i]? with
    | some (.lst us) => some us
    | _ => none
  | _ => none
def truth (u : U) (st : Sto) : Option Bool := match u with
  | .non => some false
  | .bl b => some b
  | .int i => some (i != 0)
  | .str z => if z.length ≤ 16777216 then some ((z.length : Int) != 0) else none
  | .tup us => some (!us.isEmpty)
  | .lst us => some (!us.isEmpty)
  | .loc i => match st[i]? with
    | some (.lst us) => some (!us.isEmpty)
    | some (.dK us) => some (!us.isEmpty)
    | _ => none
  | _ => none
def tTru (m : ME) : MT := fun env st => (m env st).bind fun x st1 => match truth x st1 with
  | some b => .ok b st1
  | none => .bad
def tAnd (ma mb : MT) : MT := fun env st => (ma env st).bind fun b st1 => if b = true then mb env st1 else .ok false st1
def tOr (ma mb : MT) : MT := fun env st => (ma env st).bind fun b st1 => if b = true then .ok true st1 else mb env st1
def tNot (ma : MT) : MT := fun env st => (ma env st).bind fun b st1 => .ok (!b) st1

/-! ### what a value is -/
section
variable {T : Tb} {c : Cn} {st : Sto} {H : Hp}
theorem Rp.inv_int {i : Int} {v : V} (r : Rp T c (.int i) v) : v = .int i := by cases r; rfl
theorem Rp.inv_bl {i : Bool} {v : V} (r : Rp T c (.bl i) v) : v = .bl i := by cases r; rfl
theorem Rp.inv_str {i : Str} {v : V} (r : Rp T c (.str i) v) : v = .str i := by cases r; rfl
theorem Rp.inv_non {v : V} (r : Rp T c .non v) : v = .non := by cases r; rfl
theorem Rp.inv_ty {n : Ty} {v : V} (r : Rp T c (.ty n) v) : v = .ty n.name := by cases r; rfl
theorem Rp.inv_cls {k : Nat} {v : V} (r : Rp T c (.cls k) v) : v = .ref (T.cls k) := by cases r; rfl
theorem Rp.inv_scr {us : List U} {v : V} (r : Rp T c (.scr us) v) : ∃ a vs, v = .ref a ∧ SqL T.K c.F a vs ∧ RpL T c us vs := by cases r with | scr a b => exact ⟨_, _, rfl, a, b⟩
theorem Rp.inv_tup {us : List U} {v : V} (r : Rp T c (.tup us) v) : ∃ a vs, v = .ref a ∧ SqT T.K c.F a vs ∧ RpL T c us vs := by cases r with | tup a b => exact ⟨_, _, rfl, a, b⟩
theorem Rp.inv_lst {us : List U} {v : V} (r : Rp T c (.lst us) v) : ∃ a vs, v = .ref a ∧ c.F a = some (.lst vs) ∧ RpL T c us vs := by cases r with | lst a b => exact ⟨_, _, rfl, a, b⟩
theorem Rp.inv_ins {k : Nat} {us : List U} {v : V} (r : Rp T c (.ins k us) v) : ∃ a dx vs, v = .ref a ∧ c.F a = some (.ins (T.cls k) dx ((T.fld k).zip vs)) ∧ vs.length ≤ (T.fld k).length ∧ RpL T c us vs := by
  cases r with | ins a b d => exact ⟨_, _, _, rfl, a, b, d⟩
theorem Rp.inv_loc {i : Nat} {v : V} (r : Rp T c (.loc i) v) : i < c.n ∧ v = .ref (c.ρ i) := by cases r with | loc h => exact ⟨h, rfl⟩
theorem sqL_up (h : RH T c st H) {a : Addr} {vs : List V} (r : SqL T.K c.F a vs) : SqL T.K H a vs := sqL_mono h.sub r
theorem sqT_up (h : RH T c st H) {a : Addr} {vs : List V} (r : SqT T.K c.F a vs) : SqT T.K H a vs := sqT_mono h.sub r
theorem RH.at_lst (h : RH T c st H) {i : Nat} {us : List U} (e : st[i]? = some (.lst us)) : ∃ vs, H (c.ρ i) = some (.lst vs) ∧ RpL T c us vs := by
  obtain ⟨o, h1, ⟨vs, h2, h3⟩, _⟩ := h.act i _ e (fun z => nomatch z)
  subst h2
  exact ⟨vs, h1, h3⟩
theorem RH.at_ins (h : RH T c st H) {i k : Nat} {us : List U} (e : st[i]? = some (.ins k us)) : ∃ dx vs, H (c.ρ i) = some (.ins (T.cls k) dx ((T.fld k).zip vs)) ∧ vs.length ≤ (T.fld k).length ∧ RpL T c us vs := by
  obtain ⟨o, h1, ⟨dx, vs, h2, h3, h4⟩, _⟩ := h.act i _ e (fun z => nomatch z)
  subst h2
  exact ⟨dx, vs, h1, h3, h4⟩
theorem RH.at_dK (h : RH T c st H) {i : Nat} {us : List (Key × U)} (e : st[i]? = some (.dK us)) : ∃ vs, H (c.ρ i) = some (.dK vs) ∧ RpK T c us vs := by
  obtain ⟨o, h1, ⟨vs, h2, h3⟩, _⟩ := h.act i _ e (fun z => nomatch z)
  subst h2
  exact ⟨vs, h1, h3⟩
/-- what items tells -/
theorem items_at (h : RH T c st H) {u : U} {v : V} {us : List U} (r : Rp T c u v) (e : items u st = some us) : ∃ a vs, v = .ref a ∧ (SqL T.K H a vs ∨ SqT T.K H a vs) ∧ RpL T c us vs := by
  cases u with
  | tup xs =>
    obtain ⟨a, vs, rfl, h1, h2⟩ := r.inv_tup
    cases e
    exact ⟨a, vs, rfl, .inr (sqT_up h h1), h2⟩
  | lst xs =>
    obtain ⟨a, vs, rfl, h1, h2⟩ := r.inv_lst
    cases e
    exact ⟨a, vs, rfl, .inl (SqL.of (h.sub _ _ h1)), h2⟩
  | scr xs =>
    obtain ⟨a, vs, rfl, h1, h2⟩ := r.inv_scr
    cases e
    exact ⟨a, vs, rfl, .inl (sqL_up h h1), h2⟩
  | loc i =>
    obtain ⟨_, rfl⟩ := r.inv_loc
    dsimp only [items] at e
    split at e
    · rename_i us' q
      cases e
      obtain ⟨vs, h1, h2⟩ := h.at_lst q
      exact ⟨_, vs, rfl, .inl (SqL.of h1), h2⟩
    · cases e
  | _ => cases e
theorem isEmpty_rp {us : List U} {vs : List V} (r : RpL T c us vs) : (!vs.isEmpty) = !us.isEmpty := by cases r <;> rfl
theorem truth_at (h : RH T c st H) {u : U} {v : V} {b : Bool} (r : Rp T c u v) (e : truth u st = some b) : TruV T.K v H b := by
  cases u with
  | non => cases r.inv_non; cases e; rfl
  | bl x => cases r.inv_bl; cases e; rfl
  | int i => cases r.inv_int; cases e; rfl
  | str z =>
    cases r.inv_str
    dsimp only [truth] at e
    split at e
    · rename_i hz
      cases e
      exact ⟨by rw [sizeLine_eq]; exact hz, rfl⟩
    · cases e
  | tup xs =>
    obtain ⟨a, vs, rfl, h1, h2⟩ := r.inv_tup
    cases e
    exact .inr (.inl ⟨vs, sqT_up h h1, (isEmpty_rp h2).symm⟩)
  | lst xs =>
    obtain ⟨a, vs, rfl, h1, h2⟩ := r.inv_lst
    cases e
    exact .inl ⟨vs, SqL.of (h.sub _ _ h1), (isEmpty_rp h2).symm⟩
  | loc i =>
    obtain ⟨_, rfl⟩ := r.inv_loc
    dsimp only [truth] at e
    split at e
    · rename_i us' q
      cases e
      obtain ⟨vs, h1, h2⟩ := h.at_lst q
      exact .inl ⟨vs, SqL.of h1, (isEmpty_rp h2).symm⟩
    · rename_i us' q
      cases e
      obtain ⟨vs, h1, h2⟩ := h.at_dK q
      refine .inr (.inr ⟨vs, h1, ?_⟩)
      cases h2 <;> rfl
    · cases e
  | ins k us => cases e
  | ty n => cases e
  | cls n => cases e
  | scr n => cases e
end

/-! ### new things on the heap -/
def upr (ρ : Nat → Addr) (n : Nat) (p : Addr) : Nat → Addr := fun i => if i = n then p else ρ i
section
variable {T : Tb} {c : Cn} {st : Sto} {H : Hp}
theorem RH.ne_new (h : RH T c st H) {p : Addr} (hp : H p = none) {i : Nat} {o : Ob} (e : st[i]? = some o) (d : o ≠ .dead) : c.ρ i ≠ p := fun z => by
  obtain ⟨x, h1, _⟩ := h.act i o e d
  rw [z, hp] at h1
  cases h1
theorem RH.F_new (h : RH T c st H) {p : Addr} (hp : H p = none) : c.F p = none := by
  cases e : c.F p with
  | none => rfl
  | some o =>
    rw [h.sub p o e] at hp
    cases hp
/-- a new thing that never changes -/
def Cn.still (c : Cn) (p : Addr) (o : HO) : Cn := { c with F := upd c.F p o }
theorem le_still (h : RH T c st H) {p : Addr} (hp : H p = none) (o : HO) : Le c (c.still p o) :=
  ⟨Nat.le_refl _, fun _ _ => rfl, fun a u e => by
    show upd c.F p o a = _
    rw [upd_ne (fun z => by rw [z, h.F_new hp] at e; cases e)]
    exact e⟩
theorem RH.still (h : RH T c st H) {p : Addr} (hp : H p = none) (o : HO) : RH T (c.still p o) st (upd H p o) := by
  have l := le_still h hp o
  refine ⟨h.n, fun a u e => ?_, fun i ob e d => ?_, h.inj⟩
  · have e' : upd c.F p o a = some u := e
    by_cases z : a = p
    · subst z
      rw [upd_same] at e' ⊢
      exact e'
    · rw [upd_ne z] at e' ⊢
      exact h.sub a u e'
  · obtain ⟨x, h1, h2, h3⟩ := h.act i ob e d
    have ne := h.ne_new hp e d
    refine ⟨x, ?_, h2.mono l, ?_⟩
    · show upd H p o (c.ρ i) = _
      rw [upd_ne ne]; exact h1
    · show upd c.F p o (c.ρ i) = _
      rw [upd_ne ne]; exact h3
/-- a new thing that may change -/
def Cn.new (c : Cn) (p : Addr) : Cn := { ρ := upr c.ρ c.n p, n := c.n + 1, F := c.F }
theorem le_new (c : Cn) (p : Addr) : Le c (c.new p) :=
  ⟨Nat.le_succ _, fun i hi => by
    show upr c.ρ c.n p i = _
    unfold upr
    rw [if_neg (Nat.ne_of_lt hi)], fun _ _ e => e⟩
theorem new_self (c : Cn) (p : Addr) : (c.new p).ρ c.n = p := by
  show upr c.ρ c.n p c.n = p
  unfold upr
  rw [if_pos rfl]
theorem RH.new (h : RH T c st H) {p : Addr} (hp : H p = none) {o : Ob} {x : HO} (r : RO T c o p x) : RH T (c.new p) (st ++ [o]) (upd H p x) := by
  have l := le_new c p
  have old : ∀ {i : Nat} {a : Ob}, i ≠ st.length → (st ++ [o])[i]? = some a → i < st.length ∧ st[i]? = some a := fun {i a} hi e => by
    by_cases z : i < st.length
    · rw [List.getElem?_append_left z] at e
      exact ⟨z, e⟩
    · rw [List.getElem?_append_right (by omega)] at e
      have : i - st.length = 0 ∨ 0 < i - st.length := by omega
      rcases this with q | q
      · omega
      · rw [List.getElem?_eq_none (by simp; omega)] at e
        cases e
  have self : ∀ {a : Ob}, (st ++ [o])[st.length]? = some a → a = o := fun {a} e => by
    rw [List.getElem?_append_right (Nat.le_refl _), Nat.sub_self] at e
    exact (Option.some.inj e).symm
  have hρ : ∀ {i : Nat}, i < st.length → (c.new p).ρ i = c.ρ i := fun {i} hi => l.ρ i (by rw [h.n]; exact hi)
  refine ⟨by show c.n + 1 = _; rw [h.n]; simp, fun a u e => ?_, fun i a e d => ?_, fun i j a b ea da eb db q => ?_⟩
  · rw [upd_ne (fun z => by
      have e' : c.F a = some u := e
      rw [z, h.F_new hp] at e'
      cases e')]
    exact h.sub a u e
  · by_cases hi : i = st.length
    · subst hi
      have := self e
      subst this
      refine ⟨x, ?_, ?_, ?_⟩
      · rw [← h.n, new_self, upd_same]
      · rw [← h.n, new_self]; exact r.mono l
      · rw [← h.n, new_self]; exact h.F_new hp
    · obtain ⟨hlt, e'⟩ := old hi e
      obtain ⟨y, h1, h2, h3⟩ := h.act i a e' d
      refine ⟨y, ?_, ?_, ?_⟩
      · rw [hρ hlt, upd_ne (h.ne_new hp e' d)]; exact h1
      · rw [hρ hlt]; exact h2.mono l
      · rw [hρ hlt]; exact h3
  · by_cases hi : i = st.length
    · by_cases hj : j = st.length
      · rw [hi, hj]
      · obtain ⟨hlt, eb'⟩ := old hj eb
        subst hi
        rw [← h.n, new_self, hρ hlt] at q
        exact absurd q.symm (h.ne_new hp eb' db)
    · obtain ⟨hlt, ea'⟩ := old hi ea
      by_cases hj : j = st.length
      · subst hj
        rw [hρ hlt, ← h.n, new_self] at q
        exact absurd q (h.ne_new hp ea' da)
      · obtain ⟨hlt', eb'⟩ := old hj eb
        rw [hρ hlt, hρ hlt'] at q
        exact h.inj i j a b ea' da eb' db q
/-- a thing changed -/
theorem RH.set (h : RH T c st H) {i : Nat} {o o' : Ob} {x : HO} (e : st[i]? = some o) (d : o ≠ .dead) (r : RO T c o' (c.ρ i) x) : RH T c (st.set i o') (upd H (c.ρ i) x) := by
  have hi : i < st.length := (List.getElem?_eq_some_iff.mp e).1
  have old : ∀ {j : Nat} {a : Ob}, j ≠ i → (st.set i o')[j]? = some a → st[j]? = some a := fun {j a} hj q => by
    rw [List.getElem?_set_ne (Ne.symm hj)] at q
    exact q
  have self : ∀ {a : Ob}, (st.set i o')[i]? = some a → a = o' := fun {a} q => by
    rw [List.getElem?_set_self hi] at q
    exact (Option.some.inj q).symm
  refine ⟨by rw [h.n]; simp, fun a u q => ?_, fun j a q da => ?_, fun j k a b ea da eb db q => ?_⟩
  · obtain ⟨_, _, _, h3⟩ := h.act i o e d
    rw [upd_ne (fun z => by rw [z, h3] at q; cases q)]
    exact h.sub a u q
  · by_cases hj : j = i
    · subst hj
      have := self q
      subst this
      obtain ⟨_, _, _, h3⟩ := h.act j o e d
      exact ⟨x, upd_same, r, h3⟩
    · have q' := old hj q
      obtain ⟨y, h1, h2, h3⟩ := h.act j a q' da
      refine ⟨y, ?_, h2, h3⟩
      rw [upd_ne (fun z => hj (h.inj j i a o q' da e d z))]
      exact h1
  · by_cases hj : j = i
    · by_cases hk : k = i
      · rw [hj, hk]
      · subst hj
        exact h.inj j k o b e d (old hk eb) db q
    · by_cases hk : k = i
      · subst hk
        exact h.inj j k a o (old hj ea) da e d q
      · exact h.inj j k a b (old hj ea) da (old hk eb) db q
/-- a thing that is not to change any more -/
theorem le_freeze (h : RH T c st H) {i : Nat} {o : Ob} {x : HO} (e : st[i]? = some o) (d : o ≠ .dead) : Le c { c with F := upd c.F (c.ρ i) x } := by
  obtain ⟨_, _, _, h3⟩ := h.act i o e d
  exact ⟨Nat.le_refl _, fun _ _ => rfl, fun a u q => by
    show upd c.F (c.ρ i) x a = _
    rw [upd_ne (fun z => by rw [z, h3] at q; cases q)]
    exact q⟩
theorem RH.freeze (h : RH T c st H) {i : Nat} {o : Ob} {x : HO} (e : st[i]? = some o) (d : o ≠ .dead) (hx : H (c.ρ i) = some x) : RH T { c with F := upd c.F (c.ρ i) x } (st.set i .dead) H := by
  have l := le_freeze (x := x) h e d
  have old : ∀ {j : Nat} {a : Ob}, a ≠ .dead → (st.set i .dead)[j]? = some a → j ≠ i ∧ st[j]? = some a := fun {j a} ha q => by
    have hj : j ≠ i := fun z => by
      subst z
      have hlt : j < st.length := (List.getElem?_eq_some_iff.mp e).1
      rw [List.getElem?_set_self hlt] at q
      exact ha (Option.some.inj q).symm
    rw [List.getElem?_set_ne (Ne.symm hj)] at q
    exact ⟨hj, q⟩
  refine ⟨by show c.n = _; rw [h.n]; simp, fun a u q => ?_, fun j a q da => ?_, fun j k a b ea da eb db q => ?_⟩
  · have q' : upd c.F (c.ρ i) x a = some u := q
    by_cases z : a = c.ρ i
    · subst z
      rw [upd_same] at q'
      rw [← q']; exact hx
    · rw [upd_ne z] at q'
      exact h.sub a u q'
  · obtain ⟨hj, q'⟩ := old da q
    obtain ⟨y, h1, h2, h3⟩ := h.act j a q' da
    refine ⟨y, h1, h2.mono l, ?_⟩
    show upd c.F (c.ρ i) x (c.ρ j) = _
    rw [upd_ne (fun z => hj (h.inj j i a o q' da e d z))]
    exact h3
  · exact h.inj j k a b (old da ea).2 da (old db eb).2 db q
end

/-! ### operators by values -/
/-- a two-place operation: the reading follows from the mirror -/
def OpSim (T : Tb) (r : R2) (f : U → U → Sto → Out U) : Prop :=
  ∀ (Wx : WX) (c : Cn) (σ : L2.St) (st : Sto) (H : Hp) (u w : U) (x y : V) (Q : VK), RH T c st H → Rp T c u x → Rp T c w y → ResG T Wx c σ (Rp T) (f u w st) Q → r x y H Q
def UnSim (T : Tb) (r : V → Hp → VK → Prop) (f : U → Sto → Out U) : Prop :=
  ∀ (Wx : WX) (c : Cn) (σ : L2.St) (st : Sto) (H : Hp) (u : U) (x : V) (Q : VK), RH T c st H → Rp T c u x → ResG T Wx c σ (Rp T) (f u st) Q → r x H Q
def CallSim (T : Tb) (r : List V → Hp → VK → Prop) (f : List U → Sto → Out U) : Prop :=
  ∀ (Wx : WX) (c : Cn) (σ : L2.St) (st : Sto) (H : Hp) (us : List U) (xs : List V) (Q : VK), RH T c st H → RpL T c us xs → ResG T Wx c σ (Rp T) (f us st) Q → r xs H Q

section
variable {X : Cx} {T : Tb} {P : Pin} {Wx : WX} {a b c : Expr} {ma mb mc : ME} {pos : Pos}
theorem pem_var {i : Nat} (h : PE X a (tVar i)) : PEm X T P Wx a (eVar i) := PE.imp h fun σ H Q ⟨c, env, st, hH, hE, hR⟩ => by
  unfold eVar at hR
  split at hR
  · rename_i u e
    obtain ⟨v, e', r⟩ := hE.get i u e
    exact ⟨v, e', hR.ret hH r⟩
  · exact hR.elim
theorem pem_c {v : V} {u : U} (h : PE X a (tC v)) (r : ∀ c, Rp T c u v) : PEm X T P Wx a (eC u) := PE.imp h fun σ H Q ⟨c, env, st, hH, hE, hR⟩ =>
  ResG.ret (u := u) hR hH (r c)
theorem pem_int {i j} : PEm X T P Wx (.Constant (.int i) j pos) (eC (.int i)) := pem_c pe_int fun _ => .int i
theorem pem_bl {i j} : PEm X T P Wx (.Constant (.bool i) j pos) (eC (.bl i)) := pem_c pe_bl fun _ => .bl i
theorem pem_str {i j} : PEm X T P Wx (.Constant (.str i) j pos) (eC (.str i)) := pem_c pe_str fun _ => .str i
theorem pem_non {j} : PEm X T P Wx (.Constant .none j pos) (eC .non) := pem_c pe_non fun _ => .non
theorem opr_run {r : R2} {f : U → U → Sto → Out U} (hs : OpSim T r f) (σ : L2.St) (H : Hp) (Q : VK) (h : teOf T P Wx (eOp f ma mb) σ H Q) : tOp r (teOf T P Wx ma) (teOf T P Wx mb) σ H Q := by
  obtain ⟨c, env, st, hH, hE, hR⟩ := h
  refine (tg_bind hH hE hR).mono fun x H1 ⟨u, c1, st1, l1, hH1, hE1, r1, hR1⟩ => ?_
  refine (tg_bind hH1 hE1 hR1).mono fun y H2 ⟨w, c2, st2, l2, hH2, hE2, r2, hR2⟩ => ?_
  exact hs Wx c2 σ st2 H2 u w x y Q hH2 (r1.mono l2) r2 hR2
theorem pem_op {op : Operator} {r : R2} {f : U → U → Sto → Out U} (ho : OpR X (binaryOp op) r) (hs : OpSim T r f) (ha : PEm X T P Wx a ma) (hb : PEm X T P Wx b mb) : PEm X T P Wx (.BinOp a op b pos) (eOp f ma mb) :=
  PE.imp (pe_op ho ha hb) (opr_run hs)
theorem pem_cmp {op : CmpOp} {r : R2} {f : U → U → Sto → Out U} (ho : OpR X (compareOp op) r) (hs : OpSim T r f) (ha : PEm X T P Wx a ma) (hb : PEm X T P Wx b mb) (hm : behindInMarks op b = false) : PEm X T P Wx (.Compare a [op] [b] pos) (eOp f ma mb) :=
  PE.imp (pe_cmpR ho ha hb hm) (opr_run hs)
theorem test_run {t : TE} {m : ME} (h1 : ∀ σ H Q, teOf T P Wx m σ H Q → t σ H Q) (σ : L2.St) (H : Hp) (Q : Bool → Hp → Prop) (h : ttOf T P Wx (tB m) σ H Q) : tTest t σ H Q := by
  obtain ⟨c, env, st, hH, hE, hR⟩ := h
  refine h1 σ H _ ((tg_bind hH hE hR).mono fun x H1 ⟨u, c1, st1, l1, hH1, hE1, r1, hR1⟩ => ?_)
  cases u with
  | bl k =>
    cases r1.inv_bl
    exact ⟨k, rfl, hR1.ret hH1 rfl⟩
  | _ => exact hR1.elim
theorem ptm_cmp {op : CmpOp} {r : R2} {f : U → U → Sto → Out U} (ho : OpR X (compareOp op) r) (hs : OpSim T r f) (ha : PEm X T P Wx a ma) (hb : PEm X T P Wx b mb) (hm : behindInMarks op b = false) : PTm X T P Wx (.Compare a [op] [b] pos) (tB (eOp f ma mb)) :=
  PT.imp (pt_cmpR ho ha hb hm) (test_run (opr_run hs))
/-- a op b op' c -/
def eChain (f g : U → U → Sto → Out U) (ma mb mc : ME) : ME := fun env st => (ma env st).bind fun x st1 => (mb env st1).bind fun y st2 => (f x y st2).bind fun z st3 => match z with
  | .bl true => (mc env st3).bind fun w st4 => g y w st4
  | .bl false => .ok (.bl false) st3
  | _ => .bad
theorem chain_run {r r' : R2} {f g : U → U → Sto → Out U} (hs : OpSim T r f) (hs' : OpSim T r' g) (σ : L2.St) (H : Hp) (Q : VK) (h : teOf T P Wx (eChain f g ma mb mc) σ H Q) : tChain r r' (teOf T P Wx ma) (teOf T P Wx mb) (teOf T P Wx mc) σ H Q := by
  obtain ⟨c, env, st, hH, hE, hR⟩ := h
  refine (tg_bind hH hE hR).mono fun x H1 ⟨u, c1, st1, l1, hH1, hE1, r1, hR1⟩ => ?_
  refine (tg_bind hH1 hE1 hR1).mono fun y H2 ⟨w, c2, st2, l2, hH2, hE2, r2, hR2⟩ => ?_
  refine hs Wx c2 σ st2 H2 u w x y _ hH2 (r1.mono l2) r2 ?_
  revert hR2
  cases e : f u w st2 with
  | ok z st3 =>
    intro hR2 c3 v H3 l3 hH3 r3
    have hR3 := ResG.later l3 hR2
    cases z with
    | bl k =>
      cases r3.inv_bl
      refine ⟨k, rfl, ?_⟩
      cases k with
      | true =>
        rw [if_pos rfl]
        refine (tg_bind (R' := Rp T) hH3 (hE2.mono l3) hR3).mono fun w' H4 ⟨t, c4, st4, l4, hH4, hE4, r4, hR4⟩ => ?_
        exact hs' Wx c4 σ st4 H4 w t y w' Q hH4 ((r2.mono l3).mono l4) r4 hR4
      | false =>
        rw [if_neg Bool.false_ne_true]
        exact ResG.ret hR3 hH3 (.bl false)
    | _ => exact hR3.elim
  | exc x' st3 => exact fun hR2 => hR2
  | bad => exact fun hR2 => hR2
theorem pem_chain {op op' : CmpOp} {r r' : R2} {f g : U → U → Sto → Out U} (ho : OpR X (compareOp op) r) (hs : OpSim T r f) (ho' : OpR X (compareOp op') r') (hs' : OpSim T r' g) (ha : PEm X T P Wx a ma) (hb : PEm X T P Wx b mb) (hc : PEm X T P Wx c mc)
    (hm : lastMarks [op, op'] [b, c] = false := by with_unfolding_all rfl) : PEm X T P Wx (.Compare a [op, op'] [b, c] pos) (eChain f g ma mb mc) := PE.imp (pe_chain ho ho' ha hb hc hm) (chain_run hs hs')
theorem ptm_chain {op op' : CmpOp} {r r' : R2} {f g : U → U → Sto → Out U} (ho : OpR X (compareOp op) r) (hs : OpSim T r f) (ho' : OpR X (compareOp op') r') (hs' : OpSim T r' g) (ha : PEm X T P Wx a ma) (hb : PEm X T P Wx b mb) (hc : PEm X T P Wx c mc)
    (hm : lastMarks [op, op'] [b, c] = false := by with_unfolding_all rfl) : PTm X T P Wx (.Compare a [op, op'] [b, c] pos) (tB (eChain f g ma mb mc)) := PT.imp (pt_chain ho ho' ha hb hc hm) (test_run (chain_run hs hs'))
theorem pem_un {op : UnaryOp} {r : V → Hp → VK → Prop} {f : U → Sto → Out U} (ho : UnR X (unaryOp op) r) (hs : UnSim T r f) (ha : PEm X T P Wx a ma) : PEm X T P Wx (.UnaryOp op a pos) (eUn f ma) :=
  PE.imp (pe_un ho ha) fun σ H Q ⟨c, env, st, hH, hE, hR⟩ => (tg_bind hH hE hR).mono fun x H1 ⟨u, c1, st1, l1, hH1, hE1, r1, hR1⟩ => hs Wx c1 σ st1 H1 u x Q hH1 r1 hR1
/-- what stood in the store stands still from now on (nothing happens in the program) -/
theorem pem_frz (ha : PEm X T P Wx a ma) : PEm X T P Wx a (eFrz ma) := PE.imp ha fun σ H Q ⟨c, env, st, hH, hE, hR⟩ => by
  refine (tg_bind hH hE hR).mono fun x H1 ⟨u, c1, st1, l1, hH1, hE1, r1, hR1⟩ => ?_
  have plain : ResG T Wx c1 σ (Rp T) (.ok u st1) Q → Q x H1 := fun h => h.ret hH1 r1
  cases u with
  | loc i =>
    obtain ⟨hi, rfl⟩ := r1.inv_loc
    dsimp only [frz] at hR1
    split at hR1
    · rename_i us e
      obtain ⟨vs, h1, h2⟩ := hH1.at_lst e
      have l := le_freeze (x := .lst vs) hH1 e (fun z => nomatch z)
      exact hR1 _ _ _ l (hH1.freeze e (fun z => nomatch z) h1) (.lst upd_same (h2.mono l))
    · rename_i k us e
      obtain ⟨dx, vs, h1, hz, h2⟩ := hH1.at_ins e
      have l := le_freeze (x := .ins (T.cls k) dx ((T.fld k).zip vs)) hH1 e (fun z => nomatch z)
      exact hR1 _ _ _ l (hH1.freeze e (fun z => nomatch z) h1) (.ins upd_same hz (h2.mono l))
    · exact hR1.elim
  | _ => exact plain hR1
theorem pem_ifExp {mt : MT} (hc : PTm X T P Wx c mt) (ha : PEm X T P Wx a ma) (hb : PEm X T P Wx b mb) : PEm X T P Wx (.IfExp c a b pos) (eIf mt ma mb) :=
  PE.imp (pe_ifExp hc ha hb) fun σ H Q ⟨c, env, st, hH, hE, hR⟩ => by
    refine (tg_bind hH hE hR).mono fun k H1 ⟨u, c1, st1, l1, hH1, hE1, r1, hR1⟩ => ?_
    cases (show u = k from r1)
    cases k with
    | true => exact ⟨c1, env, st1, hH1, hE1, hR1⟩
    | false => exact ⟨c1, env, st1, hH1, hE1, hR1⟩
theorem pem_one {op} (h : PEm X T P Wx a ma) : PEm X T P Wx (.BoolOp op [a] pos) ma := pe_one h
theorem pem_and {rest : List Expr} (ha : PEm X T P Wx a ma) (hb : PEm X T P Wx (.BoolOp .And (b :: rest) pos) mb) : PEm X T P Wx (.BoolOp .And (a :: b :: rest) pos) (eAnd ma mb) :=
  PE.imp (pe_and ha hb) fun σ H Q ⟨c, env, st, hH, hE, hR⟩ => by
    refine (tg_bind hH hE hR).mono fun k H1 ⟨u, c1, st1, l1, hH1, hE1, r1, hR1⟩ => ?_
    cases u with
    | bl i =>
      cases r1.inv_bl
      refine ⟨i, rfl, ?_⟩
      cases i with
      | true => exact ⟨c1, env, st1, hH1, hE1, hR1⟩
      | false => exact ResG.ret hR1 hH1 (.bl false)
    | _ => exact hR1.elim
theorem pem_or {rest : List Expr} (ha : PEm X T P Wx a ma) (hb : PEm X T P Wx (.BoolOp .Or (b :: rest) pos) mb) : PEm X T P Wx (.BoolOp .Or (a :: b :: rest) pos) (eOr ma mb) :=
  PE.imp (pe_or ha hb) fun σ H Q ⟨c, env, st, hH, hE, hR⟩ => by
    refine (tg_bind hH hE hR).mono fun k H1 ⟨u, c1, st1, l1, hH1, hE1, r1, hR1⟩ => ?_
    cases u with
    | bl i =>
      cases r1.inv_bl
      refine ⟨i, rfl, ?_⟩
      cases i with
      | true => exact ResG.ret hR1 hH1 (.bl true)
      | false => exact ⟨c1, env, st1, hH1, hE1, hR1⟩
    | _ => exact hR1.elim
theorem pem_not (ha : PEm X T P Wx a ma) : PEm X T P Wx (.UnaryOp .Not a pos) (eNot ma) :=
  PE.imp (pe_not ha) fun σ H Q ⟨c, env, st, hH, hE, hR⟩ => by
    refine (tg_bind hH hE hR).mono fun k H1 ⟨u, c1, st1, l1, hH1, hE1, r1, hR1⟩ => ?_
    cases u with
    | bl i =>
      cases r1.inv_bl
      exact ⟨i, rfl, ResG.ret hR1 hH1 (.bl _)⟩
    | _ => exact hR1.elim

/-! ### tests -/
theorem ptm_tru (hK : X.K = T.K) (ha : PEm X T P Wx a ma) (he : ∀ whole, isTrue a X.env whole = (do let v ← whole; standAt a.pos; holding [v] (truthy v)) := by intro _; rfl) : PTm X T P Wx a (tTru ma) :=
  PT.imp (pt_truth ha he) fun σ H Q ⟨c, env, st, hH, hE, hR⟩ => by
    refine (tg_bind hH hE hR).mono fun k H1 ⟨u, c1, st1, l1, hH1, hE1, r1, hR1⟩ => ?_
    split at hR1
    · rename_i b e
      refine ⟨b, ?_, hR1.ret hH1 rfl⟩
      rw [hK]
      exact truth_at hH1 r1 e
    · exact hR1.elim
theorem ptm_not {mt : MT} (ha : PTm X T P Wx a mt) : PTm X T P Wx (.UnaryOp .Not a pos) (tNot mt) :=
  PT.imp (pt_not ha) fun σ H Q ⟨c, env, st, hH, hE, hR⟩ => by
    refine (tg_bind hH hE hR).mono fun k H1 ⟨u, c1, st1, l1, hH1, hE1, r1, hR1⟩ => ?_
    cases (show u = k from r1)
    exact hR1.ret hH1 rfl
theorem pwm_and1 {mt : MT} (ha : PTm X T P Wx a mt) : PWm X T P Wx (.BoolOp .And [a] pos) mt := pw_and1 ha
theorem pwm_or1 {mt : MT} (ha : PTm X T P Wx a mt) : PWm X T P Wx (.BoolOp .Or [a] pos) mt := pw_or1 ha
theorem pwm_and {mt mu : MT} {rest : List Expr} (ha : PTm X T P Wx a mt) (hb : PWm X T P Wx (.BoolOp .And (b :: rest) pos) mu) : PWm X T P Wx (.BoolOp .And (a :: b :: rest) pos) (tAnd mt mu) :=
  PW.imp (pw_and ha hb) fun σ H Q ⟨c, env, st, hH, hE, hR⟩ => by
    refine (tg_bind hH hE hR).mono fun k H1 ⟨u, c1, st1, l1, hH1, hE1, r1, hR1⟩ => ?_
    cases (show u = k from r1)
    cases k with
    | true => exact ⟨c1, env, st1, hH1, hE1, hR1⟩
    | false => exact ResG.ret hR1 hH1 rfl
theorem pwm_or {mt mu : MT} {rest : List Expr} (ha : PTm X T P Wx a mt) (hb : PWm X T P Wx (.BoolOp .Or (b :: rest) pos) mu) : PWm X T P Wx (.BoolOp .Or (a :: b :: rest) pos) (tOr mt mu) :=
  PW.imp (pw_or ha hb) fun σ H Q ⟨c, env, st, hH, hE, hR⟩ => by
    refine (tg_bind hH hE hR).mono fun k H1 ⟨u, c1, st1, l1, hH1, hE1, r1, hR1⟩ => ?_
    cases (show u = k from r1)
    cases k with
    | true => exact ResG.ret hR1 hH1 rfl
    | false => exact ⟨c1, env, st1, hH1, hE1, hR1⟩
theorem PWm.pt {mt : MT} (h : PWm X T P Wx a mt) : PTm X T P Wx a mt := PW.pt h

/-! ### displays, arguments -/
variable {e : Expr} {es : List Expr} {m : ME} {mr : MA}
theorem pam_nil : PAm X T P Wx [] aNil := PA.imp pa_nil fun σ H Q ⟨c, env, st, hH, hE, hR⟩ => ResG.ret (u := ([] : List U)) hR hH .nil
theorem pam_cons (ha : PEm X T P Wx e m) (hr : PAm X T P Wx es mr) (hs : starEach (e :: es) X.env = (false, eval e X.env) :: starEach es X.env := by rfl) : PAm X T P Wx (e :: es) (aCons m mr) :=
  PA.imp (pa_cons ha hr hs) fun σ H Q ⟨c, env, st, hH, hE, hR⟩ => by
    refine (tg_bind hH hE hR).mono fun x H1 ⟨u, c1, st1, l1, hH1, hE1, r1, hR1⟩ => ?_
    refine (tg_bind hH1 hE1 hR1).mono fun y H2 ⟨w, c2, st2, l2, hH2, hE2, r2, hR2⟩ => ?_
    exact hR2.ret hH2 (.cons (r1.mono l2) r2)
theorem pem_tup {x1} (h : PAm X T P Wx es mr) : PEm X T P Wx (.Tuple es x1 pos) (eTup mr) :=
  PE.imp (pe_tup h) fun σ H Q ⟨c, env, st, hH, hE, hR⟩ => by
    refine (tg_bind hH hE hR).mono fun xs H1 ⟨us, c1, st1, l1, hH1, hE1, r1, hR1⟩ => ?_
    by_cases hz : us.length ≤ 16777216
    · rw [if_pos hz] at hR1
      refine ⟨by rw [← r1.length, sizeLine_eq]; exact hz, fun p hp => ?_⟩
      have l := le_still hH1 hp (.tup xs)
      exact hR1 _ _ _ l (hH1.still hp _) (.tup (SqT.of upd_same) (r1.mono l))
    · rw [if_neg hz] at hR1
      exact hR1.elim
theorem pem_lst (h : PAm X T P Wx es mr) : PEm X T P Wx (.List es pos) (eLst mr) :=
  PE.imp (pe_lst h) fun σ H Q ⟨c, env, st, hH, hE, hR⟩ => by
    refine (tg_bind hH hE hR).mono fun xs H1 ⟨us, c1, st1, l1, hH1, hE1, r1, hR1⟩ => ?_
    by_cases hz : us.length ≤ 16777216
    · rw [if_pos hz] at hR1
      refine ⟨by rw [← r1.length, sizeLine_eq]; exact hz, fun p hp => ?_⟩
      have h2 := hH1.new hp (o := .lst us) (x := .lst xs) ⟨xs, rfl, r1⟩
      refine hR1 _ _ _ (le_new c1 p) h2 ?_
      have e : V.ref p = V.ref ((c1.new p).ρ c1.n) := by rw [new_self]
      rw [e, ← hH1.n]
      exact .loc (Nat.lt_succ_self _)
    · rw [if_neg hz] at hR1
      exact hR1.elim
theorem cb_run {r : List V → Hp → VK → Prop} {f : List U → Sto → Out U} (hs : CallSim T r f) (σ : L2.St) (H : Hp) (Q : VK) (h : teOf T P Wx (eCB f mr) σ H Q) : tCB r (taOf T P Wx mr) σ H Q := by
  obtain ⟨c, env, st, hH, hE, hR⟩ := h
  exact (tg_bind hH hE hR).mono fun xs H1 ⟨us, c1, st1, l1, hH1, hE1, r1, hR1⟩ => hs Wx c1 σ st1 H1 us xs Q hH1 r1 hR1
theorem pem_callB {x : Str} {p : Pos} {id : String} {r : List V → Hp → VK → Prop} {f : List U → Sto → Out U} (hc : CallR X (.builtin id) r) (hs : CallSim T r f) (hg : Gl X x) (hm : X.mg x = none) (hv : bootBuiltins x = some (.builtin id)) (ha : PAm X T P Wx (e :: es) mr) (hn : x ≠ "__name__" := by decide) (hdb : (x == ("__debug__" : Str)) = false := by decide)
    (he : starEach (e :: es) X.env = (false, eval e X.env) :: starEach es X.env := by rfl) (hpl : (backTo pos (starEach es X.env)).any (·.1) = false := by rfl) : PEm X T P Wx (.Call (.Name x p) (e :: es) [] pos) (eCB f mr) :=
  PE.imp (pe_callB hc hg hm hv ha hn hdb he hpl) (cb_run hs)
theorem pem_callTy {x : Str} {p : Pos} {id : String} {r : List V → Hp → VK → Prop} {f : List U → Sto → Out U} (hc : CallR X (.type id) r) (hs : CallSim T r f) (hg : Gl X x) (hm : X.mg x = none) (hv : bootBuiltins x = some (.type id)) (ha : PAm X T P Wx (e :: es) mr) (hn : x ≠ "__name__" := by decide) (hdb : (x == ("__debug__" : Str)) = false := by decide)
    (he : starEach (e :: es) X.env = (false, eval e X.env) :: starEach es X.env := by rfl) (hpl : (backTo pos (starEach es X.env)).any (·.1) = false := by rfl) : PEm X T P Wx (.Call (.Name x p) (e :: es) [] pos) (eCB f mr) :=
  PE.imp (pe_callTy hc hg hm hv ha hn hdb he hpl) (cb_run hs)
theorem pem_ix {r : R2} {f : U → U → Sto → Out U} (hr : IxR X r) (hs : OpSim T r f) (ha : PEm X T P Wx a ma) (hb : PEm X T P Wx b mb) (hx : PlainIx b := by exact fun _ _ => rfl) : PEm X T P Wx (.Subscript a b pos) (eOp f ma mb) :=
  PE.imp (pe_ix hr ha hb hx) (opr_run hs)
end
end NK

set_option Elab.async false
set_option linter.all false
set_option maxRecDepth 100000
set_option maxHeartbeats 2000000
/-! NK3: operators, comparisons, built-ins by values. -/
namespace NK
open PySem L2

section
variable {T : Tb} {X : Cx}
theorem szl : sizeLine = 16777216 := sizeLine_eq

/-! ### a new list, a new tuple as the answer -/
theorem new_lst {Wx : WX} {c : Cn} {σ : L2.St} {st : Sto} {H : Hp} {us : List U} {vs : List V} {Q : VK} (hH : RH T c st H) (r : RpL T c us vs) (hR : ResG T Wx c σ (Rp T) (.ok (.loc st.length) (st ++ [.lst us])) Q) :
    ∀ p, H p = none → Q (.ref p) (upd H p (.lst vs)) := fun p hp => by
  have h2 := hH.new hp (o := .lst us) (x := .lst vs) ⟨vs, rfl, r⟩
  refine hR _ _ _ (le_new c p) h2 ?_
  have e : V.ref p = V.ref ((c.new p).ρ c.n) := by rw [new_self]
  rw [e, ← hH.n]
  exact .loc (Nat.lt_succ_self _)
theorem new_tup {Wx : WX} {c : Cn} {σ : L2.St} {st : Sto} {H : Hp} {us : List U} {vs : List V} {Q : VK} (hH : RH T c st H) (r : RpL T c us vs) (hR : ResG T Wx c σ (Rp T) (.ok (.tup us) st) Q) :
    ∀ p, H p = none → Q (.ref p) (upd H p (.tup vs)) := fun p hp =>
  hR _ _ _ (le_still hH hp (.tup vs)) (hH.still hp _) (.tup (SqT.of upd_same) (r.mono (le_still hH hp _)))

/-! ### ints -/
def fI (g : Int → Int → U) : U → U → Sto → Out U := fun u w st => match u, w with
  | .int i, .int j => .ok (g i j) st
  | _, _ => .bad
def fIc (C : Int → Int → Bool) (g : Int → Int → U) : U → U → Sto → Out U := fun u w st => match u, w with
  | .int i, .int j => if C i j = true then .ok (g i j) st else .bad
  | _, _ => .bad
theorem sim_I {g : Int → Int → U} {g' : Int → Int → V} (hg : ∀ c i j, Rp T c (g i j) (g' i j)) : OpSim T (rI0 g') (fI g) := fun Wx c σ st H u w x y Q hH ru rw hR => by
  cases u with
  | int i =>
    cases w with
    | int j =>
      cases ru.inv_int
      cases rw.inv_int
      exact ⟨i, j, rfl, rfl, ResG.ret hR hH (hg c i j)⟩
    | _ => exact hR.elim
  | _ => exact hR.elim
theorem sim_Ic {C : Int → Int → Bool} {C' : Int → Int → Prop} {g : Int → Int → U} {g' : Int → Int → V} (hg : ∀ c i j, Rp T c (g i j) (g' i j)) (hC : ∀ i j, C i j = true → C' i j) : OpSim T (rI C' g') (fIc C g) := fun Wx c σ st H u w x y Q hH ru rw hR => by
  cases u with
  | int i =>
    cases w with
    | int j =>
      cases ru.inv_int
      cases rw.inv_int
      dsimp only [fIc] at hR
      by_cases h : C i j = true
      · rw [if_pos h] at hR
        exact ⟨i, j, rfl, rfl, hC i j h, ResG.ret hR hH (hg c i j)⟩
      · rw [if_neg h] at hR
        exact hR.elim
    | _ => exact hR.elim
  | _ => exact hR.elim
def fSub := fI fun i j => .int (i - j)
def fLt := fI fun i j => .bl (decide (i < j))
def fLe := fI fun i j => .bl (decide (i ≤ j))
def fGt := fI fun i j => .bl (decide (j < i))
def fGe := fI fun i j => .bl (decide (j ≤ i))
theorem sim_sub : OpSim T (rI0 fun i j => .int (i - j)) fSub := sim_I fun _ _ _ => .int _
theorem sim_lt : OpSim T (rI0 fun i j => .bl (decide (i < j))) fLt := sim_I fun _ _ _ => .bl _
theorem sim_le : OpSim T (rI0 fun i j => .bl (decide (i ≤ j))) fLe := sim_I fun _ _ _ => .bl _
theorem sim_gt : OpSim T (rI0 fun i j => .bl (decide (j < i))) fGt := sim_I fun _ _ _ => .bl _
theorem sim_ge : OpSim T (rI0 fun i j => .bl (decide (j ≤ i))) fGe := sim_I fun _ _ _ => .bl _
def cMul (i j : Int) : Bool := decide ((-(2 ^ 64) < i ∧ i < 2 ^ 64) ∨ (-(2 ^ 64) < j ∧ j < 2 ^ 64))
def cDiv (_ j : Int) : Bool := decide (0 < j ∧ j < 10 ^ 60)
def cMod (_ j : Int) : Bool := decide (0 < j)
def cPow (i j : Int) : Bool := decide (0 ≤ j ∧ j ≤ 1000000 ∧ i.natAbs < 2 ^ 64)
def fDiv := fIc cDiv fun i j => .int (i / j)
def fMod := fIc cMod fun i j => .int (i % j)
def fPow := fIc cPow fun i j => .int (i ^ j.toNat)
theorem sim_div : OpSim T (rI CDivW fun i j => .int (i / j)) fDiv := sim_Ic (fun _ _ _ => .int _) fun i j h => by
  have h' := of_decide_eq_true h
  exact wide_div (b := 200) h'.1 (by
    have : (10 : Int) ^ 60 < 2 ^ 200 := by decide
    have e : ((2 : Nat) ^ 200 : Int) = (2 : Int) ^ 200 := by norm_cast
    have h2 : (j.natAbs : Int) = j := Int.natAbs_of_nonneg (by omega)
    have h3 : (j.natAbs : Int) < ((2 ^ 200 : Nat) : Int) := by rw [h2]; exact Int.lt_trans h'.2 (by decide)
    exact Int.ofNat_lt.mp h3) (by decide) (by decide)
theorem sim_mod : OpSim T (rI (fun _ j => 0 < j) fun i j => .int (i % j)) fMod := sim_Ic (fun _ _ _ => .int _) fun i j h => of_decide_eq_true h
theorem sim_pow : OpSim T (rI CPow fun i j => .int (i ^ j.toNat)) fPow := sim_Ic (fun _ _ _ => .int _) fun i j h => by
  have h' := of_decide_eq_true (show decide (0 ≤ j ∧ j ≤ 1000000 ∧ i.natAbs < 2 ^ 64) = true from h)
  exact h'
def fNeg : U → Sto → Out U := fun u st => match u with
  | .int i => .ok (.int (-i)) st
  | _ => .bad
theorem sim_neg : UnSim T (rU fun i => .int (-i)) fNeg := fun Wx c σ st H u x Q hH ru hR => by
  cases u with
  | int i =>
    cases ru.inv_int
    exact ⟨i, rfl, ResG.ret hR hH (.int _)⟩
  | _ => exact hR.elim

/-! ### what a list of the store, or one that stands still, is on the heap -/
def asLst (u : U) (st : Sto) : Option (List U) := match u with
  | .lst us => some us
  | .loc i => match st[i]? with
    | some (.lst us) => some us
    | _ => none
  | _ => none
theorem asLst_at {c : Cn} {st : Sto} {H : Hp} (h : RH T c st H) {u : U} {v : V} {us : List U} (r : Rp T c u v) (e : asLst u st = some us) : ∃ a vs, v = .ref a ∧ H a = some (.lst vs) ∧ RpL T c us vs := by
  cases u with
  | lst xs =>
    obtain ⟨a, vs, rfl, h1, h2⟩ := r.inv_lst
    cases e
    exact ⟨a, vs, rfl, h.sub _ _ h1, h2⟩
  | loc i =>
    obtain ⟨_, rfl⟩ := r.inv_loc
    dsimp only [asLst] at e
    split at e
    · rename_i us' q
      cases e
      obtain ⟨vs, h1, h2⟩ := h.at_lst q
      exact ⟨_, vs, rfl, h1, h2⟩
    · cases e
  | _ => cases e

/-! ### + -/
def fAdd : U → U → Sto → Out U := fun u w st => match u, w with
  | .int i, .int j => .ok (.int (i + j)) st
  | .str a, .str b => if a.length + b.length ≤ 16777216 then .ok (.str (a ++ b)) st else .bad
  | .tup us, .tup ws => if us.isEmpty = true ∨ ¬ us.length + ws.length ≤ 16777216 then .bad else .ok (.tup (us ++ ws)) st
  | u, w => match asLst u st, asLst w st with
    | some us, some ws => if us.length + ws.length ≤ 16777216 then .ok (.loc st.length) (st ++ [.lst (us ++ ws)]) else .bad
    | _, _ => .bad
def rAddAll (K : PySem.W.Frag) : R2 := fun x y H Q => (rI0 (fun i j => .int (i + j)) x y H Q ∨ (∃ i j, x = .str i ∧ y = .str j ∧ i.length + j.length ≤ sizeLine ∧ Q (.str (i ++ j)) H)) ∨ (rCatT K x y H Q ∨ rCat x y H Q)
theorem op_addAll : OpR X (binaryOp .Add) (rAddAll X.K) := (op_add.or op_add_str).or (op_catT.or op_cat)
theorem sim_add : OpSim T (rAddAll T.K) fAdd := fun Wx c σ st H u w x y Q hH ru rw hR => by
  have lists : ∀ {us ws : List U}, asLst u st = some us → asLst w st = some ws → ResG T Wx c σ (Rp T) (if us.length + ws.length ≤ 16777216 then .ok (.loc st.length) (st ++ [.lst (us ++ ws)]) else .bad) Q → rCat x y H Q := by
    intro us ws e1 e2 h
    obtain ⟨a, vs, rfl, ha, r1⟩ := asLst_at hH ru e1
    obtain ⟨b, zs, rfl, hb, r2⟩ := asLst_at hH rw e2
    by_cases hz : us.length + ws.length ≤ 16777216
    · rw [if_pos hz] at h
      refine ⟨a, b, vs, zs, rfl, rfl, ha, hb, ?_, new_lst hH (r1.append r2) h⟩
      rw [szl, ← r1.length, ← r2.length]; exact hz
    · rw [if_neg hz] at h
      exact h.elim
  have gen : ResG T Wx c σ (Rp T) (match asLst u st, asLst w st with | some us, some ws => if us.length + ws.length ≤ 16777216 then .ok (.loc st.length) (st ++ [.lst (us ++ ws)]) else .bad | _, _ => .bad) Q → rAddAll T.K x y H Q := fun h => by
    split at h
    · rename_i us ws e1 e2
      exact .inr (.inr (lists e1 e2 h))
    · exact h.elim
  cases u with
  | int i =>
    cases w with
    | int j =>
      cases ru.inv_int
      cases rw.inv_int
      exact .inl (.inl ⟨i, j, rfl, rfl, ResG.ret hR hH (.int _)⟩)
    | _ => exact gen hR
  | str i =>
    cases w with
    | str j =>
      cases ru.inv_str
      cases rw.inv_str
      dsimp only [fAdd] at hR
      by_cases h : i.length + j.length ≤ 16777216
      · rw [if_pos h] at hR
        exact .inl (.inr ⟨i, j, rfl, rfl, by rw [szl]; exact h, ResG.ret hR hH (.str _)⟩)
      · rw [if_neg h] at hR
        exact hR.elim
    | _ => exact gen hR
  | tup us =>
    cases w with
    | tup ws =>
      obtain ⟨a, vs, rfl, h1, r1⟩ := ru.inv_tup
      obtain ⟨b, zs, rfl, h2, r2⟩ := rw.inv_tup
      dsimp only [fAdd] at hR
      by_cases h : us.isEmpty = true ∨ ¬ us.length + ws.length ≤ 16777216
      · rw [if_pos h] at hR
        exact hR.elim
      · rw [if_neg h] at hR
        have hne : ¬ us.isEmpty = true := fun z => h (.inl z)
        have hz : us.length + ws.length ≤ 16777216 := Classical.not_not.mp fun z => h (.inr z)
        refine .inr (.inl ⟨a, b, vs, zs, rfl, rfl, sqT_up hH h1, sqT_up hH h2, fun z => ?_, by rw [szl, ← r1.length, ← r2.length]; exact hz, fun z => ?_, fun _ => new_tup hH (r1.append r2) hR⟩)
        · subst z
          cases r1
          exact hne rfl
        · subst z
          cases r2
          rw [List.append_nil] at hR
          exact ResG.ret hR hH (.tup h1 r1)
    | _ => exact gen hR
  | _ => exact gen hR

/-! ### * -/
def fMul : U → U → Sto → Out U := fun u w st => match u, w with
  | .int i, .int j => if cMul i j = true then .ok (.int (i * j)) st else .bad
  | u, .int k => match asLst u st with
    | some us => if -(2 ^ 63) ≤ k ∧ k < 2 ^ 63 ∧ us.length * k.toNat ≤ 16777216 then .ok (.loc st.length) (st ++ [.lst (List.replicate k.toNat us).flatten]) else .bad
    | none => .bad
  | _, _ => .bad
def rMulAll : R2 := fun x y H Q => rI CMul (fun i j => .int (i * j)) x y H Q ∨ rRep x y H Q
theorem op_mulAll : OpR X (binaryOp .Mult) rMulAll := op_mul.or op_rep
theorem RpL.rep {c : Cn} {us : List U} {vs : List V} (r : RpL T c us vs) : ∀ k : Nat, RpL T c (List.replicate k us).flatten (List.replicate k vs).flatten
  | 0 => by simpa using RpL.nil
  | k + 1 => by
    rw [List.replicate_succ, List.replicate_succ, List.flatten_cons, List.flatten_cons]
    exact r.append (RpL.rep r k)
theorem sim_mul : OpSim T rMulAll fMul := fun Wx c σ st H u w x y Q hH ru rw hR => by
  cases w with
  | int j =>
    cases rw.inv_int
    have gen : ResG T Wx c σ (Rp T) (match asLst u st with | some us => if -(2 ^ 63) ≤ j ∧ j < 2 ^ 63 ∧ us.length * j.toNat ≤ 16777216 then .ok (.loc st.length) (st ++ [.lst (List.replicate j.toNat us).flatten]) else .bad | none => .bad) Q → rMulAll x (.int j) H Q := fun h => by
      split at h
      · rename_i us e
        obtain ⟨a, vs, rfl, ha, r⟩ := asLst_at hH ru e
        split at h
        · rename_i hz
          exact .inr ⟨a, j, vs, rfl, rfl, ha, hz.1, hz.2.1, by rw [szl, ← r.length]; exact hz.2.2, new_lst hH (r.rep _) h⟩
        · exact h.elim
      · exact h.elim
    cases u with
    | int i =>
      cases ru.inv_int
      dsimp only [fMul] at hR
      by_cases h : cMul i j = true
      · rw [if_pos h] at hR
        have h' := of_decide_eq_true (show decide ((-(2 ^ 64) < i ∧ i < 2 ^ 64) ∨ (-(2 ^ 64) < j ∧ j < 2 ^ 64)) = true from h)
        exact .inl ⟨i, j, rfl, rfl, h', ResG.ret hR hH (.int _)⟩
      · rw [if_neg h] at hR
        exact hR.elim
    | _ => exact gen hR
  | _ => cases u <;> exact hR.elim

/-! ### is None -/
def U.isNon : U → Bool
  | .non => true
  | _ => false
def fIsN : U → U → Sto → Out U := fun u w st => match w with
  | .non => .ok (.bl u.isNon) st
  | _ => .bad
def fNotN : U → U → Sto → Out U := fun u w st => match w with
  | .non => .ok (.bl (!u.isNon)) st
  | _ => .bad
theorem Rp.non_iff {c : Cn} {u : U} {x : V} (r : Rp T c u x) : decide (x = .non) = u.isNon := by
  cases r <;> rfl
theorem sim_isN : OpSim T (fun x y H Q => y = .non ∧ Q (.bl (decide (x = .non))) H) fIsN := fun Wx c σ st H u w x y Q hH ru rw hR => by
  cases w with
  | non =>
    cases rw.inv_non
    refine ⟨rfl, ?_⟩
    rw [ru.non_iff]
    exact ResG.ret hR hH (.bl _)
  | _ => exact hR.elim
theorem sim_notN : OpSim T (fun x y H Q => y = .non ∧ Q (.bl (!decide (x = .non))) H) fNotN := fun Wx c σ st H u w x y Q hH ru rw hR => by
  cases w with
  | non =>
    cases rw.inv_non
    refine ⟨rfl, ?_⟩
    rw [ru.non_iff]
    exact ResG.ret hR hH (.bl _)
  | _ => exact hR.elim

/-! ### data: == and != -/
def allD (f : U → Option PyData) : List U → Option (List PyData)
  | [] => some []
  | u :: us => match f u, allD f us with
    | some d, some ds => some (d :: ds)
    | _, _ => none
def toD (st : Sto) : Nat → U → Option PyData
  | 0, _ => none
  | n + 1, u => match u with
    | .non => some .none
    | .bl b => some (.bool b)
    | .int i => some (.int i)
    | .str x => some (.str x)
    | .tup us => (allD (toD st n) us).map .tuple
    | .lst us => (allD (toD st n) us).map .list
    | .scr us => (allD (toD st n) us).map .list
    | .loc i => match st[i]? with
      | some (.lst us) => (allD (toD st n) us).map .list
      | _ => none
    | _ => none
theorem allD_at {K : PySem.W.Frag} {c : Cn} {H : Hp} {f : U → Option PyData} (hf : ∀ u v d, Rp T c u v → f u = some d → Dp K H v d) : ∀ {us : List U} {vs : List V} {ds : List PyData}, RpL T c us vs → allD f us = some ds → DpAll K H vs ds
  | _, _, _, .nil, e => by cases e; exact .nil
  | u :: us, v :: vs, ds, .cons r t, e => by
    dsimp only [allD] at e
    split at e
    · rename_i d ds' e1 e2
      cases e
      exact .cons (hf u v d r e1) (allD_at hf t e2)
    · cases e
theorem toD_at {c : Cn} {st : Sto} {H : Hp} (hH : RH T c st H) : ∀ (n : Nat) (u : U) (v : V) (d : PyData), Rp T c u v → toD st n u = some d → Dp T.K H v d
  | 0, _, _, _, _, e => by cases e
  | n + 1, u, v, d, r, e => by
    have ih := toD_at hH n
    cases u with
    | non => cases r.inv_non; cases e; exact .non
    | bl b => cases r.inv_bl; cases e; exact .bl b
    | int b => cases r.inv_int; cases e; exact .int b
    | str b => cases r.inv_str; cases e; exact .str b
    | tup us =>
      obtain ⟨a, vs, rfl, h1, r1⟩ := r.inv_tup
      dsimp only [toD] at e
      obtain ⟨ds, e1, rfl⟩ := Option.map_eq_some_iff.mp e
      exact .tup (sqT_up hH h1) (allD_at ih r1 e1)
    | lst us =>
      obtain ⟨a, vs, rfl, h1, r1⟩ := r.inv_lst
      dsimp only [toD] at e
      obtain ⟨ds, e1, rfl⟩ := Option.map_eq_some_iff.mp e
      exact .lst (SqL.of (hH.sub _ _ h1)) (allD_at ih r1 e1)
    | scr us =>
      obtain ⟨a, vs, rfl, h1, r1⟩ := r.inv_scr
      dsimp only [toD] at e
      obtain ⟨ds, e1, rfl⟩ := Option.map_eq_some_iff.mp e
      exact .lst (sqL_up hH h1) (allD_at ih r1 e1)
    | loc i =>
      obtain ⟨_, rfl⟩ := r.inv_loc
      dsimp only [toD] at e
      split at e
      · rename_i us q
        obtain ⟨vs, h1, r1⟩ := hH.at_lst q
        obtain ⟨ds, e1, rfl⟩ := Option.map_eq_some_iff.mp e
        exact .lst (SqL.of h1) (allD_at ih r1 e1)
      · cases e
    | _ => cases e
def fEqB (g : Bool → Bool) : U → U → Sto → Out U := fun u w st => match toD st 12 u, toD st 12 w with
  | some d, some e => if SeqAt.shaped d = true ∧ SeqAt.shaped e = true then .ok (.bl (g (PyData.eqv d e))) st else .bad
  | _, _ => .bad
def fEq := fEqB id
def fNe := fEqB not
theorem sim_eq : OpSim T (rEqD T.K) fEq := fun Wx c σ st H u w x y Q hH ru rw hR => by
  dsimp only [fEq, fEqB] at hR
  split at hR
  · rename_i d e e1 e2
    split at hR
    · rename_i hs
      exact ⟨d, e, toD_at hH _ _ _ _ ru e1, toD_at hH _ _ _ _ rw e2, hs.1, hs.2, ResG.ret hR hH (.bl _)⟩
    · exact hR.elim
  · exact hR.elim
theorem sim_ne : OpSim T (rNeD T.K) fNe := fun Wx c σ st H u w x y Q hH ru rw hR => by
  dsimp only [fNe, fEqB] at hR
  split at hR
  · rename_i d e e1 e2
    split at hR
    · rename_i hs
      exact ⟨d, e, toD_at hH _ _ _ _ ru e1, toD_at hH _ _ _ _ rw e2, hs.1, hs.2, ResG.ret hR hH (.bl _)⟩
    · exact hR.elim
  · exact hR.elim

/-! ### in, not in: flat things in a list or tuple; a sign in a text -/
def flatU : U → Bool
  | .non => true | .bl _ => true | .int _ => true | .str _ => true | _ => false
def eqU : U → U → Bool
  | .non, .non => true
  | .bl a, .bl b => a == b
  | .bl a, .int b => (if a then 1 else 0) == b
  | .int a, .bl b => a == (if b then 1 else 0)
  | .int a, .int b => a == b
  | .str a, .str b => a == b
  | _, _ => false
def inU (u : U) (us : List U) : Bool := us.any fun w => NK.eqU w u
theorem flat_rp {c : Cn} {u : U} {v : V} (r : Rp T c u v) (h : flatU u = true) : flatV v = true := by
  cases r <;> first | rfl | cases h
theorem eqU_rp {c : Cn} {u w : U} {x y : V} (r : Rp T c u x) (q : Rp T c w y) (h : flatU u = true) (g : flatU w = true) : NK.eqU u w = eqV x y := by
  cases r <;> first | (cases h; done) | (cases q <;> first | rfl | (cases g; done))
theorem all_flat {c : Cn} : ∀ {us : List U} {vs : List V}, RpL T c us vs → us.all flatU = true → vs.all flatV = true
  | _, _, .nil, _ => rfl
  | _, _, .cons r t, h => by
    rw [List.all_cons, Bool.and_eq_true] at h ⊢
    exact ⟨flat_rp r h.1, all_flat t h.2⟩
theorem in_rp {c : Cn} {u : U} {v : V} (q : Rp T c u v) (g : flatU u = true) : ∀ {us : List U} {vs : List V}, RpL T c us vs → us.all flatU = true → inU u us = inV v vs
  | _, _, .nil, _ => rfl
  | _, _, .cons r t, h => by
    rw [List.all_cons, Bool.and_eq_true] at h
    have ih := in_rp q g t h.2
    unfold inU inV at ih ⊢
    rw [List.any_cons, List.any_cons, eqU_rp r q h.1 g, ih]
def fIn (neg : Bool) : U → U → Sto → Out U := fun u w st => match items w st with
  | some us => if flatU u = true ∧ us.all flatU = true then .ok (.bl (if neg then !inU u us else inU u us)) st else .bad
  | none => .bad
theorem sim_in {neg : Bool} : OpSim T (rIn T.K neg) (fIn neg) := fun Wx c σ st H u w x y Q hH ru rw hR => by
  dsimp only [fIn] at hR
  split at hR
  · rename_i us e
    obtain ⟨a, vs, rfl, h1, r1⟩ := items_at hH rw e
    split at hR
    · rename_i hs
      refine ⟨a, vs, rfl, h1, flat_rp ru hs.1, all_flat r1 hs.2, ?_⟩
      rw [← in_rp ru hs.1 r1 hs.2]
      exact ResG.ret hR hH (.bl _)
    · exact hR.elim
  · exact hR.elim

/-! ### len, list, tuple, int, abs -/
def fLen : List U → Sto → Out U := fun us st => match us with
  | [.str z] => if z.length ≤ 16777216 then .ok (.int z.length) st else .bad
  | [u] => match items u st with
    | some xs => .ok (.int xs.length) st
    | none => .bad
  | _ => .bad
theorem sim_len : CallSim T (fun xs H Q => ∃ x n, xs = [x] ∧ LenV T.K x H n ∧ Q (.int n) H) fLen := fun Wx c σ st H us xs Q hH r hR => by
  cases r with
  | nil => exact hR.elim
  | @cons u v us vs r t =>
    cases t with
    | cons _ _ => cases u <;> exact hR.elim
    | nil =>
      have gen : ResG T Wx c σ (Rp T) (match items u st with | some xs => .ok (.int xs.length) st | none => .bad) Q → ∃ x n, [v] = [x] ∧ LenV T.K x H n ∧ Q (.int n) H := fun h => by
        split at h
        · rename_i us e
          obtain ⟨a, vs, rfl, h1, r1⟩ := items_at hH r e
          refine ⟨_, vs.length, rfl, ?_, ?_⟩
          · rcases h1 with h1 | h1
            · exact .inl ⟨vs, h1, rfl⟩
            · exact .inr ⟨vs, h1, rfl⟩
          · rw [← r1.length]
            exact ResG.ret h hH (.int _)
        · exact h.elim
      cases u with
      | str z =>
        cases r.inv_str
        dsimp only [fLen] at hR
        by_cases h : z.length ≤ 16777216
        · rw [if_pos h] at hR
          exact ⟨_, z.length, rfl, ⟨by rw [szl]; exact h, rfl⟩, ResG.ret hR hH (.int _)⟩
        · rw [if_neg h] at hR
          exact hR.elim
      | _ => exact gen hR
def fList : List U → Sto → Out U := fun us st => match us with
  | [u] => match items u st with
    | some xs => .ok (.loc st.length) (st ++ [.lst xs])
    | none => .bad
  | _ => .bad
theorem sim_list : CallSim T (fun xs H Q => ∃ p ys, xs = [.ref p] ∧ (SqL T.K H p ys ∨ SqT T.K H p ys) ∧ ∀ l, H l = none → Q (.ref l) (upd H l (.lst ys))) fList := fun Wx c σ st H us xs Q hH r hR => by
  cases r with
  | nil => exact hR.elim
  | @cons u v us vs r t =>
    cases t with
    | cons _ _ => exact hR.elim
    | nil =>
      dsimp only [fList] at hR
      split at hR
      · rename_i us e
        obtain ⟨a, vs, rfl, h1, r1⟩ := items_at hH r e
        exact ⟨a, vs, rfl, h1, new_lst hH r1 hR⟩
      · exact hR.elim
def fTuple : List U → Sto → Out U := fun us st => match us with
  | [u] => match items u st with
    | some xs => .ok (.tup xs) st
    | none => .bad
  | _ => .bad
theorem sim_tuple : CallSim T (fun xs H Q => ∃ p ys, xs = [.ref p] ∧ ((SqL T.K H p ys ∧ ∀ l, H l = none → Q (.ref l) (upd H l (.tup ys))) ∨ (SqT T.K H p ys ∧ Q (.ref p) H))) fTuple := fun Wx c σ st H us xs Q hH r hR => by
  cases r with
  | nil => exact hR.elim
  | @cons u v us vs r t =>
    cases t with
    | cons _ _ => exact hR.elim
    | nil =>
      cases u with
      | tup ws =>
        obtain ⟨a, vs, rfl, h1, r1⟩ := r.inv_tup
        exact ⟨a, vs, rfl, .inr ⟨sqT_up hH h1, ResG.ret hR hH (.tup h1 r1)⟩⟩
      | lst ws =>
        obtain ⟨a, vs, rfl, h1, r1⟩ := r.inv_lst
        exact ⟨a, vs, rfl, .inl ⟨SqL.of (hH.sub _ _ h1), new_tup hH r1 hR⟩⟩
      | scr ws =>
        obtain ⟨a, vs, rfl, h1, r1⟩ := r.inv_scr
        exact ⟨a, vs, rfl, .inl ⟨sqL_up hH h1, new_tup hH r1 hR⟩⟩
      | loc i =>
        obtain ⟨_, rfl⟩ := r.inv_loc
        dsimp only [fTuple, items] at hR
        cases e : st[i]? with
        | none => rw [e] at hR; exact hR.elim
        | some o =>
          rw [e] at hR
          cases o with
          | lst ws =>
            obtain ⟨vs, h1, r1⟩ := hH.at_lst e
            exact ⟨_, vs, rfl, .inl ⟨SqL.of h1, new_tup hH r1 hR⟩⟩
          | _ => exact hR.elim
      | _ => exact hR.elim
def fInt : List U → Sto → Out U := fun us st => match us with
  | [.int i] => .ok (.int i) st
  | [.bl k] => .ok (.int (if k then 1 else 0)) st
  | _ => .bad
theorem sim_int : CallSim T (fun xs H Q => (∃ i, xs = [.int i] ∧ Q (.int i) H) ∨ ∃ k, xs = [.bl k] ∧ Q (.int (if k then 1 else 0)) H) fInt := fun Wx c σ st H us xs Q hH r hR => by
  cases r with
  | nil => exact hR.elim
  | @cons u v us vs r t =>
    cases t with
    | cons _ _ => cases u <;> exact hR.elim
    | nil =>
      cases u with
      | int i => cases r.inv_int; exact .inl ⟨i, rfl, ResG.ret hR hH (.int _)⟩
      | bl i => cases r.inv_bl; exact .inr ⟨i, rfl, ResG.ret hR hH (.int _)⟩
      | _ => exact hR.elim
def fAbs : List U → Sto → Out U := fun us st => match us with
  | [.int i] => .ok (.int (if i < 0 then -i else i)) st
  | _ => .bad
theorem sim_abs : CallSim T (fun xs H Q => ∃ i, xs = [.int i] ∧ Q (.int (if i < 0 then -i else i)) H) fAbs := fun Wx c σ st H us xs Q hH r hR => by
  cases r with
  | nil => exact hR.elim
  | @cons u v us vs r t =>
    cases t with
    | cons _ _ => cases u <;> exact hR.elim
    | nil =>
      cases u with
      | int i => cases r.inv_int; exact ⟨i, rfl, ResG.ret hR hH (.int _)⟩
      | _ => exact hR.elim
def fMin2 : List U → Sto → Out U := fun us st => match us with
  | [.int i, .int j] => .ok (.int (if j < i then j else i)) st
  | _ => .bad
theorem sim_min2 : CallSim T (fun xs H Q => ∃ i j, xs = [.int i, .int j] ∧ Q (.int (if j < i then j else i)) H) fMin2 := fun Wx c σ st H us xs Q hH r hR => by
  unfold fMin2 at hR
  split at hR
  · rename_i i j
    obtain ⟨v, vs, rfl, r1, t⟩ := r.inv_cons
    obtain ⟨v2, vs2, rfl, r2, t2⟩ := t.inv_cons
    cases t2.inv_nil
    cases r1.inv_int
    cases r2.inv_int
    exact ⟨i, j, rfl, ResG.ret hR hH (.int _)⟩
  · exact hR.elim
def allInts : List U → Option (List Int)
  | [] => some []
  | .int i :: r => (allInts r).map (i :: ·)
  | _ :: _ => none
theorem allInts_at {c : Cn} : ∀ {us : List U} {vs : List V} {ns : List Int}, RpL T c us vs → allInts us = some ns → vs = ns.map V.int
  | _, _, _, .nil, e => by cases e; rfl
  | u :: us, v :: vs, ns, .cons r t, e => by
    cases u with
    | int i =>
      obtain ⟨ns', e1, rfl⟩ := Option.map_eq_some_iff.mp e
      cases r.inv_int
      rw [List.map_cons, allInts_at t e1]
    | _ => cases e
def fSum : List U → Sto → Out U := fun us st => match us with
  | [u] => match asLst u st with
    | some xs => match allInts xs with
      | some ns => .ok (.int ns.sum) st
      | none => .bad
    | none => .bad
  | _ => .bad
theorem sim_sum : CallSim T (rSum T.K) fSum := fun Wx c σ st H us xs Q hH r hR => by
  cases r with
  | nil => exact hR.elim
  | @cons u v us vs r t =>
    cases t with
    | cons _ _ => exact hR.elim
    | nil =>
      dsimp only [fSum] at hR
      split at hR
      · rename_i us e
        obtain ⟨a, vs, rfl, h1, r1⟩ := asLst_at hH r e
        split at hR
        · rename_i ns e2
          exact ⟨a, ns, rfl, by rw [← allInts_at r1 e2]; exact SqL.of h1, ResG.ret hR hH (.int _)⟩
        · exact hR.elim
      · exact hR.elim

/-! ### subscripts -/
theorem atI_rp {c : Cn} {us : List U} {vs : List V} (r : RpL T c us vs) {i : Int} {u : U} (e : atI us i = some u) : ∃ v, atI vs i = some v ∧ Rp T c u v := by
  unfold atI at e ⊢
  rw [← r.length]
  cases q : ixN us.length i with
  | none => rw [q] at e; cases e
  | some j =>
    rw [q] at e
    exact r.get e
def fIx : U → U → Sto → Out U := fun u w st => match w with
  | .int i => match u with
    | .str z => if z.length ≤ 16777216 then (match atI z.cps.toList i with
      | some c => .ok (.str ⟨#[c]⟩) st
      | none => .bad) else .bad
    | u => match items u st with
      | some us => (match atI us i with
        | some x => .ok x st
        | none => .bad)
      | none => .bad
  | _ => .bad
theorem sim_ix : OpSim T (rIx T.K) fIx := fun Wx c σ st H u w x y Q hH ru rw hR => by
  cases w with
  | int i =>
    cases rw.inv_int
    have gen : ResG T Wx c σ (Rp T) (match items u st with | some us => (match atI us i with | some x => .ok x st | none => .bad) | none => .bad) Q → rIx T.K x (.int i) H Q := fun h => by
      split at h
      · rename_i us e
        obtain ⟨a, vs, rfl, h1, r1⟩ := items_at hH ru e
        split at h
        · rename_i z q
          obtain ⟨v, hv, rv⟩ := atI_rp r1 q
          rcases h1 with h1 | h1
          · exact .inl ⟨a, vs, i, v, rfl, rfl, h1, hv, ResG.ret h hH rv⟩
          · exact .inr (.inl ⟨a, vs, i, v, rfl, rfl, h1, hv, ResG.ret h hH rv⟩)
        · exact h.elim
      · exact h.elim
    cases u with
    | str z =>
      cases ru.inv_str
      dsimp only [fIx] at hR
      split at hR
      · rename_i hz
        split at hR
        · rename_i c' q
          exact .inr (.inr ⟨z, i, c', rfl, rfl, by rw [szl]; exact hz, q, ResG.ret hR hH (.str _)⟩)
        · exact hR.elim
      · exact hR.elim
    | _ => exact gen hR
  | _ => exact hR.elim
end
end NK

set_option Elab.async false
set_option linter.all false
set_option maxRecDepth 100000
set_option maxHeartbeats 2000000
/-! NK4: statements, loops, comprehensions. -/
namespace NK
open PySem L2

/-! ### what is walked -/
/-- J gives the items us while the guard g holds of the store -/
def WalkM (T : Tb) (c0 : Cn) (J : It) (us : List U) (g : Sto → Prop) : Prop :=
  ∃ (G : Hp → Prop) (Y : Nat → Hp → V → Hp → Prop), Walk J us.length G Y ∧ ∀ c st H, Le c0 c → RH T c st H → g st →
    G H ∧ ∀ i x H', i < us.length → Y i H x H' → ∃ c' u, us[i]? = some u ∧ Le c c' ∧ RH T c' st H' ∧ Rp T c' u x
structure Src where
  us : List U
  g : Sto → Prop
abbrev MI := MG Src
abbrev tiOf (T : Tb) (P : Pin) (Wx : WX) (m : MI) : TI := tgOf T P Wx (fun c p J => WalkM T c J p.us p.g) m
def PIm (X : Cx) (T : Tb) (P : Pin) (Wx : WX) (tg e : Expr) (m : MI) : Prop := PI X tg e (tiOf T P Wx m)

/-- a list, a tuple, a text -/
def src (u : U) (st : Sto) : Option Src := match u with
  | .str z => some ⟨z.cps.toList.map fun k => .str ⟨#[k]⟩, fun _ => True⟩
  | .tup us => some ⟨us, fun _ => True⟩
  | .lst us => some ⟨us, fun _ => True⟩
  | .scr us => some ⟨us, fun _ => True⟩
  | .loc i => match st[i]? with
    | some (.lst us) => some ⟨us, fun s => s[i]? = some (Ob.lst us)⟩
    | _ => none
  | _ => none
def iSeq (m : ME) : MI := fun env st => (m env st).bind fun u st1 => match src u st1 with
  | some p => .ok p st1
  | none => .bad
section
variable {X : Cx} {T : Tb} {P : Pin} {Wx : WX} {tg e : Expr} {m : ME}
theorem walk_of_list {c0 : Cn} {a : Addr} {us : List U} {g : Sto → Prop} (h : ∀ c st H, Le c0 c → RH T c st H → g st → ∃ vs, SqL T.K H a vs ∧ RpL T c us vs) : WalkM T c0 (Itl T.K a) us g := by
  refine ⟨fun H => ∃ vs, SqL T.K H a vs ∧ vs.length = us.length, fun i H x H' => H' = H ∧ ∀ vs, SqL T.K H a vs → vs[i]? = some x, ⟨fun i H hi ⟨vs, h1, h2⟩ => ?_, fun H ⟨vs, h1, h2⟩ => ⟨vs, h1, Nat.le_of_eq h2⟩, fun i H x H' hi _ y => y⟩, fun c st H l hH hg => ?_⟩
  · have hi' : i < vs.length := by rw [h2]; exact hi
    exact ⟨vs, vs[i], h1, by simp [hi']⟩
  · obtain ⟨vs, h1, r⟩ := h c st H l hH hg
    refine ⟨⟨vs, h1, r.length.symm⟩, fun i x H' hi y => ?_⟩
    obtain ⟨rfl, hx⟩ := y
    obtain ⟨u, hu, ru⟩ := r.getV (hx vs h1)
    exact ⟨c, u, hu, Le.refl c, hH, ru⟩
theorem walk_of_tup {c0 : Cn} {a : Addr} {us : List U} {g : Sto → Prop} (h : ∀ c st H, Le c0 c → RH T c st H → g st → ∃ vs, SqT T.K H a vs ∧ RpL T c us vs) : WalkM T c0 (Itt T.K a) us g := by
  refine ⟨fun H => ∃ vs, SqT T.K H a vs ∧ vs.length = us.length, fun i H x H' => H' = H ∧ ∀ vs, SqT T.K H a vs → vs[i]? = some x, ⟨fun i H hi ⟨vs, h1, h2⟩ => ?_, fun H ⟨vs, h1, h2⟩ => ⟨vs, h1, Nat.le_of_eq h2⟩, fun i H x H' hi _ y => y⟩, fun c st H l hH hg => ?_⟩
  · have hi' : i < vs.length := by rw [h2]; exact hi
    exact ⟨vs, vs[i], h1, by simp [hi']⟩
  · obtain ⟨vs, h1, r⟩ := h c st H l hH hg
    refine ⟨⟨vs, h1, r.length.symm⟩, fun i x H' hi y => ?_⟩
    obtain ⟨rfl, hx⟩ := y
    obtain ⟨u, hu, ru⟩ := r.getV (hx vs h1)
    exact ⟨c, u, hu, Le.refl c, hH, ru⟩
theorem walk_of_str {c0 : Cn} {z : Str} {g : Sto → Prop} : WalkM T c0 (Its z) (z.cps.toList.map fun k => U.str ⟨#[k]⟩) g := by
  refine ⟨fun _ => True, fun i H v H' => H' = H ∧ ∃ c, z.cps[i]? = some c ∧ v = .str ⟨#[c]⟩, ?_, fun c st H l hH hg => ⟨True.intro, fun i x H' hi y => ?_⟩⟩
  · rw [List.length_map, Array.length_toList]; exact walk_str
  · obtain ⟨rfl, k, hk, rfl⟩ := y
    refine ⟨c, .str ⟨#[k]⟩, ?_, Le.refl c, hH, .str _⟩
    rw [List.getElem?_map, Array.getElem?_toList, hk]
    rfl
theorem pim_seq (hK : X.K = T.K) (h : PEm X T P Wx e m) : PIm X T P Wx tg e (iSeq m) := PI.imp (PI.or (PI.or (pi_list h) (pi_tup h)) (pi_str h)) fun σ H R ⟨c, env, st, hH, hE, hR⟩ => by
  have go := tg_bind (m := m) (R := Rp T) (Q := R) hH hE hR
  cases e1 : m env st with
  | bad =>
    unfold iSeq at hR
    rw [e1] at hR
    exact hR.elim
  | exc x st1 =>
    refine .inr ⟨c, env, st, hH, hE, ?_⟩
    unfold iSeq at hR
    rw [e1] at hR ⊢
    exact hR
  | ok u st1 =>
    unfold iSeq at hR
    rw [e1] at hR
    have tup : ∀ {us : List U}, u = .tup us → (iList X.K (teOf T P Wx m) σ H R ∨ iTup X.K (teOf T P Wx m) σ H R) ∨ iStr (teOf T P Wx m) σ H R := by
      intro us eu
      subst eu
      refine .inl (.inr ⟨c, env, st, hH, hE, ?_⟩)
      rw [e1]
      intro c1 v H1 l1 hH1 r1
      obtain ⟨a, vs, rfl, h1, r2⟩ := r1.inv_tup
      refine ⟨a, rfl, ⟨vs, by rw [hK]; exact sqT_up hH1 h1⟩, ?_⟩
      rw [hK]
      exact hR c1 _ H1 l1 hH1 (walk_of_tup fun c2 st2 H2 l2 hH2 _ => ⟨vs, sqT_up hH2 (sqT_mono l2.F h1), r2.mono l2⟩)
    have lst : ∀ {us : List U} {g : Sto → Prop}, src u st1 = some ⟨us, g⟩ → (∀ c1 v H1, Le c c1 → RH T c1 st1 H1 → Rp T c1 u v → ∃ a vs, v = .ref a ∧ SqL T.K H1 a vs ∧ ∀ c2 st2 H2, Le c1 c2 → RH T c2 st2 H2 → g st2 → ∃ vs, SqL T.K H2 a vs ∧ RpL T c2 us vs) →
        (iList X.K (teOf T P Wx m) σ H R ∨ iTup X.K (teOf T P Wx m) σ H R) ∨ iStr (teOf T P Wx m) σ H R := by
      intro us g es k
      refine .inl (.inl ⟨c, env, st, hH, hE, ?_⟩)
      rw [e1]
      intro c1 v H1 l1 hH1 r1
      obtain ⟨a, vs, rfl, h1, kk⟩ := k c1 v H1 l1 hH1 r1
      refine ⟨a, rfl, ⟨vs, by rw [hK]; exact h1⟩, ?_⟩
      rw [hK]
      change ResG T Wx c σ _ (match src u st1 with | some p => .ok p st1 | none => .bad) R at hR
      rw [es] at hR
      exact hR c1 _ H1 l1 hH1 (walk_of_list kk)
    cases u with
    | tup us => exact tup rfl
    | lst us =>
      refine lst (us := us) (g := fun _ => True) rfl fun c1 v H1 l1 hH1 r1 => ?_
      obtain ⟨a, vs, rfl, h1, r2⟩ := r1.inv_lst
      exact ⟨a, vs, rfl, SqL.of (hH1.sub _ _ h1), fun c2 st2 H2 l2 hH2 _ => ⟨vs, SqL.of (hH2.sub _ _ (l2.F _ _ h1)), r2.mono l2⟩⟩
    | scr us =>
      refine lst (us := us) (g := fun _ => True) rfl fun c1 v H1 l1 hH1 r1 => ?_
      obtain ⟨a, vs, rfl, h1, r2⟩ := r1.inv_scr
      exact ⟨a, vs, rfl, sqL_up hH1 h1, fun c2 st2 H2 l2 hH2 _ => ⟨vs, sqL_up hH2 (sqL_mono l2.F h1), r2.mono l2⟩⟩
    | loc i =>
      cases es : st1[i]? with
      | none =>
        change ResG T Wx c σ _ (match (match st1[i]? with | some (.lst us) => some (Src.mk us fun s => s[i]? = some (Ob.lst us)) | _ => none) with | some p => .ok p st1 | none => .bad) R at hR
        rw [es] at hR
        exact hR.elim
      | some o =>
        cases o with
        | lst us =>
          refine lst (us := us) (g := fun s => s[i]? = some (Ob.lst us)) (by dsimp only [src]; rw [es]) fun c1 v H1 l1 hH1 r1 => ?_
          obtain ⟨hi, rfl⟩ := r1.inv_loc
          obtain ⟨vs, h1, r2⟩ := hH1.at_lst es
          refine ⟨_, vs, rfl, SqL.of h1, fun c2 st2 H2 l2 hH2 hg => ?_⟩
          obtain ⟨ws, h3, r3⟩ := hH2.at_lst hg
          rw [l2.ρ i hi] at h3
          exact ⟨ws, SqL.of h3, r3⟩
        | _ =>
          change ResG T Wx c σ _ (match (match st1[i]? with | some (.lst us) => some (Src.mk us fun s => s[i]? = some (Ob.lst us)) | _ => none) with | some p => .ok p st1 | none => .bad) R at hR
          rw [es] at hR
          exact hR.elim
    | str z =>
      refine .inr ⟨c, env, st, hH, hE, ?_⟩
      rw [e1]
      intro c1 v H1 l1 hH1 r1
      cases r1.inv_str
      exact ⟨z, rfl, hR c1 _ H1 l1 hH1 walk_of_str⟩
    | _ => exact hR.elim

/-! ### range, enumerate, zip -/
def iRng1 (ma : MA) : MI := fun env st => (ma env st).bind fun us st1 => match us with
  | [.int j] => if -(2 ^ 62) ≤ j ∧ j < 2 ^ 62 then .ok ⟨(List.range j.toNat).map fun (i : Nat) => .int (0 + (i : Int)), fun _ => True⟩ st1 else .bad
  | _ => .bad
def iRng2 (ma : MA) : MI := fun env st => (ma env st).bind fun us st1 => match us with
  | [.int i, .int j] => if -(2 ^ 62) ≤ i ∧ i < 2 ^ 62 ∧ -(2 ^ 62) ≤ j ∧ j < 2 ^ 62 then .ok ⟨(List.range (j - i).toNat).map fun (k : Nat) => .int (i + (k : Int)), fun _ => True⟩ st1 else .bad
  | _ => .bad
theorem walk_of_range {c0 : Cn} {lo : Int} {n : Nat} {g : Sto → Prop} : WalkM T c0 (Itr lo n) ((List.range n).map fun (i : Nat) => U.int (lo + (i : Int))) g := by
  refine ⟨fun _ => True, YFn fun i => .int (lo + i), ?_, fun c st H l hH hg => ⟨True.intro, fun i x H' hi y => ?_⟩⟩
  · rw [List.length_map, List.length_range]; exact walk_range
  · obtain ⟨rfl, rfl⟩ := y
    rw [List.length_map, List.length_range] at hi
    exact ⟨c, .int (lo + (i : Int)), by rw [List.getElem?_map, List.getElem?_range hi]; rfl, Le.refl c, hH, .int _⟩
variable {a b : Expr} {ma : MA} {p pos tpos : Pos}
theorem pim_range1 (hg : Gl X "range") (hm : X.mg "range" = none) (ha : PAm X T P Wx [a] ma) (hs : starEach [a] X.env = [(false, eval a X.env)] := by rfl) : PIm X T P Wx tg (.Call (.Name "range" p) [a] [] pos) (iRng1 ma) :=
  PI.imp (pi_range1 hg hm ha hs) fun σ H R ⟨c, env, st, hH, hE, hR⟩ => by
    refine (tg_bind hH hE hR).mono fun vs H1 ⟨us, c1, st1, l1, hH1, hE1, r1, hR1⟩ => ?_
    split at hR1
    · rename_i j
      obtain ⟨v, vs', rfl, r, t⟩ := r1.inv_cons
      cases t.inv_nil
      cases r.inv_int
      split at hR1
      · rename_i hj
        exact ⟨j, rfl, hj.1, hj.2, ResG.ret hR1 hH1 walk_of_range⟩
      · exact hR1.elim
    · exact hR1.elim
theorem pim_range2 (hg : Gl X "range") (hm : X.mg "range" = none) (ha : PAm X T P Wx [a, b] ma) (hs : starEach [a, b] X.env = [(false, eval a X.env), (false, eval b X.env)] := by rfl) (hs2 : starEach [b] X.env = [(false, eval b X.env)] := by rfl) :
    PIm X T P Wx tg (.Call (.Name "range" p) [a, b] [] pos) (iRng2 ma) :=
  PI.imp (pi_range2 hg hm ha hs hs2) fun σ H R ⟨c, env, st, hH, hE, hR⟩ => by
    refine (tg_bind hH hE hR).mono fun vs H1 ⟨us, c1, st1, l1, hH1, hE1, r1, hR1⟩ => ?_
    split at hR1
    · rename_i i j
      obtain ⟨v, vs', rfl, r, t⟩ := r1.inv_cons
      obtain ⟨v2, vs2, rfl, r2, t2⟩ := t.inv_cons
      cases t2.inv_nil
      cases r.inv_int
      cases r2.inv_int
      split at hR1
      · rename_i hj
        exact ⟨i, j, rfl, hj, ResG.ret hR1 hH1 walk_of_range⟩
      · exact hR1.elim
    · exact hR1.elim
def enumFrom : Nat → List U → List U
  | _, [] => []
  | n, u :: us => .tup [.int (n : Int), u] :: enumFrom (n + 1) us
theorem enum_len : ∀ (n : Nat) (us : List U), (enumFrom n us).length = us.length
  | _, [] => rfl
  | n, u :: us => by
    show (enumFrom (n + 1) us).length + 1 = us.length + 1
    rw [enum_len (n + 1) us]
theorem enum_get : ∀ (n : Nat) (us : List U) (i : Nat) (u : U), us[i]? = some u → (enumFrom n us)[i]? = some (.tup [.int ((n + i : Nat) : Int), u])
  | _, [], _, _, h => by simp at h
  | n, a :: us, 0, u, h => by
    cases h
    rfl
  | n, a :: us, i + 1, u, h => by
    have ih := enum_get (n + 1) us i u (by simpa using h)
    show (enumFrom (n + 1) us)[i]? = _
    rw [ih]
    have e : n + 1 + i = n + (i + 1) := by omega
    rw [e]
/-- a new pair of what is known -/
theorem new_pair {c : Cn} {st : Sto} {H : Hp} (hH : RH T c st H) {u w : U} {x y : V} (r : Rp T c u x) (q : Rp T c w y) {t : Addr} (ht : H t = none) :
    Le c (c.still t (.tup [x, y])) ∧ RH T (c.still t (.tup [x, y])) st (upd H t (.tup [x, y])) ∧ Rp T (c.still t (.tup [x, y])) (.tup [u, w]) (.ref t) :=
  let l := le_still hH ht (.tup [x, y])
  ⟨l, hH.still ht _, .tup (SqT.of upd_same) (.cons (r.mono l) (.cons (q.mono l) .nil))⟩
def iEnum (ma : MA) : MI := fun env st => (ma env st).bind fun us st1 => match us with
  | [.lst us] => .ok ⟨enumFrom 0 us, fun _ => True⟩ st1
  | [.scr us] => .ok ⟨enumFrom 0 us, fun _ => True⟩ st1
  | [.loc i] => match st1[i]? with
    | some (.lst us) => .ok ⟨enumFrom 0 us, fun s => s[i]? = some (Ob.lst us)⟩ st1
    | _ => .bad
  | _ => .bad
theorem walk_of_enum {c0 : Cn} {a : Addr} {us : List U} {g : Sto → Prop} (h : ∀ c st H, Le c0 c → RH T c st H → g st → ∃ vs, SqL T.K H a vs ∧ RpL T c us vs) : WalkM T c0 (Ite T.K a) (enumFrom 0 us) g := by
  refine ⟨fun H => ∃ vs, SqL T.K H a vs ∧ vs.length = us.length, fun i H v H' => ∃ t x, v = .ref t ∧ H t = none ∧ H' = upd H t (.tup [.int (i : Nat), x]) ∧ ∀ xs, SqL T.K H a xs → xs[i]? = some x, ⟨fun i H hi ⟨vs, h1, h2⟩ => ?_, fun H ⟨vs, h1, h2⟩ => ⟨vs, h1, ?_⟩, fun i H x H' hi _ y => y⟩, fun c st H l hH hg => ?_⟩
  · have hi' : i < vs.length := by rw [h2, ← enum_len 0 us]; exact hi
    exact ⟨vs, vs[i], h1, by simp [hi']⟩
  · rw [enum_len, h2]; exact Nat.le_refl _
  · obtain ⟨vs, h1, r⟩ := h c st H l hH hg
    refine ⟨⟨vs, h1, r.length.symm⟩, fun i x H' hi y => ?_⟩
    obtain ⟨t, z, rfl, ht, rfl, hx⟩ := y
    obtain ⟨u, hu, ru⟩ := r.getV (hx vs h1)
    obtain ⟨n1, n2, n3⟩ := new_pair hH (.int (i : Int)) ru ht
    refine ⟨_, _, enum_get 0 us i u hu, n1, n2, ?_⟩
    rw [Nat.zero_add]
    exact n3
theorem pim_enum {elts : List Expr} {kk : Nat} (hK : X.K = T.K) (hg : Gl X "enumerate") (hm : X.mg "enumerate" = none) (ha : PAm X T P Wx [e] ma) (hs : starEach [e] X.env = [(false, eval e X.env)] := by rfl) :
    PIm X T P Wx (.Tuple elts kk tpos) (.Call (.Name "enumerate" p) [e] [] pos) (iEnum ma) :=
  PI.imp (pi_enum hg hm ha hs) fun σ H R ⟨c, env, st, hH, hE, hR⟩ => by
    refine (tg_bind hH hE hR).mono fun vs H1 ⟨us, c1, st1, l1, hH1, hE1, r1, hR1⟩ => ?_
    split at hR1
    · rename_i us'
      obtain ⟨v, vs', rfl, r, t⟩ := r1.inv_cons
      cases t.inv_nil
      obtain ⟨a, ws, rfl, h1, r2⟩ := r.inv_lst
      refine ⟨a, ws, rfl, by rw [hK]; exact SqL.of (hH1.sub _ _ h1), ?_⟩
      rw [hK]
      exact ResG.ret hR1 hH1 (walk_of_enum fun c2 st2 H2 l2 hH2 _ => ⟨ws, SqL.of (hH2.sub _ _ (l2.F _ _ h1)), r2.mono l2⟩)
    · rename_i us'
      obtain ⟨v, vs', rfl, r, t⟩ := r1.inv_cons
      cases t.inv_nil
      obtain ⟨a, ws, rfl, h1, r2⟩ := r.inv_scr
      refine ⟨a, ws, rfl, by rw [hK]; exact sqL_up hH1 h1, ?_⟩
      rw [hK]
      exact ResG.ret hR1 hH1 (walk_of_enum fun c2 st2 H2 l2 hH2 _ => ⟨ws, sqL_up hH2 (sqL_mono l2.F h1), r2.mono l2⟩)
    · rename_i i
      obtain ⟨v, vs', rfl, r, t⟩ := r1.inv_cons
      cases t.inv_nil
      obtain ⟨hi, rfl⟩ := r.inv_loc
      split at hR1
      · rename_i us' es
        obtain ⟨ws, h1, r2⟩ := hH1.at_lst es
        refine ⟨_, ws, rfl, by rw [hK]; exact SqL.of h1, ?_⟩
        rw [hK]
        refine ResG.ret hR1 hH1 (walk_of_enum fun c2 st2 H2 l2 hH2 hg => ?_)
        obtain ⟨zs, h3, r3⟩ := hH2.at_lst hg
        rw [l2.ρ i hi] at h3
        exact ⟨zs, SqL.of h3, r3⟩
      · exact hR1.elim
    · exact hR1.elim
end

/-! ### targets -/
abbrev MGt := U → Env → Sto → Option Env
def gN (i : Nat) : MGt := fun u env _ => some (env.set i (some u))
/-- (a, b, ..) by name -/
def setAll : List Nat → List U → Env → Option Env
  | [], [], env => some env
  | i :: is, u :: us, env => setAll is us (env.set i (some u))
  | _, _, _ => none
def gT (is : List Nat) : MGt := fun u env _ => match u with
  | .tup us => setAll is us env
  | _ => none
/-- the target's reading: the names are set, the heap is as it was -/
def tgtOf (T : Tb) (P : Pin) (g : MGt) : TG := fun v σ H Q => ∃ c env st u env', RH T c st H ∧ RE T P c env σ ∧ Rp T c u v ∧ g u env st = some env' ∧ ∀ σ', RE T P c env' σ' → Q σ' H
def PGm (X : Cx) (T : Tb) (P : Pin) (tg : Expr) (g : MGt) : Prop := PG X tg (tgtOf T P g)
theorem PG.imp {X : Cx} {tg : Expr} {t t' : TG} (h : PG X tg t) (k : ∀ v σ H Q, t' v σ H Q → t v σ H Q) : PG X tg t' := ⟨fun pins s σ H v u Q I r q => h.run pins s σ H v u Q I r (k v σ H Q q)⟩
section
variable {X : Cx} {T : Tb} {P : Pin} {pos : Pos}
theorem pgm_name {tg : Expr} {i : Nat} (h : PG X tg (gName i)) (hp : pinned P i = false := by rfl) : PGm X T P tg (gN i) := PG.imp h fun v σ H Q ⟨c, env, st, u, env', hH, hE, r, e, k⟩ => by
  cases e
  exact k _ (hE.set r i hp)
/-- several names -/
inductive PGN (X : Cx) (P : Pin) : List Expr → List Nat → TGs → Prop
  | nil : PGN X P [] [] gNil
  | cons {e : Expr} {es : List Expr} {i : Nat} {is : List Nat} {t : TGs} : PG X e (gName i) → pinned P i = false → PGN X P es is t → (assignEach (e :: es) X.env).map (·.2) = assign e X.env :: (assignEach es X.env).map (·.2) → PGN X P (e :: es) (i :: is) (gCons (gName i) t)
theorem PGN.pgs {es : List Expr} {is : List Nat} {t : TGs} (h : PGN X P es is t) : PGs X es t := by
  induction h with
  | nil => exact pgs_nil
  | cons a _ _ b ih => exact pgs_cons a ih b
theorem PGN.run {es : List Expr} {is : List Nat} {t : TGs} (h : PGN X P es is t) : ∀ {c : Cn} {env env' : Env} {σ : L2.St} {H : Hp} {us : List U} {vs : List V} {Q : L2.St → Hp → Prop}, RE T P c env σ → RpL T c us vs → setAll is us env = some env' → (∀ σ', RE T P c env' σ' → Q σ' H) → t vs σ H Q := by
  induction h with
  | nil =>
    intro c env env' σ H us vs Q hE r e k
    cases us with
    | nil =>
      cases e
      cases r
      exact ⟨rfl, k _ hE⟩
    | cons _ _ => cases e
  | @cons e es i is t a hp _ b ih =>
    intro c env env' σ H us vs Q hE r e k
    cases us with
    | nil => cases e
    | cons u us =>
      obtain ⟨v, vs', rfl, r1, r2⟩ := r.inv_cons
      exact ⟨v, vs', rfl, ih (hE.set r1 i hp) r2 e k⟩
theorem set_len : ∀ {is : List Nat} {us : List U} {env env' : Env}, setAll is us env = some env' → us.length = is.length
  | [], [], _, _, _ => rfl
  | i :: is, u :: us, env, env', h => by
    have := set_len (is := is) (us := us) h
    simp [this]
  | [], _ :: _, _, _, h => by cases h
  | _ :: _, [], _, _, h => by cases h
theorem pgm_tup {es : List Expr} {kk : Nat} {is : List Nat} {t : TGs} (hK : X.K = T.K) (hc : X.calm = true) (h : PGN X P es is t) (hn : (assignEach es X.env).length = is.length := by rfl) (hst : (assignEach es X.env).findIdx? (·.1) = none := by rfl) : PGm X T P (.Tuple es kk pos) (gT is) :=
  PG.imp (pg_tup hc h.pgs hn hst) fun v σ H Q ⟨c, env, st, u, env', hH, hE, r, e, k⟩ => by
    cases u with
    | tup us =>
      obtain ⟨a, vs, rfl, h1, r1⟩ := r.inv_tup
      refine ⟨a, vs, rfl, by rw [hK]; exact sqT_up hH h1, ?_, h.run hE r1 e k⟩
      rw [← r1.length]
      exact set_len e
    | _ => cases e
end
end NK

set_option Elab.async false
set_option linter.all false
set_option maxRecDepth 100000
set_option maxHeartbeats 2000000
/-! NK5: statements, loops, comprehensions. -/
namespace NK
open PySem L2

/-- a statement's outcome -/
inductive SO where
  | next (env : Env) (st : Sto)
  | ret (u : U) (st : Sto)
  | brk (env : Env) (st : Sto)
  | cont (env : Env) (st : Sto)
  | exc (x : Ex) (env : Env) (st : Sto)
  | bad
abbrev MS := Env → Sto → SO
def ResS (T : Tb) (P : Pin) (Wx : WX) (c : Cn) (r : SO) (D : Ends) : Prop := match r with
  | .next env st => ∀ c' σ' H', Le c c' → RH T c' st H' → RE T P c' env σ' → D.nx σ' H'
  | .ret u st => ∀ c' v H', Le c c' → RH T c' st H' → Rp T c' u v → D.rt v H'
  | .brk env st => ∀ c' σ' H', Le c c' → RH T c' st H' → RE T P c' env σ' → D.bk σ' H'
  | .cont env st => ∀ c' σ' H', Le c c' → RH T c' st H' → RE T P c' env σ' → D.ct σ' H'
  | .exc x env st => ∀ c' cls d σ' H', Le c c' → RH T c' st H' → RE T P c' env σ' → RX T c' x cls d → Wx cls d σ' H'
  | .bad => False
def tsOf (T : Tb) (P : Pin) (Wx : WX) (m : MS) : TS := fun D σ H => ∃ c env st, RH T c st H ∧ RE T P c env σ ∧ ResS T P Wx c (m env st) D
def PSm (X : Cx) (T : Tb) (P : Pin) (Wx : WX) (s : Stmt) (m : MS) : Prop := PS X s (tsOf T P Wx m)
def PSsm (X : Cx) (T : Tb) (P : Pin) (Wx : WX) (s : List Stmt) (m : MS) : Prop := PSs X s (tsOf T P Wx m)

def SO.bind (r : SO) (k : MS) : SO := match r with
  | .next env st => k env st
  | .ret u st => .ret u st
  | .brk env st => .brk env st
  | .cont env st => .cont env st
  | .exc x env st => .exc x env st
  | .bad => .bad
/-- an expression within a statement -/
def Out.st {α : Type} (r : Out α) (env : Env) (k : α → Sto → SO) : SO := match r with
  | .ok a st => k a st
  | .exc x st => .exc x env st
  | .bad => .bad

section
variable {T : Tb} {P : Pin} {Wx : WX} {c c' : Cn} {r : SO} {D D' : Ends} {σ : L2.St} {H : Hp}
theorem ResS.later (l : Le c c') (h : ResS T P Wx c r D) : ResS T P Wx c' r D := by
  cases r with
  | next env st => exact fun c2 σ' H' a b d => h c2 σ' H' (l.trans a) b d
  | ret u st => exact fun c2 σ' H' a b d => h c2 σ' H' (l.trans a) b d
  | brk env st => exact fun c2 σ' H' a b d => h c2 σ' H' (l.trans a) b d
  | cont env st => exact fun c2 σ' H' a b d => h c2 σ' H' (l.trans a) b d
  | exc x env st => exact fun c2 cls d σ' H' a b e f => h c2 cls d σ' H' (l.trans a) b e f
  | bad => exact h
theorem ResS.mono (h : ResS T P Wx c r D) (n : ∀ σ H, D.nx σ H → D'.nx σ H) (rt : ∀ v H, D.rt v H → D'.rt v H) (b : ∀ σ H, D.bk σ H → D'.bk σ H) (ct : ∀ σ H, D.ct σ H → D'.ct σ H) : ResS T P Wx c r D' := by
  cases r with
  | next env st => exact fun c2 σ' H' a e d => n _ _ (h c2 σ' H' a e d)
  | ret u st => exact fun c2 σ' H' a e d => rt _ _ (h c2 σ' H' a e d)
  | brk env st => exact fun c2 σ' H' a e d => b _ _ (h c2 σ' H' a e d)
  | cont env st => exact fun c2 σ' H' a e d => ct _ _ (h c2 σ' H' a e d)
  | exc x env st => exact h
  | bad => exact h
/-- a mirrored expression first, then the rest of the statement -/
theorem ts_bind {α β : Type} {R : Cn → α → β → Prop} {m : MG α} {k : α → Sto → SO} {env : Env} {st : Sto} (hH : RH T c st H) (hE : RE T P c env σ) (hR : ResS T P Wx c ((m env st).st env k) D) :
    tgOf T P Wx R m σ H fun x H1 => ∃ u c1 st1, Le c c1 ∧ RH T c1 st1 H1 ∧ RE T P c1 env σ ∧ R c1 u x ∧ ResS T P Wx c1 (k u st1) D := by
  refine ⟨c, env, st, hH, hE, ?_⟩
  cases e : m env st with
  | ok u st1 =>
    rw [e] at hR
    exact fun c1 v H1 l h r => ⟨u, c1, st1, l, h, hE.mono l, r, ResS.later l hR⟩
  | exc x st1 =>
    rw [e] at hR
    exact fun c1 cls d H1 l h r => hR c1 cls d σ H1 l h (hE.mono l) r
  | bad =>
    rw [e] at hR
    exact hR
theorem ResS.go {env : Env} {st : Sto} (h : ResS T P Wx c (.next env st) D) (hH : RH T c st H) (hE : RE T P c env σ) : D.nx σ H := h c σ H (Le.refl c) hH hE
end

/-! ### mirrors of statements -/
def sNext : MS := fun env st => .next env st
def sSeq (a b : MS) : MS := fun env st => (a env st).bind b
def sDrop (m : ME) : MS := fun env st => (m env st).st env fun _ st1 => .next env st1
def sRet (m : ME) : MS := fun env st => (m env st).st env fun u st1 => .ret u st1
def sRetN : MS := fun env st => .ret .non st
def sBrk : MS := fun env st => .brk env st
def sCont : MS := fun env st => .cont env st
def sAsg (m : ME) (g : MGt) : MS := fun env st => (m env st).st env fun u st1 => match g u env st1 with
  | some env' => .next env' st1
  | none => .bad
def sIf (mt : MT) (a b : MS) : MS := fun env st => (mt env st).st env fun k st1 => if k = true then a env st1 else b env st1
/-- the turns of a for -/
noncomputable def forM (g : Sto → Prop) (gt : MGt) (b : MS) : List U → MS
  | [], env, st => open Classical in if g st then .next env st else .bad
  | u :: us, env, st => open Classical in if g st then (match gt u env st with
    | none => .bad
    | some env1 => match b env1 st with
      | .next env2 st2 => forM g gt b us env2 st2
      | .cont env2 st2 => forM g gt b us env2 st2
      | .brk env2 st2 => .next env2 st2
      | .ret u st2 => .ret u st2
      | .exc x env2 st2 => .exc x env2 st2
      | .bad => .bad) else .bad
noncomputable def sFor (mi : MI) (gt : MGt) (b : MS) : MS := fun env st => (mi env st).st env fun p st1 => forM p.g gt b p.us env st1

section
variable {X : Cx} {T : Tb} {P : Pin} {Wx : WX} {s : Stmt} {rest : List Stmt} {e : Expr} {ma mb : MS} {m : ME} {pos : Pos}
theorem pssm_nil : PSsm X T P Wx [] sNext := PSs.imp pss_nil fun D σ H ⟨c, env, st, hH, hE, hR⟩ => ResS.go (D := D) hR hH hE
theorem seq_run {t u : TS} (h1 : ∀ D σ H, tsOf T P Wx ma D σ H → t D σ H) (h2 : ∀ D σ H, tsOf T P Wx mb D σ H → u D σ H) (D : Ends) (σ : L2.St) (H : Hp) (h : tsOf T P Wx (sSeq ma mb) D σ H) : tSeq t u D σ H := by
  obtain ⟨c, env, st, hH, hE, hR⟩ := h
  refine h1 _ _ _ ⟨c, env, st, hH, hE, ?_⟩
  unfold sSeq at hR
  cases q : ma env st with
  | next env1 st1 =>
    rw [q] at hR
    exact fun c1 σ1 H1 l1 hH1 hE1 => h2 _ _ _ ⟨c1, env1, st1, hH1, hE1, ResS.later l1 hR⟩
  | ret u st1 => rw [q] at hR; exact hR
  | brk env1 st1 => rw [q] at hR; exact hR
  | cont env1 st1 => rw [q] at hR; exact hR
  | exc x env1 st1 => rw [q] at hR; exact hR
  | bad => rw [q] at hR; exact hR
theorem pssm_cons (h1 : PSm X T P Wx s ma) (h2 : PSsm X T P Wx rest mb) : PSsm X T P Wx (s :: rest) (sSeq ma mb) := PSs.imp (pss_cons h1 h2) (seq_run (fun _ _ _ h => h) fun _ _ _ h => h)
theorem pssm_one (h1 : PSm X T P Wx s ma) : PSsm X T P Wx [s] ma := pss_one h1
theorem psm_pass : PSm X T P Wx (.Pass pos) sNext := PS.imp ps_pass fun D σ H ⟨c, env, st, hH, hE, hR⟩ => ResS.go (D := D) hR hH hE
theorem psm_brk : PSm X T P Wx (.Break pos) sBrk := PS.imp ps_break fun D σ H ⟨c, env, st, hH, hE, hR⟩ => hR c σ H (Le.refl c) hH hE
theorem psm_cont : PSm X T P Wx (.Continue pos) sCont := PS.imp ps_continue fun D σ H ⟨c, env, st, hH, hE, hR⟩ => hR c σ H (Le.refl c) hH hE
theorem psm_expr (h : PEm X T P Wx e m) (hs : swapsWith e none pos.line X.env = pure false := by rfl) : PSm X T P Wx (.Expr e pos) (sDrop m) := PS.imp (ps_expr h hs) fun D σ H ⟨c, env, st, hH, hE, hR⟩ =>
  (ts_bind hH hE hR).mono fun x H1 ⟨u, c1, st1, l1, hH1, hE1, r1, hR1⟩ => ResS.go (D := D) hR1 hH1 hE1
theorem psm_ret (h : PEm X T P Wx e m) : PSm X T P Wx (.Return (some e) pos) (sRet m) := PS.imp (ps_ret h) fun D σ H ⟨c, env, st, hH, hE, hR⟩ =>
  (ts_bind hH hE hR).mono fun x H1 ⟨u, c1, st1, l1, hH1, hE1, r1, hR1⟩ => hR1 c1 x H1 (Le.refl c1) hH1 r1
theorem psm_retN : PSm X T P Wx (.Return none pos) sRetN := PS.imp ps_retN fun D σ H ⟨c, env, st, hH, hE, hR⟩ => hR c .non H (Le.refl c) hH .non
theorem asg_run {tg : TG} {g : MGt} (hg : ∀ v σ H Q, tgtOf T P g v σ H Q → tg v σ H Q) (D : Ends) (σ : L2.St) (H : Hp) (h : tsOf T P Wx (sAsg m g) D σ H) : tAsg (teOf T P Wx m) tg D σ H := by
  obtain ⟨c, env, st, hH, hE, hR⟩ := h
  refine (ts_bind hH hE hR).mono fun x H1 ⟨u, c1, st1, l1, hH1, hE1, r1, hR1⟩ => ?_
  split at hR1
  · rename_i env' q
    exact hg _ _ _ _ ⟨c1, env, st1, u, env', hH1, hE1, r1, q, fun σ' hE' => ResS.go (D := D) hR1 hH1 hE'⟩
  · exact hR1.elim
theorem psm_asg {tg : Expr} {g : MGt} (h : PEm X T P Wx e m) (hg : PGm X T P tg g) (hs : swapsWithSole [tg] e pos.line X.env = pure false := by rfl) (hw : swappedStores [tg] e X.env = pure none := by rfl)
    (h1 : (assignEach [tg] X.env).map (·.2) = [assign tg X.env] := by rfl) : PSm X T P Wx (.Assign [tg] e pos) (sAsg m g) := PS.imp (ps_asg h hg hs hw h1) (asg_run fun _ _ _ _ h => h)
theorem psm_set {i : Nat} {x : Str} {pos' : Pos} (hN : X.N.Nodup) (hi : X.N[i]? = some x) (hx : Loc X.env.scope x) (h : PEm X T P Wx e m) (hs : swapsWith e (some (.Name x pos')) pos.line X.env = pure false := by rfl) (hp : pinned P i = false := by rfl)
    (hf : X.fn x = true ∨ X.env.scope.names.lookup x = some .local := by first | exact .inl rfl | exact .inr rfl | assumption) : PSm X T P Wx (.Assign [.Name x pos'] e pos) (sAsg m (gN i)) :=
  PS.imp (ps_set hN hi hx h hs hf) (asg_run fun v σ H Q ⟨c, env, st, u, env', hH, hE, r, q, k⟩ => by
    cases q
    exact k _ (hE.set r i hp))
theorem psm_if {c : Expr} {a b : List Stmt} {mt : MT} (hc : PTm X T P Wx c mt) (ha : PSsm X T P Wx a ma) (hb : PSsm X T P Wx b mb) : PSm X T P Wx (.If c a b pos) (sIf mt ma mb) :=
  PS.imp (ps_if hc ha hb) fun D σ H ⟨c, env, st, hH, hE, hR⟩ => (ts_bind hH hE hR).mono fun k H1 ⟨u, c1, st1, l1, hH1, hE1, r1, hR1⟩ => by
    cases (show u = k from r1)
    cases k with
    | true => exact ⟨c1, env, st1, hH1, hE1, hR1⟩
    | false => exact ⟨c1, env, st1, hH1, hE1, hR1⟩
/-- the turns -/
theorem for_run {J : It} {us : List U} {g : Sto → Prop} {gt : MGt} {tg : TG} {tb : TS} {c0 : Cn} {D : Ends} (hw : WalkM T c0 J us g) (hg : ∀ v σ H Q, tgtOf T P gt v σ H Q → tg v σ H Q) (hb : ∀ D σ H, tsOf T P Wx ma D σ H → tb D σ H)
    {c : Cn} {env : Env} {st : Sto} {σ : L2.St} {H : Hp} (l : Le c0 c) (hH : RH T c st H) (hE : RE T P c env σ) (hR : ResS T P Wx c (forM g gt ma us env st) D) :
    ∃ W : Nat → Nat → L2.St → Hp → Prop, (∃ m, W 0 m σ H) ∧ ∀ i m σ H, W i m σ H →
      (J.stop i H ∧ D.nx σ H) ∨ (J.go i H ∧ ∃ N : L2.St → Hp → Prop, (∀ σ' H', N σ' H' → ∃ m', m' < m ∧ W (i + 1) m' σ' H') ∧ ∀ x H', J.yld i H x H' → tg x σ H' fun σ2 H2 => tb { D with nx := N, ct := N, bk := D.nx } σ2 H2) := by
  obtain ⟨G, Y, w, k⟩ := hw
  refine for_it w (fun i σ H => i ≤ us.length ∧ ∃ c env st, Le c0 c ∧ RH T c st H ∧ RE T P c env σ ∧ ResS T P Wx c (forM g gt ma (us.drop i) env st) D) ⟨Nat.zero_le _, c, env, st, l, hH, hE, hR⟩ ?_ ?_ ?_
  · rintro i σ H hi ⟨_, c, env, st, l, hH, hE, hR⟩
    have hg' : g st := by
      cases q : us.drop i with
      | nil =>
        rw [q] at hR
        unfold forM at hR
        split at hR
        · assumption
        · exact hR.elim
      | cons u r =>
        rw [q] at hR
        unfold forM at hR
        split at hR
        · assumption
        · exact hR.elim
    exact (k c st H l hH hg').1
  · rintro i x σ H H' hi ⟨_, c, env, st, l, hH, hE, hR⟩ y
    have hd : us.drop i = us[i] :: us.drop (i + 1) := List.drop_eq_getElem_cons hi
    rw [hd] at hR
    unfold forM at hR
    split at hR
    · rename_i hg'
      obtain ⟨c1, u, hu, l1, hH1, r1⟩ := (k c st H l hH hg').2 i x H' hi y
      have eu : us[i] = u := by
        rw [List.getElem?_eq_getElem hi] at hu
        exact Option.some.inj hu
      rw [eu] at hR
      split at hR
      · exact hR.elim
      · rename_i env1 q
        refine hg _ _ _ _ ⟨c1, env, st, u, env1, hH1, hE.mono l1, r1, q, fun σ1 hE1 => hb _ _ _ ⟨c1, env1, st, hH1, hE1, ?_⟩⟩
        have l2 := l.trans l1
        cases qb : ma env1 st with
        | next env2 st2 =>
          rw [qb] at hR
          exact fun c2 σ2 H2 l3 hH2 hE2 => ⟨hi, c2, env2, st2, l2.trans l3, hH2, hE2, ResS.later (l1.trans l3) hR⟩
        | cont env2 st2 =>
          rw [qb] at hR
          exact fun c2 σ2 H2 l3 hH2 hE2 => ⟨hi, c2, env2, st2, l2.trans l3, hH2, hE2, ResS.later (l1.trans l3) hR⟩
        | brk env2 st2 =>
          rw [qb] at hR
          exact fun c2 σ2 H2 l3 hH2 hE2 => hR c2 σ2 H2 (l1.trans l3) hH2 hE2
        | ret u2 st2 =>
          rw [qb] at hR
          exact fun c2 v H2 l3 hH2 r2 => hR c2 v H2 (l1.trans l3) hH2 r2
        | exc x2 env2 st2 =>
          rw [qb] at hR
          exact fun c2 cls d σ2 H2 l3 hH2 hE2 r2 => hR c2 cls d σ2 H2 (l1.trans l3) hH2 hE2 r2
        | bad =>
          rw [qb] at hR
          exact hR.elim
    · exact hR.elim
  · rintro σ H ⟨_, c, env, st, l, hH, hE, hR⟩
    rw [List.drop_length] at hR
    unfold forM at hR
    split at hR
    · exact ResS.go (D := D) hR hH hE
    · exact hR.elim
theorem psm_for {tg iter : Expr} {body : List Stmt} {mi : MI} {gt : MGt} (hp : PassesOwn (model X.prog X.w) X.A X.env X.xe) (hc : X.calm = true) (hi : PIm X T P Wx tg iter mi) (hg : PGm X T P tg gt) (hb : PSsm X T P Wx body ma)
    (hs : ∀ x, foldedSetIterable iter X.env x = pure x := by intro _; rfl) : PSm X T P Wx (.For tg iter body [] pos) (sFor mi gt ma) :=
  PS.imp (ps_for hp hc hi hg hb hs) fun D σ H ⟨c, env, st, hH, hE, hR⟩ => (ts_bind hH hE hR).mono fun J H1 ⟨p, c1, st1, l1, hH1, hE1, r1, hR1⟩ =>
    for_run r1 (fun _ _ _ _ h => h) (fun _ _ _ h => h) (Le.refl c1) hH1 hE1 hR1
end
end NK

set_option Elab.async false
set_option linter.all false
set_option maxRecDepth 100000
set_option maxHeartbeats 2000000
/-! NK6: comprehensions, scopes, lists' methods, stores. -/
namespace NK
open PySem L2

/-! ### places below n -/
mutual
def U.under (n : Nat) : U → Bool
  | .loc i => decide (i < n)
  | .tup us => U.underL n us
  | .lst us => U.underL n us
  | .scr us => U.underL n us
  | .ins _ us => U.underL n us
  | _ => true
def U.underL (n : Nat) : List U → Bool
  | [] => true
  | u :: us => U.under n u && U.underL n us
end
def Ob.under (n : Nat) : Ob → Bool
  | .lst us => U.underL n us
  | .dK kvs => U.underL n (kvs.map (·.2))
  | .ins _ us => U.underL n us
  | .iset _ => true
  | .dead => true
section
variable {T : Tb} {c c2 : Cn}
mutual
theorem Rp.under : ∀ {u : U} {v : V}, Rp T c u v → u.under c.n = true
  | _, _, .non => rfl
  | _, _, .bl _ => rfl
  | _, _, .int _ => rfl
  | _, _, .str _ => rfl
  | _, _, .ty _ => rfl
  | _, _, .cls _ => rfl
  | _, _, .tup _ r => RpL.under r
  | _, _, .lst _ r => RpL.under r
  | _, _, .scr _ r => RpL.under r
  | _, _, .ins _ _ r => RpL.under r
  | _, _, .loc h => by
    unfold U.under
    exact decide_eq_true h
theorem RpL.under : ∀ {us : List U} {vs : List V}, RpL T c us vs → U.underL c.n us = true
  | _, _, .nil => rfl
  | _, _, .cons r t => by
    unfold U.underL
    rw [Rp.under r, RpL.under t]
    rfl
end
theorem RpK.under : ∀ {us : List (Key × U)} {vs : List (Key × V)}, RpK T c us vs → U.underL c.n (us.map (·.2)) = true
  | _, _, .nil => rfl
  | _, _, .cons r t => by
    show U.underL c.n (_ :: _) = true
    unfold U.underL
    rw [Rp.under r, RpK.under t]
    rfl
theorem RO.under {o : Ob} {a : Addr} {h : HO} (r : RO T c o a h) : o.under c.n = true := by
  cases o with
  | lst us => obtain ⟨vs, _, r⟩ := r; exact r.under
  | dK us => obtain ⟨vs, _, r⟩ := r; exact r.under
  | ins k us => obtain ⟨dx, vs, _, _, r⟩ := r; exact r.under
  | iset ks => rfl
  | dead => rfl
/-- the places from n on forgotten -/
def Cn.cut (c : Cn) (n : Nat) : Cn := { c with n := n }
mutual
theorem Rp.cut {n : Nat} : ∀ {u : U} {v : V}, Rp T c u v → u.under n = true → Rp T (c.cut n) u v
  | _, _, .non, _ => .non
  | _, _, .bl b, _ => .bl b
  | _, _, .int i, _ => .int i
  | _, _, .str x, _ => .str x
  | _, _, .ty n, _ => .ty n
  | _, _, .cls k, _ => .cls k
  | _, _, .tup e r, h => .tup e (RpL.cut r h)
  | _, _, .lst e r, h => .lst e (RpL.cut r h)
  | _, _, .scr e r, h => .scr e (RpL.cut r h)
  | _, _, .ins e l r, h => .ins e l (RpL.cut r h)
  | _, _, .loc (i := i) hi, h => by
    unfold U.under at h
    exact .loc (c := c.cut n) (of_decide_eq_true h)
theorem RpL.cut {n : Nat} : ∀ {us : List U} {vs : List V}, RpL T c us vs → U.underL n us = true → RpL T (c.cut n) us vs
  | _, _, .nil, _ => .nil
  | _, _, .cons r t, h => by
    unfold U.underL at h
    rw [Bool.and_eq_true] at h
    exact .cons (Rp.cut r h.1) (RpL.cut t h.2)
end
theorem RpK.cut {n : Nat} : ∀ {us : List (Key × U)} {vs : List (Key × V)}, RpK T c us vs → U.underL n (us.map (·.2)) = true → RpK T (c.cut n) us vs
  | _, _, .nil, _ => .nil
  | _, _, .cons r t, h => by
    have h' : (U.under n _ && U.underL n _) = true := h
    rw [Bool.and_eq_true] at h'
    exact .cons (Rp.cut r h'.1) (RpK.cut t h'.2)
theorem RO.cut {n : Nat} {o : Ob} {a : Addr} {h : HO} (r : RO T c o a h) (b : o.under n = true) : RO T (c.cut n) o a h := by
  cases o with
  | lst us => obtain ⟨vs, e, r⟩ := r; exact ⟨vs, e, r.cut b⟩
  | dK us => obtain ⟨vs, e, r⟩ := r; exact ⟨vs, e, r.cut b⟩
  | ins k us => obtain ⟨dx, vs, e, z, r⟩ := r; exact ⟨dx, vs, e, z, r.cut b⟩
  | iset ks => exact r
  | dead => exact r.elim
/-- the old part of the store: as it was, or without places -/
def oldOk (st st' : Sto) : Prop := st.length ≤ st'.length ∧ ∀ i, i < st.length → st'[i]? = st[i]? ∨ ∃ o, st'[i]? = some o ∧ o.under 0 = true
mutual
theorem U.under_mono {n m : Nat} (h : n ≤ m) : ∀ {u : U}, u.under n = true → u.under m = true
  | .loc i, e => by unfold U.under at e ⊢; exact decide_eq_true (Nat.lt_of_lt_of_le (of_decide_eq_true e) h)
  | .tup us, e => U.underL_mono h (us := us) e
  | .lst us, e => U.underL_mono h (us := us) e
  | .scr us, e => U.underL_mono h (us := us) e
  | .ins _ us, e => U.underL_mono h (us := us) e
  | .non, _ => rfl
  | .bl _, _ => rfl
  | .int _, _ => rfl
  | .str _, _ => rfl
  | .ty _, _ => rfl
  | .cls _, _ => rfl
theorem U.underL_mono {n m : Nat} (h : n ≤ m) : ∀ {us : List U}, U.underL n us = true → U.underL m us = true
  | [], _ => rfl
  | u :: us, e => by
    unfold U.underL at e ⊢
    rw [Bool.and_eq_true] at e ⊢
    exact ⟨U.under_mono h e.1, U.underL_mono h e.2⟩
end
theorem Ob.under_mono {n m : Nat} (h : n ≤ m) {o : Ob} (e : o.under n = true) : o.under m = true := by
  cases o with
  | lst us => exact U.underL_mono h (us := us) e
  | dK us =>
    have e' : U.underL n (us.map fun p => p.2) = true := e
    exact U.underL_mono h e'
  | ins k us => exact U.underL_mono h (us := us) e
  | iset ks => rfl
  | dead => rfl
/-- what was laid since st is forgotten -/
theorem scope_cut {st st2 : Sto} {H H2 : Hp} (hH : RH T c st H) (l : Le c c2) (hH2 : RH T c2 st2 H2) (old : oldOk st st2) : Le c (c2.cut c.n) ∧ RH T (c2.cut c.n) (st2.take st.length) H2 := by
  refine ⟨⟨Nat.le_refl _, fun i hi => l.ρ i hi, l.F⟩, ?_, hH2.sub, fun i o e d => ?_, fun i j a b ea da eb db q => ?_⟩
  · show c.n = _
    rw [hH.n, List.length_take]
    have := old.1
    omega
  · have hi : i < st.length := by
      have := (List.getElem?_eq_some_iff.mp e).1
      rw [List.length_take] at this
      omega
    rw [List.getElem?_take_of_lt hi] at e
    obtain ⟨h, h1, h2, h3⟩ := hH2.act i o e d
    refine ⟨h, h1, h2.cut ?_, h3⟩
    rcases old.2 i hi with q | ⟨o', q, b⟩
    · rw [e] at q
      obtain ⟨h', _, h2', _⟩ := hH.act i o q.symm d
      exact h2'.under
    · rw [e] at q
      cases q
      exact Ob.under_mono (Nat.zero_le _) b
  · have hi : i < st.length := by
      have := (List.getElem?_eq_some_iff.mp ea).1
      rw [List.length_take] at this
      omega
    have hj : j < st.length := by
      have := (List.getElem?_eq_some_iff.mp eb).1
      rw [List.length_take] at this
      omega
    rw [List.getElem?_take_of_lt hi] at ea
    rw [List.getElem?_take_of_lt hj] at eb
    exact hH2.inj i j a b ea da eb db q
end

/-- the answer stands still, what was laid on the way is forgotten -/
noncomputable def scopeOut (st : Sto) (r : Out U) : Out U := (r.bind frz).bind fun u st2 => open Classical in if u.under st.length = true ∧ oldOk st st2 then .ok u (st2.take st.length) else .bad
noncomputable def eScope (m : ME) : ME := fun env st => scopeOut st (m env st)
section
variable {X : Cx} {T : Tb} {P : Pin} {Wx : WX} {e : Expr} {m : ME} {pos : Pos}
/-- what freezing does, as a step of relations -/
theorem frz_at {c : Cn} {st : Sto} {H : Hp} {u u2 : U} {v : V} {st2 : Sto} (hH : RH T c st H) (r : Rp T c u v) (e : frz u st = .ok u2 st2) : ∃ c2, Le c c2 ∧ RH T c2 st2 H ∧ Rp T c2 u2 v := by
  cases u with
  | loc i =>
    obtain ⟨hi, rfl⟩ := r.inv_loc
    dsimp only [frz] at e
    split at e
    · rename_i us q
      cases e
      obtain ⟨vs, h1, h2⟩ := hH.at_lst q
      have l := le_freeze (x := .lst vs) hH q (fun z => nomatch z)
      exact ⟨_, l, hH.freeze q (fun z => nomatch z) h1, .lst upd_same (h2.mono l)⟩
    · rename_i k us q
      cases e
      obtain ⟨dx, vs, h1, hz, h2⟩ := hH.at_ins q
      have l := le_freeze (x := .ins (T.cls k) dx ((T.fld k).zip vs)) hH q (fun z => nomatch z)
      exact ⟨_, l, hH.freeze q (fun z => nomatch z) h1, .ins upd_same hz (h2.mono l)⟩
    · cases e
  | _ => cases e; exact ⟨c, Le.refl c, hH, r⟩
theorem frz_noexc {u : U} {st : Sto} {x : Ex} {st2 : Sto} : frz u st ≠ .exc x st2 := by
  intro h
  cases u with
  | loc i =>
    dsimp only [frz] at h
    split at h <;> cases h
  | _ => cases h
theorem scope_res {c : Cn} {σ : L2.St} {st : Sto} {H : Hp} {r : Out U} {Q : VK} (hH : RH T c st H) (h : ResG T Wx c σ (Rp T) (scopeOut st r) Q) : ResG T Wx c σ (Rp T) r Q := by
  cases r with
  | ok u st1 =>
    intro c1 v H1 l1 hH1 r1
    unfold scopeOut at h
    cases q : frz u st1 with
    | ok u2 st2 =>
      obtain ⟨c2, l2, hH2, r2⟩ := frz_at hH1 r1 q
      change ResG T Wx c σ (Rp T) ((frz u st1).bind _) Q at h
      rw [q] at h
      change ResG T Wx c σ (Rp T) (open Classical in if u2.under st.length = true ∧ oldOk st st2 then .ok u2 (st2.take st.length) else .bad) Q at h
      split at h
      · rename_i hs
        obtain ⟨l3, hH3⟩ := scope_cut hH (l1.trans l2) hH2 hs.2
        rw [← hH.n] at hs
        exact h _ _ _ l3 hH3 (r2.cut hs.1)
      · exact h.elim
    | exc x st2 => exact absurd q frz_noexc
    | bad =>
      change ResG T Wx c σ (Rp T) ((frz u st1).bind _) Q at h
      rw [q] at h
      exact h.elim
  | exc x st1 => exact h
  | bad => exact h
theorem pem_scope (h : PEm X T P Wx e m) : PEm X T P Wx e (eScope m) := PE.imp h fun σ H Q ⟨c, env, st, hH, hE, hR⟩ => ⟨c, env, st, hH, hE, scope_res hH hR⟩

/-! ### comprehensions -/
def wipeE (env : Env) : List Nat → Env
  | [] => env
  | v :: vs => (wipeE env vs).set v none
theorem RE.wipe {c : Cn} {env : Env} {σ : L2.St} (r : RE T P c env σ) : ∀ vs : List Nat, (∀ i ∈ vs, pinned P i = false) → RE T P c (wipeE env vs) (L2.wipe σ vs)
  | [], _ => r
  | v :: vs, h => by
    show RE T P c ((wipeE env vs).set v none) ((L2.wipe σ vs).set v none)
    exact (RE.wipe r vs fun i hi => h i (List.mem_cons_of_mem _ hi)).unset v (h v (List.mem_cons_self ..))
noncomputable def compM (g : Sto → Prop) (gt : MGt) (mt : MT) (me : ME) (D : Nat) (env : Env) : List U → Sto → Out U
  | [], st => open Classical in if g st then .ok (.loc D) st else .bad
  | u :: us, st => open Classical in if g st then (match gt u env st with
    | none => .bad
    | some env1 => match mt env1 st with
      | .ok true st1 => (match me env1 st1 with
        | .ok w st2 => match st2[D]? with
          | some (.lst acc) => if acc.length < 16777216 then compM g gt mt me D env us (st2.set D (.lst (acc ++ [w]))) else .bad
          | _ => .bad
        | _ => .bad)
      | .ok false st1 => compM g gt mt me D env us st1
      | _ => .bad) else .bad
def tYes : MT := fun _ st => .ok true st
noncomputable def eComp (mi : MI) (gt : MGt) (mt : MT) (me : ME) (vs : List Nat) : ME := fun env st => (mi env st).bind fun p st1 => compM p.g gt mt me st1.length (wipeE env vs) p.us (st1 ++ [.lst []])
/-- in a comprehension's block nothing is raised -/
def Wx0 : WX := fun _ _ _ _ => False
/-- the targets of a comprehension store its own names alone -/
def GW (tg : TG) (vs : List Nat) : Prop := ∀ (v : V) (σ : L2.St) (H : Hp) (Q : L2.St → Hp → Prop), (tg v (L2.wipe σ vs) H fun σ3 H3 => L2.wipe σ3 vs = L2.wipe σ vs → Q σ3 H3) → tg v (L2.wipe σ vs) H fun σ3 H3 => L2.wipe σ3 vs = L2.wipe σ vs ∧ Q σ3 H3
theorem comp_run {J : It} {us : List U} {g : Sto → Prop} {gt : MGt} {tg : TG} {mt : MT} {me : ME} {tt : TT} {te : TE} {vs : List Nat} {c0 : Cn} {Q : VK} {σ : L2.St} (hw : WalkM T c0 J us g)
    (hg : ∀ v σ H Q, tgtOf T P gt v σ H Q → tg v σ H Q) (ht : ∀ σ H Q, ttOf T P Wx0 mt σ H Q → tt σ H Q) (he : ∀ σ H Q, teOf T P Wx0 me σ H Q → te σ H Q)
    (hp : ∀ i ∈ vs, pinned P i = false) (hgw : GW tg vs)
    {c : Cn} {env : Env} {st : Sto} {H : Hp} (l : Le c0 c) (hH : RH T c st H) (hE : RE T P c env σ) {D : Addr} (hD : H D = none) (hR : ResG T Wx c σ (Rp T) (compM g gt mt me st.length (wipeE env vs) us (st ++ [.lst []])) Q) :
    ∃ W : Nat → Nat → Hp → Prop, (∃ m, W 0 m (upd H D (.lst []))) ∧ ∀ i m H, W i m H →
      (J.stop i H ∧ Q (.ref D) H) ∨ (J.go i H ∧ ∃ Nx : Hp → Prop, (∀ H', Nx H' → ∃ m', m' < m ∧ W (i + 1) m' H') ∧ ∀ x H', J.yld i H x H' → tg x (L2.wipe σ vs) H' fun σ2 H2 => L2.wipe σ2 vs = L2.wipe σ vs ∧ tt σ2 H2 fun b H3 =>
        if b = true then te σ2 H3 fun y H4 => ∃ acc, H4 D = some (.lst acc) ∧ acc.length < sizeLine ∧ Nx (upd H4 D (.lst (acc ++ [y]))) else Nx H3) := by
  obtain ⟨G, Y, w, k⟩ := hw
  have start := hH.new hD (o := .lst []) (x := .lst []) ⟨[], rfl, .nil⟩
  have hpos : (c.new D).ρ st.length = D := by rw [← hH.n, new_self]
  have hlt : st.length < (c.new D).n := by show _ < c.n + 1; rw [hH.n]; exact Nat.lt_succ_self _
  have lD := le_new c D
  have hE0 : RE T P c (wipeE env vs) (L2.wipe σ vs) := hE.wipe vs hp
  generalize hn : st.length = n at hR hpos hlt
  refine lc_it w (fun i H => i ≤ us.length ∧ ∃ c1 st1, Le (c.new D) c1 ∧ RH T c1 st1 H ∧ ResG T Wx c σ (Rp T) (compM g gt mt me n (wipeE env vs) (us.drop i) st1) Q) ⟨Nat.zero_le _, _, _, Le.refl _, start, hR⟩ ?_ ?_ ?_
  · rintro i H hi ⟨_, c1, st1, l1, hH1, hR1⟩
    have hg' : g st1 := by
      cases q : us.drop i with
      | nil =>
        rw [q] at hR1
        unfold compM at hR1
        split at hR1
        · assumption
        · exact hR1.elim
      | cons u r =>
        rw [q] at hR1
        unfold compM at hR1
        split at hR1
        · assumption
        · exact hR1.elim
    exact (k c1 st1 H ((l.trans lD).trans l1) hH1 hg').1
  · rintro i x H H' hi ⟨_, c1, st1, l1, hH1, hR1⟩ y
    have hd : us.drop i = us[i] :: us.drop (i + 1) := List.drop_eq_getElem_cons hi
    rw [hd] at hR1
    unfold compM at hR1
    split at hR1
    · rename_i hg'
      obtain ⟨c2, u, hu, l2, hH2, r2⟩ := (k c1 st1 H ((l.trans lD).trans l1) hH1 hg').2 i x H' hi y
      have eu : us[i] = u := by
        rw [List.getElem?_eq_getElem hi] at hu
        exact Option.some.inj hu
      rw [eu] at hR1
      have hE2 : RE T P c2 (wipeE env vs) (L2.wipe σ vs) := hE0.mono ((lD.trans l1).trans l2)
      split at hR1
      · exact hR1.elim
      · rename_i env1 q
        refine hgw x σ _ _ (hg _ _ _ _ ⟨c2, wipeE env vs, st1, u, env1, hH2, hE2, r2, q, fun σ1 hE1 _ => ?_⟩)
        refine ht _ _ _ ⟨c2, env1, st1, hH2, hE1, ?_⟩
        split at hR1
        · rename_i st2 qt
          rw [qt]
          intro c3 b H3 l3 hH3 eb
          cases (show true = b from eb)
          rw [if_pos rfl]
          refine he _ _ _ ⟨c3, env1, st2, hH3, hE1.mono l3, ?_⟩
          split at hR1
          · rename_i w' st3 qe
            rw [qe]
            intro c4 z H4 l4 hH4 r4
            split at hR1
            · rename_i acc qa
              obtain ⟨vacc, h1, ra⟩ := hH4.at_lst qa
              have hl4 := ((l1.trans l2).trans l3).trans l4
              have e4 : c4.ρ n = D := (hl4.ρ n hlt).trans hpos
              rw [e4] at h1
              split at hR1
              · rename_i hz
                refine ⟨vacc, h1, by rw [szl, ← ra.length]; exact hz, hi, c4, _, hl4, ?_, hR1⟩
                have := hH4.set qa (fun z => nomatch z) (o' := .lst (acc ++ [w'])) (x := .lst (vacc ++ [z])) ⟨_, rfl, ra.append (.one r4)⟩
                rw [e4] at this
                exact this
              · exact hR1.elim
            · exact hR1.elim
          · exact hR1.elim
        · rename_i st2 qt
          rw [qt]
          intro c3 b H3 l3 hH3 eb
          cases (show false = b from eb)
          rw [if_neg Bool.false_ne_true]
          exact ⟨hi, c3, st2, (l1.trans l2).trans l3, hH3, hR1⟩
        · exact hR1.elim
    · exact hR1.elim
  · rintro H ⟨_, c1, st1, l1, hH1, hR1⟩
    rw [List.drop_length] at hR1
    unfold compM at hR1
    split at hR1
    · have e : V.ref D = V.ref (c1.ρ n) := by rw [l1.ρ n hlt, hpos]
      rw [e]
      exact hR1 c1 _ H (lD.trans l1) hH1 (.loc (Nat.lt_of_lt_of_le hlt l1.n))
    · exact hR1.elim
theorem wipe_get : ∀ (ws : List Nat) (ρ : L2.St) (j : Nat), (L2.wipe ρ ws)[j]? = if j ∈ ws then (ρ[j]?).map fun _ => none else ρ[j]? := by
  intro ws
  induction ws with
  | nil => intro ρ j; simp [L2.wipe]
  | cons w ws ih =>
    intro ρ j
    show ((L2.wipe ρ ws).set w none)[j]? = _
    by_cases h : w = j
    · subst h
      rw [List.getElem?_set]
      simp only [if_true, List.mem_cons, true_or, L2.wipe_length]
      by_cases hl : w < ρ.length
      · simp [hl]
      · simp [hl]
    · rw [List.getElem?_set_ne h, ih]
      have h' : ¬ j = w := fun z => h z.symm
      simp [h']
theorem wipe_set {σ : L2.St} {i : Nat} {x : Option V} {vs : List Nat} (hi : i ∈ vs) : L2.wipe (σ.set i x) vs = L2.wipe σ vs := by
  apply List.ext_getElem?
  intro j
  rw [wipe_get, wipe_get vs σ]
  by_cases hj : j ∈ vs
  · simp only [hj, if_true]
    by_cases h : i = j
    · subst h
      rw [List.getElem?_set]
      simp only [if_true]
      by_cases hl : i < σ.length
      · simp [hl]
      · simp [hl]
    · rw [List.getElem?_set_ne h]
  · have h : i ≠ j := fun z => hj (z ▸ hi)
    rw [if_neg hj, if_neg hj, List.getElem?_set_ne h]
theorem wipe_wipe {σ : L2.St} {vs : List Nat} : L2.wipe (L2.wipe σ vs) vs = L2.wipe σ vs := by
  apply List.ext_getElem?
  intro j
  rw [wipe_get, wipe_get]
  by_cases hj : j ∈ vs
  · simp only [hj, if_true]
    cases σ[j]? <;> rfl
  · rw [if_neg hj]
theorem gw_name {i : Nat} {vs : List Nat} (hi : i ∈ vs) : GW (gName i) vs := fun v σ H Q h =>
  have e : L2.wipe ((L2.wipe σ vs).set i (some v)) vs = L2.wipe σ vs := (wipe_set hi).trans wipe_wipe
  ⟨e, h e⟩
def GWs (t : TGs) (vs : List Nat) : Prop := ∀ (xs : List V) (σ σ' : L2.St) (H : Hp) (Q : L2.St → Hp → Prop), L2.wipe σ' vs = L2.wipe σ vs → (t xs σ' H fun σ3 H3 => L2.wipe σ3 vs = L2.wipe σ vs → Q σ3 H3) → t xs σ' H fun σ3 H3 => L2.wipe σ3 vs = L2.wipe σ vs ∧ Q σ3 H3
theorem gw_nil {vs : List Nat} : GWs gNil vs := fun xs σ σ' H Q e h => ⟨h.1, e, h.2 e⟩
theorem gw_cons {i : Nat} {vs : List Nat} {t : TGs} (hi : i ∈ vs) (ht : GWs t vs) : GWs (gCons (gName i) t) vs := fun xs σ σ' H Q e ⟨v, r, ev, h⟩ => ⟨v, r, ev, ht r σ _ H Q ((wipe_set hi).trans e) h⟩
theorem gw_tup {K : PySem.W.Frag} {n : Nat} {vs : List Nat} {t : TGs} (ht : GWs t vs) : GW (gTup K n t) vs := fun v σ H Q ⟨a, xs, e1, h1, h2, h⟩ => ⟨a, xs, e1, h1, h2, ht xs σ _ H Q wipe_wipe h⟩
/-- the reading of a comprehension -/
theorem lc_run {wi : TI} {tg : TG} {tt : TT} {te : TE} {mi : MI} {gt : MGt} {mt : MT} {me : ME} {vs : List Nat} (hi : ∀ σ H R, tiOf T P Wx mi σ H R → wi σ H R) (hg : ∀ v σ H Q, tgtOf T P gt v σ H Q → tg v σ H Q) (ht : ∀ σ H Q, ttOf T P Wx0 mt σ H Q → tt σ H Q) (he : ∀ σ H Q, teOf T P Wx0 me σ H Q → te σ H Q)
    (hgw : GW tg vs) (hp : ∀ i ∈ vs, pinned P i = false) (σ : L2.St) (H : Hp) (Q : VK) (h : teOf T P Wx (eComp mi gt mt me vs) σ H Q) : tLc wi tg tt te vs σ H Q := by
  obtain ⟨c, env, st, hH, hE, hR⟩ := h
  refine hi σ H _ ((tg_bind hH hE hR).mono fun J H1 ⟨p, c1, st1, l1, hH1, hE1, r1, hR1⟩ D hD => ?_)
  exact comp_run r1 hg ht he hp hgw (Le.refl c1) hH1 hE1 hD hR1
theorem pem_comp {elt tg iter : Expr} {ifs : List Expr} {scope : Scope} {own : List (Str × Nat)} {tgr : TG} {mi : MI} {gt : MGt} {mt : MT} {me : ME} (hc : X.calm = true) (hN : X.N.Nodup) (hi : PIm X T P Wx tg iter mi) (ok : BlkOk X.N X.env.scope scope own)
    (hg : ∀ (s : Shared) (H : Hp) (C : Addr) (cl : List (Str × Addr)) (fp : List Addr), PG (X.blk s H scope (compEnvC scope cl C X.env) fp) tg tgr) (hgr : ∀ v σ H Q, tgtOf T P gt v σ H Q → tgr v σ H Q) (hgw : GW tgr (own.map (·.2)))
    (ht : ∀ (s : Shared) (H : Hp) (C : Addr) (cl : List (Str × Addr)) (fp : List Addr), PTs (X.blk s H scope (compEnvC scope cl C X.env) fp) ifs (ttOf T P Wx0 mt))
    (he : ∀ (s : Shared) (H : Hp) (C : Addr) (cl : List (Str × Addr)) (fp : List Addr), PEm (X.blk s H scope (compEnvC scope cl C X.env) fp) T P Wx0 elt me) (hp : ∀ i ∈ own.map (·.2), pinned P i = false := by intro i _; rfl) (hs : ∀ x, foldedSetIterable iter X.env x = pure x := by intro _; rfl) :
    PEm X T P Wx (.ListComp elt [⟨tg, iter, ifs, 0⟩] scope pos) (eComp mi gt mt me (own.map (·.2))) :=
  PE.imp (pe_lc hc hN hi ok hg ht he hs) (lc_run (fun _ _ _ h => h) hgr (fun _ _ _ h => h) (fun _ _ _ h => h) hgw hp)
/-- name = [..] on one line: with the answer as it is (f id) or standing still (f scoped) -/
theorem psm_setLc {i : Nat} {y : Str} {py spos : Pos} {elt tg iter : Expr} {ifs : List Expr} {scope : Scope} {own : List (Str × Nat)} {tgr : TG} {mi : MI} {gt : MGt} {mt : MT} {me : ME} {m' : ME} (hm : ∀ σ H Q, teOf T P Wx m' σ H Q → teOf T P Wx (eComp mi gt mt me (own.map (·.2))) σ H Q)
    (hc : X.calm = true) (hN : X.N.Nodup) (hy : X.N[i]? = some y) (hyl : X.env.scope.names.lookup y = some .local)
    (hsw : swapsWith (.ListComp elt [⟨tg, iter, ifs, 0⟩] scope pos) (some (.Name y py)) spos.line X.env = pure true) (hi : PIm X T P Wx tg iter mi) (ok : BlkOk X.N X.env.scope scope own)
    (hg : ∀ (s : Shared) (H : Hp) (C : Addr) (cl : List (Str × Addr)) (fp : List Addr), PG (X.blk s H scope (compEnvC scope cl C X.env) fp) tg tgr) (hgr : ∀ v σ H Q, tgtOf T P gt v σ H Q → tgr v σ H Q) (hgw : GW tgr (own.map (·.2)))
    (ht : ∀ (s : Shared) (H : Hp) (C : Addr) (cl : List (Str × Addr)) (fp : List Addr), PTs (X.blk s H scope (compEnvC scope cl C X.env) fp) ifs (ttOf T P Wx0 mt))
    (he : ∀ (s : Shared) (H : Hp) (C : Addr) (cl : List (Str × Addr)) (fp : List Addr), PEm (X.blk s H scope (compEnvC scope cl C X.env) fp) T P Wx0 elt me) (hp : ∀ i ∈ own.map (·.2), pinned P i = false := by intro i _; rfl) (hpi : pinned P i = false := by rfl) (hs : ∀ x, foldedSetIterable iter X.env x = pure x := by intro _; rfl) :
    PSm X T P Wx (.Assign [.Name y py] (.ListComp elt [⟨tg, iter, ifs, 0⟩] scope pos) spos) (sAsg m' (gN i)) :=
  PS.imp (ps_setLc hc hN hy hyl hsw hi ok hg ht he hs) fun D σ H h => lc_run (fun _ _ _ h => h) hgr (fun _ _ _ h => h) (fun _ _ _ h => h) hgw hp σ H _ (hm σ H _ (asg_run (tg := gName i) (fun v σ H Q ⟨c, env, st, u, env', hH, hE, r, q, k⟩ => by
    cases q
    exact k _ (hE.set r i hpi)) D σ H h))
theorem scope_hm {m : ME} (σ : L2.St) (H : Hp) (Q : VK) (h : teOf T P Wx (eScope m) σ H Q) : teOf T P Wx m σ H Q := by
  obtain ⟨c, env, st, hH, hE, hR⟩ := h
  exact ⟨c, env, st, hH, hE, scope_res hH hR⟩
theorem ptsm_nil {σ : Unit} : PTs X [] (ttOf T P Wx0 tYes) := ⟨fun pins s σ H Q I h => by
  obtain ⟨c, env, st, hH, hE, hR⟩ := h
  exact pts_nil.run pins s σ H Q I (show L2.tYes σ H Q from ResG.ret (u := true) hR hH rfl)⟩
theorem ptsm_one {c : Expr} {mt : MT} (h : PTm X T P Wx0 c mt) : PTs X [c] (ttOf T P Wx0 mt) := pts_one h
end
end NK

set_option Elab.async false
set_option linter.all false
set_option maxRecDepth 100000
set_option maxHeartbeats 2000000
/-! NK7: methods of lists, stores, fields, defs and their calls, instances. -/
namespace NK
open PySem L2

/-! ### xs.append(e) -/
def fApp : U → List U → Sto → Out U := fun u ws st => match u with
  | .loc i => match ws, st[i]? with
    | [w], some (.lst us) => if us.length < 16777216 then .ok .non (st.set i (.lst (us ++ [w]))) else .bad
    | _, _ => .bad
  | _ => .bad
def isLoc : U → Sto → Bool := fun u st => match u with
  | .loc i => match st[i]? with
    | some (.lst _) => true
    | _ => false
  | _ => false
/-- o.m(..), o a list of the store -/
def eBM (f : U → List U → Sto → Out U) (mo : ME) (ma : MA) : ME := fun env st => (mo env st).bind fun x st1 => if isLoc x st1 = true then (ma env st1).bind fun ws st2 => f x ws st2 else .bad
def MtSim (T : Tb) (r : V → List V → Hp → VK → Prop) (f : U → List U → Sto → Out U) : Prop :=
  ∀ (Wx : WX) (c : Cn) (σ : L2.St) (st : Sto) (H : Hp) (u : U) (x : V) (us : List U) (xs : List V) (Q : VK), RH T c st H → Rp T c u x → RpL T c us xs → ResG T Wx c σ (Rp T) (f u us st) Q → r x xs H Q
section
variable {X : Cx} {T : Tb} {P : Pin} {Wx : WX} {o e : Expr} {es : List Expr} {mo m mi : ME} {ma : MA} {apos cpos pos : Pos}
theorem sim_app : MtSim T rAppend fApp := fun Wx c σ st H u x us xs Q hH ru r hR => by
  cases u with
  | loc i =>
    obtain ⟨hi, rfl⟩ := ru.inv_loc
    dsimp only [fApp] at hR
    split at hR
    · rename_i w us' es'
      obtain ⟨v, vs, rfl, r1, t⟩ := r.inv_cons
      cases t.inv_nil
      obtain ⟨ws, h1, r2⟩ := hH.at_lst es'
      split at hR
      · rename_i hz
        refine ⟨c.ρ i, ws, v, rfl, rfl, h1, by rw [szl, ← r2.length]; exact hz, ?_⟩
        exact hR c _ _ (Le.refl c) (hH.set es' (fun z => nomatch z) ⟨_, rfl, r2.append (.one r1)⟩) .non
      · exact hR.elim
    · exact hR.elim
  | _ => exact hR.elim
theorem pem_bm {r : V → List V → Hp → VK → Prop} {f : U → List U → Sto → Out U} (hs : MtSim T r f) (h : PE X e (tBM X.K "list" r (teOf T P Wx mo) (taOf T P Wx ma))) : PEm X T P Wx e (eBM f mo ma) :=
  PE.imp h fun σ H Q ⟨c, env, st, hH, hE, hR⟩ => by
    refine (tg_bind hH hE hR).mono fun x H1 ⟨u, c1, st1, l1, hH1, hE1, r1, hR1⟩ => ?_
    split at hR1
    · rename_i hl
      cases u with
      | loc i =>
        obtain ⟨hi, rfl⟩ := r1.inv_loc
        refine ⟨?_, ?_⟩
        · dsimp only [isLoc] at hl
          split at hl
          · rename_i us es'
            obtain ⟨vs, h1, _⟩ := hH1.at_lst es'
            exact .inl ⟨rfl, vs, SqL.of h1⟩
          · cases hl
        · refine (tg_bind hH1 hE1 hR1).mono fun ws H2 ⟨us, c2, st2, l2, hH2, hE2, r2, hR2⟩ => ?_
          exact hs Wx c2 σ st2 H2 (.loc i) _ us ws Q hH2 (r1.mono l2) r2 hR2
      | _ => cases hl
    · exact hR1.elim

/-! ### o[i] = e -/
def setIx (o i w : U) (st : Sto) : Option Sto := match o, i with
  | .loc n, .int k => match st[n]? with
    | some (.lst us) => match ixN us.length k with
      | some j => some (st.set n (.lst (us.set j w)))
      | none => none
    | _ => none
  | _, _ => none
def sSetIx (mo mi m : ME) : MS := fun env st => (m env st).st env fun w st1 => (mo env st1).st env fun o st2 => (mi env st2).st env fun i st3 => match setIx o i w st3 with
  | some st4 => .next env st4
  | none => .bad
theorem psm_setIx {s : Stmt} (h : PS X s (tAsg (teOf T P Wx m) (gSub (teOf T P Wx mo) (teOf T P Wx mi) rSetL))) : PSm X T P Wx s (sSetIx mo mi m) :=
  PS.imp h fun D σ H ⟨c, env, st, hH, hE, hR⟩ => by
    refine (ts_bind hH hE hR).mono fun x H1 ⟨w, c1, st1, l1, hH1, hE1, r1, hR1⟩ => ?_
    refine (ts_bind hH1 hE1 hR1).mono fun y H2 ⟨o, c2, st2, l2, hH2, hE2, r2, hR2⟩ => ?_
    refine (ts_bind hH2 hE2 hR2).mono fun z H3 ⟨i, c3, st3, l3, hH3, hE3, r3, hR3⟩ => ?_
    split at hR3
    · rename_i st4 q
      unfold setIx at q
      split at q
      · rename_i n k
        obtain ⟨hi, rfl⟩ := (r2.mono l3).inv_loc
        cases r3.inv_int
        split at q
        · rename_i us es'
          split at q
          · rename_i j ej
            cases q
            obtain ⟨vs, h1, r4⟩ := hH3.at_lst es'
            refine ⟨_, vs, _, j, rfl, rfl, h1, by rw [← r4.length]; exact ej, ?_⟩
            exact ResS.go (D := D) hR3 (hH3.set es' (fun z => nomatch z) ⟨_, rfl, r4.set j ((r1.mono l2).mono l3)⟩) hE3
          · cases q
        · cases q
      · cases q
    · exact hR3.elim

/-! ### fields -/
/-- what a class of the text must have for its field at place j -/
structure FldOk (T : Tb) (k j : Nat) (f : Str) : Prop where
  cl : Cls T.K (T.cls k)
  na : NoAttr T.K (T.cls k) f
  nm : (T.fld k)[j]? = some f
  nd : (T.fld k).Nodup
  sz : (T.fld k).length ≤ 900
theorem zip_lookup : ∀ {ns : List Str} {vs : List V} {j : Nat} {f : Str} {v : V}, ns.Nodup → ns[j]? = some f → vs[j]? = some v → (ns.zip vs).lookup f = some v
  | [], _, _, _, _, _, h, _ => by simp at h
  | _ :: _, [], _, _, _, _, _, h => by simp at h
  | n :: ns, w :: vs, 0, f, v, nd, h1, h2 => by
    simp at h1 h2
    subst h1 h2
    simp [List.lookup]
  | n :: ns, w :: vs, j + 1, f, v, nd, h1, h2 => by
    have nd' := List.nodup_cons.mp nd
    have h1' : ns[j]? = some f := by simpa using h1
    have ne : (f == n) = false := by
      rw [beq_eq_false_iff_ne]
      rintro rfl
      exact nd'.1 (List.mem_of_getElem? h1')
    simp only [List.zip_cons_cons, List.lookup, ne]
    exact zip_lookup nd'.2 h1' (by simpa using h2)
theorem zip_put : ∀ {ns : List Str} {vs : List V} {j : Nat} {f : Str} {y : V}, ns.Nodup → ns[j]? = some f → j < vs.length → putF f y (ns.zip vs) = ns.zip (vs.set j y)
  | [], _, _, _, _, _, h, _ => by simp at h
  | _ :: _, [], _, _, _, _, _, h => by simp at h
  | n :: ns, w :: vs, 0, f, y, nd, h1, h2 => by
    simp at h1
    subst h1
    simp [putF]
  | n :: ns, w :: vs, j + 1, f, y, nd, h1, h2 => by
    have nd' := List.nodup_cons.mp nd
    have h1' : ns[j]? = some f := by simpa using h1
    have ne : ¬ n = f := by
      rintro rfl
      exact nd'.1 (List.mem_of_getElem? h1')
    simp only [List.zip_cons_cons, List.set_cons_succ, putF, if_neg ne]
    rw [zip_put nd'.2 h1' (by simpa using h2)]
theorem zip_new : ∀ {ns : List Str} {vs : List V} {f : Str} {y : V}, ns.Nodup → ns[vs.length]? = some f → putF f y (ns.zip vs) = ns.zip (vs ++ [y])
  | [], vs, _, _, _, h => by simp at h
  | n :: ns, [], f, y, nd, h1 => by
    simp at h1
    subst h1
    simp [putF]
  | n :: ns, w :: vs, f, y, nd, h1 => by
    have nd' := List.nodup_cons.mp nd
    have h1' : ns[vs.length]? = some f := by simpa using h1
    have ne : ¬ n = f := by
      rintro rfl
      exact nd'.1 (List.mem_of_getElem? h1')
    simp only [List.zip_cons_cons, List.cons_append, putF, if_neg ne]
    rw [zip_new nd'.2 h1']
/-- an instance, still in the store or not -/
def asIns (u : U) (st : Sto) : Option (Nat × List U) := match u with
  | .ins k us => some (k, us)
  | .loc i => match st[i]? with
    | some (.ins k us) => some (k, us)
    | _ => none
  | _ => none
theorem asIns_at {c : Cn} {st : Sto} {H : Hp} (h : RH T c st H) {u : U} {v : V} {k : Nat} {us : List U} (r : Rp T c u v) (e : asIns u st = some (k, us)) : ∃ a dx vs, v = .ref a ∧ H a = some (.ins (T.cls k) dx ((T.fld k).zip vs)) ∧ vs.length ≤ (T.fld k).length ∧ RpL T c us vs := by
  cases u with
  | ins k' xs =>
    obtain ⟨a, dx, vs, rfl, h1, h2, h3⟩ := r.inv_ins
    cases e
    exact ⟨a, dx, vs, rfl, h.sub _ _ h1, h2, h3⟩
  | loc i =>
    obtain ⟨_, rfl⟩ := r.inv_loc
    dsimp only [asIns] at e
    split at e
    · rename_i k' us' q
      cases e
      obtain ⟨dx, vs, h1, h2, h3⟩ := h.at_ins q
      exact ⟨_, dx, vs, rfl, h1, h2, h3⟩
    · cases e
  | _ => cases e
def getF (k j : Nat) (u : U) (st : Sto) : Option U := match asIns u st with
  | some (k', us) => if k' = k then us[j]? else none
  | none => none
def eFld (k j : Nat) (m : ME) : ME := fun env st => (m env st).bind fun u st1 => match getF k j u st1 with
  | some w => .ok w st1
  | none => .bad
theorem pem_fld {f : Str} {k j : Nat} (hK : X.K = T.K) (F : FldOk T k j f) (h : PE X e (tFld X.K (teOf T P Wx m) f)) : PEm X T P Wx e (eFld k j m) := PE.imp h fun σ H Q ⟨c, env, st, hH, hE, hR⟩ => by
  refine (tg_bind hH hE hR).mono fun x H1 ⟨u, c1, st1, l1, hH1, hE1, r1, hR1⟩ => ?_
  split at hR1
  · rename_i w q
    unfold getF at q
    split at q
    · rename_i k' us e1
      split at q
      · rename_i ek
        subst ek
        obtain ⟨a, dx, vs, rfl, h1, h2, h3⟩ := asIns_at hH1 r1 e1
        obtain ⟨v, hv, rv⟩ := h3.get q
        rw [hK]
        exact ⟨a, _, dx, _, v, rfl, h1, F.cl, F.na, zip_lookup F.nd F.nm hv, hR1.ret hH1 rv⟩
      · cases q
    · cases q
  · exact hR1.elim
/-- o.f = e -/
def putFld (k j : Nat) (o w : U) (st : Sto) : Option Sto := match o with
  | .loc i => match st[i]? with
    | some (.ins k' us) => if k' = k then (if j < us.length then some (st.set i (.ins k (us.set j w))) else if j = us.length then some (st.set i (.ins k (us ++ [w]))) else none) else none
    | _ => none
  | _ => none
def sFld (k j : Nat) (mo m : ME) : MS := fun env st => (m env st).st env fun w st1 => (mo env st1).st env fun o st2 => match putFld k j o w st2 with
  | some st3 => .next env st3
  | none => .bad
theorem psm_fld {s : Stmt} {f : Str} {k j : Nat} (hK : X.K = T.K) (F : FldOk T k j f) (h : PS X s (L2.sFld X.K (teOf T P Wx mo) (teOf T P Wx m) f)) : PSm X T P Wx s (NK.sFld k j mo m) := PS.imp h fun D σ H ⟨c, env, st, hH, hE, hR⟩ => by
  refine (ts_bind hH hE hR).mono fun x H1 ⟨w, c1, st1, l1, hH1, hE1, r1, hR1⟩ => ?_
  refine (ts_bind hH1 hE1 hR1).mono fun y H2 ⟨o, c2, st2, l2, hH2, hE2, r2, hR2⟩ => ?_
  split at hR2
  · rename_i st3 q
    unfold putFld at q
    split at q
    · rename_i i
      obtain ⟨hi, rfl⟩ := r2.inv_loc
      split at q
      · rename_i k' us es'
        split at q
        · rename_i ek
          subst ek
          obtain ⟨dx, vs, h1, h2, h3⟩ := hH2.at_ins es'
          have hl : ((T.fld k').zip vs).length < 1000 := by
            have := F.sz
            rw [List.length_zip]
            omega
          have hj : j < (T.fld k').length := (List.getElem?_eq_some_iff.mp F.nm).1
          rw [hK]
          refine ⟨c2.ρ i, _, dx, _, rfl, h1, F.cl, F.na, hl, ?_⟩
          split at q
          · rename_i hlt
            cases q
            rw [zip_put F.nd F.nm (by rw [← h3.length]; exact hlt)]
            exact ResS.go (D := D) hR2 (hH2.set es' (fun z => nomatch z) ⟨dx, _, rfl, by rw [List.length_set]; exact h2, h3.set j (r1.mono l2)⟩) hE2
          · split at q
            · rename_i _ hje
              cases q
              rw [zip_new F.nd (by rw [← h3.length, ← hje]; exact F.nm)]
              exact ResS.go (D := D) hR2 (hH2.set es' (fun z => nomatch z) ⟨dx, _, rfl, by rw [List.length_append, List.length_singleton, ← h3.length, ← hje]; exact hj, h3.append (.one (r1.mono l2))⟩) hE2
            · cases q
        · cases q
      · cases q
    · cases q
  · exact hR2.elim

/-! ### defs and their calls -/
abbrev MF := List U → Sto → Out U
/-- what a mirrored def promises -/
def spOf (T : Tb) (n : Nat) (mf : MF) : Sp := fun vs H Q E => vs.length = n ∧ ∃ c us st, RH T c st H ∧ RpL T c us vs ∧ ResG T (fun cls d _ H => E cls d H) c [] (Rp T) (mf us st) Q
def runF (n : Nat) (mb : MS) : MF := fun us st => match mb (us.map some ++ List.replicate (n - us.length) none) st with
  | .ret u st' => .ok u st'
  | .next _ st' => .ok .non st'
  | .exc x _ st' => .exc x st'
  | _ => .bad
open PyProof.Rows (envOfC) in
theorem start_RE {c : Cn} {us : List U} {vs : List V} {N : List Str} (r : RpL T c us vs) : RE T none c (us.map some ++ List.replicate (N.length - us.length) none) (L2.start N vs) := by
  unfold L2.start
  refine ⟨by simp [r.length], fun i u h => ?_, fun p e => by cases e⟩
  by_cases hi : i < us.length
  · rw [List.getElem?_append_left (by simpa using hi), List.getElem?_map] at h
    cases q : us[i]? with
    | none => rw [q] at h; cases h
    | some w =>
      rw [q] at h
      cases h
      obtain ⟨v, hv, rv⟩ := r.get q
      exact ⟨v, by rw [List.getElem?_append_left (by rw [List.length_map, ← r.length]; exact hi), List.getElem?_map, hv]; rfl, rv⟩
  · rw [List.getElem?_append_right (by simpa using hi), List.getElem?_replicate] at h
    split at h <;> cases h
open PyProof.Rows (envOfC) in
theorem fun_okm {Pg : Program} {w : World} {K : PySem.W.Frag} {mg : Str → Option Value} {base : Heap} {x qual : Str} {st : Stmt} {f : Addr} {fd : FuncData} {N ps : List Str} {k : Nat} {mb : MS} (F : Fun K x qual st f fd) (S : FnScope N ps (defScope st))
    (hb : ∀ (cdv : Value) (A : Around) (outer : List PySem.Env) (s : Shared) (H : Hp) (E : XK), Room k (A.deeper (envOfC qual (defScope st) s.heap.objs.size f cdv)) →
      PSsm (cxOf (L2.CX Pg w) Pg w K mg base N qual (defScope st) f cdv A outer s H E) T none (fun cls d _ H => E cls d H) (defBody st) mb) : FnOk Pg w K mg base (L2.CX Pg w) (k + 1) f fd ps (spOf T ps.length (runF N.length mb)) := by
  refine F.okX S (fun vs H Q E h => h.1) (fun cdv A outer s H vs Q E hr h => ⟨_, hb cdv A outer s H E hr, ?_⟩)
  obtain ⟨hl, c, us, st0, hH, r, hR⟩ := h
  refine ⟨c, _, st0, hH, start_RE r, ?_⟩
  unfold runF at hR
  cases q : mb (us.map some ++ List.replicate (N.length - us.length) none) st0 with
  | ret u st' => rw [q] at hR; exact fun c' v H' a b d => hR c' v H' a b d
  | next env st' => rw [q] at hR; exact fun c' σ' H' a b d => hR c' .non H' a b .non
  | exc x' env st' => rw [q] at hR; exact fun c' cls d σ' H' a b _ e => hR c' cls d H' a b e
  | brk env st' => rw [q] at hR; exact hR.elim
  | cont env st' => rw [q] at hR; exact hR.elim
  | bad => rw [q] at hR; exact hR.elim
/-- the answer stands still, what the def laid is forgotten -/
noncomputable def fScope (mf : MF) : MF := fun us st => scopeOut st (mf us st)
theorem spOf_scope {n : Nat} {mf : MF} (vs : List V) (H : Hp) (Q : VK) (E : XK) (h : spOf T n (fScope mf) vs H Q E) : spOf T n mf vs H Q E := by
  obtain ⟨hl, c, us, st0, hH, r, hR⟩ := h
  exact ⟨hl, c, us, st0, hH, r, scope_res hH hR⟩
/-- another mirror of the same def -/
theorem spOf_eq {n : Nat} {mf mf' : MF} (h : ∀ us st, mf' us st = .bad ∨ mf' us st = mf us st) (vs : List V) (H : Hp) (Q : VK) (E : XK) (g : spOf T n mf' vs H Q E) : spOf T n mf vs H Q E := by
  obtain ⟨hl, c, us, st0, hH, r, hR⟩ := g
  refine ⟨hl, c, us, st0, hH, r, ?_⟩
  rcases h us st0 with q | q
  · rw [q] at hR; exact hR.elim
  · rw [q] at hR; exact hR
/-- f(e, ..) with the defaults dus behind -/
def eCall (n : Nat) (mf : MF) (dus : List U) (ma : MA) : ME := fun env st => (ma env st).bind fun us st1 => if (us ++ dus).length = n then mf (us ++ dus) st1 else .bad
theorem ResG.wish {α β : Type} {R : Cn → α → β → Prop} {c : Cn} {σ σ' : L2.St} {r : Out α} {Q : β → Hp → Prop} {W W' : WX} (h : ResG T W c σ R r Q) (k : ∀ cls d H, W cls d σ H → W' cls d σ' H) : ResG T W' c σ' R r Q := by
  cases r with
  | ok u st => exact h
  | exc x st => exact fun c' cls d H' a b e => k _ _ _ (h c' cls d H' a b e)
  | bad => exact h
theorem pem_call {k n : Nat} {f : Addr} {fd : FuncData} {ps : List Str} {mf : MF} {dus : List U} {dvs : List V} {ds : List Value} {x : Str} {p : Pos} (tk : Takes X Wx) (F : FnOk X.prog X.w X.K X.mg X.base (L2.CX X.prog X.w) k f fd ps (spOf T n mf)) (hr : Room k X.A) (hg : Gl X x) (hm : X.mg x = some (.ref f)) (hk : PySem.W.keepIn X.K (.ref f) = true) (hb : Binds X.K fd ps ds) (hd : Vals dvs ds)
    (hdr : ∀ c, RpL T c dus dvs) (hn : ps.length = n) (ha : PAm X T P Wx (e :: es) ma) (hdb : (x == ("__debug__" : Str)) = false := by decide) (he : starEach (e :: es) X.env = (false, eval e X.env) :: starEach es X.env := by rfl) (hpl : (backTo pos (starEach es X.env)).any (·.1) = false := by rfl) :
    PEm X T P Wx (.Call (.Name x p) (e :: es) [] pos) (eCall n mf dus ma) :=
  PE.imp (pe_callSD (E := fun σ cls d H => Wx cls d σ H) F hr hg hm hk hb hd (fun σ => passAt tk σ) ha hdb he hpl) fun σ H Q ⟨c, env, st, hH, hE, hR⟩ => by
    refine (tg_bind hH hE hR).mono fun vs H1 ⟨us, c1, st1, l1, hH1, hE1, r1, hR1⟩ => ?_
    split at hR1
    · rename_i hl
      have r2 := r1.append (hdr c1)
      exact ⟨by rw [← r2.length]; exact hl, c1, _, st1, hH1, r2, hR1.wish fun cls d H h => h⟩
    · exact hR1.elim
end
end NK

set_option Elab.async false
set_option linter.all false
set_option maxRecDepth 100000
set_option maxHeartbeats 2000000
/-! NK8: an own exception whose __init__ says super().__init__(..) and then stores its parameters. -/
namespace NK
open PySem L2

/-- ValueError.__init__ bound to an exception, called -/
theorem call_mw {P : Program} {w : World} {A : Around} {E : Value → Shared → Prop} {h : Heap} {g : Array GenState} {d : Drawn} {tk : Nat} {os : OsState} {x C t u N' : Addr} {nm qn : Str} {bs bm : List Value} {hdct : Bool} {sn : List Str} {sub : List Value} {ab : Bool} {col : Option Bool}
    {dd : Option Addr} {k0 k1 k2 k3 k5 : Option Value} {rest : List Value} {Q : Value → Shared → Prop} (hC : h.get? C = some (excClassObj nm qn C N' bs bm hdct sn sub ab col dd k0 k1 k2 k3 k5 "ValueError.__new__"))
    (hu : h.get? u = some (PySem.W.kxs_mw "ValueError.__init__" x)) (he : h.get? x = some (PySem.W.excObj C t none .none)) (hz : rest.length ≤ sizeLine)
    (fin : ∀ h' t', (∀ b o, b ≠ x → h.get? b = some o → h'.get? b = some o) → h'.get? x = some (PySem.W.excObj C t' none .none) → Q .none ⟨h', g, d, tk, os⟩) :
    wpAny (model P w) A (call (.ref u) rest) Q E ⟨h, g, d, tk, os⟩ := by
  refine wpAny_call (codeAny_of_tree ?_)
  show wpAny _ A.in1 (callAny (.ref u) ⟨rest, []⟩) _ _ _
  simp only [callAny]
  refine wpAny_bind (wpAny_load hu ?_)
  simp only [PySem.W.kxs_mw, show (Value.type "method-wrapper" == Value.type "method" || Value.type "method-wrapper" == Value.type "builtin_function_or_method" || Value.type "method-wrapper" == Value.type "method-wrapper") = true by decide, if_true]
  refine PySem.W.KFB.if_so (by decide) ?_
  refine wpAny_bind (PySem.W.check_bound_init F.excBase_ValueError.toExcCallFacts hC he rfl ?_)
  refine wpAny_bind (wpAny_pure (wpAny_pure ?_))
  refine ⟨plainId_quiet F.excBase_ValueError.init.plain _, codeAny_builtin F.excBase_ValueError.initEntry ?_⟩
  exact PySem.W.exc_init_tree (cls := .ref C) (t0 := t) (dv := none) (c2 := .none) (c3 := .none) (b4 := .bool false) he hz fun h' k e' _ => fin h' _ k e'

/-- the context of such an __init__'s body -/
def icx (P : Program) (w : World) (K : PySem.W.Frag) (mg : Str → Option Value) (base : Heap) (N : List Str) (qual : Str) (scope : Scope) (f : Addr) (cd : Value) (cc : Addr) (A : Around) (outer : List PySem.Env) (s : Shared) (H : Hp) (E : XK) : Cx where
  prog := P
  w := w
  K := K
  mg := mg
  base := base
  A := A.deeper (PySem.W.ksEnv qual scope s.heap.objs.size f cd cc)
  N := N
  s_0 := s
  H_0 := H
  env := PySem.W.ksEnv qual scope s.heap.objs.size f cd cc
  outer := outer
  stack := PySem.W.ksEnv qual scope s.heap.objs.size f cd cc :: outer
  ex := []
  calm := true
  fn := fun _ => false
  pn := []
  xe := fun e s' => wpAny (model P w) (A.deeper (PySem.W.ksEnv qual scope s.heap.objs.size f cd cc)) (leaving (PySem.W.ksEnv qual scope s.heap.objs.size f cd cc) e) (fun _ s'' => L2.CX P w outer H s E e s'') (fun e' s'' => L2.CX P w outer H s E e' s'') s'

/-- what the text must say of such an __init__ -/
structure Sup (P : Program) (K : PySem.W.Frag) (mg : Str → Option Value) (N ps : List Str) (sc : Scope) (C cda cc : Addr) : Prop where
  kind : sc.kind = .function
  co : sc.isCoroutine = false
  gen : sc.isGenerator = false
  nd : N.Nodup
  pre : N.take ps.length = ps
  par : ∀ x ∈ ps, sc.names.lookup x = some .local
  nocell : ∀ y ∈ sc.names, y.2 ≠ .cell
  free : ∀ y, sc.names.lookup y = some .free → y = ("__class__" : Str)
  ksup : sc.names.lookup ("super" : Str) = some .globalImplicit
  kcls : sc.names.lookup ("__class__" : Str) = some .free
  code : ∃ ccl cdd vs ccs file tf, K.lookup cda = some ⟨ccl, cdd, .fields vs, ccs⟩ ∧ vs[2]? = some (.str file tf) ∧ ((P.main.file : Str) == file) = true
  cell : ∃ cl cld csl, K.lookup cc = some ⟨cl, cld, .cell (some (.ref C)), csl⟩
  T : OexC K C
  sup : PySem.W.ks_superIn K C C "__init__" = some (some (.builtin "ValueError.__init__"))
  isV : PySem.W.subIn K (.ref C) (.type "ValueError") = some true
  self : PySem.W.mroIn K C (.ref C) = some true
  opq : PySem.W.nsIn K cStatics "thirdparty.any" = some none
  msup : mg "super" = none
  top : (P.main.scope.names.lookup ("super" : Str)).isSome = false

theorem zip_rev_lookup : ∀ {ps : List Str} {us : List Value} {i : Nat} {x : Str} {u : Value}, ps.Nodup → ps[i]? = some x → us[i]? = some u → (ps.zip us).reverse.lookup x = some u := by
  intro ps us i x u nd h1 h2
  have key : ∀ {l : List (Str × Value)} {r : List (Str × Value)}, (∀ v, (x, v) ∉ l) → (l ++ r).lookup x = r.lookup x := by
    intro l r
    induction l with
    | nil => intro _; rfl
    | cons a l ih =>
      intro h
      obtain ⟨y, v⟩ := a
      have ne : (x == y) = false := by
        rw [beq_eq_false_iff_ne]
        rintro rfl
        exact h v List.mem_cons_self
      simp only [List.cons_append, List.lookup, ne]
      exact ih fun v hv => h v (List.mem_cons_of_mem _ hv)
  induction ps generalizing us i with
  | nil => simp at h1
  | cons p ps ih =>
    cases us with
    | nil => simp at h2
    | cons w us =>
      have nd' := List.nodup_cons.mp nd
      simp only [List.zip_cons_cons, List.reverse_cons]
      cases i with
      | zero =>
        simp at h1 h2
        subst h1 h2
        rw [key fun v hv => nd'.1 (List.of_mem_zip (List.mem_reverse.mp hv)).1]
        simp [List.lookup]
      | succ i =>
        have q := ih (us := us) (i := i) nd'.2 (by simpa using h1) (by simpa using h2)
        have e : ∀ {l r : List (Str × Value)}, l.lookup x = some u → (l ++ r).lookup x = some u := by
          intro l r
          induction l with
          | nil => intro h; cases h
          | cons a l ih2 =>
            intro h
            obtain ⟨y, v⟩ := a
            simp only [List.cons_append, List.lookup] at h ⊢
            split
            · rename_i hh; rw [hh] at h; exact h
            · rename_i hh; rw [hh] at h; exact ih2 h
        exact e q

section
variable {P : Program} {w : World} {K : PySem.W.Frag} {mg : Str → Option Value} {base : Heap} {N ps : List Str} {qual : Str} {scope : Scope} {f cda cc C : Addr} {A : Around} {outer : List PySem.Env} {s : Shared} {H : Hp} {E : XK} {us : List Value} {vs : List V}
theorem inv_init {h1 : Heap} {tk : Nat} (S : Sup P K mg N ps scope C cda cc) (hd : A.handled = none) (e0 : Env0 P w K mg base A outer s H) (hl : vs.length = ps.length) (r : Vals vs us)
    (hns : h1.Ns s.heap.objs.size (fun x => (ps.zip us).reverse.lookup x)) (hk : ∀ b o, s.heap.get? b = some o → h1.get? b = some o) :
    Inv (icx P w K mg base N qual scope f (.ref cda) cc A outer s H E) [] (L2.start N vs) H { s with heap := h1, toks := tk } := by
  have hpl : ps.length ≤ N.length := by have := congrArg List.length S.pre; rw [List.length_take] at this; omega
  have noA : ∀ b : Addr, b ∉ (icx P w K mg base N qual scope f (.ref cda) cc A outer s H E).ex := fun b z => absurd (show b ∈ ([] : List Addr) from z) (by simp)
  have one : ∀ {x : Str} {c : Addr}, ([("__class__", cc)] : List (Str × Addr)).lookup x = some c → x = "__class__" ∧ c = cc := fun {x c} h => by
    simp only [List.lookup] at h
    split at h
    · rename_i hh
      exact ⟨beq_iff_eq.mp hh, (Option.some.inj h).symm⟩
    · cases h
  obtain ⟨cl, cld, csl, hcell⟩ := S.cell
  have cin : base.get? cc = some ⟨cl, cld, .cell (some (.ref C)), csl⟩ := e0.mod.kin _ _ hcell
  refine ⟨⟨e0.mod, S.kind, rfl, rfl, Nat.le_refl _, fun y z c h1 h2 => (one h1).1.trans (one h2).1.symm, fun y hy => ?_, fun y c h => (nomatch h), fun _ => hd, Around.frames_deeper e0.frames, .inr ⟨rfl, rfl⟩, fun b z => absurd z (noA b), e0.bs, e0.bsz, fun b _ _ => noA b, fun b z => absurd z (noA b), e0.funs, e0.frf⟩,
    rfl, e0.bare, Un.kept hk, ⟨_, hns, fun i y v h1 h2 h3 => ?_⟩, fun y c h => ?_, e0.hok.fresh (Nat.le_refl _), fun y c h => ?_, fun p hp => absurd (show p ∈ ([] : List (Addr × Obj)) from hp) (by simp), e0.hok.kept hk, ?_⟩
  · have hy : scope.names.lookup y = some .cell ∨ scope.names.lookup y = some .free := hy
    rcases hy with hy | hy
    · exact absurd rfl (S.nocell _ (PySem.mem_of_lookup hy))
    · rw [S.free y hy]
      exact ⟨cc, by show ([("__class__", cc)] : List (Str × Addr)).lookup ("__class__" : Str) = some cc; simp [List.lookup]⟩
  · have hi : i < vs.length := by
      unfold L2.start at h2
      by_cases hi : i < vs.length
      · exact hi
      · rw [List.getElem?_append_right (by simpa using hi)] at h2
        rw [List.getElem?_replicate] at h2
        split at h2 <;> cases h2
    have ha : vs[i]? = some v := by
      unfold L2.start at h2
      rw [List.getElem?_append_left (by simpa using hi), List.getElem?_map] at h2
      cases e : vs[i]? with
      | none => rw [e] at h2; cases h2
      | some a => rw [e] at h2; cases h2; rfl
    obtain ⟨u, hu, rv⟩ := r.get ha
    have hp : ps[i]? = some y := by
      rw [← S.pre, List.getElem?_take_of_lt (by omega)]; exact h1
    have ndP : ps.Nodup := by rw [← S.pre]; exact S.nd.sublist (List.take_sublist _ _)
    exact ⟨u, rv, .inl ⟨S.par y (List.mem_of_getElem? hp), zip_rev_lookup ndP hp hu⟩⟩
  · rw [(one h).2]
    exact ⟨_, _, hk _ _ (e0.bs _ _ cin).1, rfl⟩
  · rw [(one h).2]
    exact (e0.bs _ _ cin).2
  · unfold L2.start
    show _ = N.length
    rw [List.length_append, List.length_map, List.length_replicate]
    omega
end

/-- the exception that is being made, its fields so far -/
def IniAt (H0 : Hp) (a C : Addr) (fs : List (Str × V)) (H : Hp) : Prop :=
  (fs = [] ∧ H = upd H0 a (exo a C none)) ∨ ∃ d, H0 d = none ∧ d ≠ a ∧ H = upd (upd H0 d (exd d fs)) a (exo a C (some d))
/-- such an __init__'s promise: field j is parameter j -/
def spIni (C : Addr) (fs : List Str) : Sp := fun vs H Q _ => vs.length = fs.length + 1 ∧ ∃ a ws H0, vs = .ref a :: ws ∧ H0 a = none ∧ H = upd H0 a (exo a C none) ∧
  ∀ d, H0 d = none → d ≠ a → Q .non (upd (upd H0 d (exd d (fs.zip ws).reverse)) a (exo a C (some d)))
/-- the same, where the arguments must be so -/
def spIniG (g : List V → Prop) (C : Addr) (fs : List Str) : Sp := fun vs H Q E => g vs ∧ spIni C fs vs H Q E
/-- the stores behind super().__init__(..) -/
inductive IniSts (X : Cx) (C : Addr) : Nat → List Stmt → List Str → Prop where
  | nil {i : Nat} : IniSts X C i [] []
  | cons {i : Nat} {f : Str} {fs : List Str} {eo ev : Expr} {p' pos : Pos} {r : List Stmt} (h1 : PE X eo (tVar 0)) (h2 : PE X ev (tVar i)) (h3 : PySem.W.findIn X.K (.ref C) f = some none)
      (hs : swapsWith ev (some (.Attribute eo f p')) pos.line X.env = pure false) (h : IniSts X C (i + 1) r fs) : IniSts X C i (.Assign [.Attribute eo f p'] ev pos :: r) (f :: fs)
def tIni (K : PySem.W.Frag) (C : Addr) (i : Nat) (fs : List Str) : TS := fun D σ H => ∃ a H0 done ws, σ[0]? = some (some (.ref a)) ∧ OexC K C ∧ H0 a = none ∧ IniAt H0 a C done H ∧ done.length + fs.length ≤ 900 ∧ ws.length = fs.length ∧
  (∀ j v, ws[j]? = some v → σ[i + j]? = some (some v)) ∧ ∀ H', IniAt H0 a C ((fs.zip ws).reverse ++ done) H' → D.nx σ H'
theorem ini_sts {X : Cx} {C : Addr} {i : Nat} {sts : List Stmt} {fs : List Str} (h : IniSts X C i sts fs) : PSs X sts (tIni X.K C i fs) := by
  induction h with
  | nil =>
    refine PSs.imp pss_nil fun D σ H ⟨a, H0, done, ws, _, _, _, h4, _, h6, _, h8⟩ => ?_
    exact h8 H (by simpa using h4)
  | @cons i f fs eo ev p' pos r h1 h2 h3 hs h ih =>
    refine PSs.imp (pss_cons (ps_ost h1 h2 hs) ih) fun D σ H ⟨a, H0, done, ws, q1, q2, q3, q4, q5, q6, q7, q8⟩ => ?_
    obtain ⟨v, ws', rfl⟩ : ∃ v ws', ws = v :: ws' := by
      cases ws with
      | nil => simp at q6
      | cons v ws' => exact ⟨v, ws', rfl⟩
    have qv := q7 0 v rfl
    refine ⟨v, by simpa using qv, .ref a, q1, a, C, rfl, q2, h3, ?_⟩
    have more : ∀ H', IniAt H0 a C ((f, v) :: done) H' → tIni X.K C (i + 1) fs D σ H' := fun H' k => by
      refine ⟨a, H0, _, ws', q1, q2, q3, k, by simp at q5 ⊢; omega, by simpa using q6, fun j u e => ?_, fun H2 k2 => q8 H2 ?_⟩
      · have := q7 (j + 1) u (by simpa using e)
        rw [← this]
        congr 1
        omega
      · simpa [List.append_assoc] using k2
    rcases q4 with ⟨rfl, rfl⟩ | ⟨d, n1, n2, rfl⟩
    · refine .inl ⟨upd_same, fun dx nd ne => more _ (.inr ⟨dx, ?_, ne, ?_⟩)⟩
      · rwa [upd_ne ne] at nd
      · funext b
        by_cases hb : b = a
        · rw [hb, upd_same, upd_same]
        · rw [upd_ne hb, upd_ne hb]
          by_cases hd : b = dx
          · rw [hd, upd_same, upd_same]
          · rw [upd_ne hd, upd_ne hd, upd_ne hb]
    · refine .inr ⟨d, done, upd_same, by rw [upd_ne n2, upd_same], by simp at q5; omega, more _ (.inr ⟨d, n1, n2, ?_⟩)⟩
      funext b
      by_cases hd : b = d
      · rw [hd, upd_same, upd_ne n2, upd_same]
      · rw [upd_ne hd]
        by_cases hb : b = a
        · rw [hb, upd_same, upd_same]
        · rw [upd_ne hb, upd_ne hb, upd_ne hd, upd_ne hd]

/-- values that ask for nothing -/
def Tot (n : Nat) (t : TA) : Prop := ∀ (σ : L2.St) (H : Hp) (Q : List V → Hp → Prop), (∀ i, i < n → ∃ v, σ[i]? = some (some v)) → (∀ vs, vs.length ≤ 1000 → Q vs H) → t σ H Q

theorem init_okG {g : List V → Prop} {P : Program} {w : World} {K : PySem.W.Frag} {mg : Str → Option Value} {base : Heap} {N ps fs : List Str} {k : Nat} {name qual : Str} {params : Arguments} {scope : Scope} {dV kV doc pm ct oc : Value} {an od : Option Addr} {osl : Array (Option Value)} {f cda cc C : Addr}
    {e : Expr} {es : List Expr} {p0 p1 p2 p3 p4 : Pos} {rest : List Stmt} {ar : Arg}
    (lk : K.lookup f = some ⟨oc, od, .func (PySem.W.ksFn name qual params (.Expr (.Call (.Attribute (.Call (.Name "super" p0) [] [] p1) "__init__" p2) (e :: es) [] p3) p4 :: rest) scope dV kV doc pm an (.ref cda) ct cc), osl⟩)
    (hcd : PySem.W.codeIn K (.ref cda) qual = true) (S : Sup P K mg N ps scope C cda cc) (har : (params.posonlyargs ++ params.args).head? = some ar) (hself : N[0]? = some ar.arg) (hnf : ps.length = fs.length + 1) (hfs : fs.length ≤ 900) (hne : fs ≠ [])
    (hargs : ∀ (A : Around) (outer : List PySem.Env) (s : Shared) (H : Hp) (E : XK), ∃ t, PA (icx P w K mg base N qual scope f (.ref cda) cc A outer s H E) (e :: es) t ∧ ∀ vs : List V, vs.length = ps.length → g vs → ∀ (H : Hp) (Q : List V → Hp → Prop), (∀ xs, xs.length ≤ 1000 → Q xs H) → t (L2.start N vs) H Q)
    (hrest : ∀ (A : Around) (outer : List PySem.Env) (s : Shared) (H : Hp) (E : XK), IniSts (icx P w K mg base N qual scope f (.ref cda) cc A outer s H E) C 1 rest fs)
    (he : ∀ L, starEach (e :: es) (PySem.W.ksEnv qual scope L f (.ref cda) cc) = (false, eval e (PySem.W.ksEnv qual scope L f (.ref cda) cc)) :: starEach es (PySem.W.ksEnv qual scope L f (.ref cda) cc) := by intro _; rfl)
    (hpl : ∀ L, (backTo p3 (starEach es (PySem.W.ksEnv qual scope L f (.ref cda) cc))).any (·.1) = false := by intro _; rfl)
    (hsw : ∀ L, swapsWith (.Call (.Attribute (.Call (.Name "super" p0) [] [] p1) "__init__" p2) (e :: es) [] p3) none p4.line (PySem.W.ksEnv qual scope L f (.ref cda) cc) = pure false := by intro _; rfl)
    {pl : Sem Bool} (hev : ∀ L, eval (.Call (.Attribute (.Call (.Name "super" p0) [] [] p1) "__init__" p2) (e :: es) [] p3) (PySem.W.ksEnv qual scope L f (.ref cda) cc) = (do
      let ov ← attributeBase (.Call (.Name "super" p0) [] [] p1) "__init__" (PySem.W.ksEnv qual scope L f (.ref cda) cc) (eval (.Call (.Name "super" p0) [] [] p1) (PySem.W.ksEnv qual scope L f (.ref cda) cc))
      standAt p2.atName
      let (f', first) ← holding [ov] (getMethod ov "__init__" pl)
      callWith p3 f' first (backTo p3 (starEach (e :: es) (PySem.W.ksEnv qual scope L f (.ref cda) cc))) []) := by intro _; rfl) :
    FnOk P w K mg base (L2.CX P w) (k + 1) f (PySem.W.ksFn name qual params (.Expr (.Call (.Attribute (.Call (.Name "super" p0) [] [] p1) "__init__" p2) (e :: es) [] p3) p4 :: rest) scope dV kV doc pm an (.ref cda) ct cc) ps (spIniG g C fs) := by
  refine ⟨fun vs H Q E h => h.2.1.trans hnf.symm, fun A outer s H args us vs Q E hr e0 hb r hsp => ?_⟩
  obtain ⟨hgd, hlen, a, ws, H0, rfl, n0, rfl, hq⟩ := hsp
  have hl : (V.ref a :: ws).length = ps.length := hlen.trans hnf.symm
  have KX : K.In s.heap := e0.mod.kin.keeps fun b o e => (e0.bs b o e).1
  have lim : s.heap.NoLimit := e0.mod.nolimit.keeps fun b o e => (e0.bs b o e).1
  obtain ⟨ccl, cdd, cvs, ccs, file, tf, hcode, hvs, hfile⟩ := S.code
  obtain ⟨cl, cld, csl, hcell⟩ := S.cell
  obtain ⟨nm, q, Nc, bs, bm, sn, sub, ab, col, dd, k0, k1, k2, k3, k5, hC, hbm⟩ := id S.T.cls
  have hcl : PySem.W.clsIn K C = some { name := nm, bases := bs, mro := .ref C :: bm, ns := Nc, qualname := q, hasDict := true, slotNames := sn, subclasses := sub, abstract := ab, collection := col, hasDel := false } := by unfold PySem.W.clsIn; rw [hC] <;> rfl
  refine ks_codeAny_call_defAt (fd := PySem.W.ksFn name qual params (.Expr (.Call (.Attribute (.Call (.Name "super" p0) [] [] p1) "__init__" p2) (e :: es) [] p3) p4 :: rest) scope dV kV doc pm an (.ref cda) ct cc) hr.depth (KX _ _ lk) rfl lim (PySem.W.codeRec_of KX hcd) rfl hb S.nocell
    (fun y hy => S.par y.1 (List.of_mem_zip hy).1) (fun h1 hns hk => ?_) S.co S.gen S.kind
  have I : Inv (icx P w K mg base N qual scope f (.ref cda) cc A outer s (upd H0 a (exo a C none)) E) [] (L2.start N (.ref a :: ws)) (upd H0 a (exo a C none)) { s with heap := h1, toks := s.toks + (ps.zip us).length } := inv_init S hr.hd e0 hl r hns hk
  have self_at : ∃ m, h1.Ns s.heap.objs.size m ∧ m ar.arg = some (.ref a) := by
    cases r with
    | @cons _ u0 _ ur ra rw' =>
      obtain rfl : u0 = Value.ref a := ra
      refine ⟨_, hns, zip_rev_lookup (i := 0) (by rw [← S.pre]; exact S.nd.sublist (List.take_sublist _ _)) ?_ rfl⟩
      rw [← S.pre, List.getElem?_take_of_lt (by omega)]
      exact hself
  have hps : ar.arg ∈ ps := by
    have : ps[0]? = some ar.arg := by rw [← S.pre, List.getElem?_take_of_lt (by omega)]; exact hself
    exact List.mem_of_getElem? this
  obtain ⟨hp0, g0, d0, t0, os0⟩ := s
  have KX1 : K.In h1 := KX.keeps hk
  obtain ⟨tx, hx1⟩ := exo_at I.hok (upd_same (a := a))
  have IA : PySem.W.InstAt h1 a _ C none := ⟨hx1, rfl, rfl, trivial⟩
  obtain ⟨oD, hD1, hD2⟩ : ∃ oD, h1.get? C = some oD ∧ oD.data = .cls { name := nm, bases := bs, mro := .ref C :: bm, ns := Nc, qualname := q, hasDict := true, slotNames := sn, subclasses := sub, abstract := ab, collection := col, hasDel := false } := ⟨_, KX1 _ _ hC, rfl⟩
  obtain ⟨ms, hms, hmself⟩ := self_at
  obtain ⟨mb, hb1, hb2⟩ := I.mod.blt
  have hint : interactive (PySem.W.ksEnv qual scope hp0.objs.size f (.ref cda) cc) = false := by
    unfold interactive
    show (scope.kind == _ && _) = false
    rw [S.kind]
    rfl
  refine ks_wpAt_execs_cons (ks_wpAt_Expr_any (ks_wpAt_MethodCall (pl := pl) ?_ (hev _)) hint (hsw _))
  refine ks_wpAt_super_base (env := PySem.W.ksEnv qual scope hp0.objs.size f (.ref cda) cc) S.ksup S.kcls (by decide) rfl (KX1 _ _ lk) rfl har rfl (KX1 _ _ hcode) rfl hvs hfile S.top ?_
  refine PySem.W.ks_loadName_global S.kind S.ksup (PySem.Calls.loadGlobal_builtin (env := PySem.W.ksEnv qual scope hp0.objs.size f (.ref cda) cc) (I.mod.glob.keeps I.bk) S.msup (hb1.keeps I.bk) ((hb2 _ (by decide +kernel)).trans PyProof.Rows.Boot.«super») ⟨rfl, ?_⟩)
  refine wpAny_loadName_free S.kind S.kcls rfl ⟨_, KX1 _ _ hcell, rfl⟩ ?_
  refine wpAny_loadName_local S.kind (S.par _ hps) hms hmself ?_
  refine ks_wpAny_isType_cls hD1 hD2 ⟨rfl, ?_⟩
  refine ks_wpAny_call_super hD1 hD2 IA.at_ IA.cls (fun c e => by cases e) (PySem.W.looks_mroIn KX1 S.self) (fun h2 e2 k2 => ?_)
  have KX2 : K.In h2 := KX1.keeps k2
  have I2 := I.kept (t' := t0 + (ps.zip us).length) k2
  have IA2 : PySem.W.InstAt h2 a _ C none := ⟨k2 _ _ hx1, rfl, rfl, trivial⟩
  have hm := S.sup
  unfold PySem.W.ks_superIn at hm
  rw [hcl] at hm
  refine PySem.W.kxs_getMethod PySem.W.kxs_ValueError e2 (PySem.W.looks_opaque KX2 S.opq) (l₀ := .ref C :: bm) (fun A Q E s k q => wpAny_bind ((PySem.W.looks_clsIn KX2 hcl) A _ E s k (wpAny_pure q))) rfl KX2 hm (IA2.type.andThen (PySem.W.looks_subIn KX2 S.isV)) (PySem.W.ks_ne KX2 IA2 hcl) (by decide) ?_
  have I3 := I2.kept (t' := t0 + (ps.zip us).length + 1) (h' := h2.push (PySem.W.kxs_mw "ValueError.__init__" a)) fun b o z => Heap.get?_push_of_some _ z
  have hu : (h2.push (PySem.W.kxs_mw "ValueError.__init__" a)).get? h2.objs.size = some (PySem.W.kxs_mw "ValueError.__init__" a) := Heap.get?_push_at rfl rfl
  have I4 := I3.pins_of (pins' := [(h2.objs.size, PySem.W.kxs_mw "ValueError.__init__" a)]) (fun p hp => by
    rcases List.mem_singleton.mp hp with rfl
    refine ⟨hu, I2.hok.fresh (Nat.le_refl _), (Nat.ne_of_lt I2.lt).symm, I2.nofs (Nat.le_refl _), fun v z => by cases z⟩)
  obtain ⟨ta, hta, htot⟩ := hargs A outer ⟨hp0, g0, d0, t0, os0⟩ (upd H0 a (exo a C none)) E
  show wpAny _ _ (callWith p3 (.ref h2.objs.size) [] (backTo p3 (starEach (e :: es) (PySem.W.ksEnv qual scope hp0.objs.size f (.ref cda) cc))) []) _ _ _
  have hrun := hta.run p3 _ _ _ _ (fun vs H1 => vs.length ≤ 1000 ∧ H1 = upd H0 a (exo a C none)) I4 (htot _ hl hgd _ _ fun vs z => ⟨z, rfl⟩)
  have heE : starEach (e :: es) (icx P w K mg base N qual scope f (.ref cda) cc A outer ⟨hp0, g0, d0, t0, os0⟩ (upd H0 a (exo a C none)) E).env = _ := he hp0.objs.size
  rw [he]
  rw [heE] at hrun
  refine PySem.W.kxs_callWith (i := "ValueError.__init__") (x := a) (by show (false || (backTo p3 (starEach es _)).any (·.1)) = false; rw [hpl]; rfl) (PySem.Calls.evalArgs_plain (wpAny_mono hrun (fun vs s2 hv => ?_) fun _ _ x => x))
  obtain ⟨xs, H2, I5, rv, hz, rfl⟩ := hv
  have pin := (I5.pin (h2.objs.size, PySem.W.kxs_mw "ValueError.__init__" a) (List.mem_append_right _ (List.mem_singleton.mpr rfl))).1
  refine ⟨pin, ?_⟩
  obtain ⟨t5, hx5⟩ := exo_at I5.hok (upd_same (a := a))
  obtain ⟨h5, g5, d5, tk5, os5⟩ := s2
  refine call_mw (I5.kIn _ _ hC) pin hx5 (by show List.length _ ≤ sizeLine; rw [List.nil_append, ← Paired.length rv, sizeLine_eq]; omega) fun h6 t6 k6 hx6 => ?_
  have J := I5.write (t' := tk5) (x := a) (e := a) (o := exo a C none) (by rw [upd_same]; exact True.intro) (.inl rfl) k6 ⟨_, hx6⟩ (exo_ok hx6)
  have eu : upd (upd H0 a (exo a C none)) a (exo a C none) = upd H0 a (exo a C none) := by
    funext b
    by_cases hb : b = a
    · rw [hb, upd_same, upd_same]
    · rw [upd_ne hb, upd_ne hb]
  rw [eu] at J
  have J' := J.pins_of (pins' := []) fun p hp => absurd hp (by simp)
  have J0 : Inv (icx P w K mg base N qual scope f (.ref cda) cc A outer ⟨hp0, g0, d0, t0, os0⟩ (upd H0 a (exo a C none)) E) [] (L2.start N (.ref a :: ws)) (upd H0 a (exo a C none)) ⟨h6, g5, d5, tk5, os5⟩ :=
    ⟨J.ok, J.os, J.bare, J.base, J.loc, J.cell, J.free, J.freeC, fun p hp => absurd (show p ∈ ([] : List (Addr × Obj)) from hp) (by simp), J.hok, J.len⟩
  have hread : tIni K C 1 fs { nx := fun _ H' => Q .non H', rt := Q } (L2.start N (.ref a :: ws)) (upd H0 a (exo a C none)) := by
    refine ⟨a, H0, [], ws, ?_, S.T, n0, .inl ⟨rfl, rfl⟩, by simpa using hfs, by simpa using hlen, fun j v e => ?_, fun H' k => ?_⟩
    · unfold L2.start
      rfl
    · have hj : 1 + j < (V.ref a :: ws).length := by
        have := (List.getElem?_eq_some_iff.mp e).1
        simp
        omega
      unfold L2.start
      rw [List.getElem?_append_left (by simpa using hj), List.getElem?_map, Nat.add_comm, List.getElem?_cons_succ, e]
      rfl
    · rcases k with ⟨z, rfl⟩ | ⟨d, n1, n2, rfl⟩
      · exfalso
        have wl : ws.length = fs.length := by simpa using hlen
        cases fs with
        | nil => exact hne rfl
        | cons y ys =>
          cases ws with
          | nil => simp at wl
          | cons z2 zs => simp at z
      · simpa using hq d n1 n2
  refine wpAt_of_wpAny (wpAny_mono ((ini_sts (hrest A outer ⟨hp0, g0, d0, t0, os0⟩ (upd H0 a (exo a C none)) E)).run [] _ _ _ _ J0 hread) (fun fl s' hs => ?_) fun e s' hs => hs)
  have fin : ∀ {σ' : L2.St} {H' : Hp} {v : V} {u : Value}, Inv (icx P w K mg base N qual scope f (.ref cda) cc A outer ⟨hp0, g0, d0, t0, os0⟩ (upd H0 a (exo a C none)) E) [] σ' H' s' → RelV v u → Q v H' → CE outer P w (upd H0 a (exo a C none)) ⟨hp0, g0, d0, t0, os0⟩ Q u s' :=
    fun {σ' H' v u} J rv q => ⟨v, H', J.os, J.bare, J.base, J.hok, rv, q⟩
  cases fl with
  | ret u =>
    obtain ⟨v, σ', H', J, rv, q⟩ := hs
    exact fin J rv q
  | next =>
    obtain ⟨σ', H', J, q⟩ := hs
    exact fin (v := V.non) (u := Value.none) J rfl q
  | brk =>
    obtain ⟨_, _, _, q⟩ := hs
    exact False.elim q
  | cont =>
    obtain ⟨_, _, _, q⟩ := hs
    exact False.elim q
theorem init_ok {P : Program} {w : World} {K : PySem.W.Frag} {mg : Str → Option Value} {base : Heap} {N ps fs : List Str} {k : Nat} {name qual : Str} {params : Arguments} {scope : Scope} {dV kV doc pm ct oc : Value} {an od : Option Addr} {osl : Array (Option Value)} {f cda cc C : Addr}
    {e : Expr} {es : List Expr} {p0 p1 p2 p3 p4 : Pos} {rest : List Stmt} {ar : Arg}
    (lk : K.lookup f = some ⟨oc, od, .func (PySem.W.ksFn name qual params (.Expr (.Call (.Attribute (.Call (.Name "super" p0) [] [] p1) "__init__" p2) (e :: es) [] p3) p4 :: rest) scope dV kV doc pm an (.ref cda) ct cc), osl⟩)
    (hcd : PySem.W.codeIn K (.ref cda) qual = true) (S : Sup P K mg N ps scope C cda cc) (har : (params.posonlyargs ++ params.args).head? = some ar) (hself : N[0]? = some ar.arg) (hnf : ps.length = fs.length + 1) (hfs : fs.length ≤ 900) (hne : fs ≠ [])
    (hargs : ∀ (A : Around) (outer : List PySem.Env) (s : Shared) (H : Hp) (E : XK), ∃ t, PA (icx P w K mg base N qual scope f (.ref cda) cc A outer s H E) (e :: es) t ∧ Tot ps.length t)
    (hrest : ∀ (A : Around) (outer : List PySem.Env) (s : Shared) (H : Hp) (E : XK), IniSts (icx P w K mg base N qual scope f (.ref cda) cc A outer s H E) C 1 rest fs)
    (he : ∀ L, starEach (e :: es) (PySem.W.ksEnv qual scope L f (.ref cda) cc) = (false, eval e (PySem.W.ksEnv qual scope L f (.ref cda) cc)) :: starEach es (PySem.W.ksEnv qual scope L f (.ref cda) cc) := by intro _; rfl)
    (hpl : ∀ L, (backTo p3 (starEach es (PySem.W.ksEnv qual scope L f (.ref cda) cc))).any (·.1) = false := by intro _; rfl)
    (hsw : ∀ L, swapsWith (.Call (.Attribute (.Call (.Name "super" p0) [] [] p1) "__init__" p2) (e :: es) [] p3) none p4.line (PySem.W.ksEnv qual scope L f (.ref cda) cc) = pure false := by intro _; rfl)
    {pl : Sem Bool} (hev : ∀ L, eval (.Call (.Attribute (.Call (.Name "super" p0) [] [] p1) "__init__" p2) (e :: es) [] p3) (PySem.W.ksEnv qual scope L f (.ref cda) cc) = (do
      let ov ← attributeBase (.Call (.Name "super" p0) [] [] p1) "__init__" (PySem.W.ksEnv qual scope L f (.ref cda) cc) (eval (.Call (.Name "super" p0) [] [] p1) (PySem.W.ksEnv qual scope L f (.ref cda) cc))
      standAt p2.atName
      let (f', first) ← holding [ov] (getMethod ov "__init__" pl)
      callWith p3 f' first (backTo p3 (starEach (e :: es) (PySem.W.ksEnv qual scope L f (.ref cda) cc))) []) := by intro _; rfl) :
    FnOk P w K mg base (L2.CX P w) (k + 1) f (PySem.W.ksFn name qual params (.Expr (.Call (.Attribute (.Call (.Name "super" p0) [] [] p1) "__init__" p2) (e :: es) [] p3) p4 :: rest) scope dV kV doc pm an (.ref cda) ct cc) ps (spIni C fs) := by
  have G : FnOk P w K mg base (L2.CX P w) (k + 1) f (PySem.W.ksFn name qual params (.Expr (.Call (.Attribute (.Call (.Name "super" p0) [] [] p1) "__init__" p2) (e :: es) [] p3) p4 :: rest) scope dV kV doc pm an (.ref cda) ct cc) ps (spIniG (fun _ => True) C fs) :=
    init_okG lk hcd S har hself hnf hfs hne (fun A outer s H E => by
      obtain ⟨t, h1, h2⟩ := hargs A outer s H E
      exact ⟨t, h1, fun vs hl _ H Q hq => h2 _ _ _ (fun i hi => by
        have hi' : i < vs.length := by omega
        refine ⟨vs[i], ?_⟩
        unfold L2.start
        rw [List.getElem?_append_left (by simpa using hi'), List.getElem?_map, List.getElem?_eq_getElem hi']
        rfl) hq⟩) hrest he hpl hsw hev
  exact G.imp fun vs H Q E h => ⟨True.intro, h⟩
end NK

set_option Elab.async false
set_option linter.all false
set_option maxRecDepth 100000
set_option maxHeartbeats 2000000
namespace PySem.W
open PySem PySem.Spec PySem.Calls PyProof.Rows
section
variable {prog : Program} {w : World} {A : Around} {E : Value → Shared → Prop} {s : Shared} {K : Frag} {x D : Addr} {ox od : Obj}
theorem nk_kin_classE {Q : Option Value → Shared → Prop} (hga : findIn K (.ref D) "__getattribute__" = some (some (.builtin "BaseException.__getattribute__"))) (hgt : findIn K (.ref D) "__getattr__" = some none) (hsub : subIn K (.ref D) (.type "BaseException") = some true)
    (hdct : hasDictIn K D = true) (ha : findIn K (.ref D) "__class__" = some (some (.builtin "object.__class__")))
    (hn : specialIn K (.builtin "object.__class__") "__get__" = some (some (.builtin "getset_descriptor.__get__"))) (htk : takesIn K (.builtin "object.__class__") = some true) (hm : mroIn K D (.type "object") = some true)
    (X : K.In s.heap) (I : InstAt s.heap x ox D (some od)) (h : Q (some (.ref D)) { s with toks := s.toks + 1 }) : wpAny (model prog w) A (getAttr? (.ref x) "__class__") Q E s := by
  have hf : findObj K D (some od) "__class__" = some (.bind (.builtin "getset_descriptor.__get__") (.builtin "object.__class__")) := findObj_data (by obtain ⟨cd, hc, _⟩ := any_some hdct; rw [hc]; rfl) ha hn htk
  obtain ⟨hp, g, d, t, os⟩ := s
  have L0 := I.type (M := model prog w)
  have L1 := looks_findIn (M := model prog w) X hga
  have L2 := looks_findIn (M := model prog w) X hgt
  have L3 := looks_find (M := model prog w) X I hf
  have sub : Looks (model prog w) hp (isInstance (.ref x) (.type "BaseException")) true := L0.andThen (looks_subIn X hsub)
  have hx0 : (false && onTheHeap (Value.builtin "BaseException.__getattribute__")) = false := rfl
  have hx2 : (Value.builtin "BaseException.__getattribute__" == Value.builtin "object.__getattribute__") = false := by decide +kernel
  have hx1 : (onTheHeap (Value.ref D) && Value.builtin "BaseException.__getattribute__" == Value.builtin "object.__getattribute__") = false := by rw [hx2]; rfl
  unfold getAttr? getAttrBy? getAttrBy
  refine wpAny_bind (wpAny_mkText (wpAny_bind (wpAny_attempt (wpAny_holding (wpAny_bind (L0.at (wpAny_bind (L1.at ?_))))))))
  show wpAny _ _ (if (onTheHeap (Value.ref D) && Value.builtin "BaseException.__getattribute__" == Value.builtin "object.__getattribute__") = true then _ else _) _ _ _
  rw [hx1, if_neg Bool.false_ne_true]
  unfold getAttrByItsOwn hookBefore
  refine wpAny_bind ?_
  rw [if_pos (show onTheHeap (Value.ref D) = true from rfl)]
  refine L2.at ?_
  refine wpAny_bind (wpAny_attempt (wpAny_holding ?_))
  unfold callGetattribute
  rw [hx0, if_neg Bool.false_ne_true]
  unfold boundAndCalled
  rw [PySem.F.excAttr_ValueError.ga.bind (.ref x)]
  refine wpAny_bind (wpAny_pure ?_)
  show wpAny _ _ (call (.builtin "BaseException.__getattribute__") [.ref x, .str "__class__" t]) _ _ _
  refine wpAny_call (codeAny_call_builtin PySem.F.excAttr_ValueError.ga.plain PySem.F.entry_bexc_ga ?_)
  refine @check_slot (model prog w) _ _ ⟨hp, g, d, t + 1, os⟩ "BaseException.__getattribute__" "BaseException" "__getattribute__" (.ref x) [.str "__class__" t] [] _ (by decide +kernel) (by decide +kernel) sub (PySem.F.args_bexc_ga (.ref x) (.str "__class__" t)) ?_
  unfold Builtin.«object.__getattribute__»
  refine wpAny_bind (wpAny_of_eq (a := ((Value.ref x : Value), [Value.str "__class__" t])) (by first | rfl | (simp only [slotArgs]; rfl)) ?_)
  refine wpAny_bind (wpAny_pure (wpAny_bind (L0.at (wpAny_bind (L3.at ?_)))))
  show wpAny _ _ (holding [Value.builtin "object.__class__"] (call (.builtin "getset_descriptor.__get__") [.builtin "object.__class__", .ref x, .ref D]) >>= ret) _ _ _
  refine wpAny_bind (wpAny_holding (wpAny_call (class_get (s := ⟨hp, g, d, t + 1, os⟩) (ox := ox) (od := some od) X I hm ?_)))
  refine wpAny_pure ?_
  show wpAny _ _ (handedOut (.ref D)) _ _ _
  rw [handedOut_of (v := .ref D) rfl]
  first
    | exact wpAny_pure (wpAny_pure h)
    | exact wpAny_pure h
    | exact wpAny_pure (wpAny_bind (wpAny_pure (wpAny_pure h)))
theorem nk_kitx_exc (hga : findIn K (.ref D) "__getattribute__" = some (some (.builtin "BaseException.__getattribute__"))) (hgt : findIn K (.ref D) "__getattr__" = some none) (hsub : subIn K (.ref D) (.type "BaseException") = some true) (hdct : hasDictIn K D = true) (ha : findIn K (.ref D) "__class__" = some (some (.builtin "object.__class__")))
    (hn : specialIn K (.builtin "object.__class__") "__get__" = some (some (.builtin "getset_descriptor.__get__"))) (htk : takesIn K (.builtin "object.__class__") = some true) (hm : mroIn K D (.type "object") = some true) :
    KitX K (.ref x) (.ref D) (fun h => InstAt h x ox D (some od)) where
  ty := fun _ _ _ I => I.type
  it := fun _ _ X _ => by
    obtain ⟨cdD, hcD, _⟩ := any_some hdct
    unfold clsIn at hcD
    split at hcD
    · rename_i c' d' cd' sl' ho
      intro A' Q' E' s' k q
      unfold isType loadHead
      exact wpAny_bind (wpAny_loadPart (k _ _ (X _ _ ho)) (wpAny_pure q))
    · cases hcD
  ne := fun h tp dd its n sl X htp => by
    obtain ⟨cdD, hcD, _⟩ := any_some hdct
    refine Bool.eq_false_iff.mpr fun q => ?_
    have e : D = tp := Value.ref.inj (beq_iff_eq.mp q)
    subst e
    unfold clsIn at hcD
    split at hcD
    · rename_i c' d' cd' sl' ho
      have z := (X _ _ ho).symm.trans htp
      cases z
    · cases hcD
  ca := fun X I k => nk_kin_classE hga hgt hsub hdct ha hn htk hm X I k
end
end PySem.W
/-! NK9: raise, try, what the suite asks of the exception. -/
namespace NK
open PySem L2

def sRaise (k n : Nat) (ma : MA) : MS := fun env st => (ma env st).st env fun us st1 => if us.length = n then .exc ⟨k, us⟩ env st1 else .bad
section
variable {X : Cx} {T : Tb} {P : Pin} {Wx : WX} {e : Expr} {es : List Expr} {ma : MA} {pos pos' p : Pos}
theorem upd_del {H : Hp} {a d : Addr} {o1 o2 o3 : HO} (ha : H a = none) (hd : d ≠ a) : upd (del (upd (upd H d o1) a o2) a) d o3 = upd H d o3 := by
  funext b
  by_cases hb : b = d
  · rw [hb, upd_same, upd_same]
  · rw [upd_ne hb, upd_ne hb]
    by_cases hc : b = a
    · rw [hc, del_same, ha]
    · rw [del_ne hc, upd_ne hc, upd_ne hb]
theorem psm_raise {k kk n : Nat} {x : Str} {fI : Addr} {fd : FuncData} {ps : List Str} (hc : X.calm = true) (tk : Takes X Wx) (OT : OexC X.K (T.cls k)) (iC : PySem.W.findIn X.K (.ref (T.cls k)) "__init__" = some (some (.ref fI))) (tI : PySem.W.typeIn X.K (.ref fI) = some (.type "function"))
    (F1 : FnOk X.prog X.w X.K X.mg X.base (L2.CX X.prog X.w) kk fI fd ps (spIni (T.cls k) (T.fld k))) (hr : Room (kk + 1) X.A) (hb : Binds X.K fd ps []) (hg : Gl X x) (hm : X.mg x = some (.ref (T.cls k))) (hn : (T.fld k).length = n) (hsz : n ≤ 900) (ha : PAm X T P Wx (e :: es) ma)
    (hdb : (x == ("__debug__" : Str)) = false := by decide) (he : starEach (e :: es) X.env = (false, eval e X.env) :: starEach es X.env := by rfl) (hpl : (backTo pos (starEach es X.env)).any (·.1) = false := by rfl) :
    PSm X T P Wx (.Raise (some (.Call (.Name x p) (e :: es) [] pos)) none pos') (sRaise k n ma) :=
  PS.imp (ps_raise hc tk (pmk_oex OT iC tI F1 hr hb .nil (passes_call tk fun _ _ _ _ h => h.elim) hg hm ha hdb he hpl)) fun D σ H ⟨c, env, st, hH, hE, hR⟩ => by
    refine (ts_bind hH hE hR).mono fun vs H1 ⟨us, c1, st1, l1, hH1, hE1, r1, hR1⟩ => ?_
    split at hR1
    · rename_i hl
      have hvl : vs.length = n := by rw [← r1.length]; exact hl
      refine ⟨by omega, fun a na => ⟨by rw [List.append_nil, List.length_cons, hvl, hn], a, vs, H1, by rw [List.append_nil], na, rfl, fun d nd ne => ⟨rfl, d, _, upd_same, by rw [upd_ne ne, upd_same], nd, ?_⟩⟩⟩
      rw [upd_del na ne]
      refine hR1 (c1.still d _) _ _ σ _ (le_still hH1 nd _) (hH1.still nd _) (hE1.mono (le_still hH1 nd _)) ⟨rfl, d, vs, rfl, ?_, by rw [hvl, hn], r1.mono (le_still hH1 nd _)⟩
      show upd c1.F d _ d = _
      rw [upd_same]
    · exact hR1.elim

/-! ### try: .. except C as x: .. -/
def SO.unI (r : SO) (i : Nat) : SO := match r with
  | .next env st => .next (env.set i none) st
  | .ret u st => .ret u st
  | .brk env st => .brk (env.set i none) st
  | .cont env st => .cont (env.set i none) st
  | .exc _ _ _ => .bad
  | .bad => .bad
/-- isK: of each class of the text, is it caught -/
def sTry (mb : MS) (isK : List Bool) (i : Nat) (suite : Ex → MS) : MS := fun env st => match mb env st with
  | .exc x env1 st1 => match isK[x.k]? with
    | some true => if i < env1.length then (suite x (env1.set i none) st1).unI i else .bad
    | some false => .exc x env1 st1
    | none => .bad
  | .next env st => .next env st
  | .ret u st => .ret u st
  | .brk env st => .brk env st
  | .cont env st => .cont env st
  | .bad => .bad
theorem psm_try {x n : Str} {C : Addr} {i : Nat} {body suite : List Stmt} {b₀ : Stmt} {np : Pos} {mb : MS} {ms : Ex → MS} {isK : List Bool} (hs : X.stack = X.env :: X.outer) (hf : X.env.frame = some X.env.locals) (hN : X.N.Nodup) (hi : X.N[i]? = some n) (hln : X.env.kindOf n = some .local) (hc : Names X x (.ref C)) (tk : Takes X Wx)
    (hex : ∀ (k : Nat) (b : Bool), isK[k]? = some b → PySem.W.exmOne X.K (.ref (T.cls k)) (.ref C) = some b)
    (hb : ∀ (W : WX) (pn : List (Addr × Obj)) (xe : Value → Shared → Prop), Takes (X.tr pn xe) W → PassesOwn (model X.prog X.w) X.A X.env xe → PSsm (X.tr pn xe) T none W body mb)
    (hsu : ∀ (a : Addr) (oe : Obj) (cls : Value) (d : Option Addr) (pn : List (Addr × Obj)) (x : Ex), Zc cls d oe → (∃ vs, oe.data = .fields vs) → PSsm (X.suite a ((a, oe) :: pn)) T (some ⟨i, a, x, cls, d⟩) Wx0 (b₀ :: suite) (ms x)) :
    PSm X T none Wx (.Try body [.ExceptHandler (some (.Name x np)) (some n) (b₀ :: suite) pos'] [] [] pos) (sTry mb isK i ms) :=
  PS.imp (ps_try_as (tb := fun W => tsOf T none W mb) (ts := fun a cls d D σ H => ∃ x, tsOf T (some ⟨i, a, x, cls, d⟩) Wx0 (ms x) D σ H) hs hf hN hi hln hc tk (fun W pn xe t o => hb W pn xe t o)
    (fun a oe cls d pn hz hv => ⟨fun pins s σ H D I ⟨x, h⟩ => (hsu a oe cls d pn x hz hv).run pins s σ H D I h⟩)) fun D σ H ⟨c, env, st, hH, hE, hR⟩ => by
    refine ⟨c, env, st, hH, hE, ?_⟩
    unfold sTry at hR
    cases q : mb env st with
    | next env1 st1 => rw [q] at hR; exact hR
    | ret u st1 => rw [q] at hR; exact hR
    | brk env1 st1 => rw [q] at hR; exact hR
    | cont env1 st1 => rw [q] at hR; exact hR
    | bad => rw [q] at hR; exact hR
    | exc x1 env1 st1 =>
      rw [q] at hR
      intro c1 cls d σ1 H1 l1 hH1 hE1 rx
      cases qk : isK[x1.k]? with
      | none => simp only [qk] at hR; exact hR.elim
      | some b =>
        simp only [qk] at hR
        obtain ⟨e1, e2⟩ := id rx
        refine ⟨b, by rw [e1]; exact hex _ _ qk, fun hb' a na => ?_, fun hb' => ?_⟩
        · subst hb'
          dsimp only at hR
          split at hR
          · rename_i hi'
            have hi2 : i < σ1.length := by rw [← hE1.len]; exact hi'
            refine ⟨x1, c1, env1.set i none, st1, hH1, ⟨by simp [hE1.len], fun j u e => ?_, fun p hp => ?_⟩, ?_⟩
            · by_cases hj : i = j
              · subst hj
                rw [List.getElem?_set_self hi'] at e
                cases e
              · rw [List.getElem?_set_ne hj] at e
                rw [List.getElem?_set_ne hj]
                exact hE1.get j u e
            · cases hp
              exact ⟨by rw [List.getElem?_set_self hi2], rx⟩
            · have back : ∀ {c' : Cn} {env' : Env} {σ' : L2.St}, RE T (some ⟨i, a, x1, cls, d⟩) c' env' σ' → RE T none c' (env'.set i none) (σ'.set i none) := fun {c' env' σ'} r => by
                refine ⟨by simp [r.len], fun j u e => ?_, fun p hp => by cases hp⟩
                by_cases hj : i = j
                · subst hj
                  have hj2 : i < env'.length := by
                    have := (List.getElem?_eq_some_iff.mp e).1
                    simpa using this
                  rw [List.getElem?_set_self hj2] at e
                  cases e
                · rw [List.getElem?_set_ne hj] at e
                  rw [List.getElem?_set_ne hj]
                  exact r.get j u e
              cases qs : ms x1 (env1.set i none) st1 with
              | next env2 st2 => rw [qs] at hR; exact fun c2 σ2 H2 l2 hH2 hE2 => hR c2 _ H2 (l1.trans l2) hH2 (back hE2)
              | ret u st2 => rw [qs] at hR; exact fun c2 v H2 l2 hH2 r2 => hR c2 v H2 (l1.trans l2) hH2 r2
              | brk env2 st2 => rw [qs] at hR; exact fun c2 σ2 H2 l2 hH2 hE2 => hR c2 _ H2 (l1.trans l2) hH2 (back hE2)
              | cont env2 st2 => rw [qs] at hR; exact fun c2 σ2 H2 l2 hH2 hE2 => hR c2 _ H2 (l1.trans l2) hH2 (back hE2)
              | exc x2 env2 st2 => rw [qs] at hR; exact hR.elim
              | bad => rw [qs] at hR; exact hR.elim
          · exact hR.elim
        · subst hb'
          exact hR c1 cls d σ1 H1 l1 hH1 hE1 rx

/-! ### within the suite -/
theorem zrl : ∀ {ps : List Str} {us : List V} {i : Nat} {x : Str} {u : V}, ps.Nodup → ps[i]? = some x → us[i]? = some u → (ps.zip us).reverse.lookup x = some u := by
  intro ps us i x u nd h1 h2
  have key : ∀ {l : List (Str × V)} {r : List (Str × V)}, (∀ v, (x, v) ∉ l) → (l ++ r).lookup x = r.lookup x := by
    intro l r
    induction l with
    | nil => intro _; rfl
    | cons a l ih =>
      intro h
      obtain ⟨y, v⟩ := a
      have ne : (x == y) = false := by
        rw [beq_eq_false_iff_ne]
        rintro rfl
        exact h v List.mem_cons_self
      simp only [List.cons_append, List.lookup, ne]
      exact ih fun v hv => h v (List.mem_cons_of_mem _ hv)
  induction ps generalizing us i with
  | nil => simp at h1
  | cons p ps ih =>
    cases us with
    | nil => simp at h2
    | cons w us =>
      have nd' := List.nodup_cons.mp nd
      simp only [List.zip_cons_cons, List.reverse_cons]
      cases i with
      | zero =>
        simp at h1 h2
        subst h1 h2
        rw [key fun v hv => nd'.1 (List.of_mem_zip (List.mem_reverse.mp hv)).1]
        simp [List.lookup]
      | succ i =>
        have q := ih (us := us) (i := i) nd'.2 (by simpa using h1) (by simpa using h2)
        have e : ∀ {l r : List (Str × V)}, l.lookup x = some u → (l ++ r).lookup x = some u := by
          intro l r
          induction l with
          | nil => intro h; cases h
          | cons a l ih2 =>
            intro h
            obtain ⟨y, v⟩ := a
            simp only [List.cons_append, List.lookup] at h ⊢
            split
            · rename_i hh; rw [hh] at h; exact h
            · rename_i hh; rw [hh] at h; exact ih2 h
        exact e q
/-- x.f, x the caught exception: its field j -/
def eExf (k j : Nat) (x : Ex) : ME := fun _ st => if x.k = k then (match x.us[j]? with
  | some u => .ok u st
  | none => .bad) else .bad
theorem pem_exf {k j i : Nat} {a : Addr} {oe : Obj} {cls : Value} {d : Option Addr} {pn : List (Addr × Obj)} {x : Ex} {f : Str} (hK : X.K = T.K) (XT : XfC X.K (T.cls k)) (nm : (T.fld k)[j]? = some f) (nd : (T.fld k).Nodup) (hno : PySem.W.findIn X.K (.ref (T.cls k)) f = some none)
    (hz : Zc cls d oe) (hf : ∃ vs, oe.data = .fields vs) (he : PE (X.suite a ((a, oe) :: pn)) e (tVar i)) (hb : attributeBase e f X.env (eval e X.env) = eval e X.env := by rfl) : PEm (X.suite a ((a, oe) :: pn)) T (some ⟨i, a, x, cls, d⟩) Wx (.Attribute e f pos) (eExf k j x) :=
  PE.imp (pe_xf XT hno hz hf he hb) fun σ H Q ⟨c, env, st, hH, hE, hR⟩ => by
    obtain ⟨h1, e1, dx, vs, e2, e3, e4, e5⟩ := hE.pin _ rfl
    unfold eExf at hR
    split at hR
    · rename_i hk
      split at hR
      · rename_i u q
        obtain ⟨v, hv, rv⟩ := e5.get q
        dsimp only at e1 e2 e3 e4 hv rv h1 hk
        rw [hk] at e1 e3
        refine ⟨.ref a, h1, rfl, e1, dx, _, v, e2, hH.sub _ _ e3, zrl nd nm hv, hR.ret hH rv⟩
      · exact hR.elim
    · exact hR.elim
/-- isinstance(x, C), x the caught exception -/
def rIsE2 (K : PySem.W.Frag) (a : Addr) (cls : Value) (d : Option Addr) : List V → Hp → VK → Prop := fun xs H Q => ∃ (D C dd : Addr) (fs : List (Str × V)) (b : Bool), xs = [.ref a, .ref C] ∧ cls = .ref D ∧ ExcC K D ∧ d = some dd ∧ H dd = some (.xd fs) ∧ PySem.W.kitOne K (.ref D) (.ref C) = some b ∧ Q (.bl b) H
theorem call_isE2 {a : Addr} {cls : Value} {d : Option Addr} {oe : Obj} {pn : List (Addr × Obj)} (hz : Zc cls d oe) (hf : ∃ vs, oe.data = .fields vs) : CallR (X.suite a ((a, oe) :: pn)) (.builtin "isinstance") (rIsE2 X.K a cls d) := by
  intro pins s σ H xs us Q I r h
  obtain ⟨D, C', dd, fs, b, rfl, rfl, C, rfl, ea, e, q⟩ := h
  cases r with
  | cons rx rr =>
    cases rr with
    | cons rt rr =>
      cases rr
      cases rx
      cases rt
      obtain ⟨hget, _⟩ := I.pin (a, oe) (List.mem_append.mpr (.inl List.mem_cons_self))
      obtain ⟨vs, hv⟩ := hf
      have hx : ObjOk X.prog X.w H s.heap dd (.xd fs) := I.hok dd _ ea
      obtain ⟨mA, hns, hr⟩ := hx
      obtain ⟨od, ho, hl⟩ := lookIn_ns hns
      have J : PySem.W.InstAt s.heap a oe D (some od) := ⟨hget, hz.1, by unfold PySem.W.notCls; rw [hv] <;> rfl, by rw [hz.2]; exact ho⟩
      exact PySem.W.kia_one (PySem.W.nk_kitx_exc C.hg C.hk C.hs C.hd C.ha C.hn C.ht C.hm) I.kIn J e (fun z => nomatch z) fun tk => ⟨.bl b, H, I.tok tk, rfl, q⟩
def eIsE (isK : List Bool) (x : Ex) : ME := fun _ st => match isK[x.k]? with
  | some b => .ok (.bl b) st
  | none => .bad
theorem pem_isE {i : Nat} {a C : Addr} {oe : Obj} {cls : Value} {d : Option Addr} {pn : List (Addr × Obj)} {x : Ex} {e2 : Expr} {isK : List Bool} (hex : ∀ (k : Nat) (b : Bool), isK[k]? = some b → ExcC X.K (T.cls k) ∧ PySem.W.kitOne X.K (.ref (T.cls k)) (.ref C) = some b)
    (hz : Zc cls d oe) (hf : ∃ vs, oe.data = .fields vs) (he : PE (X.suite a ((a, oe) :: pn)) e (tVar i)) (he2 : PE (X.suite a ((a, oe) :: pn)) e2 (tC (.ref C))) (hg : Gl (X.suite a ((a, oe) :: pn)) "isinstance") (hm : X.mg "isinstance" = none)
    (hs : starEach [e, e2] X.env = (false, eval e X.env) :: starEach [e2] X.env := by rfl) (hs2 : starEach [e2] X.env = (false, eval e2 X.env) :: starEach [] X.env := by rfl) (hpl : (backTo pos (starEach [e2] X.env)).any (·.1) = false := by rfl) :
    PEm (X.suite a ((a, oe) :: pn)) T (some ⟨i, a, x, cls, d⟩) Wx (.Call (.Name "isinstance" p) [e, e2] [] pos) (eIsE isK x) :=
  PE.imp (pe_callB (call_isE2 hz hf) hg hm PyProof.Rows.Boot.«isinstance» (pa_cons he (pa_cons he2 pa_nil hs2) hs) (by decide) (by decide) hs hpl) fun σ H Q ⟨c, env, st, hH, hE, hR⟩ => by
    obtain ⟨h1, e1, dx, vs, e2, e3, e4, e5⟩ := hE.pin _ rfl
    unfold eIsE at hR
    split at hR
    · rename_i b q
      obtain ⟨k1, k2⟩ := hex _ _ q
      exact ⟨.ref a, h1, T.cls x.k, C, dx, _, b, rfl, e1, k1, e2, hH.sub _ _ e3, k2, hR.ret hH (.bl b)⟩
    · exact hR.elim
end
end NK

set_option Elab.async false
set_option linter.all false
set_option maxRecDepth 100000
set_option maxHeartbeats 4000000
/-! NK10: set comprehensions of ints (after HandS.SetBool's rule for truth values). -/
namespace NK
section
open PySem PySem.Spec PyProof.Rows L2 PpSet
theorem addO_ok {X : Cx} {pins : List (Addr × Obj)} {σ : L2.St} {H : Hp} {s : Shared} {E : Value → Shared → Prop} {D : Addr} {S : Int → Bool} {n : Nat} {y : Int} {tk : Tok} {Q : Value → Shared → Prop} (I : Inv X pins σ H s) (hD : H D = some (SetO X.w D S n)) (room : n + 1 < scanBound)
    (h : ∀ s', Inv X pins σ (L2.upd H D (SetO X.w D (fun j => S j || decide (j = y)) (if S y = true then n else n + 1))) s' → Q .none s') : wpAny (model X.prog X.w) X.A (call (.builtin "set.add") [.ref D, .int y tk]) Q E s := by
  have R := setO_get I hD
  refine setR_add R room fun h' sb new => ?_
  have he : ∃ u, h'.get? D = some u := by
    have ⟨o, _, _, _, ho, _⟩ := new
    exact ⟨o, ho⟩
  exact h _ (I.write (e := D) (t' := s.toks + 1) (by rw [hD]; trivial) (.inl rfl) (fun b u hb hu => (sb.2 b hb).trans hu) he (setO_new new))
section
variable {X : Cx}
/-- {elt for target in iter if ..}, elt an int: D the new set -/
def tScI (w : World) (wi : TI) (g : TG) (tt : TT) (te : TE) (vs : List Nat) : TE := fun σ H Q => wi σ H fun J H1 => ∀ D, H1 D = none → ∃ W : Nat → Nat → Hp → Prop, (∃ m, W 0 m (upd H1 D (SetO w D (fun _ => false) 0))) ∧ ∀ i m H, W i m H →
  (J.stop i H ∧ Q (.ref D) H) ∨ (J.go i H ∧ ∃ Nx : Hp → Prop, (∀ H', Nx H' → ∃ m', m' < m ∧ W (i + 1) m' H') ∧ ∀ x H', J.yld i H x H' → g x (wipe σ vs) H' fun σ2 H2 => wipe σ2 vs = wipe σ vs ∧ tt σ2 H2 fun b H3 =>
    if b = true then te σ2 H3 fun y H4 => ∃ (c : Int) (S : Int → Bool) (n : Nat), y = .int c ∧ H4 D = some (SetO w D S n) ∧ n + 1 < scanBound ∧ Nx (upd H4 D (SetO w D (fun j => S j || decide (j = c)) (if S c = true then n else n + 1))) else Nx H3)
theorem scI_core {pins : List (Addr × Obj)} {s : Shared} {σ : L2.St} {H : Hp} {Q : VK} {elt tg iter : Expr} {ifs : List Expr} {scope : Scope} {own : List (PySem.Str × Nat)} {pos pos' : Pos} {wi : TI} {g : TG} {tt : TT} {te : TE} {use : Option (Value → Sem Unit)} {Qf : Value → Shared → Prop}
    (hc : X.calm = true) (hN : X.N.Nodup) (I : Inv X pins σ H s) (hi : PI X tg iter wi) (ok : BlkOk X.N X.env.scope scope own)
    (hg : ∀ (s : Shared) (H : Hp) (C : Addr) (cl : List (PySem.Str × Addr)) (fp : List Addr), PG (X.blk s H scope (compEnvC scope cl C X.env) fp) tg g) (ht : ∀ (s : Shared) (H : Hp) (C : Addr) (cl : List (PySem.Str × Addr)) (fp : List Addr), PTs (X.blk s H scope (compEnvC scope cl C X.env) fp) ifs tt)
    (he : ∀ (s : Shared) (H : Hp) (C : Addr) (cl : List (PySem.Str × Addr)) (fp : List Addr), PE (X.blk s H scope (compEnvC scope cl C X.env) fp) elt te) (hs : ∀ x, foldedSetIterable iter X.env x = pure x)
    (h : tScI X.w wi g tt te (own.map (·.2)) σ H Q)
    (hRR : ∀ D C s' m H', Inv X pins σ H' s' → Q (.ref D) H' → s'.heap.Ns C m → FpOk X pins H' C → compPost (model X.prog X.w) X.A X.xe use Qf (.ref D) C (.ok .next) s') :
    wpAny (model X.prog X.w) X.A (comprehension (.SetComp elt [⟨tg, iter, ifs, 0⟩] scope pos) scope X.env pos' (newSet (.type "set")) false (eval iter X.env) use) Qf X.xe s := by
  have hfree : ∀ y ∈ scope.names, y.2 = .free → ∃ c, X.env.cells.lookup y.1 = some c := fun y hy e => by
    rcases ok.free y hy e with k | k
    · exact I.ok.has _ (.inl k)
    · exact I.ok.has _ (.inr k)
  refine wpAny_comprehension_free (use := use) rfl hs (closure_ok hfree) ok.kind (fun y hy e => by rw [ok.uniq y hy, e])
    (thn (hi.run pins s σ H _ I h) fun xv s1 hx => thn hx fun itv s2 h2 => ?_)
  obtain ⟨it, fp, tn, J, H2, e, I2, T, st2, f2, q⟩ := h2
  subst e
  refine newSet_ok (newEnv_comp ?_)
  generalize hD : s2.heap.objs.size = D
  have hDn : H2 D = none := I2.hok.fresh (Nat.le_of_eq hD)
  obtain ⟨W, ⟨m0, w0⟩, turn⟩ := q D hDn
  -- the new list
  generalize hs3 : ({ s2 with heap := s2.heap.push { cls := .type "set", dict := none, data := .set #[] 0 (.fresh 0 0 (!X.w.params.followText "set-order")) } } : Shared) = s3
  have I3 : Inv X pins σ (upd H2 D (SetO X.w D (fun _ => false) 0)) s3 := by
    rw [← hs3]
    refine I2.laid (t' := s2.toks) (fun b o e => Heap.get?_push_of_some _ e) (Nat.le_of_eq hD) ?_
    rw [← hD]
    exact setO_new (setR_fresh X.w)
  have h3 : s3.heap = s2.heap.push { cls := .type "set", dict := none, data := .set #[] 0 (.fresh 0 0 (!X.w.params.followText "set-order")) } := by rw [← hs3]
  have sz : ∀ b ∈ fp, b < s2.heap.objs.size := fun b hb => by
    obtain ⟨o, e, _⟩ := T.obj _ _ st2 b hb
    exact Heap.lt_size e
  have f3 : ∀ b ∈ fp, FpOk X pins (upd H2 D (SetO X.w D (fun _ => false) 0)) b ∧ b < s3.heap.objs.size := fun b hb => by
    have hlt := sz b hb
    refine ⟨⟨?_, (f2 b hb).2⟩, by rw [h3, Heap.size_push]; exact Nat.lt_succ_of_lt hlt⟩
    rw [upd_ne (by rw [← hD]; exact Nat.ne_of_lt hlt)]
    exact (f2 b hb).1
  have st3 : tn 0 s3.heap := T.keep _ _ _ st2 fun b _ o e => by rw [h3]; exact Heap.get?_push_of_some _ e
  have I4 := block_start I3 ok hN f3
  have pg := hg s3 (upd H2 D (SetO X.w D (fun _ => false) 0)) s3.heap.objs.size (cellsFrom (s3.heap.objs.size + 1) scope.names (cloFrom X.env.cells scope.names [])) fp
  have pt := ht s3 (upd H2 D (SetO X.w D (fun _ => false) 0)) s3.heap.objs.size (cellsFrom (s3.heap.objs.size + 1) scope.names (cloFrom X.env.cells scope.names [])) fp
  have pe := he s3 (upd H2 D (SetO X.w D (fun _ => false) 0)) s3.heap.objs.size (cellsFrom (s3.heap.objs.size + 1) scope.names (cloFrom X.env.cells scope.names [])) fp
  show codeAny _ _ (.compStart (.SetComp elt [⟨tg, iter, ifs, 0⟩] scope pos) 0 (.ref it) (.ref D) (compEnvC scope (cellsFrom (s3.heap.objs.size + 1) scope.names (cloFrom X.env.cells scope.names [])) s3.heap.objs.size X.env)) (compPost (model X.prog X.w) X.A X.xe use Qf (.ref D) s3.heap.objs.size) { s3 with heap := pushCells (s3.heap.push { cls := .type "dict", data := .dict #[] }) scope.names }
  have nfp : ∀ b ∈ fp, (upd H2 D (SetO X.w D (fun _ => false) 0)) b = none := fun b hb => (f3 b hb).1.1
  generalize hce : compEnvC scope (cellsFrom (s3.heap.objs.size + 1) scope.names (cloFrom X.env.cells scope.names [])) s3.heap.objs.size X.env = ce at I4 pg pt pe ⊢
  have cL : ce.locals = s3.heap.objs.size := by subst hce; rfl
  generalize hH3 : upd H2 D (SetO X.w D (fun _ => false) 0) = H3 at I3 I4 pg pt pe w0 nfp f3
  generalize hs4 : ({ s3 with heap := pushCells (s3.heap.push { cls := .type "dict", data := .dict #[] }) scope.names } : Shared) = s4 at I4 ⊢
  have st4 : tn 0 s4.heap := T.keep _ _ _ st3 fun b _ o e => by rw [← hs4]; exact pushCells_keeps _ _ _ _ (Heap.get?_push_of_some _ e)
  have stat : ∀ {σ' : L2.St} {H' : Hp} {s' : Shared}, Inv (X.blk s3 H3 scope ce fp) [] σ' H' s' → (∀ b ∈ fp, H' b = none) → ∀ b ∈ fp, FpOk (X.blk s3 H3 scope ce fp) [] H' b := fun {σ' H' s'} I' hn b hb =>
    ⟨hn b hb, (I'.ok.exf b hb).1, I'.ok.exfs b hb, .inl hb, fun x c e => (I'.ok.exf b hb).2 x c e, fun p hp => absurd (show p ∈ ([] : List (Addr × Obj)) ++ [] from hp) (by simp)⟩
  have loop : codeAny (model X.prog X.w) X.A (.compLoop (.SetComp elt [⟨tg, iter, ifs, 0⟩] scope pos) 0 (.ref it) (.ref D) ce) (compPost (model X.prog X.w) X.A X.xe use Qf (.ref D) s3.heap.objs.size) s4 := by
    refine compLoopS_any (fun n s' => ∃ i H', Inv (X.blk s3 H3 scope ce fp) [] (wipe σ (own.map (·.2))) H' s' ∧ tn i s'.heap ∧ (∀ b ∈ fp, H' b = none) ∧ W i n H') ?_ m0 ⟨0, H3, I4, st4, nfp, w0⟩
    rintro n s5 ⟨i, H5, I5, st5, n5, w5⟩
    rcases turn i n H5 w5 with ⟨stop, qq⟩ | ⟨go, Nx, hNx, step⟩
    · have td := T.done (X.blk s3 H3 scope ce fp) rfl rfl rfl hc i [] s5 _ H5 (fun _ _ => False) I5 (stat I5 n5) st5 stop
      refine thnF td fun r s6 ⟨hr, I6⟩ => ?_
      subst hr
      -- back in the def's context
      have I7 : Inv X pins σ H5 s6 := I3.call' (ch := fp) I6.os I6.base I6.hok I6.bare fun b hb => ⟨(f3 b hb).1.2.2.2.1, (f3 b hb).1.2.1, (f3 b hb).1.2.2.2.2.1, (f3 b hb).1.2.2.2.2.2⟩
      have nC : H5 s3.heap.objs.size = none := by
        have z : H5 ce.locals = none := I6.free
        rw [cL] at z
        exact z
      obtain ⟨m, hn, _⟩ := I6.loc
      have hn : s6.heap.Ns ce.locals m := hn
      rw [cL] at hn
      exact hRR D s3.heap.objs.size s6 m H5 I7 qq hn (I3.fpOk (Nat.le_refl _) nC)
    · have ti := T.item (X.blk s3 H3 scope ce fp) rfl rfl rfl hc i [] s5 _ H5 (fun _ _ => False) I5 (stat I5 n5) st5 go
      refine thnF ti fun r s6 ⟨u, hr, h6⟩ => ?_
      subst hr
      refine thnF h6 fun _ s7 ⟨x, H7, I7, r7, y7, st7, n7⟩ => ?_
      have I7' := I7.pinned (stat I7 n7) (T.obj _ _ st7)
      refine thnF (pg.run _ s7 _ H7 x u _ I7' r7 (step x H7 y7)) fun _ s8 ⟨σ8, H8, I8, hw8, q8⟩ => ?_
      refine thnF (pt.run _ s8 σ8 H8 _ I8 q8) fun b s9 ⟨H9, I9, q9⟩ => ?_
      -- the turn's end
      have fin : ∀ {s' : Shared} {H' : Hp}, Inv (X.blk s3 H3 scope ce fp) ([] ++ pinsAt fp s7.heap) σ8 H' s' → Nx H' → ∃ m, m < n ∧ ∃ i H', Inv (X.blk s3 H3 scope ce fp) [] (wipe σ (own.map (·.2))) H' s' ∧ tn i s'.heap ∧ (∀ b ∈ fp, H' b = none) ∧ W i m H' := fun {s' H'} I' nx => by
        obtain ⟨m', hm, w'⟩ := hNx H' nx
        have pin' : ∀ b ∈ fp, ∀ o, s7.heap.get? b = some o → s'.heap.get? b = some o ∧ H' b = none := fun b hb o e =>
          let z := I'.pin (b, o) (List.mem_append_right _ (List.mem_append_right _ (mem_pinsAt hb e)))
          ⟨z.1, z.2.1⟩
        have hl : (wipe σ (own.map (·.2))).length = σ8.length := by rw [← hw8, wipe_length]
        refine ⟨m', hm, i + 1, H', (I'.unpinned (pins := [])).weak hl (fun j v e => ?_), T.keep _ _ _ st7 fun b hb o e => (pin' b hb o e).1, fun b hb => ?_, w'⟩
        · rw [← hw8] at e
          exact (wipe_some e).1
        · obtain ⟨o, e, _⟩ := T.obj _ _ st7 b hb
          exact (pin' b hb o e).2
      cases b with
      | false =>
        simp only [Bool.false_eq_true, if_false] at q9 ⊢
        exact fin I9 q9
      | true =>
        simp only [if_true] at q9 ⊢
        refine thnF (pe.run _ s9 σ8 H9 _ I9 q9) fun z s10 ⟨yv, H10, I10, r10, cb, S0, n0, ey, hD10, hz10, nx⟩ => ?_
        subst ey
        obtain ⟨tkz, rfl⟩ := (show ∃ t, z = Value.int cb t from r10)
        exact addO_ok (X := X.blk s3 H3 scope ce fp) I10 hD10 hz10 fun s11 I11 => fin I11 nx
  exact codeAny_compStart_set loop (T.self X.A 0 _ _ _ st4 loop)
/-- as a value -/
theorem pe_scI {elt tg iter : Expr} {ifs : List Expr} {scope : Scope} {own : List (PySem.Str × Nat)} {pos : Pos} {wi : TI} {g : TG} {tt : TT} {te : TE} (hc : X.calm = true) (hN : X.N.Nodup) (hi : PI X tg iter wi) (ok : BlkOk X.N X.env.scope scope own)
    (hg : ∀ (s : Shared) (H : Hp) (C : Addr) (cl : List (PySem.Str × Addr)) (fp : List Addr), PG (X.blk s H scope (compEnvC scope cl C X.env) fp) tg g) (ht : ∀ (s : Shared) (H : Hp) (C : Addr) (cl : List (PySem.Str × Addr)) (fp : List Addr), PTs (X.blk s H scope (compEnvC scope cl C X.env) fp) ifs tt)
    (he : ∀ (s : Shared) (H : Hp) (C : Addr) (cl : List (PySem.Str × Addr)) (fp : List Addr), PE (X.blk s H scope (compEnvC scope cl C X.env) fp) elt te) (hs : ∀ x, foldedSetIterable iter X.env x = pure x := by intro _; rfl) :
    PE X (.SetComp elt [⟨tg, iter, ifs, 0⟩] scope pos) (tScI X.w wi g tt te (own.map (·.2))) := by
  refine ⟨fun pins s σ H Q I h => ?_⟩
  rw [eval_SetComp]
  refine scI_core hc hN I hi ok hg ht he hs h fun D C s' m H' I' q hn f => ⟨m, hn, fun h'' sb => ?_⟩
  obtain ⟨f0, f1, f2, f3, f4, f5⟩ := f
  exact ⟨.ref D, H', I'.turned (t' := s'.toks) (fun b o hb e => (sb.2 b hb).trans e) f0 f1 f3 f4 f5, rfl, q⟩
end
end
end NK

set_option Elab.async false
set_option linter.all false
set_option maxRecDepth 100000
set_option maxHeartbeats 2000000
/-! NK11: dicts, sets, len; methods, making, own ==; isinstance; slices. -/
namespace NK
open PySem L2

/-! ### dicts with keys of one kind -/
def valU (kvs : List (Key × U)) (k : Key) : Option U := (kvs.find? fun kv => decide (kv.1 = k)).map (·.2)
def putU (kvs : List (Key × U)) (k : Key) (v : U) : List (Key × U) :=
  if (kvs.any fun kv => decide (kv.1 = k)) = true then kvs.map (fun kv => if kv.1 = k then (kv.1, v) else kv) else kvs ++ [(k, v)]
def keyU (u : U) : Option Key := match u with
  | .int i => some (.inl i)
  | .str x => some (.inr x)
  | _ => none
section
variable {T : Tb} {c : Cn}
theorem RpK.length : ∀ {us : List (Key × U)} {vs : List (Key × V)}, RpK T c us vs → us.length = vs.length
  | _, _, .nil => rfl
  | _, _, .cons _ t => by simp [RpK.length t]
theorem RpK.any : ∀ {us : List (Key × U)} {vs : List (Key × V)} (k : Key), RpK T c us vs → (us.any fun kv => decide (kv.1 = k)) = (vs.any fun kv => decide (kv.1 = k))
  | _, _, _, .nil => rfl
  | _, _, k, .cons _ t => by simp only [List.any_cons, RpK.any k t]
theorem RpK.val : ∀ {us : List (Key × U)} {vs : List (Key × V)} {k : Key}, RpK T c us vs → (∀ u, valU us k = some u → ∃ v, valV vs k = some v ∧ Rp T c u v) ∧ (valU us k = none → valV vs k = none)
  | _, _, _, .nil => ⟨fun u h => by simp [valU] at h, fun _ => rfl⟩
  | _, _, k, .cons (k := k') (u := u0) (v := v0) (us := us) (vs := vs) r t => by
    obtain ⟨h1, h2⟩ := RpK.val (k := k) t
    by_cases e : k' = k
    · subst e
      refine ⟨fun u h => ?_, fun h => ?_⟩
      · simp [valU] at h
        subst h
        exact ⟨v0, by simp [valV], r⟩
      · simp [valU] at h
    · have a : valU ((k', u0) :: us) k = valU us k := by simp [valU, List.find?, e]
      have b : valV ((k', v0) :: vs) k = valV vs k := by simp [valV, List.find?, e]
      rw [a, b]
      exact ⟨h1, h2⟩
theorem RpK.mapPut (k : Key) {u : U} {v : V} (q : Rp T c u v) : ∀ {us : List (Key × U)} {vs : List (Key × V)}, RpK T c us vs → RpK T c (us.map fun kv => if kv.1 = k then (kv.1, u) else kv) (vs.map fun kv => if kv.1 = k then (kv.1, v) else kv)
  | _, _, .nil => .nil
  | _, _, .cons (k := k') r t => by
    simp only [List.map_cons]
    by_cases e : k' = k
    · rw [if_pos e, if_pos e]; exact .cons q (RpK.mapPut k q t)
    · rw [if_neg e, if_neg e]; exact .cons r (RpK.mapPut k q t)
theorem RpK.snoc {k : Key} {u : U} {v : V} (q : Rp T c u v) : ∀ {us : List (Key × U)} {vs : List (Key × V)}, RpK T c us vs → RpK T c (us ++ [(k, u)]) (vs ++ [(k, v)])
  | _, _, .nil => .cons q .nil
  | _, _, .cons r t => .cons r (RpK.snoc q t)
theorem RpK.put {us : List (Key × U)} {vs : List (Key × V)} {u : U} {v : V} (k : Key) (h : RpK T c us vs) (q : Rp T c u v) : RpK T c (putU us k u) (putK vs k v) := by
  unfold putU putK
  rw [h.any k]
  by_cases a : (vs.any fun kv => decide (kv.1 = k)) = true
  · rw [if_pos a, if_pos a]; exact h.mapPut k q
  · rw [if_neg a, if_neg a]; exact h.snoc q
theorem key_at {u : U} {v : V} {k : Key} (r : Rp T c u v) (e : keyU u = some k) : v = kV k := by
  cases u with
  | int i => cases e; cases r; rfl
  | str x => cases e; cases r; rfl
  | _ => cases e
end
def dictAt (u : U) (st : Sto) : Option (Nat × List (Key × U)) := match u with
  | .loc i => match st[i]? with
    | some (.dK kvs) => some (i, kvs)
    | _ => none
  | _ => none
theorem dict_at {T : Tb} {c : Cn} {st : Sto} {H : Hp} (h : RH T c st H) {u : U} {v : V} {i : Nat} {kvs : List (Key × U)} (r : Rp T c u v) (e : dictAt u st = some (i, kvs)) : u = .loc i ∧ st[i]? = some (.dK kvs) ∧ ∃ vs, v = .ref (c.ρ i) ∧ H (c.ρ i) = some (.dK vs) ∧ RpK T c kvs vs := by
  cases u with
  | loc j =>
    obtain ⟨_, rfl⟩ := r.inv_loc
    dsimp only [dictAt] at e
    split at e
    · rename_i kvs' q
      cases e
      obtain ⟨vs, h1, h2⟩ := h.at_dK q
      exact ⟨rfl, q, vs, rfl, h1, h2⟩
    · cases e
  | _ => cases e
def eDict : ME := fun _ st => .ok (.loc st.length) (st ++ [.dK []])
def fDGet (o i : U) (st : Sto) : Out U := match dictAt o st, keyU i with
  | some (_, kvs), some k => match valU kvs k with
    | some w => .ok w st
    | none => .bad
  | _, _ => .bad
/-- i in d (neg: not in) -/
def fDIn (neg : Bool) (i o : U) (st : Sto) : Out U := match dictAt o st, keyU i with
  | some (_, kvs), some k => .ok (.bl ((valU kvs k).isSome != neg)) st
  | _, _ => .bad
def dput (o i w : U) (st : Sto) : Option Sto := match dictAt o st, keyU i with
  | some (n, kvs), some k => if kvs.length < 16777216 then some (st.set n (.dK (putU kvs k w))) else none
  | _, _ => none
def sDPut (mo mi m : ME) : MS := fun env st => (m env st).st env fun w st1 => (mo env st1).st env fun o st2 => (mi env st2).st env fun i st3 => match dput o i w st3 with
  | some st4 => .next env st4
  | none => .bad
section
variable {X : Cx} {T : Tb} {P : Pin} {Wx : WX} {o i e value : Expr} {es : List Expr} {mo mi m ma mb : ME} {mas : MA} {pos pos' apos p p2 : Pos}
theorem pem_dict : PEm X T P Wx (.Dict [] [] pos) eDict := PE.imp pe_dnewK fun σ H Q ⟨c, env, st, hH, hE, hR⟩ p hp => by
  have l := le_new c p
  have hlt : st.length < (c.new p).n := by show _ < c.n + 1; rw [hH.n]; exact Nat.lt_succ_self _
  have e : V.ref p = V.ref ((c.new p).ρ st.length) := by rw [← hH.n, new_self]
  rw [e]
  exact hR _ _ _ l (hH.new hp (o := .dK []) (x := .dK []) ⟨[], rfl, .nil⟩) (.loc hlt)
theorem units1 {k : Nat} {A : Around} (r : Room k A) : A.units + 1 < cLine := by have := r.units; omega
theorem pem_dget (hu : X.A.units + 1 < cLine) (ho : PEm X T P Wx o mo) (hi : PEm X T P Wx i mi) (hs : NoSl i) : PEm X T P Wx (.Subscript o i pos) (eOp fDGet mo mi) := PE.imp (pe_dget hu ho hi hs) fun σ H Q ⟨c, env, st, hH, hE, hR⟩ => by
  refine (tg_bind hH hE hR).mono fun x H1 ⟨u, c1, st1, l1, hH1, hE1, r1, hR1⟩ => ?_
  refine (tg_bind hH1 hE1 hR1).mono fun y H2 ⟨w, c2, st2, l2, hH2, hE2, r2, hR2⟩ => ?_
  unfold fDGet at hR2
  split at hR2
  · rename_i n kvs k e1 e2
    obtain ⟨rfl, q, vs, rfl, h1, h2⟩ := dict_at hH2 (r1.mono l2) e1
    cases key_at r2 e2
    split at hR2
    · rename_i w' e3
      obtain ⟨v, hv, rv⟩ := h2.val.1 _ e3
      exact ⟨_, v, rfl, by rw [← hv]; exact DGet.k h1, hR2.ret hH2 rv⟩
    · exact hR2.elim
  · exact hR2.elim
theorem din_run {neg : Bool} (σ : L2.St) (H : Hp) (Q : VK) (h : teOf T P Wx (eOp (fDIn neg) mi mo) σ H Q) : teOf T P Wx mi σ H fun y H1 => teOf T P Wx mo σ H1 fun x H2 => ∃ a o, x = .ref a ∧ DGet H2 a y o ∧ Q (.bl (o.isSome != neg)) H2 := by
  obtain ⟨c, env, st, hH, hE, hR⟩ := h
  refine (tg_bind hH hE hR).mono fun x H1 ⟨u, c1, st1, l1, hH1, hE1, r1, hR1⟩ => ?_
  refine (tg_bind hH1 hE1 hR1).mono fun y H2 ⟨w, c2, st2, l2, hH2, hE2, r2, hR2⟩ => ?_
  unfold fDIn at hR2
  split at hR2
  · rename_i n kvs k e1 e2
    obtain ⟨rfl, q, vs, rfl, h1, h2⟩ := dict_at hH2 r2 e1
    cases key_at (r1.mono l2) e2
    refine ⟨_, _, rfl, DGet.k h1, ?_⟩
    have e3 : (valU kvs k).isSome = (valV vs k).isSome := by
      cases q : valU kvs k with
      | none => rw [h2.val.2 q]; rfl
      | some u => obtain ⟨v, hv, _⟩ := h2.val.1 _ q; rw [hv]; rfl
    rw [e3] at hR2
    exact hR2.ret hH2 (.bl _)
  · exact hR2.elim
theorem pcm_din (hu : X.A.units + 1 < cLine) (hi : PEm X T P Wx i mi) (ho : PEm X T P Wx o mo) : PC X .In i o (teOf T P Wx (eOp (fDIn false) mi mo)) := ⟨fun pins s σ H Q I h => (pc_din hu hi ho).run pins s σ H Q I ((din_run (neg := false) σ H Q h).mono fun y H1 h => tgOf.mono h fun x H2 ⟨a, o, e, g, q⟩ => ⟨a, o, e, g, by simpa using q⟩)⟩
theorem pcm_dnotin (hu : X.A.units + 1 < cLine) (hi : PEm X T P Wx i mi) (ho : PEm X T P Wx o mo) : PC X .NotIn i o (teOf T P Wx (eOp (fDIn true) mi mo)) := ⟨fun pins s σ H Q I h => (pc_dnotin hu hi ho).run pins s σ H Q I ((din_run (neg := true) σ H Q h).mono fun y H1 h => tgOf.mono h fun x H2 ⟨a, o, e, g, q⟩ => ⟨a, o, e, g, by simpa using q⟩)⟩
theorem pem_pc {op : CmpOp} {a b : Expr} (h : PC X op a b (teOf T P Wx m)) (h1 : behindInMarks op b = false := by first | exact nobehind _ (by decide) (by decide) | rfl) : PEm X T P Wx (.Compare a [op] [b] pos) m := pe_cmp h h1
theorem ptm_pc {op : CmpOp} {a b : Expr} (h : PC X op a b (teOf T P Wx m)) (h1 : behindInMarks op b = false := by first | exact nobehind _ (by decide) (by decide) | rfl) : PTm X T P Wx (.Compare a [op] [b] pos) (NK.tB m) := PT.imp (pt_cmp h h1) (test_run fun _ _ _ h => h)
theorem psm_dput {s : Stmt} (h : PS X s (L2.sDPut (teOf T P Wx mo) (teOf T P Wx mi) (teOf T P Wx m))) : PSm X T P Wx s (NK.sDPut mo mi m) :=
  PS.imp h fun D σ H ⟨c, env, st, hH, hE, hR⟩ => by
    refine (ts_bind hH hE hR).mono fun x H1 ⟨w, c1, st1, l1, hH1, hE1, r1, hR1⟩ => ?_
    refine (ts_bind hH1 hE1 hR1).mono fun y H2 ⟨o, c2, st2, l2, hH2, hE2, r2, hR2⟩ => ?_
    refine (ts_bind hH2 hE2 hR2).mono fun z H3 ⟨i, c3, st3, l3, hH3, hE3, r3, hR3⟩ => ?_
    split at hR3
    · rename_i st4 q
      unfold dput at q
      split at q
      · rename_i n kvs k e1 e2
        obtain ⟨rfl, q0, vs, e0, h1, h2⟩ := dict_at hH3 (r2.mono l3) e1
        cases key_at r3 e2
        split at q
        · rename_i hz
          cases q
          refine ⟨_, _, e0, DPut.k h1 (by rw [szl, ← h2.length]; exact hz), ?_⟩
          exact ResS.go (D := D) hR3 (hH3.set q0 (fun z => nomatch z) ⟨_, rfl, h2.put k ((r1.mono l2).mono l3)⟩) hE3
        · cases q
      · cases q
    · exact hR3.elim

/-! ### len of a dict, of a set -/
def fLenO : List U → Sto → Out U := fun us st => match us with
  | [.loc i] => match st[i]? with
    | some (.dK kvs) => .ok (.int kvs.length) st
    | some (.iset ks) => .ok (.int ks.length) st
    | _ => .bad
  | _ => .bad
def rLenO (w : World) : List V → Hp → VK → Prop := fun xs H Q => ∃ a, xs = [.ref a] ∧ ((∃ kvs : List (Key × V), H a = some (.dK kvs) ∧ Q (.int kvs.length) H) ∨ ∃ S n, H a = some (SetO w a S n) ∧ Q (.int n) H)
open PySem PyProof.Rows in
theorem call_lenO : CallR X (.builtin "len") (rLenO X.w) := by
  intro pins s σ H xs us Q I r h
  obtain ⟨a, rfl, h⟩ := h
  obtain ⟨u, rfl, rx⟩ := vals1 r
  cases rx
  rcases h with ⟨kvs, h1, q⟩ | ⟨S, n, h1, q⟩
  · exact d_len I (.inl h1) fun t s' I' => ⟨.int kvs.length, H, I', ⟨_, rfl⟩, q⟩
  · obtain ⟨o, es, ep, t, ho, hex, hd, _, _, hl, hf, hn⟩ := (setO_get I h1).setOf (P := X.prog)
    have hsz : (es.size : Int) < 2 ^ 63 := by
      have hl := hl
      have : scanBound = 4096 := rfl
      omega
    exact call_len_set ho hex hd hf hsz ⟨.int n, H, I.tok _, ⟨_, by rw [hn]⟩, q⟩
theorem sim_lenO : CallSim T (rLenO T.w) fLenO := fun Wx c σ st H us xs Q hH r hR => by
  unfold fLenO at hR
  split at hR
  · rename_i i
    obtain ⟨v, vs, rfl, r1, t⟩ := r.inv_cons
    cases t.inv_nil
    obtain ⟨_, rfl⟩ := r1.inv_loc
    split at hR
    · rename_i kvs q
      obtain ⟨vs, h1, h2⟩ := hH.at_dK q
      refine ⟨_, rfl, .inl ⟨vs, h1, ?_⟩⟩
      rw [← h2.length]
      exact hR.ret hH (.int _)
    · rename_i ks q
      obtain ⟨o, h1, h2, _⟩ := hH.act i _ q (fun z => nomatch z)
      have h2' : o = SetO T.w (c.ρ i) (fun k => decide (k ∈ ks)) ks.length := h2
      subst h2'
      exact ⟨_, rfl, .inr ⟨_, _, h1, hR.ret hH (.int _)⟩⟩
    · exact hR.elim
  · exact hR.elim

/-! ### own methods, own classes made -/
theorem zip_none : ∀ {ns : List Str} {vs : List V} {f : Str}, f ∉ ns → (ns.zip vs).lookup f = none
  | [], _, _, _ => rfl
  | _ :: _, [], _, _ => rfl
  | n :: ns, v :: vs, f, h => by
    have ne : (f == n) = false := by
      rw [beq_eq_false_iff_ne]
      rintro rfl
      exact h List.mem_cons_self
    simp only [List.zip_cons_cons, List.lookup, ne]
    exact zip_none fun z => h (List.mem_cons_of_mem _ z)
def isK (k : Nat) (u : U) (st : Sto) : Bool := match asIns u st with
  | some (k', _) => k' == k
  | none => false
def eMeth (k n : Nat) (mf : MF) (dus : List U) (mo : ME) (ma : MA) : ME := fun env st => (mo env st).bind fun o st1 => if isK k o st1 = true then (ma env st1).bind fun us st2 => if (o :: (us ++ dus)).length = n then mf (o :: (us ++ dus)) st2 else .bad else .bad
theorem isK_at {c : Cn} {st : Sto} {H : Hp} (h : RH T c st H) {k : Nat} {u : U} {v : V} (r : Rp T c u v) (e : isK k u st = true) : ∃ a dx vs, v = .ref a ∧ H a = some (.ins (T.cls k) dx ((T.fld k).zip vs)) := by
  unfold isK at e
  split at e
  · rename_i k' us q
    cases beq_iff_eq.mp e
    obtain ⟨a, dx, vs, h1, h2, _⟩ := asIns_at h r q
    exact ⟨a, dx, vs, h1, h2⟩
  · cases e
section
variable {kk k n : Nat} {f C : Addr} {fd : FuncData} {ps : List Str} {mf : MF} {dus : List U} {dvs : List V} {ds : List Value} {x mn : Str} {sp : Sp}
theorem pem_meth {pl : Sem Bool} (tk : Takes X Wx) (F : FnOk X.prog X.w X.K X.mg X.base (L2.CX X.prog X.w) kk f fd ps (spOf T n mf)) (hr : Room kk X.A) (cl : Cls X.K (T.cls k)) (hm : Meth X.K (T.cls k) mn f) (hnf : mn ∉ T.fld k) (hb : Binds X.K fd ps ds) (hd : Vals dvs ds) (hdr : ∀ c, RpL T c dus dvs)
    (ho : PEm X T P Wx o mo) (ha : PAm X T P Wx (e :: es) mas)
    (hst : starEach (e :: es) X.env = (false, eval e X.env) :: starEach es X.env := by rfl) (hpl : (backTo pos (starEach es X.env)).any (·.1) = false := by rfl)
    (ht : eval (.Call (.Attribute o mn apos) (e :: es) [] pos) X.env = (do
      let ov ← eval o X.env
      standAt apos.atName
      let (f, first) ← holding [ov] (getMethod ov mn pl)
      callWith pos f first (backTo pos (starEach (e :: es) X.env)) (backToKw pos (keywordEach [] X.env))) := by rfl) :
    PEm X T P Wx (.Call (.Attribute o mn apos) (e :: es) [] pos) (eMeth k n mf dus mo mas) := by
  refine ⟨fun pins s σ H Q I ⟨c, env, st, hH, hE, hR⟩ => ?_⟩
  refine PySem.W.methodCall_KW (pl := pl) (thn (ho.run pins s σ H _ I (tg_bind hH hE hR)) fun u s1 ⟨x, H1, I1, rx, uo, c1, st1, l1, hH1, hE1, r1, hR1⟩ => ?_) ht
  split at hR1
  · rename_i hk
    obtain ⟨a, dx, vs, rfl, h1⟩ := isK_at hH1 r1 hk
    obtain rfl : u = Value.ref a := rx
    refine getmeth_ok I1 h1 cl hm (zip_none hnf) ?_
    refine PySem.W.callWith_K (first := [.ref a]) (h₀ := X.base) I.ok.mod.kin hm.kp (thn (ha.run pos pins s1 σ H1 _ I1 (tg_bind hH1 hE1 hR1)) fun us s2 ⟨vs, H2, I2, r, us', c2, st2, l2, hH2, hE2, r2, hR2⟩ => ⟨I2.kIn, ?_⟩) hst hpl
    split at hR2
    · rename_i hl
      have r3 : RpL T c2 (uo :: (us' ++ dus)) (.ref a :: (vs ++ dvs)) := .cons (r1.mono l2) (r2.append (hdr c2))
      refine run_fnSD (us := .ref a :: us) (vs := .ref a :: vs) (E := fun σ cls d H => Wx cls d σ H) F hr hb hd (passAt tk σ) I2 (.cons rfl r) ?_
      exact ⟨by rw [← hl]; exact r3.length.symm, c2, _, st2, hH2, r3, hR2.wish fun cls d H h => h⟩
    · exact hR2.elim
  · exact hR1.elim
theorem pem_meth0 {pl : Sem Bool} (tk : Takes X Wx) (F : FnOk X.prog X.w X.K X.mg X.base (L2.CX X.prog X.w) kk f fd ps (spOf T n mf)) (hr : Room kk X.A) (cl : Cls X.K (T.cls k)) (hm : Meth X.K (T.cls k) mn f) (hnf : mn ∉ T.fld k) (hb : Binds X.K fd ps ds) (hd : Vals dvs ds) (hdr : ∀ c, RpL T c dus dvs)
    (ho : PEm X T P Wx o mo)
    (ht : eval (.Call (.Attribute o mn apos) [] [] pos) X.env = (do
      let ov ← eval o X.env
      standAt apos.atName
      let (f, first) ← holding [ov] (getMethod ov mn pl)
      callWith pos f first (backTo pos (starEach [] X.env)) (backToKw pos (keywordEach [] X.env))) := by rfl) :
    PEm X T P Wx (.Call (.Attribute o mn apos) [] [] pos) (eMeth k n mf dus mo aNil) := by
  refine ⟨fun pins s σ H Q I ⟨c, env, st, hH, hE, hR⟩ => ?_⟩
  refine PySem.W.methodCall_KW (pl := pl) (thn (ho.run pins s σ H _ I (tg_bind hH hE hR)) fun u s1 ⟨x, H1, I1, rx, uo, c1, st1, l1, hH1, hE1, r1, hR1⟩ => ?_) ht
  split at hR1
  · rename_i hk
    obtain ⟨a, dx, vs, rfl, h1⟩ := isK_at hH1 r1 hk
    obtain rfl : u = Value.ref a := rx
    refine getmeth_ok I1 h1 cl hm (zip_none hnf) ?_
    change ResG T Wx c1 σ (Rp T) (if (uo :: ([] ++ dus)).length = n then mf (uo :: ([] ++ dus)) st1 else .bad) Q at hR1
    split at hR1
    · rename_i hl
      have r3 : RpL T c1 (uo :: ([] ++ dus)) (.ref a :: ([] ++ dvs)) := .cons r1 (hdr c1)
      refine PySem.W.callWith_K0 (first := [.ref a]) I1.kIn hm.kp (run_fnSD (us := [.ref a]) (vs := [.ref a]) (E := fun σ cls d H => Wx cls d σ H) F hr hb hd (passAt tk σ) I1 (.cons rfl .nil) ?_)
      exact ⟨by rw [← hl]; exact r3.length.symm, c1, _, st1, hH1, r3, hR1.wish fun cls d H h => h⟩
    · exact hR1.elim
  · exact hR1.elim
theorem RH.grow {c : Cn} {st : Sto} {H : Hp} (h : RH T c st H) {p : Addr} (hp : H p = none) (o : HO) : RH T c st (L2.upd H p o) := by
  refine ⟨h.n, fun a u e => ?_, fun i ob e d => ?_, h.inj⟩
  · rw [upd_ne (fun z => by rw [z, h.F_new hp] at e; cases e)]
    exact h.sub a u e
  · obtain ⟨x, h1, h2, h3⟩ := h.act i ob e d
    exact ⟨x, by rw [upd_ne (h.ne_new hp e d)]; exact h1, h2, h3⟩
def eMake (k n : Nat) (mf : MF) (dus : List U) (ma : MA) : ME := fun env st => (ma env st).bind fun us st1 => if (U.loc st1.length :: (us ++ dus)).length = n then (mf (.loc st1.length :: (us ++ dus)) (st1 ++ [.ins k []])).bind fun r st2 => match r with
  | .non => .ok (.loc st1.length) st2
  | _ => .bad else .bad
theorem run_makeSD {CX : CXT} {E : L2.St → XK} {pins : List (Addr × Obj)} {σ : L2.St} {H : Hp} {s : Shared} {Q : VK} {us : List Value} {vs : List V} (M : Mk X.K C f) (F : FnOk X.prog X.w X.K X.mg X.base CX kk f fd ps sp) (hr : Room (kk + 1) X.A) (hb : Binds X.K fd ps ds) (hd : Vals dvs ds)
    (hx : PassesAt CX X σ (E σ)) (I : Inv X pins σ H s) (r : Vals vs us)
    (h : ∀ x dx, H x = none → H dx = none → dx ≠ x → sp (.ref x :: (vs ++ dvs)) (L2.upd (L2.upd H dx (.own x)) x (.ins C dx [])) (fun v H2 => v = .non ∧ Q (.ref x) H2) (E σ)) :
    wpAny (model X.prog X.w) X.A (call (.ref C) us) (EP X pins σ Q) X.xe s := by
  have hq := h (s.heap.objs.size + 1) s.heap.objs.size (I.hok.fresh (Nat.le_succ _)) (I.hok.fresh (Nat.le_refl _)) (Nat.ne_of_lt (Nat.lt_succ_self _))
  have I2 := Inv.made (C := C) I
  have r2 : Vals (V.ref (s.heap.objs.size + 1) :: (vs ++ dvs)) (Value.ref (s.heap.objs.size + 1) :: (us ++ ds)) := .cons rfl (r.append hd)
  have hl : (Value.ref (s.heap.objs.size + 1) :: us ++ ds).length = ps.length := by
    have e := r2.length
    rw [F.len _ _ _ _ hq] at e
    exact e.symm
  refine wpAny_call (L2.make_map (f := f) I.kIn M.makes M.init (beq_iff_eq.mp M.fn) (codeAny_mono (F.run _ X.stack _ _ ⟨Value.ref (s.heap.objs.size + 1) :: us, []⟩ (Value.ref (s.heap.objs.size + 1) :: (us ++ ds)) _ _ (E σ) (hr.make C us [])
    (I2.env0.make C us []) (hb _ (Value.ref (s.heap.objs.size + 1) :: us) I2.kIn hl) r2 hq) fun r s' hq' => ?_))
  cases r with
  | error e => exact hx pins _ _ e s' I2 hq'
  | ok fl =>
    cases fl with
    | ret u =>
      obtain ⟨v, H', I3, rv, ev, q3⟩ := I2.after hq'
      subst ev
      exact ⟨rv, ⟨V.ref (s.heap.objs.size + 1), H', I3, rfl, q3⟩⟩
    | next => exact False.elim hq'
    | brk => exact False.elim hq'
    | cont => exact False.elim hq'
theorem pem_make (tk : Takes X Wx) (M : Mk X.K (T.cls k) f) (F : FnOk X.prog X.w X.K X.mg X.base (L2.CX X.prog X.w) kk f fd ps (spOf T n mf)) (hr : Room (kk + 1) X.A) (hg : Gl X x) (hm : X.mg x = some (.ref (T.cls k))) (hb : Binds X.K fd ps ds) (hd : Vals dvs ds) (hdr : ∀ c, RpL T c dus dvs)
    (ha : PAm X T P Wx (e :: es) mas) (hdb : (x == ("__debug__" : Str)) = false := by decide) (he : starEach (e :: es) X.env = (false, eval e X.env) :: starEach es X.env := by rfl) (hpl : (backTo pos (starEach es X.env)).any (·.1) = false := by rfl) :
    PEm X T P Wx (.Call (.Name x p) (e :: es) [] pos) (eMake k n mf dus mas) := by
  refine ⟨fun pins s σ H Q I ⟨c, env, st, hH, hE, hR⟩ => ?_⟩
  refine wpAny_Call_Name_kw (ld_glob I hg hm ?_ hdb)
  refine PySem.W.callWith_K (h₀ := X.base) I.ok.mod.kin M.kp (thn (ha.run pos pins s σ H _ I (tg_bind hH hE hR)) fun us s1 ⟨vs, H1, I1, r, us', c1, st1, l1, hH1, hE1, r1, hR1⟩ => ⟨I1.kIn, ?_⟩) he hpl
  split at hR1
  · rename_i hl
    refine run_makeSD (E := fun σ cls d H => Wx cls d σ H) M F hr hb hd (passAt tk σ) I1 r fun x dx nx nd ne => ?_
    have hH2 := hH1.grow nd (.own x)
    have nx2 : L2.upd H1 dx (.own x) x = none := by rw [upd_ne (Ne.symm ne)]; exact nx
    have hH3 := hH2.new nx2 (o := .ins k []) (x := .ins (T.cls k) dx []) ⟨dx, [], by simp, Nat.zero_le _, .nil⟩
    have l2 := le_new c1 x
    have hlt : st1.length < (c1.new x).n := by show _ < c1.n + 1; rw [hH1.n]; exact Nat.lt_succ_self _
    have ex : V.ref x = V.ref ((c1.new x).ρ st1.length) := by rw [← hH1.n, new_self]
    have r3 : RpL T (c1.new x) (.loc st1.length :: (us' ++ dus)) (.ref x :: (vs ++ dvs)) := .cons (by rw [ex]; exact .loc hlt) ((r1.mono l2).append (hdr _))
    refine ⟨by rw [← hl]; exact r3.length.symm, c1.new x, _, _, hH3, r3, ?_⟩
    cases q : mf (.loc st1.length :: (us' ++ dus)) (st1 ++ [.ins k []]) with
    | ok u st2 =>
      rw [q] at hR1
      intro c3 v H3 l3 hH4 r4
      cases u with
      | non =>
        cases r4.inv_non
        refine ⟨rfl, ?_⟩
        rw [ex, ← l3.ρ _ hlt]
        exact hR1 c3 _ H3 (l2.trans l3) hH4 (.loc (Nat.lt_of_lt_of_le hlt l3.n))
      | _ => exact hR1.elim
    | exc x2 st2 =>
      rw [q] at hR1
      exact fun c3 cls d H3 l3 hH4 e4 => hR1 c3 cls d H3 (l2.trans l3) hH4 e4
    | bad => rw [q] at hR1; exact hR1.elim
  · exact hR1.elim
end
end
end NK

set_option Elab.async false
set_option linter.all false
set_option maxRecDepth 100000
set_option maxHeartbeats 2000000
/-! NK12: enumerate over a tuple (after HandS.Iter's rule for lists). -/
namespace PySem
open AutoSeq1 (wpAny_loadPart')
theorem nk_enumerate_newT (l : Addr) (items : Array Value) (n : Nat) (dct : Option Addr) (sl : Array (Option Value)) :
    Meets (Builtin.«enumerate.__new__» ⟨[.type "enumerate", .ref l], []⟩) (fun _ R s => s.heap.get? l = some { cls := .type "tuple", dict := dct, data := .seq items n, slots := sl } ∧
      R (.ok (.ret (.ref (s.heap.push { cls := .type "tuple_iterator", data := .fields #[.ref l, .int 0 0] }).objs.size)))
        { s with heap := (s.heap.push { cls := .type "tuple_iterator", data := .fields #[.ref l, .int 0 0] }).push { cls := .type "enumerate", data := .fields #[.none, .bool false, .ref s.heap.objs.size, rawInt 0, .none, .none] } }) :=
  .of_wp fun prog w A R s h => by
    obtain ⟨hp, g, d, tk, os⟩ := s; obtain ⟨hl, h⟩ := h
    have hsub := sub_enumerate
    have hL : Heap.IsTuple (Shared.heap ⟨hp, g, d, tk, os⟩) l items := ⟨_, hl, rfl, n, rfl⟩
    wp_walk using wpAny_loadPart' hl
    refine wpAny_stack_any fun st => wpAny_pure ?_
    split
    · rename_i c _ _ _ _ _
      cases (c == Value.type "enumerate")
      · wp_walk using wpAny_loadPart' hl, wpAny_pyIter_tuple hL
        exact ⟨_, rfl, h⟩
      · wp_walk using wpAny_loadPart' hl, wpAny_pyIter_tuple hL
        exact ⟨_, rfl, h⟩
    · wp_walk using wpAny_loadPart' hl, wpAny_pyIter_tuple hL
      exact ⟨_, rfl, h⟩
section
variable {prog : Program} {w : World} {A : Around} {E : Value → Shared → Prop} {s : Shared}
theorem nk_call_enumerate_tuple {l : Addr} {items : Array Value} {Q : Value → Shared → Prop} (hL : s.heap.IsTuple l items)
    (h : ∀ h', IsEnum h' (s.heap.objs.size + 1) s.heap.objs.size 0 .none → h'.IsTupleIter s.heap.objs.size l 0 → h'.objs.size = s.heap.objs.size + 2 →
      (∀ b o, s.heap.get? b = some o → h'.get? b = some o) → Q (.ref (s.heap.objs.size + 1)) { s with heap := h' }) :
    wpAny (model prog w) A (call (.type "enumerate") [.ref l]) Q E s := by
  obtain ⟨⟨c, dct, dt, sl⟩, hl, hc, n, hd⟩ := hL
  replace hc : c = .type "tuple" := hc
  replace hd : dt = .seq items n := hd
  subst hc hd
  refine callType_new F.called_enumerate (by decide) (F.typeCall_enumerate_1 _) (F.newCall_enumerate_1 _) (fun obj => F.args_object_init_2 obj _) F.entry_enumerate_new
    (nk_enumerate_newT l items n dct sl) ⟨hl, ?_⟩
  have hz : (s.heap.push { cls := .type "tuple_iterator", data := .fields #[.ref l, .int 0 0] }).objs.size = s.heap.objs.size + 1 := Heap.size_push ..
  show _ ∧ _
  rw [hz]
  have he : IsEnum ((s.heap.push { cls := .type "tuple_iterator", data := .fields #[.ref l, .int 0 0] }).push
      { cls := .type "enumerate", data := .fields #[.none, .bool false, .ref s.heap.objs.size, rawInt 0, .none, .none] }) (s.heap.objs.size + 1) s.heap.objs.size 0 .none := by
    have := Heap.get?_push_size (s.heap.push { cls := .type "tuple_iterator", data := .fields #[.ref l, .int 0 0] })
      (o := { cls := .type "enumerate", data := .fields #[.none, .bool false, .ref s.heap.objs.size, rawInt 0, .none, .none] }) rfl
    rw [hz] at this; exact this
  refine ⟨⟨_, he, rfl⟩, h _ he ⟨_, Heap.get?_push_of_some _ (Heap.get?_push_size _ rfl), rfl, rfl⟩ (by rw [Heap.size_push, hz]) fun b o x => Heap.get?_push_of_some _ (Heap.get?_push_of_some _ x)⟩
end
end PySem
namespace NK
section
open PySem PySem.Spec PyProof.Rows L2
/-- the tuple at a, each item in a new pair -/
def IteT (K : PySem.W.Frag) (a : Addr) : It :=
  ⟨fun i H => ∃ (xs : List V) (x : V), SqT K H a xs ∧ xs[i]? = some x, fun i H v H' => ∃ T x, v = .ref T ∧ H T = none ∧ H' = L2.upd H T (.tup [.int (i : Nat), x]) ∧ ∀ xs, SqT K H a xs → xs[i]? = some x, fun i H => ∃ xs : List V, SqT K H a xs ∧ xs.length ≤ i⟩
theorem tup_inj {X : Cx} {pins : List (Addr × Obj)} {σ : L2.St} {H : Hp} {s : Shared} {a : Addr} {xs ys : List V} (I : Inv X pins σ H s) (h : SqT X.K H a xs) (g : SqT X.K H a ys) : xs = ys := by
  obtain ⟨its, r, t, _⟩ := I.tuple h
  obtain ⟨its', r', t', _⟩ := I.tuple g
  obtain ⟨o, h1, _, n, h2⟩ := t
  obtain ⟨o', h1', _, n', h2'⟩ := t'
  rw [h1] at h1'
  cases h1'
  rw [h2] at h2'
  have e : its = its' := by
    have := congrArg Array.toList (Data.seq.inj h2').1
    simpa using this
  subst e
  exact Vals.inj r r'
theorem turn_enumT {P : Program} {w : World} {K : PySem.W.Frag} {elts : List Expr} {kk : Nat} {tpos : Pos} (a e it : Addr) (hai : a ≠ it) (hae : a ≠ e) :
    Turn P w K (.Tuple elts kk tpos) (IteT K a) [e, it] e (fun i h => (∃ old, IsEnum h e it ((i : Nat) : Int) old) ∧ h.IsTupleIter it a i ∧ e ≠ it) where
  mem := by simp
  obj := fun i h st b hb => by
    obtain ⟨⟨old, he⟩, ⟨o, ho, hc, hd⟩, _⟩ := st
    have e' : b = e ∨ b = it := by simpa using hb
    rcases e' with z | z
    · rw [z]; exact ⟨_, he, fun v q => nomatch q⟩
    · rw [z]; exact ⟨o, ho, fun v q => by rw [hd] at q; cases q⟩
  keep := fun i h h' st k => let ⟨⟨old, he⟩, hi, hne⟩ := st; ⟨⟨old, k e (by simp) _ he⟩, hi.at fun o q => k it (by simp) o q, hne⟩
  item := by
    intro X hP hw hK hc i pins s σ H E I hf st hg
    subst hP hw hK
    obtain ⟨⟨old, he⟩, hit, hne⟩ := st
    obtain ⟨xs, x, hq, hx⟩ := hg
    obtain ⟨its, rv, p, hz⟩ := I.tuple hq
    obtain ⟨u, hu, ru⟩ := rv.get hx
    have hel : e < s.heap.objs.size := Heap.lt_size he
    have hil : it < s.heap.objs.size := by obtain ⟨_, q, _⟩ := hit; exact Heap.lt_size q
    have hlen : i < its.toArray.size := by
      have := (List.getElem?_eq_some_iff.mp hu).1
      simpa using this
    refine wpAny_pyNext_enum_itemD (Draws.tuple (A := X.A.in1) (I.ok.hd hc) it a hai its.toArray) he ⟨hit, p⟩ hlen hne (by simp [hne, Ne.symm hae]) fun x' h' tk hPx ho hs' hT hsz hk => ?_
    have ex : x' = u := by
      have hPx' : its.toArray[i]? = some x' := hPx
      have : its[i]? = some x' := by simpa using hPx'
      rw [hu] at this
      exact (Option.some.inj this).symm
    subst ex
    obtain ⟨hit', _⟩ := hs'
    refine ⟨_, rfl, wpAny_letOwnedTupleGo_enum (s := { s with heap := h', toks := tk + 1 }) ho fun h'' he' sb => ?_⟩
    have hT2 : h''.get? s.heap.objs.size = some { cls := .type "tuple", data := .seq #[.int i tk, x'] } := (sb.2 _ (Nat.ne_of_gt hel)).trans hT
    have new : ObjOk X.prog X.w (L2.upd H s.heap.objs.size (.tup [.int (i : Nat), x])) h'' s.heap.objs.size (.tup [.int (i : Nat), x]) :=
      ⟨by show 2 ≤ sizeLine; decide, [.int i tk, x'], .cons ⟨_, rfl⟩ (.cons ru .nil), ⟨_, hT2, rfl, _, rfl⟩⟩
    have I1 : Inv X pins σ (L2.upd H s.heap.objs.size (.tup [.int (i : Nat), x])) { s with heap := h'', toks := tk + 1 } :=
      I.turnedNew (ch := [e, it]) (fun b ob hb q => (sb.2 b (fun z => hb (by simp [z]))).trans (hk b ob (fun z => hb (by simp [z])) (fun z => hb (by simp [z])) q)) hf (Nat.le_refl _) new
    refine ⟨.ref s.heap.objs.size, _, I1, rfl, ⟨_, x, rfl, I.hok.fresh (Nat.le_refl _), rfl, fun ys hy => by rw [tup_inj I hy hq]; exact hx⟩, ⟨⟨x', ?_⟩, hit'.at fun o q => (sb.2 it (Ne.symm hne)).trans q, hne⟩, fun b hb => ?_⟩
    · have e1 : ((i + 1 : Nat) : Int) = (i : Int) + 1 := by omega
      rw [e1]; exact he'
    · have hb' : b < s.heap.objs.size := by
        have e' : b = e ∨ b = it := by simpa using hb
        rcases e' with z | z
        · rw [z]; exact hel
        · rw [z]; exact hil
      rw [upd_ne (Nat.ne_of_lt hb')]
      exact (hf b hb).1
  done := by
    intro X hP hw hK hc i pins s σ H E I hf st hg
    subst hP hw hK
    obtain ⟨⟨old, he⟩, hit, hne⟩ := st
    obtain ⟨xs, hq, hx⟩ := hg
    obtain ⟨its, rv, p, hz⟩ := I.tuple hq
    obtain ⟨f0, f1, f2, f3, f4, f5⟩ := hf it (by simp)
    have hl := rv.length
    have hTe : s.TypeIs (.ref e) "enumerate" := ⟨_, he, rfl⟩
    unfold pyNext
    refine wpAny_bind (wpAny_attempt (wpAny_callSpecial?_slot (name := Str.ofString "__next__") hTe PySem.F.slot_enumerate_next
      (wpAny_call_entry PySem.F.slot_enumerate_next hTe PySem.F.entry_enumerate_next ?_ (PySem.F.args_enumerate_next_1 _))))
    show wpAny _ _ (field (.ref e) 2 >>= _) _ _ _
    refine wpAny_bind (wpAny_field he rfl (x := .ref it) rfl ?_)
    refine wpAny_bind (wpAny_nextOf_tuple_end (A := X.A.in1) (I.ok.hd hc) hit p (by simp; omega) fun h' x he' hx' => ?_)
    obtain ⟨o, ho, hcx⟩ := hx'
    refine wpAny_bind (wpAny_isInstance (T := "StopIteration") (b := true) ⟨o, ho, hcx⟩ isSubtype_stop ?_)
    exact wpAny_pure ⟨rfl, I.turned (t' := s.toks) (fun b o hb q => he' b o hb q) f0 f1 f3 f4 f5⟩
  self := fun A i s Q E st h => let ⟨⟨_, he⟩, _⟩ := st; wpAny_pyIter_enum he h
def iEnumA2 (K : PySem.W.Frag) (ta : TA) : TI := fun σ H R => ta σ H fun vs H1 => ∃ a xs, vs = [.ref a] ∧ ((SqL K H1 a xs ∧ R (Ite K a) H1) ∨ (SqT K H1 a xs ∧ R (IteT K a) H1))
theorem pi_enumA {X : Cx} {e : Expr} {ta : TA} {p pos tpos : Pos} {elts : List Expr} {kk : Nat} (hg : Gl X "enumerate") (hm : X.mg "enumerate" = none) (ha : PA X [e] ta) (hs : starEach [e] X.env = [(false, eval e X.env)] := by rfl) :
    PI X (.Tuple elts kk tpos) (.Call (.Name "enumerate" p) [e] [] pos) (iEnumA2 X.K ta) := by
  refine ⟨fun pins s σ H R I h => ?_⟩
  refine Call_ (ld_blt I hg hm boot_enumerate (PyProof.Rows.callWith_type1 (thn (ha.run pos pins s σ H _ I h) fun us s1 ⟨vs, H1, I1, r1, q1⟩ => ?_) hs rfl))
  obtain ⟨a, xs, ex, hq⟩ := q1
  subst ex
  have fresh2 : ∀ b ∈ [s1.heap.objs.size + 1, s1.heap.objs.size], FpOk X pins H1 b := fun b hb => by
    have e' : b = s1.heap.objs.size + 1 ∨ b = s1.heap.objs.size := by simpa using hb
    have hle : s1.heap.objs.size ≤ b := by
      rcases e' with z | z
      · rw [z]; exact Nat.le_add_right _ _
      · rw [z]; exact Nat.le_refl _
    exact I1.fpOk hle (I1.hok.fresh hle)
  cases r1 with
  | cons r rr =>
    cases rr
    cases r
    rcases hq with ⟨hq, q⟩ | ⟨hq, q⟩
    · obtain ⟨its, rv, p', hz⟩ := I1.list hq
      refine call_enumerate_list p'.isList fun h' he hit hsz hk => wpAny_pyIter_enum he ?_
      have I2 : Inv X pins σ H1 { s1 with heap := h' } := I1.kept (t' := s1.toks) hk
      exact ⟨s1.heap.objs.size + 1, [s1.heap.objs.size + 1, s1.heap.objs.size], _, _, H1, rfl, I2, turn_enum a (s1.heap.objs.size + 1) s1.heap.objs.size, ⟨⟨.none, he⟩, hit, Nat.succ_ne_self _⟩, fresh2, q⟩
    · obtain ⟨its, rv, p', hz⟩ := I1.tuple hq
      have hal : a < s1.heap.objs.size := by obtain ⟨o, ho, _⟩ := p'; exact Heap.lt_size ho
      refine nk_call_enumerate_tuple p' fun h' he hit hsz hk => wpAny_pyIter_enum he ?_
      have I2 : Inv X pins σ H1 { s1 with heap := h' } := I1.kept (t' := s1.toks) hk
      exact ⟨s1.heap.objs.size + 1, [s1.heap.objs.size + 1, s1.heap.objs.size], _, _, H1, rfl, I2, turn_enumT a (s1.heap.objs.size + 1) s1.heap.objs.size (Nat.ne_of_lt hal) (Nat.ne_of_lt (Nat.lt_succ_of_lt hal)), ⟨⟨.none, he⟩, hit, Nat.succ_ne_self _⟩, fresh2, q⟩
end
section
open PySem L2
/-- enumerate over a list or a tuple -/
def iEnumA (ma : MA) : MI := fun env st => (ma env st).bind fun us st1 => match us with
  | [.tup us] => .ok ⟨enumFrom 0 us, fun _ => True⟩ st1
  | [.lst us] => .ok ⟨enumFrom 0 us, fun _ => True⟩ st1
  | [.scr us] => .ok ⟨enumFrom 0 us, fun _ => True⟩ st1
  | [.loc i] => match st1[i]? with
    | some (.lst us) => .ok ⟨enumFrom 0 us, fun s => s[i]? = some (Ob.lst us)⟩ st1
    | _ => .bad
  | _ => .bad
theorem walk_of_enumT {T : Tb} {c0 : Cn} {a : Addr} {us : List U} {g : Sto → Prop} (h : ∀ c st H, Le c0 c → RH T c st H → g st → ∃ vs, SqT T.K H a vs ∧ RpL T c us vs) : WalkM T c0 (IteT T.K a) (enumFrom 0 us) g := by
  refine ⟨fun H => ∃ vs, SqT T.K H a vs ∧ vs.length = us.length, fun i H v H' => ∃ t x, v = .ref t ∧ H t = none ∧ H' = L2.upd H t (.tup [.int (i : Nat), x]) ∧ ∀ xs, SqT T.K H a xs → xs[i]? = some x, ⟨fun i H hi ⟨vs, h1, h2⟩ => ?_, fun H ⟨vs, h1, h2⟩ => ⟨vs, h1, ?_⟩, fun i H x H' hi _ y => y⟩, fun c st H l hH hg => ?_⟩
  · have hi' : i < vs.length := by rw [h2, ← enum_len 0 us]; exact hi
    exact ⟨vs, vs[i], h1, by simp [hi']⟩
  · rw [enum_len, h2]; exact Nat.le_refl _
  · obtain ⟨vs, h1, r⟩ := h c st H l hH hg
    refine ⟨⟨vs, h1, r.length.symm⟩, fun i x H' hi y => ?_⟩
    obtain ⟨t, z, rfl, ht, rfl, hx⟩ := y
    obtain ⟨u, hu, ru⟩ := r.getV (hx vs h1)
    obtain ⟨n1, n2, n3⟩ := new_pair hH (.int (i : Int)) ru ht
    refine ⟨_, _, enum_get 0 us i u hu, n1, n2, ?_⟩
    rw [Nat.zero_add]
    exact n3
theorem pim_enumA {X : Cx} {T : Tb} {P : Pin} {Wx : WX} {e : Expr} {ma : MA} {p pos tpos : Pos} {elts : List Expr} {kk : Nat} (hK : X.K = T.K) (hg : Gl X "enumerate") (hm : X.mg "enumerate" = none) (ha : PAm X T P Wx [e] ma) (hs : starEach [e] X.env = [(false, eval e X.env)] := by rfl) :
    PIm X T P Wx (.Tuple elts kk tpos) (.Call (.Name "enumerate" p) [e] [] pos) (iEnumA ma) := by
  refine PI.imp (pi_enumA hg hm ha hs) fun σ H R ⟨c, env, st, hH, hE, hR⟩ => ?_
  refine (tg_bind hH hE hR).mono fun vs H1 ⟨us, c1, st1, l1, hH1, hE1, r1, hR1⟩ => ?_
  split at hR1
  · rename_i us'
    obtain ⟨v, vs', rfl, r, t⟩ := r1.inv_cons
    cases t.inv_nil
    obtain ⟨a, ws, rfl, h1, r2⟩ := r.inv_tup
    refine ⟨a, ws, rfl, .inr ⟨by rw [hK]; exact sqT_up hH1 h1, ?_⟩⟩
    rw [hK]
    exact ResG.ret hR1 hH1 (walk_of_enumT fun c2 st2 H2 l2 hH2 _ => ⟨ws, sqT_up hH2 (sqT_mono l2.F h1), r2.mono l2⟩)
  · rename_i us'
    obtain ⟨v, vs', rfl, r, t⟩ := r1.inv_cons
    cases t.inv_nil
    obtain ⟨a, ws, rfl, h1, r2⟩ := r.inv_lst
    refine ⟨a, ws, rfl, .inl ⟨by rw [hK]; exact SqL.of (hH1.sub _ _ h1), ?_⟩⟩
    rw [hK]
    exact ResG.ret hR1 hH1 (walk_of_enum fun c2 st2 H2 l2 hH2 _ => ⟨ws, SqL.of (hH2.sub _ _ (l2.F _ _ h1)), r2.mono l2⟩)
  · rename_i us'
    obtain ⟨v, vs', rfl, r, t⟩ := r1.inv_cons
    cases t.inv_nil
    obtain ⟨a, ws, rfl, h1, r2⟩ := r.inv_scr
    refine ⟨a, ws, rfl, .inl ⟨by rw [hK]; exact sqL_up hH1 h1, ?_⟩⟩
    rw [hK]
    exact ResG.ret hR1 hH1 (walk_of_enum fun c2 st2 H2 l2 hH2 _ => ⟨ws, sqL_up hH2 (sqL_mono l2.F h1), r2.mono l2⟩)
  · rename_i i
    obtain ⟨v, vs', rfl, r, t⟩ := r1.inv_cons
    cases t.inv_nil
    obtain ⟨hi, rfl⟩ := r.inv_loc
    split at hR1
    · rename_i us' es
      obtain ⟨ws, h1, r2⟩ := hH1.at_lst es
      refine ⟨_, ws, rfl, .inl ⟨by rw [hK]; exact SqL.of h1, ?_⟩⟩
      rw [hK]
      refine ResG.ret hR1 hH1 (walk_of_enum fun c2 st2 H2 l2 hH2 hg' => ?_)
      obtain ⟨ws', h2, r3⟩ := hH2.at_lst hg'
      rw [l2.ρ i hi] at h2
      exact ⟨ws', SqL.of h2, r3⟩
    · exact hR1.elim
  · exact hR1.elim
end
end NK

set_option Elab.async false
set_option linter.all false
set_option maxRecDepth 100000
set_option maxHeartbeats 2000000
/-! NK13: set comprehensions, isinstance, own ==, slices. -/
namespace NK
open PySem L2

/-! ### {elt for t in it if c}, ints -/
noncomputable def scM (g : Sto → Prop) (gt : MGt) (mt : MT) (me : ME) (D : Nat) (env : Env) : List U → Sto → Out U
  | [], st => open Classical in if g st then .ok (.loc D) st else .bad
  | u :: us, st => open Classical in if g st then (match gt u env st with
    | none => .bad
    | some env1 => match mt env1 st with
      | .ok true st1 => (match me env1 st1 with
        | .ok (.int k) st2 => match st2[D]? with
          | some (.iset ks) => if ks.length < 1000 then scM g gt mt me D env us (st2.set D (.iset (if k ∈ ks then ks else ks ++ [k]))) else .bad
          | _ => .bad
        | _ => .bad)
      | .ok false st1 => scM g gt mt me D env us st1
      | _ => .bad) else .bad
noncomputable def eSc (mi : MI) (gt : MGt) (mt : MT) (me : ME) (vs : List Nat) : ME := fun env st => (mi env st).bind fun p st1 => scM p.g gt mt me st1.length (wipeE env vs) p.us (st1 ++ [.iset []])
section
variable {X : Cx} {T : Tb} {P : Pin} {Wx : WX}
theorem iset_add (w : World) (a : Addr) (ks : List Int) (k : Int) : SetO w a (fun j => decide (j ∈ ks) || decide (j = k)) (if decide (k ∈ ks) = true then ks.length else ks.length + 1) = SetO w a (fun j => decide (j ∈ (if k ∈ ks then ks else ks ++ [k]))) (if k ∈ ks then ks else ks ++ [k]).length := by
  have e1 : (fun j : Int => decide (j ∈ ks) || decide (j = k)) = fun j => decide (j ∈ (if k ∈ ks then ks else ks ++ [k])) := by
    funext j
    by_cases h : k ∈ ks
    · rw [if_pos h]
      by_cases hj : j = k
      · subst hj; simp [h]
      · simp [hj]
    · rw [if_neg h]
      simp
  have e2 : (if decide (k ∈ ks) = true then ks.length else ks.length + 1) = (if k ∈ ks then ks else ks ++ [k]).length := by
    by_cases h : k ∈ ks
    · rw [if_pos h, if_pos (by simpa using h)]
    · rw [if_neg h, if_neg (by simpa using h)]
      simp
  rw [e1, e2]
theorem sc_run {J : It} {us : List U} {g : Sto → Prop} {gt : MGt} {tg : TG} {mt : MT} {me : ME} {tt : TT} {te : TE} {vs : List Nat} {c0 : Cn} {Q : VK} {σ : L2.St} (hw : WalkM T c0 J us g)
    (hg : ∀ v σ H Q, tgtOf T P gt v σ H Q → tg v σ H Q) (ht : ∀ σ H Q, ttOf T P Wx0 mt σ H Q → tt σ H Q) (he : ∀ σ H Q, teOf T P Wx0 me σ H Q → te σ H Q)
    (hp : ∀ i ∈ vs, pinned P i = false) (hgw : GW tg vs)
    {c : Cn} {env : Env} {st : Sto} {H : Hp} (l : Le c0 c) (hH : RH T c st H) (hE : RE T P c env σ) {D : Addr} (hD : H D = none) (hR : ResG T Wx c σ (Rp T) (scM g gt mt me st.length (wipeE env vs) us (st ++ [.iset []])) Q) :
    ∃ W : Nat → Nat → Hp → Prop, (∃ m, W 0 m (L2.upd H D (SetO T.w D (fun _ => false) 0))) ∧ ∀ i m H, W i m H →
      (J.stop i H ∧ Q (.ref D) H) ∨ (J.go i H ∧ ∃ Nx : Hp → Prop, (∀ H', Nx H' → ∃ m', m' < m ∧ W (i + 1) m' H') ∧ ∀ x H', J.yld i H x H' → tg x (L2.wipe σ vs) H' fun σ2 H2 => L2.wipe σ2 vs = L2.wipe σ vs ∧ tt σ2 H2 fun b H3 =>
        if b = true then te σ2 H3 fun y H4 => ∃ (c : Int) (S : Int → Bool) (n : Nat), y = .int c ∧ H4 D = some (SetO T.w D S n) ∧ n + 1 < scanBound ∧ Nx (L2.upd H4 D (SetO T.w D (fun j => S j || decide (j = c)) (if S c = true then n else n + 1))) else Nx H3) := by
  obtain ⟨G, Y, w, k⟩ := hw
  have start := hH.new hD (o := .iset []) (x := SetO T.w D (fun _ => false) 0) (show SetO T.w D (fun _ => false) 0 = SetO T.w D (fun k => decide (k ∈ ([] : List Int))) 0 by simp)
  have hpos : (c.new D).ρ st.length = D := by rw [← hH.n, new_self]
  have hlt : st.length < (c.new D).n := by show _ < c.n + 1; rw [hH.n]; exact Nat.lt_succ_self _
  have lD := le_new c D
  have hE0 : RE T P c (wipeE env vs) (L2.wipe σ vs) := hE.wipe vs hp
  generalize hn : st.length = n at hR hpos hlt
  obtain ⟨w0, w1, w2⟩ := w
  refine ⟨fun i m H => m = us.length - i ∧ i ≤ us.length ∧ ∃ c1 st1, Le (c.new D) c1 ∧ RH T c1 st1 H ∧ ResG T Wx c σ (Rp T) (scM g gt mt me n (wipeE env vs) (us.drop i) st1) Q, ⟨us.length, rfl, Nat.zero_le _, _, _, Le.refl _, start, hR⟩, ?_⟩
  rintro i m H ⟨rfl, hi, c1, st1, l1, hH1, hR1⟩
  have hg' : g st1 := by
    cases q : us.drop i with
    | nil =>
      rw [q] at hR1
      unfold scM at hR1
      split at hR1
      · assumption
      · exact hR1.elim
    | cons u r =>
      rw [q] at hR1
      unfold scM at hR1
      split at hR1
      · assumption
      · exact hR1.elim
  have kk := k c1 st1 H ((l.trans lD).trans l1) hH1 hg'
  by_cases hlt' : i < us.length
  · refine .inr ⟨w0 i H hlt' kk.1, fun H' => i + 1 ≤ us.length ∧ ∃ c1 st1, Le (c.new D) c1 ∧ RH T c1 st1 H' ∧ ResG T Wx c σ (Rp T) (scM g gt mt me n (wipeE env vs) (us.drop (i + 1)) st1) Q, fun H' h' => ⟨us.length - (i + 1), by omega, rfl, h'.1, h'.2⟩, fun x H' y => ?_⟩
    have y' := w2 i H x H' hlt' kk.1 y
    have hd : us.drop i = us[i] :: us.drop (i + 1) := List.drop_eq_getElem_cons hlt'
    rw [hd] at hR1
    unfold scM at hR1
    rw [if_pos hg'] at hR1
    obtain ⟨c2, u, hu, l2, hH2, r2⟩ := kk.2 i x H' hlt' y'
    have eu : us[i] = u := by
      rw [List.getElem?_eq_getElem hlt'] at hu
      exact Option.some.inj hu
    rw [eu] at hR1
    have hE2 : RE T P c2 (wipeE env vs) (L2.wipe σ vs) := hE0.mono ((lD.trans l1).trans l2)
    split at hR1
    · exact hR1.elim
    · rename_i env1 q
      refine hgw x σ _ _ (hg _ _ _ _ ⟨c2, wipeE env vs, st1, u, env1, hH2, hE2, r2, q, fun σ1 hE1 _ => ?_⟩)
      refine ht _ _ _ ⟨c2, env1, st1, hH2, hE1, ?_⟩
      split at hR1
      · rename_i st2 qt
        rw [qt]
        intro c3 b H3 l3 hH3 eb
        cases (show true = b from eb)
        rw [if_pos rfl]
        refine he _ _ _ ⟨c3, env1, st2, hH3, hE1.mono l3, ?_⟩
        split at hR1
        · rename_i kv st3 qe
          rw [qe]
          intro c4 z H4 l4 hH4 r4
          cases r4.inv_int
          split at hR1
          · rename_i ks qa
            obtain ⟨o, h1, ra, _⟩ := hH4.act n _ qa (fun z => nomatch z)
            have hl4 := ((l1.trans l2).trans l3).trans l4
            have e4 : c4.ρ n = D := (hl4.ρ n hlt).trans hpos
            rw [e4] at h1
            have ra' : o = SetO T.w D (fun k => decide (k ∈ ks)) ks.length := by
              have : o = SetO T.w (c4.ρ n) (fun k => decide (k ∈ ks)) ks.length := ra
              rw [this, e4]
            subst ra'
            split at hR1
            · rename_i hz
              refine ⟨kv, _, _, rfl, h1, by have : scanBound = 4096 := rfl; omega, hlt', c4, _, hl4, ?_, hR1⟩
              rw [iset_add]
              have := hH4.set qa (fun z => nomatch z) (o' := .iset (if kv ∈ ks then ks else ks ++ [kv])) (x := SetO T.w (c4.ρ n) (fun j => decide (j ∈ (if kv ∈ ks then ks else ks ++ [kv]))) (if kv ∈ ks then ks else ks ++ [kv]).length) rfl
              rw [e4] at this
              exact this
            · exact hR1.elim
          · exact hR1.elim
        · exact hR1.elim
      · rename_i st2 qt
        rw [qt]
        intro c3 b H3 l3 hH3 eb
        cases (show false = b from eb)
        rw [if_neg Bool.false_ne_true]
        exact ⟨hlt', c3, st2, (l1.trans l2).trans l3, hH3, hR1⟩
      · exact hR1.elim
  · have ei : i = us.length := by omega
    subst ei
    refine .inl ⟨w1 H kk.1, ?_⟩
    rw [List.drop_length] at hR1
    unfold scM at hR1
    rw [if_pos hg'] at hR1
    have e : V.ref D = V.ref (c1.ρ n) := by rw [l1.ρ n hlt, hpos]
    rw [e]
    exact hR1 c1 _ H (lD.trans l1) hH1 (.loc (Nat.lt_of_lt_of_le hlt l1.n))
theorem pem_sc {elt tg iter : Expr} {ifs : List Expr} {scope : Scope} {pos : Pos} {own : List (Str × Nat)} {tgr : TG} {mi : MI} {gt : MGt} {mt : MT} {me : ME} (hw : X.w = T.w) (hc : X.calm = true) (hN : X.N.Nodup) (hi : PIm X T P Wx tg iter mi) (ok : BlkOk X.N X.env.scope scope own)
    (hg : ∀ (s : Shared) (H : Hp) (C : Addr) (cl : List (Str × Addr)) (fp : List Addr), PG (X.blk s H scope (compEnvC scope cl C X.env) fp) tg tgr) (hgr : ∀ v σ H Q, tgtOf T P gt v σ H Q → tgr v σ H Q) (hgw : GW tgr (own.map (·.2)))
    (ht : ∀ (s : Shared) (H : Hp) (C : Addr) (cl : List (Str × Addr)) (fp : List Addr), PTs (X.blk s H scope (compEnvC scope cl C X.env) fp) ifs (ttOf T P Wx0 mt))
    (he : ∀ (s : Shared) (H : Hp) (C : Addr) (cl : List (Str × Addr)) (fp : List Addr), PEm (X.blk s H scope (compEnvC scope cl C X.env) fp) T P Wx0 elt me) (hp : ∀ i ∈ own.map (·.2), pinned P i = false := by intro i _; rfl) (hs : ∀ x, foldedSetIterable iter X.env x = pure x := by intro _; rfl) :
    PEm X T P Wx (.SetComp elt [⟨tg, iter, ifs, 0⟩] scope pos) (eSc mi gt mt me (own.map (·.2))) :=
  PE.imp (pe_scI hc hN hi ok hg ht he hs) fun σ H Q ⟨c, env, st, hH, hE, hR⟩ => by
    refine (tg_bind hH hE hR).mono fun J H1 ⟨p, c1, st1, l1, hH1, hE1, r1, hR1⟩ D hD => ?_
    rw [hw]
    exact sc_run r1 hgr (fun _ _ _ h => h) (fun _ _ _ h => h) hp hgw (Le.refl c1) hH1 hE1 hD hR1
end

/-! ### isinstance -/
inductive Tr where
  | b (t : Ty)
  | o (k : Nat)
  deriving DecidableEq
def Tr.v (T : Tb) : Tr → Value
  | .b t => .type t.name
  | .o k => .ref (T.cls k)
def Tr.x (T : Tb) : Tr → V
  | .b t => .ty t.name
  | .o k => .ref (T.cls k)
def trOf (u : U) (st : Sto) : Option Tr := match u with
  | .non => some (.b .none)
  | .bl _ => some (.b .bool)
  | .int _ => some (.b .int)
  | .str _ => some (.b .str)
  | .tup _ => some (.b .tuple)
  | .lst _ => some (.b .list)
  | .scr _ => some (.b .list)
  | .ins k _ => some (.o k)
  | .loc i => match st[i]? with
    | some (.lst _) => some (.b .list)
    | some (.dK _) => some (.b .dict)
    | some (.ins k _) => some (.o k)
    | _ => none
  | _ => none
/-- isinstance of two built-in classes -/
def isiB : Ty → Ty → Option Bool
  | _, .none => none
  | .bool, .int => some true
  | a, b => some (a == b)
theorem isiB_ok {K : PySem.W.Frag} {a b : Ty} {r : Bool} (h : isiB a b = some r) : PySem.W.kitOne K (.type a.name) (.type b.name) = some r := by
  refine kit_ty ?_
  cases a <;> cases b <;> first | (cases h; decide +kernel) | cases h
abbrev IsL := List ((Tr × Tr) × Bool)
def isOne (l : IsL) (t c : Tr) : Option Bool := match t, c with
  | .b x, .b y => isiB x y
  | t, c => l.lookup (t, c)
def isAny (l : IsL) (t : Tr) : List Tr → Option Bool
  | [] => some false
  | c :: r => match isOne l t c with
    | some true => some true
    | some false => isAny l t r
    | none => none
/-- an own class whose instances may be asked -/
structure InsC (T : Tb) (k : Nat) : Prop where
  cl : Cls T.K (T.cls k)
  ha : PySem.W.findIn T.K (.ref (T.cls k)) "__class__" = some (some (.builtin "object.__class__"))
  hn : PySem.W.specialIn T.K (.builtin "object.__class__") "__get__" = some (some (.builtin "getset_descriptor.__get__"))
  ht : PySem.W.takesIn T.K (.builtin "object.__class__") = some true
  hm : PySem.W.mroIn T.K (T.cls k) (.type "object") = some true
def TrOk (T : Tb) : Tr → Prop
  | .b _ => True
  | .o k => InsC T k
def IsOk (T : Tb) (l : IsL) : Prop := ∀ p ∈ l, TrOk T p.1.1 ∧ PySem.W.kitOne T.K (p.1.1.v T) (p.1.2.v T) = some p.2
theorem mem_lookup {l : IsL} {k : Tr × Tr} {b : Bool} : l.lookup k = some b → (k, b) ∈ l := by
  induction l with
  | nil => intro h; cases h
  | cons a l ih =>
    intro h
    obtain ⟨y, v⟩ := a
    simp only [List.lookup] at h
    split at h
    · rename_i hh
      cases h
      rw [beq_iff_eq] at hh
      subst hh
      exact List.mem_cons_self
    · exact List.mem_cons_of_mem _ (ih h)
theorem isOne_ok {T : Tb} {l : IsL} (h : IsOk T l) {t c : Tr} {b : Bool} (e : isOne l t c = some b) : TrOk T t ∧ PySem.W.kitOne T.K (t.v T) (c.v T) = some b := by
  unfold isOne at e
  split at e
  · exact ⟨True.intro, isiB_ok e⟩
  · exact h _ (mem_lookup e)
theorem isAny_ok {T : Tb} {l : IsL} (h : IsOk T l) {t : Tr} : ∀ {cs : List Tr} {b : Bool}, cs ≠ [] → isAny l t cs = some b → TrOk T t ∧ PySem.W.kitAny T.K (t.v T) (cs.map (·.v T)) = some b
  | [], _, n, _ => absurd rfl n
  | c :: r, b, _, e => by
    unfold isAny at e
    cases q : isOne l t c with
    | none => rw [q] at e; cases e
    | some b1 =>
      obtain ⟨h1, h2⟩ := isOne_ok h q
      refine ⟨h1, kitAny_cons h2 (fun hb => ?_) fun hb => ?_⟩
      · subst hb
        rw [q] at e
        cases r with
        | nil => cases e; exact kitAny_nil
        | cons d r => exact (isAny_ok h (cs := d :: r) (by simp) e).2
      · subst hb
        rw [q] at e
        exact (Option.some.inj e).symm
section
variable {X : Cx} {T : Tb} {P : Pin} {Wx : WX} {e ce : Expr} {es : List Expr} {me : ME} {p pos p2 : Pos}
theorem tr_at {c : Cn} {st : Sto} {H : Hp} (h : RH T c st H) {u : U} {v : V} {t : Tr} (r : Rp T c u v) (e : trOf u st = some t) (ok : TrOk T t) : TyX T.K H v (t.v T) := by
  have lst : ∀ {a : Addr} {vs : List V}, SqL T.K H a vs → TyX T.K H (.ref a) (.type "list") := fun {a vs} q => by
    rcases q with (q | ⟨o, q⟩) | q
    · exact .base (.lst q)
    · exact .base (.frz q)
    · obtain ⟨o, _, _, q1, q2, _⟩ := q
      exact .kList q1 q2
  have tup : ∀ {a : Addr} {vs : List V}, SqT T.K H a vs → TyX T.K H (.ref a) (.type "tuple") := fun {a vs} q => by
    rcases q with (q | ⟨o, q⟩) | q
    · exact .base (.tup q)
    · exact .fTuple q
    · obtain ⟨o, _, _, q1, q2, _⟩ := q
      exact .kTuple q1 q2
  cases u with
  | non => cases r; cases e; exact .base .non
  | bl b => cases r; cases e; exact .base (.bl b)
  | int b => cases r; cases e; exact .base (.int b)
  | str b => cases r; cases e; exact .base (.str b)
  | tup us => obtain ⟨a, vs, rfl, h1, _⟩ := r.inv_tup; cases e; exact tup (sqT_up h h1)
  | lst us => obtain ⟨a, vs, rfl, h1, _⟩ := r.inv_lst; cases e; exact .base (.lst (h.sub _ _ h1))
  | scr us => obtain ⟨a, vs, rfl, h1, _⟩ := r.inv_scr; cases e; exact lst (sqL_up h h1)
  | ins k us =>
    obtain ⟨a, dx, vs, rfl, h1, _⟩ := r.inv_ins
    cases e
    exact .base (.ins (h.sub _ _ h1) ok.cl ok.ha ok.hn ok.ht ok.hm)
  | loc i =>
    obtain ⟨_, rfl⟩ := r.inv_loc
    dsimp only [trOf] at e
    split at e
    · rename_i us q
      cases e
      obtain ⟨vs, h1, _⟩ := h.at_lst q
      exact .base (.lst h1)
    · rename_i us q
      cases e
      obtain ⟨vs, h1, _⟩ := h.at_dK q
      exact .base (.dK h1)
    · rename_i k us q
      cases e
      obtain ⟨dx, vs, h1, _⟩ := h.at_ins q
      exact .base (.ins h1 ok.cl ok.ha ok.hn ok.ht ok.hm)
    · cases e
  | _ => cases e
def eIsi (l : IsL) (cs : List Tr) (me : ME) : ME := fun env st => (me env st).bind fun u st1 => match trOf u st1 with
  | some t => match isAny l t cs with
    | some b => .ok (.bl b) st1
    | none => .bad
  | none => .bad
theorem clsV (t : Tr) : ClsV (t.x T) (t.v T) := by
  cases t with
  | b t => exact .ty _
  | o k => exact .own _
/-- isinstance(e, c) -/
theorem pem_isi1 {l : IsL} {c : Tr} (ok : IsOk T l) (hK : X.K = T.K) (hg : Gl X "isinstance") (hm : X.mg "isinstance" = none) (he : PEm X T P Wx e me) (hc : PE X ce (tC (c.x T)))
    (hs : starEach [e, ce] X.env = (false, eval e X.env) :: starEach [ce] X.env := by rfl) (hs2 : starEach [ce] X.env = (false, eval ce X.env) :: starEach [] X.env := by rfl) (hpl : (backTo pos (starEach [ce] X.env)).any (·.1) = false := by rfl) :
    PEm X T P Wx (.Call (.Name "isinstance" p) [e, ce] [] pos) (eIsi l [c] me) :=
  PE.imp (pe_callB call_isi hg hm PyProof.Rows.Boot.«isinstance» (pa_cons he (pa_cons hc pa_nil hs2) hs) (by decide) (by decide) hs hpl) fun σ H Q ⟨cn, env, st, hH, hE, hR⟩ => by
    refine (tg_bind hH hE hR).mono fun x H1 ⟨u, c1, st1, l1, hH1, hE1, r1, hR1⟩ => ?_
    split at hR1
    · rename_i t e1
      split at hR1
      · rename_i b e2
        have e3 : isOne l t c = some b := by
          unfold isAny at e2
          split at e2
          · rename_i q; rw [q]; exact e2
          · rename_i q; rw [q]; exact e2
          · cases e2
        obtain ⟨h1, h2⟩ := isOne_ok ok e3
        refine ⟨x, c.x T, t.v T, c.v T, b, rfl, clsV c, ?_, ?_, hR1.ret hH1 (.bl b)⟩
        · rw [hK]; exact tr_at hH1 r1 e1 h1
        · rw [hK]; exact h2
      · exact hR1.elim
    · exact hR1.elim
theorem clsVs : ∀ cs : List Tr, Paired ClsV (cs.map (·.x T)) (cs.map (·.v T))
  | [] => .nil
  | c :: r => .cons (clsV c) (clsVs r)
def tTrs (T : Tb) : List Tr → TA
  | [] => tNil
  | c :: r => tCons (tC (c.x T)) (tTrs T r)
theorem trs_run (cs : List Tr) (σ : L2.St) (H : Hp) (Q : List V → Hp → Prop) (h : Q (cs.map (·.x T)) H) : tTrs T cs σ H Q := by
  induction cs generalizing Q with
  | nil => exact h
  | cons c r ih => exact ih _ h
/-- isinstance(e, (c1, c2, ..)) -/
theorem pem_isiT {l : IsL} {cs : List Tr} {x1} (ok : IsOk T l) (hK : X.K = T.K) (hg : Gl X "isinstance") (hm : X.mg "isinstance" = none) (he : PEm X T P Wx e me) (hc : PA X es (tTrs T cs)) (hne : cs ≠ []) (hsz : cs.length ≤ 1000)
    (hs : starEach [e, .Tuple es x1 p2] X.env = (false, eval e X.env) :: starEach [.Tuple es x1 p2] X.env := by rfl) (hs2 : starEach [.Tuple es x1 p2] X.env = (false, eval (.Tuple es x1 p2) X.env) :: starEach [] X.env := by rfl) (hpl : (backTo pos (starEach [.Tuple es x1 p2] X.env)).any (·.1) = false := by rfl) :
    PEm X T P Wx (.Call (.Name "isinstance" p) [e, .Tuple es x1 p2] [] pos) (eIsi l cs me) :=
  PE.imp (pe_callB call_isiT hg hm PyProof.Rows.Boot.«isinstance» (pa_cons he (pa_cons (pe_tup hc) pa_nil hs2) hs) (by decide) (by decide) hs hpl) fun σ H Q ⟨cn, env, st, hH, hE, hR⟩ => by
    refine (tg_bind hH hE hR).mono fun x H1 ⟨u, c1, st1, l1, hH1, hE1, r1, hR1⟩ => ?_
    refine trs_run cs σ H1 _ ⟨by rw [List.length_map, sizeLine_eq]; omega, fun tp htp => ?_⟩
    split at hR1
    · rename_i t e1
      split at hR1
      · rename_i b e2
        obtain ⟨h1, h2⟩ := isAny_ok ok hne e2
        have l2 := le_still hH1 htp (.tup (cs.map (·.x T)))
        have hH2 := hH1.still htp (.tup (cs.map (·.x T)))
        refine ⟨x, tp, cs.map (·.x T), t.v T, cs.map (·.v T), b, rfl, upd_same, ?_, ?_, ?_, hR1 _ _ _ l2 hH2 (.bl b)⟩
        · exact clsVs cs
        · rw [hK]; exact tr_at hH2 (r1.mono l2) e1 h1
        · rw [hK]; exact h2
      · exact hR1.elim
    · exact hR1.elim

/-! ### a == b by an own __eq__ -/
def rOwn (K : PySem.W.Frag) (C : Addr) (sp : Sp) : R2 := fun x y H Q => ∃ a dx fs t, x = .ref a ∧ H a = some (.ins C dx fs) ∧ TyX K H y t ∧ PySem.W.notFirst K C t = true ∧ sp [x, y] H (fun v H' => ∃ b, v = .bl b ∧ Q (.bl b) H') (fun _ _ _ => False)
theorem op_own {CX : CXT} {C f : Addr} {kk : Nat} {fd : FuncData} {ps : List Str} {sp : Sp} (F : FnOk X.prog X.w X.K X.mg X.base CX kk f fd ps sp) (hr : Room kk X.A)
    (hs : PySem.W.findIn X.K (.ref C) "__eq__" = some (some (.ref f))) (hf : PySem.W.isFn X.K (.ref f) = true) (hb : Binds X.K fd ps []) (hx : Passes CX X (fun _ _ _ => False)) : OpR X (compareOp .Eq) (rOwn X.K C sp) := by
  intro pins s σ H x y v u Q I rx ry hq
  obtain ⟨a, dx, fs, t, rfl, ha, ty, nf, hsp⟩ := hq
  cases rx
  show wpAny (model X.prog X.w) X.A (richCompare .Eq (.ref a) u) (EP X pins σ Q) X.xe s
  obtain ⟨mA, J, _⟩ := ins_get I.hok ha
  obtain ⟨od, J, _⟩ := J.look
  obtain ⟨m, hF⟩ := I.fr
  obtain ⟨PP, Z, pz, _⟩ := kit_of I ry ty
  refine PySem.W.cmp_K (op := .Eq) (tb := t) hr.units0 hF I.ok.mod.kin J (Z.ty _ _ I.kIn pz) nf hs hf ?_
  have r2 : Vals [V.ref a, y] [Value.ref a, u] := .cons rfl (.cons ry .nil)
  have hl := F.len _ _ _ _ hsp
  refine wpAny_call (codeAny_mono (F.run X.A X.stack s H ⟨[.ref a, u], []⟩ [.ref a, u] [.ref a, y] _ _ hr I.env0 (by
    have := hb s [.ref a, u] I.kIn (by simpa using hl)
    simpa using this) r2 hsp) fun r s' hq => ?_)
  cases r with
  | error e => exact hx pins σ H s e s' I hq
  | ok fl =>
    cases fl with
    | ret w =>
      obtain ⟨z, H', I', rz, b, ez, q⟩ := I.after hq
      subst ez
      cases rz
      exact ⟨.bl b, H', I', rfl, q⟩
    | next => exact False.elim hq
    | brk => exact False.elim hq
    | cont => exact False.elim hq
def fEqO (k : Nat) (nf : List Tr) (mf : MF) : U → U → Sto → Out U := fun u w st => if isK k u st = true then (match trOf w st with
  | some t => if t ∈ nf then (match mf [u, w] st with
    | .ok (.bl b) st' => .ok (.bl b) st'
    | _ => .bad) else .bad
  | none => .bad) else .bad
theorem sim_own {k : Nat} {nf : List Tr} {mf : MF} (hnf : ∀ t ∈ nf, TrOk T t ∧ PySem.W.notFirst T.K (T.cls k) (t.v T) = true) : OpSim T (rOwn T.K (T.cls k) (spOf T 2 mf)) (fEqO k nf mf) := fun Wx c σ st H u w x y Q hH r1 r2 hR => by
  unfold fEqO at hR
  split at hR
  · rename_i hk
    obtain ⟨a, dx, vs, rfl, h1⟩ := isK_at hH r1 hk
    split at hR
    · rename_i t et
      split at hR
      · rename_i hm
        obtain ⟨k1, k2⟩ := hnf t hm
        refine ⟨a, dx, _, t.v T, rfl, h1, tr_at hH r2 et k1, k2, rfl, c, [u, w], st, hH, .cons r1 (.cons r2 .nil), ?_⟩
        split at hR
        · rename_i b st' q
          rw [q]
          intro c' v H' l hH' rv
          cases rv.inv_bl
          exact ⟨b, rfl, hR c' _ H' l hH' (.bl b)⟩
        · exact hR.elim
      · exact hR.elim
    · exact hR.elim
  · exact hR.elim

/-! ### xs[lo:hi], a list -/
def cutU (us : List U) (lo hi : Option Int) : List U := (us.drop (HT.sIx us.length 0 lo)).take (HT.sIx us.length us.length hi - HT.sIx us.length 0 lo)
def eSl (m : ME) (lo hi : Option ME) : ME := fun env st => (m env st).bind fun x st1 =>
  ((match lo with | none => Out.ok none st1 | some f => (f env st1).bind fun i s => match i with | .int k => .ok (some k) s | _ => .bad) : Out (Option Int)).bind fun l st2 =>
  ((match hi with | none => Out.ok none st2 | some f => (f env st2).bind fun i s => match i with | .int k => .ok (some k) s | _ => .bad) : Out (Option Int)).bind fun h st3 =>
  match lsts x st3 with
  | some us => .ok (.loc st3.length) (st3 ++ [.lst (cutU us l h)])
  | none => .bad
where lsts (u : U) (st : Sto) : Option (List U) := match u with
  | .lst us => some us
  | .scr us => some us
  | .loc i => match st[i]? with
    | some (.lst us) => some us
    | _ => none
  | _ => none
theorem lsts_at {c : Cn} {st : Sto} {H : Hp} (h : RH T c st H) {u : U} {v : V} {us : List U} (r : Rp T c u v) (e : eSl.lsts u st = some us) : ∃ a vs, v = .ref a ∧ SqL T.K H a vs ∧ RpL T c us vs := by
  cases u with
  | lst xs => obtain ⟨a, vs, rfl, h1, h2⟩ := r.inv_lst; cases e; exact ⟨a, vs, rfl, SqL.of (h.sub _ _ h1), h2⟩
  | scr xs => obtain ⟨a, vs, rfl, h1, h2⟩ := r.inv_scr; cases e; exact ⟨a, vs, rfl, sqL_up h h1, h2⟩
  | loc i =>
    obtain ⟨_, rfl⟩ := r.inv_loc
    dsimp only [eSl.lsts] at e
    split at e
    · rename_i xs q
      cases e
      obtain ⟨vs, h1, h2⟩ := h.at_lst q
      exact ⟨_, vs, rfl, SqL.of h1, h2⟩
    · cases e
  | _ => cases e
def toOf (T : Tb) (P : Pin) (Wx : WX) (m : Option ME) : TO := match m with
  | none => tNoPart
  | some f => tPart (teOf T P Wx f)
def POm (X : Cx) (T : Tb) (P : Pin) (Wx : WX) (e : Option Expr) (m : Option ME) : Prop := PO X e (toOf T P Wx m)
theorem pom_none : POm X T P Wx none none := po_none
theorem pom_some (h : PEm X T P Wx e me) : POm X T P Wx (some e) (some me) := po_some h
theorem part_run {c : Cn} {env : Env} {st : Sto} {σ : L2.St} {H : Hp} {Q : VK} {m : Option ME} {kk : Option Int → Sto → Out U} (hH : RH T c st H) (hE : RE T P c env σ)
    (hR : ResG T Wx c σ (Rp T) (((match m with | none => Out.ok none st | some f => (f env st).bind fun i s => match i with | .int k => .ok (some k) s | _ => .bad) : Out (Option Int)).bind kk) Q) :
    toOf T P Wx m σ H fun o H1 => ∃ c1 st1, Le c c1 ∧ RH T c1 st1 H1 ∧ RE T P c1 env σ ∧ ResG T Wx c1 σ (Rp T) (kk o st1) Q := by
  cases m with
  | none => exact ⟨c, st, Le.refl c, hH, hE, hR⟩
  | some f =>
    refine ⟨c, env, st, hH, hE, ?_⟩
    dsimp only at hR
    cases q : f env st with
    | ok u st1 =>
      rw [q] at hR
      intro c1 v H1 l hH1 r
      cases u with
      | int k =>
        cases r.inv_int
        exact ⟨k, rfl, c1, st1, l, hH1, hE.mono l, ResG.later l hR⟩
      | _ => exact hR.elim
    | exc x st1 => rw [q] at hR; exact hR
    | bad => rw [q] at hR; exact hR
theorem pem_sl {lo hi : Option Expr} {ml mh : Option ME} (hK : X.K = T.K) (he : PEm X T P Wx e me) (hl : POm X T P Wx lo ml) (hu : POm X T P Wx hi mh) : PEm X T P Wx (.Subscript e (.Slice lo hi none p2) pos) (eSl me ml mh) :=
  PE.imp (pe_slice sl_list he hl hu) fun σ H Q ⟨c, env, st, hH, hE, hR⟩ => by
    refine (tg_bind hH hE hR).mono fun x H1 ⟨u, c1, st1, l1, hH1, hE1, r1, hR1⟩ => ?_
    have mo : ∀ {m : Option ME} {σ : L2.St} {H : Hp} {Q Q' : Option Int → Hp → Prop}, toOf T P Wx m σ H Q → (∀ o H, Q o H → Q' o H) → toOf T P Wx m σ H Q' := fun {m σ H Q Q'} h k => by
      cases m with
      | none => exact k _ _ h
      | some f => exact tgOf.mono h fun v H ⟨i, e, q⟩ => ⟨i, e, k _ _ q⟩
    refine mo (part_run hH1 hE1 hR1) fun lo H2 ⟨c2, st2, l2, hH2, hE2, hR2⟩ => ?_
    refine mo (part_run hH2 hE2 hR2) fun hi H3 ⟨c3, st3, l3, hH3, hE3, hR3⟩ => ?_
    split at hR3
    · rename_i us e1
      obtain ⟨a, vs, rfl, h1, h2⟩ := lsts_at hH3 ((r1.mono l2).mono l3) e1
      refine ⟨a, vs, rfl, by rw [hK]; exact h1, fun p hp => ?_⟩
      have l := le_new c3 p
      have hlt : st3.length < (c3.new p).n := by show _ < c3.n + 1; rw [hH3.n]; exact Nat.lt_succ_self _
      have e : V.ref p = V.ref ((c3.new p).ρ st3.length) := by rw [← hH3.n, new_self]
      have r3 : RpL T c3 (cutU us lo hi) (cutV vs lo hi) := by
        unfold cutU cutV
        rw [h2.length]
        exact (h2.drop _).take _
      rw [e]
      exact hR3 _ _ _ l (hH3.new hp (o := .lst (cutU us lo hi)) (x := .lst (cutV vs lo hi)) ⟨_, rfl, r3⟩) (.loc hlt)
    · exact hR3.elim
end
end NK

set_option Elab.async false
set_option linter.all false
set_option maxRecDepth 100000
set_option maxHeartbeats 2000000
/-! NK14: words for the printed texts. -/
namespace NK
open PySem L2
theorem bt_len : bootBuiltins "len" = some (.builtin "len") := by decide +kernel
theorem bt_abs : bootBuiltins "abs" = some (.builtin "abs") := by decide +kernel
theorem bt_min : bootBuiltins "min" = some (.builtin "min") := by decide +kernel
theorem bt_sum : bootBuiltins "sum" = some (.builtin "sum") := by decide +kernel
theorem bt_int : bootBuiltins "int" = some (.type "int") := by decide +kernel
theorem bt_bool : bootBuiltins "bool" = some (.type "bool") := by decide +kernel
theorem bt_str : bootBuiltins "str" = some (.type "str") := by decide +kernel
theorem bt_list : bootBuiltins "list" = some (.type "list") := by decide +kernel
theorem bt_tuple : bootBuiltins "tuple" = some (.type "tuple") := by decide +kernel
theorem bt_dict : bootBuiltins "dict" = some (.type "dict") := by decide +kernel
theorem gr_name {T : Tb} {P : Pin} {i : Nat} (hp : pinned P i = false) (v : V) (σ : L2.St) (H : Hp) (Q : L2.St → Hp → Prop) (h : tgtOf T P (gN i) v σ H Q) : gName i v σ H Q := by
  obtain ⟨c, env, st, u, env', hH, hE, r, e, k⟩ := h
  cases e
  exact k _ (hE.set r i hp)
section
variable {P : Program} {w : World} {K : PySem.W.Frag} {mg : Str → Option Value} {base : Heap} {T : Tb} {x qual : Str} {params : Arguments} {body : List Stmt} {scope : Scope} {dvs : List V} {kws : List (Str × V)} {f : Addr} {fd : FuncData} {N ps : List Str} {k : Nat} {mb : MS}
open PyProof.Rows (envOfC) in
/-- a def by its printed derivation -/
theorem fund_okm (F : FunD K x qual params body scope dvs kws f fd) (S : FnScope N ps scope)
    (hb : ∀ (cdv : Value) (A : Around) (outer : List PySem.Env) (s : Shared) (H : Hp) (E : XK), Room k (A.deeper (envOfC qual scope s.heap.objs.size f cdv)) →
      PSsm (cxOf (L2.CX P w) P w K mg base N qual scope f cdv A outer s H E) T none (fun cls d _ H => E cls d H) body mb) : FnOk P w K mg base (L2.CX P w) (k + 1) f fd ps (spOf T ps.length (fScope (runF N.length mb))) := by
  refine (F.ok S (fun vs H Q E h => h.1) (fun cdv A outer s H vs Q E hr h => ⟨_, hb cdv A outer s H E hr, ?_⟩) : FnOk P w K mg base (L2.CX P w) (k + 1) f fd ps (spOf T ps.length (runF N.length mb))).imp spOf_scope
  obtain ⟨hl, c, us, st0, hH, r, hR⟩ := h
  refine ⟨c, _, st0, hH, start_RE r, ?_⟩
  unfold runF at hR
  cases q : mb (us.map some ++ List.replicate (N.length - us.length) none) st0 with
  | ret u st' => rw [q] at hR; exact fun c' v H' a b d => hR c' v H' a b d
  | next env st' => rw [q] at hR; exact fun c' σ' H' a b d => hR c' .non H' a b .non
  | exc x' env st' => rw [q] at hR; exact fun c' cls d σ' H' a b _ e => hR c' cls d H' a b e
  | brk env st' => rw [q] at hR; exact hR.elim
  | cont env st' => rw [q] at hR; exact hR.elim
  | bad => rw [q] at hR; exact hR.elim
open PyProof.Rows (envOfC) in
/-- the same where the answer may go on changing -/
theorem fund_okl (F : FunD K x qual params body scope dvs kws f fd) (S : FnScope N ps scope)
    (hb : ∀ (cdv : Value) (A : Around) (outer : List PySem.Env) (s : Shared) (H : Hp) (E : XK), Room k (A.deeper (envOfC qual scope s.heap.objs.size f cdv)) →
      PSsm (cxOf (L2.CX P w) P w K mg base N qual scope f cdv A outer s H E) T none (fun cls d _ H => E cls d H) body mb) : FnOk P w K mg base (L2.CX P w) (k + 1) f fd ps (spOf T ps.length (runF N.length mb)) := by
  refine F.ok S (fun vs H Q E h => h.1) (fun cdv A outer s H vs Q E hr h => ⟨_, hb cdv A outer s H E hr, ?_⟩)
  obtain ⟨hl, c, us, st0, hH, r, hR⟩ := h
  refine ⟨c, _, st0, hH, start_RE r, ?_⟩
  unfold runF at hR
  cases q : mb (us.map some ++ List.replicate (N.length - us.length) none) st0 with
  | ret u st' => rw [q] at hR; exact fun c' v H' a b d => hR c' v H' a b d
  | next env st' => rw [q] at hR; exact fun c' σ' H' a b d => hR c' .non H' a b .non
  | exc x' env st' => rw [q] at hR; exact fun c' cls d σ' H' a b _ e => hR c' cls d H' a b e
  | brk env st' => rw [q] at hR; exact hR.elim
  | cont env st' => rw [q] at hR; exact hR.elim
  | bad => rw [q] at hR; exact hR.elim
theorem fund_mk {oc : Value} {od an : Option Addr} {osl : Array (Option Value)} {kV doc pm cdv ct : Value} (l : K.lookup f = some ⟨oc, od, .func (PySem.W.fnOf x qual params body scope .none kV doc pm an cdv ct), osl⟩)
    (c : PySem.W.codeIn K cdv qual = true) (k : PySem.W.keepIn K (.ref f) = true) : FunD K x qual params body scope [] [] f (PySem.W.fnOf x qual params body scope .none kV doc pm an cdv ct) := ⟨⟨oc, od, .none, kV, doc, pm, an, cdv, ct, osl, rfl, l, c, .inl ⟨rfl, rfl⟩, .inl rfl⟩, k⟩
theorem fund_mkd {oc oct : Value} {od an odt : Option Addr} {osl slt : Array (Option Value)} {kV doc pm cdv ct : Value} {t : Addr} {its : List Value} {n : Nat} (hd : dvs ≠ []) (l : K.lookup f = some ⟨oc, od, .func (PySem.W.fnOf x qual params body scope (.ref t) kV doc pm an cdv ct), osl⟩)
    (c : PySem.W.codeIn K cdv qual = true) (k : PySem.W.keepIn K (.ref f) = true) (lt : K.lookup t = some ⟨oct, odt, .seq its.toArray n, slt⟩) (r : Vals dvs its) : FunD K x qual params body scope dvs [] f (PySem.W.fnOf x qual params body scope (.ref t) kV doc pm an cdv ct) :=
  ⟨⟨oc, od, .ref t, kV, doc, pm, an, cdv, ct, osl, rfl, l, c, .inr ⟨hd, t, _, its, n, rfl, lt, rfl, r⟩, .inl rfl⟩, k⟩
/-- all parameters are written -/
theorem vals_nil {ds : List Value} (h : Vals [] ds) : ds = [] := by cases h; rfl
end
/-- a, b = x, y: stored from the right -/
def sPar (i j : Nat) (ma : MA) : MS := fun env st => (ma env st).st env fun us st1 => match us with
  | [u, w] => .next ((env.set i (some u)).set j (some w)) st1
  | _ => .bad
theorem psm_par {X : Cx} {T : Tb} {P : Pin} {Wx : WX} {i j : Nat} {x y : Str} {a b : Expr} {ma : MA} {px py pt pos : Pos} {kt k2 pt2} (hc : X.calm = true) (hN : X.N.Nodup) (hi : X.N[i]? = some x) (hj : X.N[j]? = some y) (hij : i ≠ j)
    (hx : X.env.scope.names.lookup x = some .local) (hy : X.env.scope.names.lookup y = some .local) (ha : PAm X T P Wx [a, b] ma)
    (hw : swappedStores [.Tuple [.Name x px, .Name y py] kt pt] (.Tuple [a, b] k2 pt2) X.env = pure (some [x, y])) (hpi : pinned P i = false := by rfl) (hpj : pinned P j = false := by rfl)
    (hs : swapsWithSole [.Tuple [.Name x px, .Name y py] kt pt] (.Tuple [a, b] k2 pt2) pos.line X.env = pure false := by rfl) :
    PSm X T P Wx (.Assign [.Tuple [.Name x px, .Name y py] kt pt] (.Tuple [a, b] k2 pt2) pos) (sPar i j ma) :=
  PS.imp (ps_par hc hN hi hj hij hx hy ha hw hs) fun D σ H ⟨c, env, st, hH, hE, hR⟩ => by
    refine (ts_bind hH hE hR).mono fun vs H1 ⟨us, c1, st1, l1, hH1, hE1, r1, hR1⟩ => ?_
    split at hR1
    · rename_i u w
      obtain ⟨v, vs', rfl, r2, t⟩ := r1.inv_cons
      obtain ⟨v2, vs2, rfl, r3, t2⟩ := t.inv_cons
      cases t2.inv_nil
      exact ⟨v, v2, rfl, ResS.go (D := D) hR1 hH1 ((hE1.set r2 i hpi).set r3 j hpj)⟩
    · exact hR1.elim
/-- the law's own end: nothing is let out -/
theorem cx_false {P : Program} {w : World} {outer : List PySem.Env} {H : Hp} {s : Shared} {e : Value} {s' : Shared} (h : L2.CX P w outer H s (fun _ _ _ => False) e s') : False := by
  obtain ⟨_, _, _, _, _, _, _, _, _, _, _, _, z⟩ := h
  exact z
theorem rpl_ints {T : Tb} {c : Cn} : ∀ ns : List Int, RpL T c (ns.map U.int) (ns.map V.int)
  | [] => .nil
  | n :: ns => .cons (.int n) (rpl_ints ns)
/-- the script, and nothing else -/
theorem law_sp {T : Tb} {mf : MF} {H : Hp} {a : Addr} {ns : List Int} (hS : SqL T.K H a (ns.map V.int)) (h : ∃ st', mf [.scr (ns.map U.int)] [] = .ok (.bl true) st') : spOf T 1 mf [.ref a] H (fun v _ => v = .bl true) (fun _ _ _ => False) := by
  obtain ⟨st', e⟩ := h
  refine ⟨rfl, ⟨fun _ => 0, 0, H⟩, _, [], ⟨rfl, fun b o q => q, fun i o q => by simp at q, fun i j x y q => by simp at q⟩, .one (.scr hS (rpl_ints ns)), ?_⟩
  rw [e]
  intro c' v H' _ _ r
  exact r.inv_bl
end NK

set_option Elab.async false
set_option linter.all false
set_option maxRecDepth 100000
set_option maxHeartbeats 1000000
/-! NK15: reckoning with mirrors (plain Lean, no program in sight). -/
namespace NK
open PySem L2

/-! ### steps -/
section
variable {α β : Type} {a : α} {s : Sto} {x : Ex} {env : Env}
theorem ob {f : α → Sto → Out β} : (Out.ok a s).bind f = f a s := rfl
theorem xb {f : α → Sto → Out β} : (Out.exc x s : Out α).bind f = .exc x s := rfl
theorem os {k : α → Sto → SO} : (Out.ok a s).st env k = k a s := rfl
theorem xs {k : α → Sto → SO} : (Out.exc x s : Out α).st env k = .exc x env s := rfl
theorem nb {k : MS} : (SO.next env s).bind k = k env s := rfl
theorem rb {k : MS} {u : U} : (SO.ret u s).bind k = .ret u s := rfl
theorem kb {k : MS} : (SO.cont env s).bind k = .cont env s := rfl
theorem eb {k : MS} : (SO.exc x env s).bind k = .exc x env s := rfl
end

/-! ### scopes -/
/-- the same store but for things without places -/
def Old (st st2 : Sto) : Prop := st2.length = st.length ∧ ∀ i, i < st.length → st2[i]? = st[i]? ∨ ∃ o, st2[i]? = some o ∧ o.under 0 = true
theorem Old.refl (st : Sto) : Old st st := ⟨rfl, fun _ _ => .inl rfl⟩
theorem Old.hand {h h' : Ob} {rest : Sto} (e : h'.under 0 = true) : Old (h :: rest) (h' :: rest) := by
  refine ⟨rfl, fun i _ => ?_⟩
  cases i with
  | zero => exact .inr ⟨h', rfl, e⟩
  | succ i => exact .inl rfl
theorem Old.trans {a b c : Sto} (h : Old a b) (g : Old b c) : Old a c := by
  refine ⟨g.1.trans h.1, fun i hi => ?_⟩
  rcases g.2 i (by rw [h.1]; exact hi) with q | q
  · rw [q]; exact h.2 i hi
  · exact .inr q
theorem Old.ok {st st2 ext : Sto} (h : Old st st2) : oldOk st (st2 ++ ext) := by
  refine ⟨by rw [List.length_append, h.1]; omega, fun i hi => ?_⟩
  rw [List.getElem?_append_left (by rw [h.1]; exact hi)]
  exact h.2 i hi
theorem Old.take {st st2 ext : Sto} (h : Old st st2) : (st2 ++ ext).take st.length = st2 := by rw [← h.1, List.take_left']; rfl
theorem under_up {u : U} (h : u.under 0 = true) (n : Nat) : u.under n = true := U.under_mono (Nat.zero_le n) h
theorem sc_val {u : U} {st st2 : Sto} (ext : Sto) (h : Old st st2) (hu : u.under 0 = true) : scopeOut st (.ok u (st2 ++ ext)) = .ok u st2 := by
  have f : frz u (st2 ++ ext) = .ok u (st2 ++ ext) := by
    cases u with
    | loc i => simp [U.under] at hu
    | _ => rfl
  show ((frz u (st2 ++ ext)).bind _) = _
  rw [f]
  show (open Classical in if u.under st.length = true ∧ oldOk st (st2 ++ ext) then Out.ok u ((st2 ++ ext).take st.length) else .bad) = _
  rw [if_pos ⟨under_up hu _, h.ok⟩, h.take]
theorem sc_same {u : U} {st : Sto} (hu : u.under 0 = true) : scopeOut st (.ok u st) = .ok u st := by
  have := sc_val (u := u) [] (Old.refl st) hu
  rwa [List.append_nil] at this
theorem sc_old {u : U} {st st2 : Sto} (h : Old st st2) (hu : u.under 0 = true) : scopeOut st (.ok u st2) = .ok u st2 := by
  have := sc_val (u := u) [] h hu
  rwa [List.append_nil] at this
theorem set_app {st2 ext : Sto} {j : Nat} {o : Ob} : (st2 ++ ext).set (st2.length + j) o = st2 ++ ext.set j o := by
  have e := List.set_append (s := st2) (t := ext) (i := st2.length + j) (x := o)
  rw [if_neg (by omega), show st2.length + j - st2.length = j by omega] at e
  exact e
theorem sc_loc {us : List U} {st st2 : Sto} (ext : Sto) {j : Nat} (h : Old st st2) (hj : ext[j]? = some (.lst us)) (hu : U.underL 0 us = true) : scopeOut st (.ok (.loc (st.length + j)) (st2 ++ ext)) = .ok (.lst us) st2 := by
  have q : (st2 ++ ext)[st.length + j]? = some (.lst us) := by
    rw [List.getElem?_append_right (by rw [h.1]; omega), h.1]
    rw [show st.length + j - st.length = j by omega]
    exact hj
  have f : frz (.loc (st.length + j)) (st2 ++ ext) = .ok (.lst us) (st2 ++ ext.set j .dead) := by
    dsimp only [frz]
    rw [q]
    dsimp only
    rw [← h.1, set_app]
  show ((frz (.loc (st.length + j)) (st2 ++ ext)).bind _) = _
  rw [f]
  show (open Classical in if (U.lst us).under st.length = true ∧ oldOk st (st2 ++ ext.set j .dead) then Out.ok (U.lst us) ((st2 ++ ext.set j .dead).take st.length) else .bad) = _
  rw [if_pos ⟨under_up (u := .lst us) (by unfold U.under; exact hu) _, h.ok⟩, h.take]
theorem sc_obj {us : List U} {k : Nat} {st st2 : Sto} (ext : Sto) {j : Nat} (h : Old st st2) (hj : ext[j]? = some (.ins k us)) (hu : U.underL 0 us = true) : scopeOut st (.ok (.loc (st.length + j)) (st2 ++ ext)) = .ok (.ins k us) st2 := by
  have q : (st2 ++ ext)[st.length + j]? = some (.ins k us) := by
    rw [List.getElem?_append_right (by rw [h.1]; omega), h.1]
    rw [show st.length + j - st.length = j by omega]
    exact hj
  have f : frz (.loc (st.length + j)) (st2 ++ ext) = .ok (.ins k us) (st2 ++ ext.set j .dead) := by
    dsimp only [frz]
    rw [q]
    dsimp only
    rw [← h.1, set_app]
  show ((frz (.loc (st.length + j)) (st2 ++ ext)).bind _) = _
  rw [f]
  show (open Classical in if (U.ins k us).under st.length = true ∧ oldOk st (st2 ++ ext.set j .dead) then Out.ok (U.ins k us) ((st2 ++ ext.set j .dead).take st.length) else .bad) = _
  rw [if_pos ⟨under_up (u := .ins k us) (by unfold U.under; exact hu) _, h.ok⟩, h.take]
theorem sc_exc {x : Ex} {st st2 : Sto} : scopeOut st (.exc x st2) = .exc x st2 := rfl
theorem underL_app {n : Nat} : ∀ {us ws : List U}, U.underL n us = true → U.underL n ws = true → U.underL n (us ++ ws) = true
  | [], _, _, h => h
  | u :: us, ws, h, g => by
    unfold U.underL at h
    rw [Bool.and_eq_true] at h
    show U.underL n (u :: (us ++ ws)) = true
    unfold U.underL
    rw [h.1, underL_app h.2 g]
    rfl
theorem underL_all {n : Nat} : ∀ {us : List U}, (∀ u ∈ us, u.under n = true) → U.underL n us = true
  | [], _ => rfl
  | u :: us, h => by
    unfold U.underL
    rw [h u List.mem_cons_self, underL_all fun w hw => h w (List.mem_cons_of_mem _ hw)]
    rfl
theorem underL_mem {n : Nat} : ∀ {us : List U} {u : U}, U.underL n us = true → u ∈ us → u.under n = true
  | w :: us, u, h, hm => by
    unfold U.underL at h
    rw [Bool.and_eq_true] at h
    rcases List.mem_cons.mp hm with rfl | hm
    · exact h.1
    · exact underL_mem h.2 hm

/-! ### data -/
mutual
def datU : U → PyData
  | .bl b => .bool b
  | .int i => .int i
  | .str x => .str x
  | .tup us => .tuple (datL us)
  | .lst us => .list (datL us)
  | _ => .none
def datL : List U → List PyData
  | [] => []
  | u :: us => datU u :: datL us
end
def okU : Nat → U → Bool
  | 0, _ => false
  | n + 1, u => match u with
    | .non => true
    | .bl _ => true
    | .int _ => true
    | .str x => PyData.canLay0 (.str x)
    | .tup us => us.all (okU n)
    | .lst us => us.all (okU n)
    | _ => false
theorem okU_D {st : Sto} : ∀ (n : Nat) (u : U), okU n u = true → toD st n u = some (datU u) ∧ PyData.canLay0 (datU u) = true ∧ PyData.depth (datU u) ≤ n
  | 0, _, h => by cases h
  | n + 1, u, h => by
    have lst : ∀ us : List U, us.all (okU n) = true → allD (toD st n) us = some (datL us) ∧ PyData.canLayAll0 (datL us) = true ∧ PyData.depthAll (datL us) ≤ n := by
      intro us
      induction us with
      | nil => intro _; exact ⟨rfl, rfl, Nat.zero_le _⟩
      | cons w us ih =>
        intro hh
        rw [List.all_cons, Bool.and_eq_true] at hh
        obtain ⟨a1, a2, a3⟩ := okU_D n w hh.1
        obtain ⟨b1, b2, b3⟩ := ih hh.2
        refine ⟨?_, ?_, ?_⟩
        · unfold allD
          rw [a1, b1]
          rfl
        · unfold datL PyData.canLayAll0
          rw [a2, b2]
          rfl
        · unfold datL PyData.depthAll
          exact Nat.max_le.mpr ⟨a3, b3⟩
    cases u with
    | non => exact ⟨rfl, rfl, Nat.zero_le _⟩
    | bl b => exact ⟨rfl, rfl, Nat.zero_le _⟩
    | int i => exact ⟨rfl, rfl, Nat.zero_le _⟩
    | str x => exact ⟨rfl, h, Nat.zero_le _⟩
    | tup us =>
      obtain ⟨a, b, c⟩ := lst us h
      refine ⟨?_, ?_, ?_⟩
      · show (allD (toD st n) us).map _ = _
        rw [a]
        rfl
      · unfold datU PyData.canLay0
        exact b
      · unfold datU PyData.depth
        omega
    | lst us =>
      obtain ⟨a, b, c⟩ := lst us h
      refine ⟨?_, ?_, ?_⟩
      · show (allD (toD st n) us).map _ = _
        rw [a]
        rfl
      · unfold datU PyData.canLay0
        exact b
      · unfold datU PyData.depth
        omega
    | _ => cases h
/-- equal as data -/
def eqvU (u w : U) : Bool := PyData.eqv (datU u) (datU w)
theorem okU_shaped {u : U} (h : okU 12 u = true) : SeqAt.shaped (datU u) = true := by
  obtain ⟨_, b, c⟩ := okU_D (st := []) 12 u h
  unfold SeqAt.shaped
  rw [b, Bool.true_and]
  exact decide_eq_true (by omega)
theorem fEqB_ok {g : Bool → Bool} {u w : U} {st : Sto} (hu : okU 12 u = true) (hw : okU 12 w = true) : fEqB g u w st = .ok (.bl (g (eqvU u w))) st := by
  unfold fEqB
  rw [(okU_D 12 u hu).1, (okU_D 12 w hw).1]
  dsimp only
  rw [if_pos ⟨okU_shaped hu, okU_shaped hw⟩]
  rfl
theorem fEq_ok {u w : U} {st : Sto} (hu : okU 12 u = true) (hw : okU 12 w = true) : fEq u w st = .ok (.bl (eqvU u w)) st := fEqB_ok hu hw
theorem fNe_ok {u w : U} {st : Sto} (hu : okU 12 u = true) (hw : okU 12 w = true) : fNe u w st = .ok (.bl (!eqvU u w)) st := fEqB_ok hu hw
theorem eqvU_same {u : U} (h : okU 12 u = true) : eqvU u u = true := PySem.SeqAt.eqv_refl _ (okU_D (st := []) 12 u h).2.1
theorem okU_up : ∀ (n : Nat) (u : U), okU n u = true → okU (n + 1) u = true
  | 0, _, h => by cases h
  | n + 1, u, h => by
    have lst : ∀ us : List U, us.all (okU n) = true → us.all (okU (n + 1)) = true := fun us hh => by
      rw [List.all_eq_true] at hh ⊢
      exact fun w hw => okU_up n w (hh w hw)
    cases u with
    | tup us => exact lst us h
    | lst us => exact lst us h
    | _ => exact h
theorem okU_le {n m : Nat} (h : n ≤ m) {u : U} (e : okU n u = true) : okU m u = true := by
  induction h with
  | refl => exact e
  | step _ ih => exact okU_up _ _ ih
mutual
theorem okU_under : ∀ (n : Nat) (u : U), okU n u = true → u.under 0 = true
  | 0, _, h => by cases h
  | n + 1, u, h => by
    cases u with
    | tup us => unfold U.under; exact okU_underL n us h
    | lst us => unfold U.under; exact okU_underL n us h
    | non => rfl
    | bl b => rfl
    | int i => rfl
    | str x => rfl
    | _ => cases h
theorem okU_underL : ∀ (n : Nat) (us : List U), us.all (okU n) = true → U.underL 0 us = true
  | _, [], _ => rfl
  | n, u :: us, h => by
    rw [List.all_cons, Bool.and_eq_true] at h
    unfold U.underL
    rw [okU_under n u h.1, okU_underL n us h.2]
    rfl
end
end NK

set_option Elab.async false
set_option linter.all false
set_option maxRecDepth 100000
set_option maxHeartbeats 1000000
/-! NK16: loops and comprehensions reckoned. -/
namespace NK
open PySem L2
section
variable {g : Sto → Prop} {gt : MGt} {b : MS} {u : U} {us : List U} {env env1 env2 : Env} {st st2 : Sto} {x : Ex} {r : U}
theorem forM_nil (hg : g st) : forM g gt b [] env st = .next env st := by unfold forM; rw [if_pos hg]
theorem forM_n (hg : g st) (ht : gt u env st = some env1) (hb : b env1 st = .next env2 st2) : forM g gt b (u :: us) env st = forM g gt b us env2 st2 := by
  rw [forM, if_pos hg, ht]; dsimp only; rw [hb]
theorem forM_c (hg : g st) (ht : gt u env st = some env1) (hb : b env1 st = .cont env2 st2) : forM g gt b (u :: us) env st = forM g gt b us env2 st2 := by
  rw [forM, if_pos hg, ht]; dsimp only; rw [hb]
theorem forM_r (hg : g st) (ht : gt u env st = some env1) (hb : b env1 st = .ret r st2) : forM g gt b (u :: us) env st = .ret r st2 := by
  rw [forM, if_pos hg, ht]; dsimp only; rw [hb]
theorem forM_x (hg : g st) (ht : gt u env st = some env1) (hb : b env1 st = .exc x env2 st2) : forM g gt b (u :: us) env st = .exc x env2 st2 := by
  rw [forM, if_pos hg, ht]; dsimp only; rw [hb]
end
theorem wipe1 (env : Env) (i : Nat) (u : U) : (wipeE env [i]).set i (some u) = env.set i (some u) := by
  show (env.set i none).set i (some u) = _
  rw [List.set_set]
section
variable {g : Sto → Prop} {i : Nat} {mt : MT} {me : ME} {mi : MI} {env : Env} {st : Sto}
/-- the elements come out of what is walked alone -/
theorem compM_pure (f : U → U) (p : U → Bool) (hg : ∀ acc, g (st ++ [.lst acc])) : ∀ (us acc : List U), acc.length + us.length ≤ 16777216 →
    (∀ u ∈ us, ∀ acc, mt (env.set i (some u)) (st ++ [.lst acc]) = .ok (p u) (st ++ [.lst acc]) ∧ (p u = true → me (env.set i (some u)) (st ++ [.lst acc]) = .ok (f u) (st ++ [.lst acc]))) →
    compM g (gN i) mt me st.length (wipeE env [i]) us (st ++ [.lst acc]) = .ok (.loc st.length) (st ++ [.lst (acc ++ (us.filter p).map f)])
  | [], acc, _, _ => by unfold compM; rw [if_pos (hg acc)]; simp
  | u :: us, acc, hz, h => by
    have ih := compM_pure f p hg us
    obtain ⟨h1, h2⟩ := h u List.mem_cons_self acc
    have h' := fun w hw => h w (List.mem_cons_of_mem _ hw)
    rw [List.length_cons] at hz
    unfold compM
    rw [if_pos (hg acc)]
    show (match mt ((wipeE env [i]).set i (some u)) (st ++ [.lst acc]) with | .ok true st1 => _ | .ok false st1 => _ | _ => Out.bad) = _
    rw [wipe1, h1]
    cases hp : p u with
    | false =>
      dsimp only
      rw [ih acc (by omega) h', List.filter_cons_of_neg (by simp [hp])]
    | true =>
      dsimp only
      rw [h2 hp]
      dsimp only
      have e : (st ++ [Ob.lst acc])[st.length]? = some (.lst acc) := by simp
      rw [e]
      dsimp only
      rw [if_pos (by omega)]
      have e2 : (st ++ [Ob.lst acc]).set st.length (.lst (acc ++ [f u])) = st ++ [.lst (acc ++ [f u])] := by simp
      rw [e2, ih (acc ++ [f u]) (by simp; omega) h', List.filter_cons_of_pos hp]
      simp [List.append_assoc]
theorem comp_pure (f : U → U) (p : U → Bool) {us : List U} (hm : mi env st = .ok ⟨us, g⟩ st) (hg : ∀ acc, g (st ++ [.lst acc])) (hz : us.length ≤ 16777216)
    (h : ∀ u ∈ us, ∀ acc, mt (env.set i (some u)) (st ++ [.lst acc]) = .ok (p u) (st ++ [.lst acc]) ∧ (p u = true → me (env.set i (some u)) (st ++ [.lst acc]) = .ok (f u) (st ++ [.lst acc]))) :
    eComp mi (gN i) mt me [i] env st = .ok (.loc st.length) (st ++ [.lst ((us.filter p).map f)]) := by
  unfold eComp
  rw [hm, ob, compM_pure f p hg us [] (by simpa using hz) h, List.nil_append]
theorem comp_scope (f : U → U) (p : U → Bool) {us : List U} (hm : mi env st = .ok ⟨us, g⟩ st) (hg : ∀ acc, g (st ++ [.lst acc])) (hz : us.length ≤ 16777216)
    (h : ∀ u ∈ us, ∀ acc, mt (env.set i (some u)) (st ++ [.lst acc]) = .ok (p u) (st ++ [.lst acc]) ∧ (p u = true → me (env.set i (some u)) (st ++ [.lst acc]) = .ok (f u) (st ++ [.lst acc])))
    (hu : U.underL 0 ((us.filter p).map f) = true) : eScope (eComp mi (gN i) mt me [i]) env st = .ok (.lst ((us.filter p).map f)) st := by
  unfold eScope
  rw [comp_pure f p hm hg hz h]
  exact sc_loc (j := 0) [.lst _] (Old.refl st) rfl hu
/-- the elements are drawn: the first thing of the store changes within R -/
theorem compM_drawn (R : Ob → Prop) (S : U → Prop) (hg : ∀ (h : Ob) acc, R h → g ((h :: st) ++ [.lst acc])) : ∀ (us acc : List U) (h : Ob), R h → acc.length + us.length ≤ 16777216 → (∀ w ∈ acc, S w) →
    (∀ u ∈ us, ∀ h acc, R h → mt (env.set i (some u)) ((h :: st) ++ [.lst acc]) = .ok true ((h :: st) ++ [.lst acc]) ∧ ∃ w h', R h' ∧ S w ∧ me (env.set i (some u)) ((h :: st) ++ [.lst acc]) = .ok w ((h' :: st) ++ [.lst acc])) →
    ∃ ws h', R h' ∧ (∀ w ∈ ws, S w) ∧ ws.length = acc.length + us.length ∧ compM g (gN i) mt me (st.length + 1) (wipeE env [i]) us ((h :: st) ++ [.lst acc]) = .ok (.loc (st.length + 1)) ((h' :: st) ++ [.lst ws])
  | [], acc, h, r, _, hs, _ => ⟨acc, h, r, hs, by simp, by unfold compM; rw [if_pos (hg h acc r)]⟩
  | u :: us, acc, h, r, hz, hs, hh => by
    have ih := compM_drawn R S hg us
    obtain ⟨h1, w, h', r', sw, h2⟩ := hh u List.mem_cons_self h acc r
    have hh' := fun w hw => hh w (List.mem_cons_of_mem _ hw)
    rw [List.length_cons] at hz
    obtain ⟨ws, h3, r3, s3, l3, e3⟩ := ih (acc ++ [w]) h' r' (by simp; omega) (fun v hv => by
      rcases List.mem_append.mp hv with q | q
      · exact hs v q
      · rw [List.mem_singleton.mp q]; exact sw) hh'
    refine ⟨ws, h3, r3, s3, by rw [l3]; simp; omega, ?_⟩
    unfold compM
    rw [if_pos (hg h acc r)]
    show (match mt ((wipeE env [i]).set i (some u)) ((h :: st) ++ [.lst acc]) with | .ok true st1 => _ | .ok false st1 => _ | _ => Out.bad) = _
    rw [wipe1, h1]
    dsimp only
    rw [h2]
    dsimp only
    have e : ((h' :: st) ++ [Ob.lst acc])[st.length + 1]? = some (.lst acc) := by simp
    rw [e]
    dsimp only
    rw [if_pos (by omega)]
    have e2 : ((h' :: st) ++ [Ob.lst acc]).set (st.length + 1) (.lst (acc ++ [w])) = (h' :: st) ++ [.lst (acc ++ [w])] := by simp
    rw [e2]
    exact e3
theorem comp_drawn (R : Ob → Prop) (S : U → Prop) {us : List U} {h h1 : Ob} (hm : mi env (h :: st) = .ok ⟨us, g⟩ (h1 :: st)) (r : R h1) (hR : ∀ o, R o → o.under 0 = true) (hS : ∀ w, S w → w.under 0 = true) (hg : ∀ (h : Ob) acc, R h → g ((h :: st) ++ [.lst acc])) (hz : us.length ≤ 16777216)
    (hh : ∀ u ∈ us, ∀ h acc, R h → mt (env.set i (some u)) ((h :: st) ++ [.lst acc]) = .ok true ((h :: st) ++ [.lst acc]) ∧ ∃ w h', R h' ∧ S w ∧ me (env.set i (some u)) ((h :: st) ++ [.lst acc]) = .ok w ((h' :: st) ++ [.lst acc])) :
    ∃ ws h', R h' ∧ (∀ w ∈ ws, S w) ∧ ws.length = us.length ∧ eScope (eComp mi (gN i) mt me [i]) env (h :: st) = .ok (.lst ws) (h' :: st) := by
  obtain ⟨ws, h', r', s', l', e'⟩ := compM_drawn R S hg us [] h1 r (by simpa using hz) (fun w hw => by simp at hw) hh
  refine ⟨ws, h', r', s', by simpa using l', ?_⟩
  unfold eScope eComp
  rw [hm, ob]
  show scopeOut (h :: st) (compM g (gN i) mt me (st.length + 1) (wipeE env [i]) us ((h1 :: st) ++ [.lst []])) = _
  rw [e']
  exact sc_loc (st := h :: st) (j := 0) [.lst ws] (Old.hand (hR _ r')) rfl (underL_all fun w hw => hS w (s' w hw))
/-- distinct ints, in the order of their first coming -/
def dedup : List Int → List Int → List Int
  | acc, [] => acc
  | acc, k :: r => dedup (if k ∈ acc then acc else acc ++ [k]) r
theorem dedup_len : ∀ (r acc : List Int), (dedup acc r).length ≤ acc.length + r.length
  | [], acc => by simp [dedup]
  | k :: r, acc => by
    unfold dedup
    refine Nat.le_trans (dedup_len r _) ?_
    split <;> simp <;> omega
theorem scM_pure (f : U → Int) (p : U → Bool) (hg : ∀ acc, g (st ++ [.iset acc])) : ∀ (us : List U) (acc : List Int), acc.length + us.length ≤ 999 →
    (∀ u ∈ us, ∀ acc, mt (env.set i (some u)) (st ++ [.iset acc]) = .ok (p u) (st ++ [.iset acc]) ∧ (p u = true → me (env.set i (some u)) (st ++ [.iset acc]) = .ok (.int (f u)) (st ++ [.iset acc]))) →
    scM g (gN i) mt me st.length (wipeE env [i]) us (st ++ [.iset acc]) = .ok (.loc st.length) (st ++ [.iset (dedup acc ((us.filter p).map f))])
  | [], acc, _, _ => by unfold scM; rw [if_pos (hg acc)]; simp [dedup]
  | u :: us, acc, hz, h => by
    have ih := scM_pure f p hg us
    obtain ⟨h1, h2⟩ := h u List.mem_cons_self acc
    have h' := fun w hw => h w (List.mem_cons_of_mem _ hw)
    rw [List.length_cons] at hz
    unfold scM
    rw [if_pos (hg acc)]
    show (match mt ((wipeE env [i]).set i (some u)) (st ++ [.iset acc]) with | .ok true st1 => _ | .ok false st1 => _ | _ => Out.bad) = _
    rw [wipe1, h1]
    cases hp : p u with
    | false =>
      dsimp only
      rw [ih acc (by omega) h', List.filter_cons_of_neg (by simp [hp])]
    | true =>
      dsimp only
      rw [h2 hp]
      dsimp only
      have e : (st ++ [Ob.iset acc])[st.length]? = some (.iset acc) := by simp
      rw [e]
      dsimp only
      rw [if_pos (by omega)]
      have e2 : (st ++ [Ob.iset acc]).set st.length (.iset (if f u ∈ acc then acc else acc ++ [f u])) = st ++ [.iset (if f u ∈ acc then acc else acc ++ [f u])] := by simp
      rw [e2, ih _ (by split <;> (try simp) <;> omega) h', List.filter_cons_of_pos hp, List.map_cons]
      rfl
theorem sc_pure (f : U → Int) (p : U → Bool) {us : List U} (hm : mi env st = .ok ⟨us, g⟩ st) (hg : ∀ acc, g (st ++ [.iset acc])) (hz : us.length ≤ 999)
    (h : ∀ u ∈ us, ∀ acc, mt (env.set i (some u)) (st ++ [.iset acc]) = .ok (p u) (st ++ [.iset acc]) ∧ (p u = true → me (env.set i (some u)) (st ++ [.iset acc]) = .ok (.int (f u)) (st ++ [.iset acc]))) :
    eScope (eCB fLenO (aCons (eSc mi (gN i) mt me [i]) aNil)) env st = .ok (.int (dedup [] ((us.filter p).map f)).length) st := by
  have e : eSc mi (gN i) mt me [i] env st = .ok (.loc st.length) (st ++ [.iset (dedup [] ((us.filter p).map f))]) := by
    unfold eSc
    rw [hm, ob, scM_pure f p hg us [] (by simpa using hz) h]
  unfold eScope eCB aCons aNil
  rw [e]
  simp only [ob]
  have e2 : fLenO [.loc st.length] (st ++ [.iset (dedup [] ((us.filter p).map f))]) = .ok (.int (dedup [] ((us.filter p).map f)).length) (st ++ [.iset (dedup [] ((us.filter p).map f))]) := by
    unfold fLenO
    simp
  rw [e2]
  exact sc_val _ (Old.refl st) rfl
end
end NK

set_option Elab.async false
set_option linter.all false
set_option maxRecDepth 100000
set_option maxHeartbeats 1000000
/-! NK17: operators and defs reckoned. -/
namespace NK
open PySem L2
section
variable {n : Nat} {mb : MS} {us : List U} {env env' : Env} {st st2 ext : Sto} {u : U} {x : Ex}
theorem run_ret (he : us.map some ++ List.replicate (n - us.length) none = env) (h : mb env st = .ret u st2) : runF n mb us st = .ok u st2 := by
  unfold runF; rw [he, h]
theorem run_next (he : us.map some ++ List.replicate (n - us.length) none = env) (h : mb env st = .next env' st2) : runF n mb us st = .ok .non st2 := by
  unfold runF; rw [he, h]
theorem run_exc (he : us.map some ++ List.replicate (n - us.length) none = env) (h : mb env st = .exc x env' st2) : runF n mb us st = .exc x st2 := by
  unfold runF; rw [he, h]
/-- a def answers a thing without places -/
theorem fs_val (he : us.map some ++ List.replicate (n - us.length) none = env) (h : mb env st = .ret u (st2 ++ ext)) (o : Old st st2) (hu : u.under 0 = true) : fScope (runF n mb) us st = .ok u st2 := by
  show scopeOut st (runF n mb us st) = _
  rw [run_ret he h]
  exact sc_val ext o hu
theorem fs_same (he : us.map some ++ List.replicate (n - us.length) none = env) (h : mb env st = .ret u st) (hu : u.under 0 = true) : fScope (runF n mb) us st = .ok u st := by
  show scopeOut st (runF n mb us st) = _
  rw [run_ret he h]
  exact sc_same hu
theorem fs_old (he : us.map some ++ List.replicate (n - us.length) none = env) (h : mb env st = .ret u st2) (o : Old st st2) (hu : u.under 0 = true) : fScope (runF n mb) us st = .ok u st2 := by
  show scopeOut st (runF n mb us st) = _
  rw [run_ret he h]
  exact sc_old o hu
theorem fs_non (he : us.map some ++ List.replicate (n - us.length) none = env) (h : mb env st = .next env' (st2 ++ ext)) (o : Old st st2) : fScope (runF n mb) us st = .ok .non st2 := by
  show scopeOut st (runF n mb us st) = _
  rw [run_next he h]
  exact sc_val ext o rfl
theorem fs_non0 (he : us.map some ++ List.replicate (n - us.length) none = env) (h : mb env st = .next env' st) : fScope (runF n mb) us st = .ok .non st := by
  show scopeOut st (runF n mb us st) = _
  rw [run_next he h]
  exact sc_same rfl
theorem fs_exc (he : us.map some ++ List.replicate (n - us.length) none = env) (h : mb env st = .exc x env' st2) : fScope (runF n mb) us st = .exc x st2 := by
  show scopeOut st (runF n mb us st) = _
  rw [run_exc he h]
  rfl
end
section
variable {i j : Int} {st : Sto} {u : U} {us ws : List U}
theorem fAdd_i : fAdd (.int i) (.int j) st = .ok (.int (i + j)) st := rfl
theorem fSub_i : fSub (.int i) (.int j) st = .ok (.int (i - j)) st := rfl
theorem fNeg_i : fNeg (.int i) st = .ok (.int (-i)) st := rfl
theorem fInt_i : fInt [.int i] st = .ok (.int i) st := rfl
theorem fAbs_i : fAbs [.int i] st = .ok (.int (if i < 0 then -i else i)) st := rfl
theorem fLt_i : fLt (.int i) (.int j) st = .ok (.bl (decide (i < j))) st := rfl
theorem fLe_i : fLe (.int i) (.int j) st = .ok (.bl (decide (i ≤ j))) st := rfl
theorem fGt_i : fGt (.int i) (.int j) st = .ok (.bl (decide (j < i))) st := rfl
theorem fMin_i : fMin2 [.int i, .int j] st = .ok (.int (if j < i then j else i)) st := rfl
theorem fMul_i (h : (-18446744073709551616 < i ∧ i < 18446744073709551616) ∨ (-18446744073709551616 < j ∧ j < 18446744073709551616)) : fMul (.int i) (.int j) st = .ok (.int (i * j)) st := by
  have c : cMul i j = true := by
    unfold cMul
    exact decide_eq_true h
  show (if cMul i j = true then _ else Out.bad) = _
  rw [if_pos c]
theorem fMod_i (h : 0 < j) : fMod (.int i) (.int j) st = .ok (.int (i % j)) st := by
  show (if cMod i j = true then _ else Out.bad) = _
  rw [if_pos (show cMod i j = true from decide_eq_true h)]
theorem fDiv_i (h : 0 < j) (h2 : j < 1000000000000000000000000000000000000000000000000000000000000) : fDiv (.int i) (.int j) st = .ok (.int (i / j)) st := by
  show (if cDiv i j = true then _ else Out.bad) = _
  rw [if_pos (show cDiv i j = true from decide_eq_true ⟨h, h2⟩)]
theorem fIsN_n : fIsN u .non st = .ok (.bl u.isNon) st := by cases u <;> rfl
theorem fNotN_n : fNotN u .non st = .ok (.bl (!u.isNon)) st := by cases u <;> rfl
theorem fIx_tup (h : atI us i = some u) : fIx (.tup us) (.int i) st = .ok u st := by
  unfold fIx
  dsimp only [items]
  rw [h]
theorem fIx_lst (h : atI us i = some u) : fIx (.lst us) (.int i) st = .ok u st := by
  unfold fIx
  dsimp only [items]
  rw [h]
theorem fIx_loc {k : Nat} (e : st[k]? = some (.lst us)) (h : atI us i = some u) : fIx (.loc k) (.int i) st = .ok u st := by
  unfold fIx
  dsimp only [items]
  rw [e]
  dsimp only
  rw [h]
theorem atI_nat {k : Nat} : atI us (k : Int) = us[k]? := by
  unfold atI
  by_cases h : k < us.length
  · simp [ixN, h]
  · simp [ixN, h]
theorem fLen_lst : fLen [.lst us] st = .ok (.int us.length) st := rfl
theorem fLen_tup : fLen [.tup us] st = .ok (.int us.length) st := rfl
theorem fTuple_lst : fTuple [.lst us] st = .ok (.tup us) st := rfl
theorem fTuple_tup : fTuple [.tup us] st = .ok (.tup us) st := rfl
theorem fTuple_loc {k : Nat} (e : st[k]? = some (.lst us)) : fTuple [.loc k] st = .ok (.tup us) st := by
  unfold fTuple
  dsimp only [items]
  rw [e]
end
end NK

set_option Elab.async false
set_option linter.all false
set_option maxRecDepth 100000
set_option maxHeartbeats 1000000
/-! NK18: what is never reached, substrings, str of a number, list of a dict, a dict of one pair, own len. -/
namespace NK
open PySem L2
section
variable {X : Cx} {T : Tb} {P : Pin} {Wx : WX}
/-! ### never reached: the mirror promises nothing -/
def sStub : MS := fun _ _ => .bad
def eStub : ME := fun _ _ => .bad
theorem psm_stub {s : Stmt} : PSm X T P Wx s sStub := ⟨fun pins s σ H D I ⟨c, env, st, hH, hE, hR⟩ => hR.elim⟩
theorem pssm_stub {s : List Stmt} : PSsm X T P Wx s sStub := ⟨fun pins s σ H D I ⟨c, env, st, hH, hE, hR⟩ => hR.elim⟩
theorem pem_stub {e : Expr} : PEm X T P Wx e eStub := ⟨fun pins s σ H Q I ⟨c, env, st, hH, hE, hR⟩ => hR.elim⟩

/-! ### x in y, both texts -/
def fInS (neg : Bool) : U → U → Sto → Out U := fun u w st => match u with
  | .str i => match w with
    | .str j => .ok (.bl ((!(Builtin.Str.occurrences j i 0 j.length 1).isEmpty) != neg)) st
    | _ => .bad
  | _ => .bad
theorem sim_inS : OpSim T (fun x y H Q => ∃ i j, x = .str i ∧ y = .str j ∧ Q (.bl (!(Builtin.Str.occurrences j i 0 j.length 1).isEmpty)) H) (fInS false) := fun Wx c σ st H u w x y Q hH ru rw hR => by
  cases u with
  | str i =>
    cases w with
    | str j =>
      cases ru.inv_str
      cases rw.inv_str
      refine ⟨i, j, rfl, rfl, ?_⟩
      have hR : ResG T Wx c σ (Rp T) (.ok (.bl ((!(Builtin.Str.occurrences j i 0 j.length 1).isEmpty) != false)) st) Q := hR
      rw [Bool.bne_false] at hR
      exact ResG.ret hR hH (.bl _)
    | _ => exact hR.elim
  | _ => exact hR.elim
theorem sim_notinS : OpSim T (fun x y H Q => ∃ i j, x = .str i ∧ y = .str j ∧ Q (.bl (!(!(Builtin.Str.occurrences j i 0 j.length 1).isEmpty))) H) (fInS true) := fun Wx c σ st H u w x y Q hH ru rw hR => by
  cases u with
  | str i =>
    cases w with
    | str j =>
      cases ru.inv_str
      cases rw.inv_str
      refine ⟨i, j, rfl, rfl, ?_⟩
      have hR : ResG T Wx c σ (Rp T) (.ok (.bl ((!(Builtin.Str.occurrences j i 0 j.length 1).isEmpty) != true)) st) Q := hR
      rw [Bool.bne_true] at hR
      exact ResG.ret hR hH (.bl _)
    | _ => exact hR.elim
  | _ => exact hR.elim

/-! ### list(d) -/
def keyOf (k : Key) : U := match k with
  | .inl i => .int i
  | .inr x => .str x
theorem keys_at {c : Cn} : ∀ {us : List (Key × U)} {vs : List (Key × V)}, RpK T c us vs → RpL T c (us.map fun kv => keyOf kv.1) (vs.map fun kv => kV kv.1)
  | _, _, .nil => .nil
  | _, _, .cons (k := k) r t => by
    refine .cons ?_ (keys_at t)
    cases k with
    | inl i => exact .int i
    | inr x => exact .str x
def fListD : List U → Sto → Out U := fun us st => match us with
  | [.loc i] => match st[i]? with
    | some (.dK kvs) => .ok (.loc st.length) (st ++ [.lst (kvs.map fun kv => keyOf kv.1)])
    | _ => .bad
  | _ => .bad
theorem sim_listD : CallSim T rListD fListD := fun Wx c σ st H us xs Q hH r hR => by
  unfold fListD at hR
  split at hR
  · rename_i i
    obtain ⟨v, vs, rfl, r1, t⟩ := r.inv_cons
    cases t.inv_nil
    obtain ⟨_, rfl⟩ := r1.inv_loc
    split at hR
    · rename_i kvs q
      obtain ⟨ws, h1, h2⟩ := hH.at_dK q
      exact ⟨_, ws, rfl, h1, new_lst hH (keys_at h2) hR⟩
    · exact hR.elim
  · exact hR.elim

/-! ### a dict of one pair of constants -/
def eDic1 (k : Str) (i : Int) : ME := fun _ st => .ok (.loc st.length) (st ++ [.dK [(.inr k, .int i)]])
theorem pem_dic1 {k : Str} {i : Int} {j1 j2 p1 p2 pos} : PEm X T P Wx (.Dict [some (.Constant (.str k) j1 p1)] [.Constant (.int i) j2 p2] pos) (eDic1 k i) :=
  PE.imp (pe_disp (pps_cons pe_str pe_int pps_nil) rfl rfl (by simp) (by simp)) fun σ H Q ⟨c, env, st, hH, hE, hR⟩ p hp => by
    show upd H p (.dK []) p = some (.dK []) ∧ ∃ kvs : List (Key × V), [(V.str k, V.int i)] = kvs.map (fun kv => (kV kv.1, kv.2)) ∧ kvs.length ≤ 15 ∧ Q (.ref p) (upd (upd H p (.dK [])) p (.dK (mergeK [] kvs)))
    refine ⟨upd_same, [(.inr k, .int i)], rfl, by simp, ?_⟩
    have l := le_new c p
    have hlt : st.length < (c.new p).n := by show _ < c.n + 1; rw [hH.n]; exact Nat.lt_succ_self _
    have e : V.ref p = V.ref ((c.new p).ρ st.length) := by rw [← hH.n, new_self]
    have eu : upd (upd H p (.dK [])) p (.dK (mergeK [] [(.inr k, V.int i)])) = upd H p (.dK [(.inr k, V.int i)]) := by
      funext b
      by_cases hb : b = p
      · rw [hb, upd_same, upd_same]
        rfl
      · rw [upd_ne hb, upd_ne hb, upd_ne hb]
    rw [eu, e]
    exact hR _ _ _ l (hH.new hp (o := .dK [(.inr k, .int i)]) (x := .dK [(.inr k, V.int i)]) ⟨_, rfl, .cons (.int i) .nil⟩) (.loc hlt)

/-! ### len(x) by an own __len__ -/
def rOwnLen (K : PySem.W.Frag) (C : Addr) (sp : Sp) : List V → Hp → VK → Prop := fun xs H Q => ∃ a dx fs, xs = [.ref a] ∧ H a = some (.ins C dx fs) ∧ sp [.ref a] H (fun v H' => ∃ n : Nat, v = .int n ∧ n ≤ 1000000 ∧ Q (.int n) H') (fun _ _ _ => False)
open PySem.Spec PyProof.Rows in
theorem call_ownLen {CX : CXT} {C f : Addr} {kk : Nat} {fd : FuncData} {ps : List Str} {sp : Sp} (F : FnOk X.prog X.w X.K X.mg X.base CX kk f fd ps sp) (hr : Room (kk + 1) X.A)
    (hs : PySem.W.findIn X.K (.ref C) "__len__" = some (some (.ref f))) (hf : PySem.W.isFn X.K (.ref f) = true) (hb : Binds X.K fd ps []) (hx : Passes CX X (fun _ _ _ => False)) : CallR X (.builtin "len") (rOwnLen X.K C sp) := by
  intro pins s σ H xs us Q I rx hq
  obtain ⟨a, dx, fs, rfl, ha, hsp⟩ := hq
  obtain ⟨u, rfl, ru⟩ := vals1 rx
  cases ru
  obtain ⟨mA, J, _⟩ := ins_get I.hok ha
  obtain ⟨od, J, _⟩ := J.look
  obtain ⟨m, hF⟩ := I.fr
  refine PySem.W.len_K hF I.ok.mod.kin J hs hf ?_
  have r2 : Vals [V.ref a] [Value.ref a] := .cons rfl .nil
  have hl := F.len _ _ _ _ hsp
  refine wpAny_call (codeAny_mono (F.run X.A.in1 X.stack s H ⟨[.ref a], []⟩ [.ref a] [.ref a] _ _ hr.in1 I.env0.in1 (by
    have := hb s [.ref a] I.kIn (by simpa using hl)
    simpa using this) r2 hsp) fun r s' hq => ?_)
  cases r with
  | error e => exact hx pins σ H s e s' I hq
  | ok fl =>
    cases fl with
    | ret w =>
      obtain ⟨z, H', I', rz, n, ez, hn, q⟩ := I.after hq
      subst ez
      obtain ⟨t, rfl⟩ := rz
      exact ⟨⟨by omega, by omega⟩, .int n, H', I'.tok _, ⟨_, rfl⟩, q⟩
    | next => exact False.elim hq
    | brk => exact False.elim hq
    | cont => exact False.elim hq
def fLenOwn (k : Nat) (mf : MF) : List U → Sto → Out U := fun us st => match us with
  | [u] => if isK k u st = true then (match mf [u] st with
    | .ok (.int n) st' => if 0 ≤ n ∧ n ≤ 1000000 then .ok (.int n) st' else .bad
    | _ => .bad) else .bad
  | _ => .bad
theorem sim_ownLen {k : Nat} {mf : MF} : CallSim T (rOwnLen T.K (T.cls k) (spOf T 1 mf)) (fLenOwn k mf) := fun Wx c σ st H us xs Q hH r hR => by
  unfold fLenOwn at hR
  split at hR
  · rename_i u
    obtain ⟨v, vs, rfl, r1, t⟩ := r.inv_cons
    cases t.inv_nil
    split at hR
    · rename_i hk
      obtain ⟨a, dx, vs, rfl, h1⟩ := isK_at hH r1 hk
      refine ⟨a, dx, _, rfl, h1, rfl, c, [u], st, hH, .cons r1 .nil, ?_⟩
      split at hR
      · rename_i n st' q
        rw [q]
        split at hR
        · rename_i hn
          intro c' v H' l hH' rv
          cases rv.inv_int
          obtain ⟨m, rfl⟩ := Int.eq_ofNat_of_zero_le hn.1
          exact ⟨m, rfl, by omega, hR c' _ H' l hH' (.int _)⟩
        · exact hR.elim
      · exact hR.elim
    · exact hR.elim
  · exact hR.elim
/-! ### raise C(..), where arguments must be numbers -/
def okIx (us : List U) (j : Nat) : Bool := match us[j]? with
  | some (.int i) => decide (i.natAbs.log2 < 1920)
  | _ => false
def gIx (js : List Nat) : List V → Prop := fun vs => ∀ j ∈ js, ∃ i : Int, vs[j + 1]? = some (.int i) ∧ i.natAbs.log2 < 1920
def sRaiseG (k n : Nat) (js : List Nat) (ma : MA) : MS := fun env st => (ma env st).st env fun us st1 => if us.length = n ∧ js.all (okIx us) = true then .exc ⟨k, us⟩ env st1 else .bad
theorem psm_raiseG {k kk n : Nat} {js : List Nat} {x : Str} {fI : Addr} {fd : FuncData} {ps : List Str} {e : Expr} {es : List Expr} {ma : MA} {pos pos' p : Pos} (hc : X.calm = true) (tk : Takes X Wx) (OT : OexC X.K (T.cls k)) (iC : PySem.W.findIn X.K (.ref (T.cls k)) "__init__" = some (some (.ref fI))) (tI : PySem.W.typeIn X.K (.ref fI) = some (.type "function"))
    (F1 : FnOk X.prog X.w X.K X.mg X.base (L2.CX X.prog X.w) kk fI fd ps (spIniG (gIx js) (T.cls k) (T.fld k))) (hr : Room (kk + 1) X.A) (hb : Binds X.K fd ps []) (hg : Gl X x) (hm : X.mg x = some (.ref (T.cls k))) (hn : (T.fld k).length = n) (hsz : n ≤ 900) (ha : PAm X T P Wx (e :: es) ma)
    (hdb : (x == ("__debug__" : Str)) = false := by decide) (he : starEach (e :: es) X.env = (false, eval e X.env) :: starEach es X.env := by rfl) (hpl : (backTo pos (starEach es X.env)).any (·.1) = false := by rfl) :
    PSm X T P Wx (.Raise (some (.Call (.Name x p) (e :: es) [] pos)) none pos') (sRaiseG k n js ma) :=
  PS.imp (ps_raise hc tk (pmk_oex OT iC tI F1 hr hb .nil (passes_call tk fun _ _ _ _ h => h.elim) hg hm ha hdb he hpl)) fun D σ H ⟨c, env, st, hH, hE, hR⟩ => by
    refine (ts_bind hH hE hR).mono fun vs H1 ⟨us, c1, st1, l1, hH1, hE1, r1, hR1⟩ => ?_
    split at hR1
    · rename_i hl
      obtain ⟨hl, hj⟩ := hl
      have hvl : vs.length = n := by rw [← r1.length]; exact hl
      have hgd : ∀ a : Addr, gIx js (V.ref a :: (vs ++ [])) := fun a j hj' => by
        have q := List.all_eq_true.mp hj j hj'
        unfold okIx at q
        split at q
        · rename_i i e
          obtain ⟨v, hv, rv⟩ := r1.get e
          cases rv.inv_int
          exact ⟨i, by rw [List.append_nil, List.getElem?_cons_succ, hv], of_decide_eq_true q⟩
        · cases q
      refine ⟨by omega, fun a na => ⟨hgd a, by rw [List.append_nil, List.length_cons, hvl, hn], a, vs, H1, by rw [List.append_nil], na, rfl, fun d nd ne => ⟨rfl, d, _, upd_same, by rw [upd_ne ne, upd_same], nd, ?_⟩⟩⟩
      rw [upd_del na ne]
      refine hR1 (c1.still d _) _ _ σ _ (le_still hH1 nd _) (hH1.still nd _) (hE1.mono (le_still hH1 nd _)) ⟨rfl, d, vs, rfl, ?_, by rw [hvl, hn], r1.mono (le_still hH1 nd _)⟩
      show upd c1.F d _ d = _
      rw [upd_same]
    · exact hR1.elim
end
end NK

set_option Elab.async false
set_option linter.all false
set_option maxRecDepth 100000
set_option maxHeartbeats 4000000
/-! The mirrors of the defs that the law reaches (printed). -/
namespace G
open PySem L2 NK
def fldN : Nat → List Str
  | 1 => ["index", "what"]
  | 2 => ["label"]
  | 3 => ["width", "persons", "kinds", "parents", "starts", "dead", "mates", "broods"]
  | 4 => ["ledger", "width", "rows", "persons", "founders", "born", "weddings", "couples", "living"]
  | _ => []
def isl : IsL := []
noncomputable def l_u_law_hand_1 : MS := (sAsg (eOp fMod (eCB fInt (aCons (eOp fAdd (eOp fMul (eVar 1) (eC (.int 31))) (eOp fMul (eCB fInt (aCons (eVar 3) aNil)) (eOp fAdd (eVar 2) (eC (.int 7))))) aNil)) (eC (.int 2147483629))) (gN 1))
noncomputable def b_u_law_hand : MS := (sSeq (sAsg (eC (.int 0)) (gN 1))
    (sSeq (sFor (iEnumA (aCons (eVar 0) aNil)) (gT [2, 3]) l_u_law_hand_1)
    (sRet (eLst (aCons (eScope (eComp (iSeq (eVar 0)) (gN 3) NK.tYes (eCB fAbs (aCons (eCB fInt (aCons (eVar 3) aNil)) aNil)) [3])) (aCons (eC (.int 0)) (aCons (eC (.int 0)) (aCons (eVar 1) aNil))))))))
noncomputable def m_u_law_hand : MF := ( (runF 4 b_u_law_hand))
noncomputable def b_u_law_mix : MS := (sSeq (sAsg (eOp fMod (eCB fInt (aCons (eOp fAdd (eOp fAdd (eOp fMul (eVar 0) (eC (.int 48271))) (eOp fMul (eVar 1) (eC (.int 16807)))) (eC (.int 11))) aNil)) (eC (.int 2147483647))) (gN 2))
    (sSeq (sAsg (eOp fMod (eCB fInt (aCons (eOp fAdd (eOp fAdd (eOp fMul (eVar 2) (eVar 2)) (eOp fMul (eOp fDiv (eVar 2) (eC (.int 127))) (eC (.int 40692)))) (eOp fMul (eVar 1) (eC (.int 69621)))) aNil)) (eC (.int 2147483399))) (gN 3))
    (sRet (eOp fDiv (eOp fMod (eCB fInt (aCons (eOp fAdd (eOp fDiv (eOp fMul (eVar 3) (eVar 3)) (eC (.int 1009))) (eVar 2)) aNil)) (eC (.int 2147483563))) (eC (.int 16))))))
noncomputable def m_u_law_mix : MF := fScope (runF 4 b_u_law_mix)
noncomputable def b_u_law_draw : MS := (sSeq (sIf (tAnd (NK.tB (eOp fEq (eOp fIx (eVar 0) (eC (.int 2))) (eC (.int 0)))) (NK.tB (eOp fLt (eOp fIx (eVar 0) (eC (.int 1))) (eCB fLen (aCons (eOp fIx (eVar 0) (eC (.int 0))) aNil))))) (sSeq (sAsg (eOp fIx (eOp fIx (eVar 0) (eC (.int 0))) (eOp fIx (eVar 0) (eC (.int 1)))) (gN 2))
    (sSeq (sSetIx (eVar 0) (eC (.int 1)) (eOp fAdd (eOp fIx (eVar 0) (eC (.int 1))) (eC (.int 1))))
    (sSeq (sIf (NK.tB (eOp fLt (eVar 2) (eOp fPow (eC (.int 10)) (eC (.int 18))))) (sRet (eOp fMod (eCB fInt (aCons (eCall 2 m_u_law_mix [] (aCons (eOp fMod (eCB fInt (aCons (eVar 2) aNil)) (eC (.int 2147483647))) (aCons (eOp fIx (eVar 0) (eC (.int 1))) aNil))) aNil)) (eVar 1))) sNext)
    (sSetIx (eVar 0) (eC (.int 2)) (eVar 2))))) sNext)
    (sSeq (sIf (NK.tB (eOp fGt (eOp fIx (eVar 0) (eC (.int 2))) (eC (.int 0)))) (sSeq (sAsg (eOp fIx (eVar 0) (eC (.int 2))) (gN 3))
    (sSeq (sSetIx (eVar 0) (eC (.int 2)) (eOp fDiv (eVar 3) (eVar 1)))
    (sRet (eOp fMod (eCB fInt (aCons (eVar 3) aNil)) (eVar 1))))) sNext)
    (sSeq (sSetIx (eVar 0) (eC (.int 3)) (eOp fMod (eCB fInt (aCons (eOp fAdd (eOp fIx (eVar 0) (eC (.int 3))) (eC (.int 1))) aNil)) (eC (.int 2147483629))))
    (sRet (eOp fMod (eCB fInt (aCons (eCall 2 m_u_law_mix [] (aCons (eOp fIx (eVar 0) (eC (.int 3))) (aCons (eOp fIx (eVar 0) (eC (.int 1))) aNil))) aNil)) (eVar 1))))))
noncomputable def m_u_law_draw : MF := fScope (runF 4 b_u_law_draw)
noncomputable def b_u_law_pick : MS := (sRet (eOp fIx (eVar 1) (eCall 2 m_u_law_draw [] (aCons (eVar 0) (aCons (eCB fLen (aCons (eVar 1) aNil)) aNil)))))
noncomputable def m_u_law_pick : MF := ( (runF 2 b_u_law_pick))
noncomputable def l_u_law_odd_1 : MS := (sAsg (eOp fAdd (eVar 2) (eCall 2 m_u_law_pick [] (aCons (eVar 0) (aCons (eIf (NK.tB (eOp fLt (eVar 1) (eC (.int 7)))) (eC (.str "fmsdazbyn")) (eC (.str "fmsdaz AB1-_"))) aNil)))) (gN 2))
noncomputable def b_u_law_odd : MS := (sSeq (sAsg (eCall 2 m_u_law_draw [] (aCons (eVar 0) (aCons (eC (.int 8)) aNil))) (gN 1))
    (sSeq (sIf (NK.tB (eOp fEq (eVar 1) (eC (.int 0)))) (sRet (eOp fSub (eCall 2 m_u_law_draw [] (aCons (eVar 0) (aCons (eOp fPow (eC (.int 10)) (eC (.int 31))) aNil))) (eOp fPow (eC (.int 10)) (eC (.int 30))))) sNext)
    (sSeq (sIf (NK.tB (eOp fEq (eVar 1) (eC (.int 1)))) (sRet (eOp fSub (eOp fAdd (eOp fPow (eC (.int 10)) (eC (.int 30))) (eCall 2 m_u_law_draw [] (aCons (eVar 0) (aCons (eC (.int 3)) aNil)))) (eC (.int 1)))) sNext)
    (sSeq (sIf (NK.tB (eOp fEq (eVar 1) (eC (.int 2)))) (sRet (eOp fSub (eCall 2 m_u_law_draw [] (aCons (eVar 0) (aCons (eC (.int 5)) aNil))) (eC (.int 1)))) sNext)
    (sSeq (sIf (NK.tB (eOp fEq (eVar 1) (eC (.int 3)))) (sRet (eCall 2 m_u_law_pick [] (aCons (eVar 0) (aCons (eLst (aCons (eC (.bl true)) (aCons (eC (.bl false)) (aCons (eC .non) (aCons (eTup aNil) (aCons (eScope (eLst aNil)) (aCons (eTup (aCons (eC (.str "s")) aNil)) (aCons (eDic1 "s" 1) aNil)))))))) aNil)))) sNext)
    (sSeq (sIf (NK.tB (eOp fEq (eVar 1) (eC (.int 4)))) (sRet (eCall 2 m_u_law_pick [] (aCons (eVar 0) (aCons (eScope (eLst (aCons (eC (.str "")) (aCons (eC (.str "s")) (aCons (eC (.str "d")) (aCons (eC (.str "f")) (aCons (eC (.str "m")) (aCons (eC (.str "fm")) (aCons (eC (.str "sd")) (aCons (eC (.str "S")) (aCons (eC (.str "ffm")) (aCons (eC (.str "mfmf")) (aCons (eC (.str " ")) aNil))))))))))))) aNil)))) sNext)
    (sSeq (sAsg (eC (.str "")) (gN 2))
    (sSeq (sFor (iRng1 (aCons (eCall 2 m_u_law_draw [] (aCons (eVar 0) (aCons (eC (.int 9)) aNil))) aNil)) (gN 3) l_u_law_odd_1)
    (sRet (eVar 2))))))))))
noncomputable def m_u_law_odd : MF := ( (runF 4 b_u_law_odd))
noncomputable def b_u_law_is_number : MS := (sRet (eAnd (eIsi isl [(.b .int)] (eVar 0)) (eAnd (eNot (eIsi isl [(.b .bool)] (eVar 0))) (eChain fLe fLe (eVar 1) (eVar 0) (eVar 2)))))
noncomputable def m_u_law_is_number : MF := fScope (runF 3 b_u_law_is_number)
noncomputable def b_is_whole : MS := (sRet (eAnd (eIsi isl [(.b .int)] (eVar 0)) (eAnd (eNot (eIsi isl [(.b .bool)] (eVar 0))) (eChain fLe fLe (eVar 1) (eVar 0) (eVar 2)))))
noncomputable def m_is_whole : MF := fScope (runF 3 b_is_whole)
noncomputable def b_fault_ahead : MS := (sSeq (sIf (tNot (tTru (eCall 3 m_is_whole [] (aCons (eVar 0) (aCons (eC (.int 0)) (aCons (eC (.int 2)) aNil)))))) (sRet (eTup (aCons (eC (.int 0)) (aCons (eC (.str "width")) aNil)))) sNext)
    (sSeq (sIf (tNot (tTru (eIsi isl [(.b .list), (.b .tuple)] (eVar 1)))) (sRet (eTup (aCons (eC (.int 0)) (aCons (eC (.str "rows")) aNil)))) sNext)
    (sSeq (sIf (NK.tB (eOp fGt (eCB fLen (aCons (eVar 1) aNil)) (eC (.int 5000)))) (sRet (eTup (aCons (eC (.int 5000)) (aCons (eC (.str "many")) aNil)))) sNext)
    (sRet (eC .non)))))
noncomputable def m_fault_ahead : MF := fScope (runF 2 b_fault_ahead)
noncomputable def l_is_label_1 : MS := (sIf (NK.tB (eOp (fInS true) (eVar 1) (eC (.str "abcdefghijklmnopqrstuvwxyz")))) (sRet (eC (.bl false))) sNext)
noncomputable def b_is_label : MS := (sSeq (sIf (tOr (tNot (tTru (eIsi isl [(.b .str)] (eVar 0)))) (tNot (NK.tB (eChain fLe fLe (eC (.int 1)) (eCB fLen (aCons (eVar 0) aNil)) (eC (.int 6)))))) (sRet (eC (.bl false))) sNext)
    (sSeq (sFor (iSeq (eVar 0)) (gN 1) l_is_label_1)
    (sRet (eC (.bl true)))))
noncomputable def m_is_label : MF := fScope (runF 2 b_is_label)
noncomputable def b_is_kind : MS := (sRet (eAnd (eIsi isl [(.b .str)] (eVar 0)) (eOp (fIn false) (eVar 0) (eTup (aCons (eC (.str "s")) (aCons (eC (.str "d")) aNil))))))
noncomputable def m_is_kind : MF := fScope (runF 1 b_is_kind)
noncomputable def b_is_name : MS := (sRet (eCall 3 m_is_whole [] (aCons (eVar 0) (aCons (eC (.int 0)) (aCons (eC (.int 1000000000000000000000000000000)) aNil)))))
noncomputable def m_is_name : MF := fScope (runF 1 b_is_name)
noncomputable def l_is_house_1 : MS := (sIf (tNot (tTru (eCall 1 m_is_name [] (aCons (eVar 1) aNil)))) (sRet (eC (.bl false))) sNext)
noncomputable def b_is_house : MS := (sSeq (sIf (tNot (tTru (eIsi isl [(.b .list), (.b .tuple)] (eVar 0)))) (sRet (eC (.bl false))) sNext)
    (sSeq (sFor (iSeq (eVar 0)) (gN 1) l_is_house_1)
    (sRet (eC (.bl true)))))
noncomputable def m_is_house : MF := fScope (runF 2 b_is_house)
noncomputable def b_plain_row : MS := (sSeq (sIf (tOr (tNot (tTru (eIsi isl [(.b .list), (.b .tuple)] (eVar 0)))) (tOr (NK.tB (eOp fEq (eCB fLen (aCons (eVar 0) aNil)) (eC (.int 0)))) (tNot (tTru (eIsi isl [(.b .str)] (eOp fIx (eVar 0) (eC (.int 0)))))))) (sRet (eC .non)) sNext)
    (sSeq (sAsg (eCB fLen (aCons (eVar 0) aNil)) (gN 1))
    (sSeq (sIf (NK.tB (eOp fEq (eOp fIx (eVar 0) (eC (.int 0))) (eC (.str "comes")))) (sSeq (sIf (tOr (NK.tB (eOp fNe (eVar 1) (eC (.int 5)))) (tNot (tAnd (tTru (eCall 1 m_is_label [] (aCons (eOp fIx (eVar 0) (eC (.int 1))) aNil))) (tAnd (tTru (eCall 1 m_is_kind [] (aCons (eOp fIx (eVar 0) (eC (.int 2))) aNil))) (tAnd (tTru (eCall 1 m_is_name [] (aCons (eOp fIx (eVar 0) (eC (.int 3))) aNil))) (tTru (eCall 1 m_is_house [] (aCons (eOp fIx (eVar 0) (eC (.int 4))) aNil)))))))) (sRet (eC .non)) sNext)
    (sRet (eTup (aCons (eC (.str "comes")) (aCons (eOp fIx (eVar 0) (eC (.int 1))) (aCons (eOp fIx (eVar 0) (eC (.int 2))) (aCons (eOp fIx (eVar 0) (eC (.int 3))) (aCons (eCB fTuple (aCons (eOp fIx (eVar 0) (eC (.int 4))) aNil)) aNil)))))))) sNext)
    (sSeq sStub
    (sSeq sStub
    (sSeq sStub
    (sRet (eC .non))))))))
noncomputable def m_plain_row : MF := fScope (runF 2 b_plain_row)
noncomputable def b_Ledger_fault_of_row : MS := (sSeq (sIf (NK.tB (eOp fEq (eOp fIx (eVar 1) (eC (.int 0))) (eC (.str "comes")))) (sSeq (sIf (NK.tB (eOp (fDIn false) (eOp fIx (eVar 1) (eC (.int 1))) (eFld 3 2 (eVar 0)))) (sRet (eC (.str "label"))) sNext)
    (sRet (eIf (NK.tB (eOp fNe (eCB fLen (aCons (eOp fIx (eVar 1) (eC (.int 4))) aNil)) (eFld 3 0 (eVar 0)))) (eC (.str "width")) (eC .non)))) sNext)
    (sSeq sStub
    (sSeq sStub
    (sSeq sStub
    sStub))))
noncomputable def m_Ledger_fault_of_row : MF := fScope (runF 2 b_Ledger_fault_of_row)
noncomputable def b_Ledger_enter : MS := (sSeq (sDrop (eBM fApp (eFld 3 1 (eVar 0)) (aCons (eVar 1) aNil)))
    (sSeq (NK.sDPut (eFld 3 2 (eVar 0)) (eVar 1) (eVar 2))
    (sSeq (NK.sDPut (eFld 3 3 (eVar 0)) (eVar 1) (eVar 3))
    (sSeq (NK.sDPut (eFld 3 4 (eVar 0)) (eVar 1) (eVar 4))
    (NK.sDPut (eFld 3 6 (eVar 0)) (eVar 1) (eLst aNil))))))
noncomputable def m_Ledger_enter : MF := ( (runF 5 b_Ledger_enter))
noncomputable def b_Ledger_take : MS := (sIf (NK.tB (eOp fEq (eOp fIx (eVar 1) (eC (.int 0))) (eC (.str "comes")))) (sDrop (eMeth 3 5 m_Ledger_enter [] (eVar 0) (aCons (eOp fIx (eVar 1) (eC (.int 1))) (aCons (eOp fIx (eVar 1) (eC (.int 2))) (aCons (eC .non) (aCons (eVar 2) aNil)))))) sStub)
noncomputable def m_Ledger_take : MF := ( (runF 3 b_Ledger_take))
noncomputable def l_fill_ledger_1 : MS := (sSeq (sAsg (eCall 1 m_plain_row [] (aCons (eVar 4) aNil)) (gN 5))
    (sSeq (sIf (NK.tB (eOp fIsN (eVar 5) (eC .non))) (sRet (eTup (aCons (eVar 3) (aCons (eC (.str "row")) aNil)))) sNext)
    (sSeq (sAsg (eMeth 3 2 m_Ledger_fault_of_row [] (eVar 0) (aCons (eVar 5) aNil)) (gN 6))
    (sSeq (sIf (NK.tB (eOp fNotN (eVar 6) (eC .non))) (sRet (eTup (aCons (eVar 3) (aCons (eVar 6) aNil)))) sNext)
    (sSeq (sDrop (eMeth 3 3 m_Ledger_take [] (eVar 0) (aCons (eVar 5) (aCons (eVar 3) aNil))))
    (sDrop (eBM fApp (eVar 2) (aCons (eVar 5) aNil))))))))
noncomputable def b_fill_ledger : MS := (sSeq (sFor (iEnumA (aCons (eVar 1) aNil)) (gT [3, 4]) l_fill_ledger_1)
    (sRet (eC .non)))
noncomputable def m_fill_ledger : MF := ( (runF 7 b_fill_ledger))
noncomputable def b_Ledger___init : MS := (sSeq (NK.sFld 3 0 (eVar 0) (eVar 1))
    (sSeq (NK.sFld 3 1 (eVar 0) (eLst aNil))
    (sSeq (NK.sFld 3 2 (eVar 0) eDict)
    (sSeq (NK.sFld 3 3 (eVar 0) eDict)
    (sSeq (NK.sFld 3 4 (eVar 0) eDict)
    (sSeq (NK.sFld 3 5 (eVar 0) eDict)
    (sSeq (NK.sFld 3 6 (eVar 0) eDict)
    (NK.sFld 3 7 (eVar 0) eDict))))))))
noncomputable def m_Ledger___init : MF := ( (runF 2 b_Ledger___init))
noncomputable def b_record_fault : MS := (sSeq (sAsg (eCall 2 m_fault_ahead [] (aCons (eVar 0) (aCons (eVar 1) aNil))) (gN 2))
    (sSeq (sIf (NK.tB (eOp fNotN (eVar 2) (eC .non))) (sRet (eVar 2)) sNext)
    (sRet (eCall 3 m_fill_ledger [] (aCons (eMake 3 2 m_Ledger___init [] (aCons (eVar 0) aNil)) (aCons (eVar 1) (aCons (eLst aNil) aNil)))))))
noncomputable def m_record_fault : MF := fScope (runF 3 b_record_fault)
noncomputable def l_is_way_1 : MS := (sIf (NK.tB (eOp (fIn true) (eVar 3) (eTup (aCons (eC (.str "f")) (aCons (eC (.str "m")) aNil))))) (sRet (eC (.bl false))) sNext)
noncomputable def b_is_way : MS := (sSeq (sIf (tOr (tNot (tTru (eIsi isl [(.b .str)] (eVar 0)))) (tNot (NK.tB (eChain fLe fLe (eVar 1) (eCB fLen (aCons (eVar 0) aNil)) (eVar 2))))) (sRet (eC (.bl false))) sNext)
    (sSeq (sFor (iSeq (eVar 0)) (gN 3) l_is_way_1)
    (sRet (eC (.bl true)))))
noncomputable def m_is_way : MF := fScope (runF 4 b_is_way)
noncomputable def b_u_law_only : MS := (sSeq (sIf (tOr (tNot (tTru (eIsi isl [(.b .str)] (eVar 0)))) (tNot (NK.tB (eChain fLe fLe (eVar 2) (eCB fLen (aCons (eVar 0) aNil)) (eVar 3))))) (sRet (eC (.bl false))) sNext)
    (sRet (eOp fEq (eScope (eComp (iSeq (eVar 0)) (gN 4) (NK.tB (eOp (fInS true) (eVar 4) (eVar 1))) (eVar 4) [4])) (eScope (eLst aNil)))))
noncomputable def m_u_law_only : MF := fScope (runF 5 b_u_law_only)
noncomputable def l_u_law_questions_1 : MS := (sIf (tOr (tNot (tTru (eIsi isl [(.b .bool)] (eOp fIx (eVar 4) (eVar 6))))) (NK.tB (eOp fNe (eOp fIx (eVar 4) (eVar 6)) (eOp fIx (eVar 5) (eVar 6))))) (sRet (eC (.bl false))) sNext)
noncomputable def b_u_law_questions : MS := (sSeq (sAsg (eC (.str "abcdefghijklmnopqrstuvwxyz")) (gN 3))
    (sSeq (sAsg (eScope (eLst (aCons (eCall 3 m_is_whole [] (aCons (eVar 0) (aCons (eVar 1) (aCons (eVar 2) aNil)))) (aCons (eCall 1 m_is_name [] (aCons (eVar 0) aNil)) (aCons (eCall 1 m_is_label [] (aCons (eVar 0) aNil)) (aCons (eCall 1 m_is_kind [] (aCons (eVar 0) aNil)) (aCons (eCall 3 m_is_way [] (aCons (eVar 0) (aCons (eVar 1) (aCons (eVar 2) aNil)))) aNil))))))) (gN 4))
    (sSeq (sAsg (eScope (eLst (aCons (eCall 3 m_u_law_is_number [] (aCons (eVar 0) (aCons (eVar 1) (aCons (eVar 2) aNil)))) (aCons (eCall 3 m_u_law_is_number [] (aCons (eVar 0) (aCons (eC (.int 0)) (aCons (eOp fPow (eC (.int 10)) (eC (.int 30))) aNil)))) (aCons (eCall 4 m_u_law_only [] (aCons (eVar 0) (aCons (eVar 3) (aCons (eC (.int 1)) (aCons (eC (.int 6)) aNil))))) (aCons (eAnd (eIsi isl [(.b .str)] (eVar 0)) (eOp (fIn false) (eVar 0) (eScope (eLst (aCons (eC (.str "s")) (aCons (eC (.str "d")) aNil)))))) (aCons (eCall 4 m_u_law_only [] (aCons (eVar 0) (aCons (eC (.str "fm")) (aCons (eVar 1) (aCons (eVar 2) aNil))))) aNil))))))) (gN 5))
    (sSeq (sFor (iRng1 (aCons (eC (.int 5)) aNil)) (gN 6) l_u_law_questions_1)
    (sRet (eC (.bl true)))))))
noncomputable def m_u_law_questions : MF := fScope (runF 7 b_u_law_questions)
noncomputable def b_u_law_long_label : MS := (sSeq (sAsg (eC (.str "abcdefghijklmnopqrstuvwxyz")) (gN 1))
    (sRet (eOp fAdd (eOp fAdd (eOp fIx (eVar 1) (eOp fMod (eOp fDiv (eVar 0) (eC (.int 676))) (eC (.int 26)))) (eOp fIx (eVar 1) (eOp fMod (eOp fDiv (eVar 0) (eC (.int 26))) (eC (.int 26))))) (eOp fIx (eVar 1) (eOp fMod (eVar 0) (eC (.int 26)))))))
noncomputable def m_u_law_long_label : MF := fScope (runF 2 b_u_law_long_label)
noncomputable def b_u_law_many : MS := (sRet (eScope (eComp (iRng1 (aCons (eVar 0) aNil)) (gN 1) NK.tYes (eTup (aCons (eC (.str "comes")) (aCons (eCall 1 m_u_law_long_label [] (aCons (eVar 1) aNil)) (aCons (eC (.str "s")) (aCons (eVar 1) (aCons (eTup aNil) aNil)))))) [1])))
noncomputable def m_u_law_many : MF := fScope (runF 2 b_u_law_many)
noncomputable def b_Record___init : MS := (sSeq (sAsg (eCall 2 m_fault_ahead [] (aCons (eVar 1) (aCons (eVar 2) aNil))) (gN 3))
    (sSeq (sIf (NK.tB (eOp fNotN (eVar 3) (eC .non))) (sRaiseG 1 2 [0] (aCons (eOp fIx (eVar 3) (eC (.int 0))) (aCons (eOp fIx (eVar 3) (eC (.int 1))) aNil))) sNext)
    (sSeq (sAsg (eMake 3 2 m_Ledger___init [] (aCons (eVar 1) aNil)) (gN 4))
    (sSeq (sAsg (eLst aNil) (gN 5))
    (sSeq (sAsg (eCall 3 m_fill_ledger [] (aCons (eVar 4) (aCons (eVar 2) (aCons (eVar 5) aNil)))) (gN 3))
    (sSeq (sIf (NK.tB (eOp fNotN (eVar 3) (eC .non))) (sRaiseG 1 2 [0] (aCons (eOp fIx (eVar 3) (eC (.int 0))) (aCons (eOp fIx (eVar 3) (eC (.int 1))) aNil))) sNext)
    (sSeq (NK.sFld 4 0 (eVar 0) (eVar 4))
    (sSeq (NK.sFld 4 1 (eVar 0) (eVar 1))
    (sSeq (NK.sFld 4 2 (eVar 0) (eCB fTuple (aCons (eVar 5) aNil)))
    (sSeq (NK.sFld 4 3 (eVar 0) (eCB fTuple (aCons (eFld 3 1 (eVar 4)) aNil)))
    (sSeq (NK.sFld 4 4 (eVar 0) (eCB fTuple (aCons (eScope (eComp (iSeq (eFld 3 1 (eVar 4))) (gN 6) (NK.tB (eOp fIsN (eOp fDGet (eFld 3 3 (eVar 4)) (eVar 6)) (eC .non))) (eVar 6) [6])) aNil)))
    (sSeq (NK.sFld 4 5 (eVar 0) (eCB fTuple (aCons (eScope (eComp (iSeq (eFld 3 1 (eVar 4))) (gN 6) (NK.tB (eOp fNotN (eOp fDGet (eFld 3 3 (eVar 4)) (eVar 6)) (eC .non))) (eVar 6) [6])) aNil)))
    (sSeq (NK.sFld 4 6 (eVar 0) (eCB fTuple (aCons (eScope (eCB fListD (aCons (eFld 3 7 (eVar 4)) aNil))) aNil)))
    (sSeq (NK.sFld 4 7 (eVar 0) (eCB fTuple (aCons (eScope (eComp (iSeq (eFld 4 6 (eVar 0))) (gN 7) (tTru eStub) (eVar 7) [7])) aNil)))
    (NK.sFld 4 8 (eVar 0) (eCB fTuple (aCons (eScope (eComp (iSeq (eFld 3 1 (eVar 4))) (gN 6) (NK.tB (eOp (fDIn true) (eVar 6) (eFld 3 5 (eVar 4)))) (eVar 6) [6])) aNil)))))))))))))))))
noncomputable def m_Record___init : MF := ( (runF 8 b_Record___init))
noncomputable def b_Record___len : MS := (sRet (eCB fLen (aCons (eFld 4 2 (eVar 0)) aNil)))
noncomputable def m_Record___len : MF := fScope (runF 1 b_Record___len)
noncomputable def b_u_law_asked : MS := (sSeq (sTry (sSeq (sAsg (eMake 4 3 m_Record___init [] (aCons (eVar 0) (aCons (eVar 1) aNil))) (gN 2))
    (sAsg (eTup (aCons (eC (.str "made")) (aCons (eFld 4 1 (eVar 2)) (aCons (eCB (fLenOwn 4 m_Record___len) (aCons (eVar 2) aNil)) aNil)))) (gN 3))) [false, true] 4 fun x => (sAsg (eTup (aCons (eC (.str "refused")) (aCons (eExf 1 0 x) (aCons (eExf 1 1 x) aNil)))) (gN 3)))
    (sRet (eVar 3)))
noncomputable def m_u_law_asked : MF := fScope (runF 5 b_u_law_asked)
noncomputable def l_law_1 : MS := (sSeq (sAsg (eCall 2 m_u_law_draw [] (aCons (eVar 1) (aCons (eC (.int 4)) aNil))) (gN 3))
    (sIf (tNot (tTru (eCall 3 m_u_law_questions [] (aCons (eCall 1 m_u_law_odd [] (aCons (eVar 1) aNil)) (aCons (eVar 3) (aCons (eOp fAdd (eVar 3) (eCall 2 m_u_law_draw [] (aCons (eVar 1) (aCons (eC (.int 4)) aNil)))) aNil)))))) (sRet (eC (.bl false))) sNext))
noncomputable def b_law : MS := (sSeq (sAsg (eCall 1 m_u_law_hand [] (aCons (eVar 0) aNil)) (gN 1))
    (sSeq (sIf (NK.tB (eOp fNe (eTup (aCons (eC (.int 5000)) (aCons (eC (.int 1000000000000000000000000000000)) (aCons (eC (.int 2)) aNil)))) (eTup (aCons (eC (.int 5000)) (aCons (eOp fPow (eC (.int 10)) (eC (.int 30))) (aCons (eC (.int 2)) aNil)))))) (sRet (eC (.bl false))) sNext)
    (sSeq (sFor (iRng1 (aCons (eC (.int 12)) aNil)) (gN 2) l_law_1)
    (sSeq (sPar 4 5 (aCons (eCall 1 m_u_law_odd [] (aCons (eVar 1) aNil)) (aCons (eScope (eLst (aCons (eTup (aCons (eC (.str "comes")) (aCons (eC (.str "a")) (aCons (eC (.str "s")) (aCons (eC (.int 0)) (aCons (eTup aNil) aNil)))))) aNil))) aNil)))
    (sSeq (sIf (NK.tB (eOp fEq (eCall 2 m_u_law_draw [] (aCons (eVar 1) (aCons (eC (.int 2)) aNil))) (eC (.int 0)))) (sAsg (eCall 2 m_u_law_draw [] (aCons (eVar 1) (aCons (eC (.int 3)) aNil))) (gN 4)) sNext)
    (sSeq (sAsg (eCall 2 m_u_law_draw [] (aCons (eVar 1) (aCons (eC (.int 16)) aNil))) (gN 6))
    (sSeq (sIf (NK.tB (eOp fLt (eVar 6) (eC (.int 4)))) (sAsg (eCall 2 m_u_law_pick [] (aCons (eVar 1) (aCons (eLst (aCons (eC .non) (aCons (eC (.str "")) (aCons (eC (.str "comes")) (aCons (eC (.int 0)) (aCons (eDic1 "a" 1) (aCons (eC (.bl true)) aNil))))))) aNil))) (gN 5)) (sIf (NK.tB (eOp fEq (eVar 6) (eC (.int 4)))) (sAsg (eCall 1 m_u_law_many [] (aCons (eOp fAdd (eC (.int 5001)) (eCall 2 m_u_law_draw [] (aCons (eVar 1) (aCons (eC (.int 3)) aNil)))) aNil)) (gN 5)) (sIf (NK.tB (eOp fEq (eVar 6) (eC (.int 5)))) (sSeq (sAsg (eCall 1 m_u_law_many [] (aCons (eC (.int 5000)) aNil)) (gN 5))
    (sAsg (eC (.int 0)) (gN 4))) (sIf (NK.tB (eOp fLt (eVar 6) (eC (.int 9)))) (sAsg (eScope (eOp fMul (eScope (eLst (aCons (eC .non) aNil))) (eCall 2 m_u_law_draw [] (aCons (eVar 1) (aCons (eC (.int 4)) aNil))))) (gN 5)) sNext))))
    (sSeq (sIf (tNot (tTru (eCall 3 m_u_law_is_number [] (aCons (eVar 4) (aCons (eC (.int 0)) (aCons (eC (.int 2)) aNil)))))) (sAsg (eTup (aCons (eC (.int 0)) (aCons (eC (.str "width")) aNil))) (gN 7)) (sIf (NK.tB (eOp fLt (eVar 6) (eC (.int 4)))) (sAsg (eTup (aCons (eC (.int 0)) (aCons (eC (.str "rows")) aNil))) (gN 7)) (sIf (NK.tB (eOp fEq (eVar 6) (eC (.int 4)))) (sAsg (eTup (aCons (eC (.int 5000)) (aCons (eC (.str "many")) aNil))) (gN 7)) (sIf (tAnd (NK.tB (eOp fLt (eVar 6) (eC (.int 9)))) (NK.tB (eOp fNe (eVar 6) (eC (.int 5))))) (sAsg (eIf (NK.tB (eOp fEq (eVar 5) (eScope (eLst aNil)))) (eC .non) (eTup (aCons (eC (.int 0)) (aCons (eC (.str "row")) aNil)))) (gN 7)) (sAsg (eIf (NK.tB (eOp fEq (eVar 4) (eC (.int 0)))) (eC .non) (eTup (aCons (eC (.int 0)) (aCons (eC (.str "width")) aNil)))) (gN 7))))))
    (sSeq (sIf (NK.tB (eOp fNe (eCall 2 m_record_fault [] (aCons (eVar 4) (aCons (eVar 5) aNil))) (eVar 7))) (sRet (eC (.bl false))) sNext)
    (sSeq (sIf (NK.tB (eOp fNotN (eVar 7) (eC .non))) (sRet (eOp fEq (eCall 2 m_u_law_asked [] (aCons (eVar 4) (aCons (eVar 5) aNil))) (eTup (aCons (eC (.str "refused")) (aCons (eOp fIx (eVar 7) (eC (.int 0))) (aCons (eOp fIx (eVar 7) (eC (.int 1))) aNil)))))) sNext)
    (sRet (eAnd (eOp fEq (eCall 2 m_u_law_asked [] (aCons (eVar 4) (aCons (eVar 5) aNil))) (eTup (aCons (eC (.str "made")) (aCons (eVar 4) (aCons (eCB fLen (aCons (eVar 5) aNil)) aNil))))) (eOp fEq (eCall 2 m_u_law_asked [] (aCons (eC (.int 2)) (aCons (eTup aNil) aNil))) (eTup (aCons (eC (.str "made")) (aCons (eC (.int 2)) (aCons (eC (.int 0)) aNil)))))))))))))))))
noncomputable def m_law : MF := fScope (runF 8 b_law)
end G

set_option Elab.async false
set_option linter.all false
set_option maxRecDepth 100000
set_option maxHeartbeats 4000000
/-! The mirrors of the defs that the law reaches, and the derivations (printed). -/
namespace G
open PySem L2 NK
def top (i : Nat) : Stmt := PySem.Challenge.pw_namesakes_k03_lists_refused_as_a_whole.main.body.getD i (.Pass ⟨0, 0, 0, 0⟩)
abbrev PW : Program := PySem.Challenge.pw_namesakes_k03_lists_refused_as_a_whole
abbrev s_u_law_hand : Stmt := (top 24)
abbrev s_u_law_mix : Stmt := (top 23)
abbrev s_u_law_draw : Stmt := (top 25)
abbrev s_u_law_pick : Stmt := (top 26)
abbrev s_u_law_odd : Stmt := (top 32)
abbrev s_u_law_is_number : Stmt := (top 28)
abbrev s_is_whole : Stmt := (top 10)
abbrev s_fault_ahead : Stmt := (top 19)
abbrev s_is_label : Stmt := (top 12)
abbrev s_is_kind : Stmt := (top 13)
abbrev s_is_name : Stmt := (top 11)
abbrev s_is_house : Stmt := (top 15)
abbrev s_plain_row : Stmt := (top 16)
abbrev s_Ledger_fault_of_row : Stmt := (inClass (top 17) 4)
abbrev s_Ledger_enter : Stmt := (inClass (top 17) 5)
abbrev s_Ledger_take : Stmt := (inClass (top 17) 6)
abbrev s_fill_ledger : Stmt := (top 18)
abbrev s_Ledger___init : Stmt := (inClass (top 17) 0)
abbrev s_record_fault : Stmt := (top 20)
abbrev s_is_way : Stmt := (top 14)
abbrev s_u_law_only : Stmt := (top 29)
abbrev s_u_law_questions : Stmt := (top 33)
abbrev s_u_law_long_label : Stmt := (top 30)
abbrev s_u_law_many : Stmt := (top 31)
abbrev s_BadRecord___init : Stmt := (inClass (top 3) 0)
abbrev s_Record___init : Stmt := (inClass (top 21) 0)
abbrev s_Record___len : Stmt := (inClass (top 21) 17)
abbrev s_u_law_asked : Stmt := (top 27)
abbrev s_law : Stmt := (top 34)
/-- where the text's things lie -/
structure Ad where
  c_CustomError : Addr
  c_BadRecord : Addr
  c_Ledger : Addr
  c_Record : Addr
  f_u_law_hand : Addr
  d_u_law_hand : FuncData
  f_u_law_mix : Addr
  d_u_law_mix : FuncData
  f_u_law_draw : Addr
  d_u_law_draw : FuncData
  f_u_law_pick : Addr
  d_u_law_pick : FuncData
  f_u_law_odd : Addr
  d_u_law_odd : FuncData
  f_u_law_is_number : Addr
  d_u_law_is_number : FuncData
  f_is_whole : Addr
  d_is_whole : FuncData
  f_fault_ahead : Addr
  d_fault_ahead : FuncData
  f_is_label : Addr
  d_is_label : FuncData
  f_is_kind : Addr
  d_is_kind : FuncData
  f_is_name : Addr
  d_is_name : FuncData
  f_is_house : Addr
  d_is_house : FuncData
  f_plain_row : Addr
  d_plain_row : FuncData
  f_Ledger_fault_of_row : Addr
  d_Ledger_fault_of_row : FuncData
  f_Ledger_enter : Addr
  d_Ledger_enter : FuncData
  f_Ledger_take : Addr
  d_Ledger_take : FuncData
  f_fill_ledger : Addr
  d_fill_ledger : FuncData
  f_Ledger___init : Addr
  d_Ledger___init : FuncData
  f_record_fault : Addr
  d_record_fault : FuncData
  f_is_way : Addr
  d_is_way : FuncData
  f_u_law_only : Addr
  d_u_law_only : FuncData
  f_u_law_questions : Addr
  d_u_law_questions : FuncData
  f_u_law_long_label : Addr
  d_u_law_long_label : FuncData
  f_u_law_many : Addr
  d_u_law_many : FuncData
  f_BadRecord___init : Addr
  d_BadRecord___init : FuncData
  f_Record___init : Addr
  d_Record___init : FuncData
  f_Record___len : Addr
  d_Record___len : FuncData
  f_u_law_asked : Addr
  d_u_law_asked : FuncData
  f_law : Addr
  d_law : FuncData
  cda_BadRecord : Addr
  cc_BadRecord : Addr
  v_LETTERS : Value
  v_MOST_NAME : Value
  v_MOST_ROWS : Value
  v_MOST_WIDTH : Value
  t_Record___init : Addr
  ds_Record___init : List Value
def tb (w : World) (K : PySem.W.Frag) (a : Ad) : Tb where
  w := w
  K := K
  cls := fun k => match k with
    | 0 => a.c_CustomError
    | 1 => a.c_BadRecord
    | 3 => a.c_Ledger
    | 4 => a.c_Record
    | _ => 0
  fld := fldN
/-- what the top has written -/
structure Txt (K : PySem.W.Frag) (mg : Str → Option Value) (a : Ad) : Prop where
  z_abs : mg "abs" = none
  z_bool : mg "bool" = none
  z_enumerate : mg "enumerate" = none
  z_int : mg "int" = none
  z_isinstance : mg "isinstance" = none
  z_len : mg "len" = none
  z_list : mg "list" = none
  z_range : mg "range" = none
  z_str : mg "str" = none
  z_super : mg "super" = none
  z_tuple : mg "tuple" = none
  g_LETTERS : RelV (.str "abcdefghijklmnopqrstuvwxyz") a.v_LETTERS ∧ mg "LETTERS" = some a.v_LETTERS
  g_MOST_NAME : RelV (.int 1000000000000000000000000000000) a.v_MOST_NAME ∧ mg "MOST_NAME" = some a.v_MOST_NAME
  g_MOST_ROWS : RelV (.int 5000) a.v_MOST_ROWS ∧ mg "MOST_ROWS" = some a.v_MOST_ROWS
  g_MOST_WIDTH : RelV (.int 2) a.v_MOST_WIDTH ∧ mg "MOST_WIDTH" = some a.v_MOST_WIDTH
  c_CustomError : mg "CustomError" = some (.ref a.c_CustomError)
  c_BadRecord : mg "BadRecord" = some (.ref a.c_BadRecord)
  c_Ledger : mg "Ledger" = some (.ref a.c_Ledger)
  c_Record : mg "Record" = some (.ref a.c_Record)
  F_u_law_hand : FunD K "_law_hand" "_law_hand" (defArgs s_u_law_hand) (defBody s_u_law_hand) (defScope s_u_law_hand) [] [] a.f_u_law_hand a.d_u_law_hand
  b_u_law_hand : Binds K a.d_u_law_hand (["_law_script"] : List Str) []
  m_u_law_hand : mg "_law_hand" = some (.ref a.f_u_law_hand)
  k_u_law_hand : PySem.W.keepIn K (.ref a.f_u_law_hand) = true
  F_u_law_mix : FunD K "_law_mix" "_law_mix" (defArgs s_u_law_mix) (defBody s_u_law_mix) (defScope s_u_law_mix) [] [] a.f_u_law_mix a.d_u_law_mix
  b_u_law_mix : Binds K a.d_u_law_mix (["_law_number", "_law_turn"] : List Str) []
  m_u_law_mix : mg "_law_mix" = some (.ref a.f_u_law_mix)
  k_u_law_mix : PySem.W.keepIn K (.ref a.f_u_law_mix) = true
  F_u_law_draw : FunD K "_law_draw" "_law_draw" (defArgs s_u_law_draw) (defBody s_u_law_draw) (defScope s_u_law_draw) [] [] a.f_u_law_draw a.d_u_law_draw
  b_u_law_draw : Binds K a.d_u_law_draw (["_law_hand_here", "_law_many_here"] : List Str) []
  m_u_law_draw : mg "_law_draw" = some (.ref a.f_u_law_draw)
  k_u_law_draw : PySem.W.keepIn K (.ref a.f_u_law_draw) = true
  F_u_law_pick : FunD K "_law_pick" "_law_pick" (defArgs s_u_law_pick) (defBody s_u_law_pick) (defScope s_u_law_pick) [] [] a.f_u_law_pick a.d_u_law_pick
  b_u_law_pick : Binds K a.d_u_law_pick (["_law_hand_here", "_law_things"] : List Str) []
  m_u_law_pick : mg "_law_pick" = some (.ref a.f_u_law_pick)
  k_u_law_pick : PySem.W.keepIn K (.ref a.f_u_law_pick) = true
  F_u_law_odd : FunD K "_law_odd" "_law_odd" (defArgs s_u_law_odd) (defBody s_u_law_odd) (defScope s_u_law_odd) [] [] a.f_u_law_odd a.d_u_law_odd
  b_u_law_odd : Binds K a.d_u_law_odd (["_law_hand_here"] : List Str) []
  m_u_law_odd : mg "_law_odd" = some (.ref a.f_u_law_odd)
  k_u_law_odd : PySem.W.keepIn K (.ref a.f_u_law_odd) = true
  F_u_law_is_number : FunD K "_law_is_number" "_law_is_number" (defArgs s_u_law_is_number) (defBody s_u_law_is_number) (defScope s_u_law_is_number) [] [] a.f_u_law_is_number a.d_u_law_is_number
  b_u_law_is_number : Binds K a.d_u_law_is_number (["_law_thing", "_law_low", "_law_high"] : List Str) []
  m_u_law_is_number : mg "_law_is_number" = some (.ref a.f_u_law_is_number)
  k_u_law_is_number : PySem.W.keepIn K (.ref a.f_u_law_is_number) = true
  F_is_whole : FunD K "is_whole" "is_whole" (defArgs s_is_whole) (defBody s_is_whole) (defScope s_is_whole) [] [] a.f_is_whole a.d_is_whole
  b_is_whole : Binds K a.d_is_whole (["thing", "low", "high"] : List Str) []
  m_is_whole : mg "is_whole" = some (.ref a.f_is_whole)
  k_is_whole : PySem.W.keepIn K (.ref a.f_is_whole) = true
  F_fault_ahead : FunD K "fault_ahead" "fault_ahead" (defArgs s_fault_ahead) (defBody s_fault_ahead) (defScope s_fault_ahead) [] [] a.f_fault_ahead a.d_fault_ahead
  b_fault_ahead : Binds K a.d_fault_ahead (["width", "rows"] : List Str) []
  m_fault_ahead : mg "fault_ahead" = some (.ref a.f_fault_ahead)
  k_fault_ahead : PySem.W.keepIn K (.ref a.f_fault_ahead) = true
  F_is_label : FunD K "is_label" "is_label" (defArgs s_is_label) (defBody s_is_label) (defScope s_is_label) [] [] a.f_is_label a.d_is_label
  b_is_label : Binds K a.d_is_label (["thing"] : List Str) []
  m_is_label : mg "is_label" = some (.ref a.f_is_label)
  k_is_label : PySem.W.keepIn K (.ref a.f_is_label) = true
  F_is_kind : FunD K "is_kind" "is_kind" (defArgs s_is_kind) (defBody s_is_kind) (defScope s_is_kind) [] [] a.f_is_kind a.d_is_kind
  b_is_kind : Binds K a.d_is_kind (["thing"] : List Str) []
  m_is_kind : mg "is_kind" = some (.ref a.f_is_kind)
  k_is_kind : PySem.W.keepIn K (.ref a.f_is_kind) = true
  F_is_name : FunD K "is_name" "is_name" (defArgs s_is_name) (defBody s_is_name) (defScope s_is_name) [] [] a.f_is_name a.d_is_name
  b_is_name : Binds K a.d_is_name (["thing"] : List Str) []
  m_is_name : mg "is_name" = some (.ref a.f_is_name)
  k_is_name : PySem.W.keepIn K (.ref a.f_is_name) = true
  F_is_house : FunD K "is_house" "is_house" (defArgs s_is_house) (defBody s_is_house) (defScope s_is_house) [] [] a.f_is_house a.d_is_house
  b_is_house : Binds K a.d_is_house (["thing"] : List Str) []
  m_is_house : mg "is_house" = some (.ref a.f_is_house)
  k_is_house : PySem.W.keepIn K (.ref a.f_is_house) = true
  F_plain_row : FunD K "plain_row" "plain_row" (defArgs s_plain_row) (defBody s_plain_row) (defScope s_plain_row) [] [] a.f_plain_row a.d_plain_row
  b_plain_row : Binds K a.d_plain_row (["thing"] : List Str) []
  m_plain_row : mg "plain_row" = some (.ref a.f_plain_row)
  k_plain_row : PySem.W.keepIn K (.ref a.f_plain_row) = true
  F_Ledger_fault_of_row : FunD K "fault_of_row" "Ledger.fault_of_row" (defArgs s_Ledger_fault_of_row) (defBody s_Ledger_fault_of_row) (defScope s_Ledger_fault_of_row) [] [] a.f_Ledger_fault_of_row a.d_Ledger_fault_of_row
  b_Ledger_fault_of_row : Binds K a.d_Ledger_fault_of_row (["self", "row"] : List Str) []
  h_Ledger_fault_of_row : Meth K a.c_Ledger "fault_of_row" a.f_Ledger_fault_of_row
  F_Ledger_enter : FunD K "enter" "Ledger.enter" (defArgs s_Ledger_enter) (defBody s_Ledger_enter) (defScope s_Ledger_enter) [] [] a.f_Ledger_enter a.d_Ledger_enter
  b_Ledger_enter : Binds K a.d_Ledger_enter (["self", "label", "kind", "parents", "at"] : List Str) []
  h_Ledger_enter : Meth K a.c_Ledger "enter" a.f_Ledger_enter
  F_Ledger_take : FunD K "take" "Ledger.take" (defArgs s_Ledger_take) (defBody s_Ledger_take) (defScope s_Ledger_take) [] [] a.f_Ledger_take a.d_Ledger_take
  b_Ledger_take : Binds K a.d_Ledger_take (["self", "row", "at"] : List Str) []
  h_Ledger_take : Meth K a.c_Ledger "take" a.f_Ledger_take
  F_fill_ledger : FunD K "fill_ledger" "fill_ledger" (defArgs s_fill_ledger) (defBody s_fill_ledger) (defScope s_fill_ledger) [] [] a.f_fill_ledger a.d_fill_ledger
  b_fill_ledger : Binds K a.d_fill_ledger (["ledger", "rows", "plain"] : List Str) []
  m_fill_ledger : mg "fill_ledger" = some (.ref a.f_fill_ledger)
  k_fill_ledger : PySem.W.keepIn K (.ref a.f_fill_ledger) = true
  F_Ledger___init : FunD K "__init__" "Ledger.__init__" (defArgs s_Ledger___init) (defBody s_Ledger___init) (defScope s_Ledger___init) [] [] a.f_Ledger___init a.d_Ledger___init
  b_Ledger___init : Binds K a.d_Ledger___init (["self", "width"] : List Str) []
  F_record_fault : FunD K "record_fault" "record_fault" (defArgs s_record_fault) (defBody s_record_fault) (defScope s_record_fault) [] [] a.f_record_fault a.d_record_fault
  b_record_fault : Binds K a.d_record_fault (["width", "rows"] : List Str) []
  m_record_fault : mg "record_fault" = some (.ref a.f_record_fault)
  k_record_fault : PySem.W.keepIn K (.ref a.f_record_fault) = true
  F_is_way : FunD K "is_way" "is_way" (defArgs s_is_way) (defBody s_is_way) (defScope s_is_way) [] [] a.f_is_way a.d_is_way
  b_is_way : Binds K a.d_is_way (["thing", "least", "most"] : List Str) []
  m_is_way : mg "is_way" = some (.ref a.f_is_way)
  k_is_way : PySem.W.keepIn K (.ref a.f_is_way) = true
  F_u_law_only : FunD K "_law_only" "_law_only" (defArgs s_u_law_only) (defBody s_u_law_only) (defScope s_u_law_only) [] [] a.f_u_law_only a.d_u_law_only
  b_u_law_only : Binds K a.d_u_law_only (["_law_thing", "_law_signs", "_law_least", "_law_most"] : List Str) []
  m_u_law_only : mg "_law_only" = some (.ref a.f_u_law_only)
  k_u_law_only : PySem.W.keepIn K (.ref a.f_u_law_only) = true
  F_u_law_questions : FunD K "_law_questions" "_law_questions" (defArgs s_u_law_questions) (defBody s_u_law_questions) (defScope s_u_law_questions) [] [] a.f_u_law_questions a.d_u_law_questions
  b_u_law_questions : Binds K a.d_u_law_questions (["_law_thing", "_law_low", "_law_high"] : List Str) []
  m_u_law_questions : mg "_law_questions" = some (.ref a.f_u_law_questions)
  k_u_law_questions : PySem.W.keepIn K (.ref a.f_u_law_questions) = true
  F_u_law_long_label : FunD K "_law_long_label" "_law_long_label" (defArgs s_u_law_long_label) (defBody s_u_law_long_label) (defScope s_u_law_long_label) [] [] a.f_u_law_long_label a.d_u_law_long_label
  b_u_law_long_label : Binds K a.d_u_law_long_label (["_law_k"] : List Str) []
  m_u_law_long_label : mg "_law_long_label" = some (.ref a.f_u_law_long_label)
  k_u_law_long_label : PySem.W.keepIn K (.ref a.f_u_law_long_label) = true
  F_u_law_many : FunD K "_law_many" "_law_many" (defArgs s_u_law_many) (defBody s_u_law_many) (defScope s_u_law_many) [] [] a.f_u_law_many a.d_u_law_many
  b_u_law_many : Binds K a.d_u_law_many (["_law_many_here"] : List Str) []
  m_u_law_many : mg "_law_many" = some (.ref a.f_u_law_many)
  k_u_law_many : PySem.W.keepIn K (.ref a.f_u_law_many) = true
  l_BadRecord : ∃ (oc : Value) (od : Option Addr) (osl : Array (Option Value)) (dV kV doc pm : Value) (an : Option Addr) (ct : Value), a.d_BadRecord___init = PySem.W.ksFn "__init__" "BadRecord.__init__" (defArgs s_BadRecord___init) (defBody s_BadRecord___init) (defScope s_BadRecord___init) dV kV doc pm an (.ref a.cda_BadRecord) ct a.cc_BadRecord ∧ K.lookup a.f_BadRecord___init = some ⟨oc, od, .func a.d_BadRecord___init, osl⟩ ∧ PySem.W.codeIn K (.ref a.cda_BadRecord) "BadRecord.__init__" = true
  b_BadRecord___init : Binds K a.d_BadRecord___init (["self", "index", "what"] : List Str) []
  S_BadRecord : Sup PW K mg (["self", "index", "what"] : List Str) (["self", "index", "what"] : List Str) (defScope s_BadRecord___init) a.c_BadRecord a.cda_BadRecord a.cc_BadRecord
  e_BadRecord : OexC K a.c_BadRecord
  ei_BadRecord : PySem.W.findIn K (.ref a.c_BadRecord) "__init__" = some (some (.ref a.f_BadRecord___init))
  et_BadRecord : PySem.W.typeIn K (.ref a.f_BadRecord___init) = some (.type "function")
  x_BadRecord : XfC K a.c_BadRecord
  n_BadRecord_index : PySem.W.findIn K (.ref a.c_BadRecord) "index" = some none
  n_BadRecord_what : PySem.W.findIn K (.ref a.c_BadRecord) "what" = some none
  F_Record___init : FunD K "__init__" "Record.__init__" (defArgs s_Record___init) (defBody s_Record___init) (defScope s_Record___init) [V.ref a.t_Record___init] [] a.f_Record___init a.d_Record___init
  b_Record___init : Binds K a.d_Record___init (["self", "width", "rows"] : List Str) []
  bd_Record___init : Binds K a.d_Record___init (["self", "width", "rows"] : List Str) a.ds_Record___init ∧ Vals [V.ref a.t_Record___init] a.ds_Record___init
  td_Record___init : SqT K (fun _ => none) a.t_Record___init []
  F_Record___len : FunD K "__len__" "Record.__len__" (defArgs s_Record___len) (defBody s_Record___len) (defScope s_Record___len) [] [] a.f_Record___len a.d_Record___len
  b_Record___len : Binds K a.d_Record___len (["self"] : List Str) []
  F_u_law_asked : FunD K "_law_asked" "_law_asked" (defArgs s_u_law_asked) (defBody s_u_law_asked) (defScope s_u_law_asked) [] [] a.f_u_law_asked a.d_u_law_asked
  b_u_law_asked : Binds K a.d_u_law_asked (["_law_width", "_law_rows"] : List Str) []
  m_u_law_asked : mg "_law_asked" = some (.ref a.f_u_law_asked)
  k_u_law_asked : PySem.W.keepIn K (.ref a.f_u_law_asked) = true
  F_law : FunD K "law" "law" (defArgs s_law) (defBody s_law) (defScope s_law) [] [] a.f_law a.d_law
  b_law : Binds K a.d_law (["_law_script"] : List Str) []
  m_law : mg "law" = some (.ref a.f_law)
  k_law : PySem.W.keepIn K (.ref a.f_law) = true
  hn : PySem.W.specialIn K (.builtin "object.__class__") "__get__" = some (some (.builtin "getset_descriptor.__get__"))
  ht : PySem.W.takesIn K (.builtin "object.__class__") = some true
  cl_Ledger : Cls K a.c_Ledger
  ha_Ledger : PySem.W.findIn K (.ref a.c_Ledger) "__class__" = some (some (.builtin "object.__class__"))
  hm_Ledger : PySem.W.mroIn K a.c_Ledger (.type "object") = some true
  na_Ledger_width : NoAttr K a.c_Ledger "width"
  na_Ledger_persons : NoAttr K a.c_Ledger "persons"
  na_Ledger_kinds : NoAttr K a.c_Ledger "kinds"
  na_Ledger_parents : NoAttr K a.c_Ledger "parents"
  na_Ledger_starts : NoAttr K a.c_Ledger "starts"
  na_Ledger_dead : NoAttr K a.c_Ledger "dead"
  na_Ledger_mates : NoAttr K a.c_Ledger "mates"
  na_Ledger_broods : NoAttr K a.c_Ledger "broods"
  mk_Ledger : Mk K a.c_Ledger a.f_Ledger___init
  cl_Record : Cls K a.c_Record
  ha_Record : PySem.W.findIn K (.ref a.c_Record) "__class__" = some (some (.builtin "object.__class__"))
  hm_Record : PySem.W.mroIn K a.c_Record (.type "object") = some true
  na_Record_ledger : NoAttr K a.c_Record "ledger"
  na_Record_width : NoAttr K a.c_Record "width"
  na_Record_rows : NoAttr K a.c_Record "rows"
  na_Record_persons : NoAttr K a.c_Record "persons"
  na_Record_founders : NoAttr K a.c_Record "founders"
  na_Record_born : NoAttr K a.c_Record "born"
  na_Record_weddings : NoAttr K a.c_Record "weddings"
  na_Record_couples : NoAttr K a.c_Record "couples"
  na_Record_living : NoAttr K a.c_Record "living"
  mk_Record : Mk K a.c_Record a.f_Record___init
  ql_Record : PySem.W.findIn K (.ref a.c_Record) "__len__" = some (some (.ref a.f_Record___len)) ∧ PySem.W.isFn K (.ref a.f_Record___len) = true
  xm_BadRecord_0 : PySem.W.exmOne K (.ref a.c_CustomError) (.ref a.c_BadRecord) = some false
  xm_BadRecord_1 : PySem.W.exmOne K (.ref a.c_BadRecord) (.ref a.c_BadRecord) = some true
section
variable {w : World} {K : PySem.W.Frag} {mg : Str → Option Value} {a : Ad} {base : Heap}
theorem Txt.i_Ledger (T : Txt K mg a) : InsC (tb w K a) 3 := ⟨T.cl_Ledger, T.ha_Ledger, T.hn, T.ht, T.hm_Ledger⟩
theorem Txt.o_Ledger_width (T : Txt K mg a) : FldOk (tb w K a) 3 0 "width" := ⟨T.cl_Ledger, T.na_Ledger_width, rfl, (show (fldN 3).Nodup by decide +kernel), (show (fldN 3).length ≤ 900 by decide)⟩
theorem Txt.o_Ledger_persons (T : Txt K mg a) : FldOk (tb w K a) 3 1 "persons" := ⟨T.cl_Ledger, T.na_Ledger_persons, rfl, (show (fldN 3).Nodup by decide +kernel), (show (fldN 3).length ≤ 900 by decide)⟩
theorem Txt.o_Ledger_kinds (T : Txt K mg a) : FldOk (tb w K a) 3 2 "kinds" := ⟨T.cl_Ledger, T.na_Ledger_kinds, rfl, (show (fldN 3).Nodup by decide +kernel), (show (fldN 3).length ≤ 900 by decide)⟩
theorem Txt.o_Ledger_parents (T : Txt K mg a) : FldOk (tb w K a) 3 3 "parents" := ⟨T.cl_Ledger, T.na_Ledger_parents, rfl, (show (fldN 3).Nodup by decide +kernel), (show (fldN 3).length ≤ 900 by decide)⟩
theorem Txt.o_Ledger_starts (T : Txt K mg a) : FldOk (tb w K a) 3 4 "starts" := ⟨T.cl_Ledger, T.na_Ledger_starts, rfl, (show (fldN 3).Nodup by decide +kernel), (show (fldN 3).length ≤ 900 by decide)⟩
theorem Txt.o_Ledger_dead (T : Txt K mg a) : FldOk (tb w K a) 3 5 "dead" := ⟨T.cl_Ledger, T.na_Ledger_dead, rfl, (show (fldN 3).Nodup by decide +kernel), (show (fldN 3).length ≤ 900 by decide)⟩
theorem Txt.o_Ledger_mates (T : Txt K mg a) : FldOk (tb w K a) 3 6 "mates" := ⟨T.cl_Ledger, T.na_Ledger_mates, rfl, (show (fldN 3).Nodup by decide +kernel), (show (fldN 3).length ≤ 900 by decide)⟩
theorem Txt.o_Ledger_broods (T : Txt K mg a) : FldOk (tb w K a) 3 7 "broods" := ⟨T.cl_Ledger, T.na_Ledger_broods, rfl, (show (fldN 3).Nodup by decide +kernel), (show (fldN 3).length ≤ 900 by decide)⟩
theorem Txt.i_Record (T : Txt K mg a) : InsC (tb w K a) 4 := ⟨T.cl_Record, T.ha_Record, T.hn, T.ht, T.hm_Record⟩
theorem Txt.o_Record_ledger (T : Txt K mg a) : FldOk (tb w K a) 4 0 "ledger" := ⟨T.cl_Record, T.na_Record_ledger, rfl, (show (fldN 4).Nodup by decide +kernel), (show (fldN 4).length ≤ 900 by decide)⟩
theorem Txt.o_Record_width (T : Txt K mg a) : FldOk (tb w K a) 4 1 "width" := ⟨T.cl_Record, T.na_Record_width, rfl, (show (fldN 4).Nodup by decide +kernel), (show (fldN 4).length ≤ 900 by decide)⟩
theorem Txt.o_Record_rows (T : Txt K mg a) : FldOk (tb w K a) 4 2 "rows" := ⟨T.cl_Record, T.na_Record_rows, rfl, (show (fldN 4).Nodup by decide +kernel), (show (fldN 4).length ≤ 900 by decide)⟩
theorem Txt.o_Record_persons (T : Txt K mg a) : FldOk (tb w K a) 4 3 "persons" := ⟨T.cl_Record, T.na_Record_persons, rfl, (show (fldN 4).Nodup by decide +kernel), (show (fldN 4).length ≤ 900 by decide)⟩
theorem Txt.o_Record_founders (T : Txt K mg a) : FldOk (tb w K a) 4 4 "founders" := ⟨T.cl_Record, T.na_Record_founders, rfl, (show (fldN 4).Nodup by decide +kernel), (show (fldN 4).length ≤ 900 by decide)⟩
theorem Txt.o_Record_born (T : Txt K mg a) : FldOk (tb w K a) 4 5 "born" := ⟨T.cl_Record, T.na_Record_born, rfl, (show (fldN 4).Nodup by decide +kernel), (show (fldN 4).length ≤ 900 by decide)⟩
theorem Txt.o_Record_weddings (T : Txt K mg a) : FldOk (tb w K a) 4 6 "weddings" := ⟨T.cl_Record, T.na_Record_weddings, rfl, (show (fldN 4).Nodup by decide +kernel), (show (fldN 4).length ≤ 900 by decide)⟩
theorem Txt.o_Record_couples (T : Txt K mg a) : FldOk (tb w K a) 4 7 "couples" := ⟨T.cl_Record, T.na_Record_couples, rfl, (show (fldN 4).Nodup by decide +kernel), (show (fldN 4).length ≤ 900 by decide)⟩
theorem Txt.o_Record_living (T : Txt K mg a) : FldOk (tb w K a) 4 8 "living" := ⟨T.cl_Record, T.na_Record_living, rfl, (show (fldN 4).Nodup by decide +kernel), (show (fldN 4).length ≤ 900 by decide)⟩
theorem Txt.isok (T : Txt K mg a) : IsOk (tb w K a) isl := by
  intro p h
  cases h
theorem Txt.exm_BadRecord (T : Txt K mg a) : ∀ (k : Nat) (b : Bool), ([false, true] : List Bool)[k]? = some b → PySem.W.exmOne K (.ref ((tb w K a).cls k)) (.ref a.c_BadRecord) = some b := by
  intro k b h
  match k, h with
  | 0, h => cases h; exact T.xm_BadRecord_0
  | 1, h => cases h; exact T.xm_BadRecord_1
  | n + 2, h => simp at h
theorem sc_u_law_hand : FnScope (["_law_script", "_law_total", "_law_k", "_law_cell"] : List Str) (["_law_script"] : List Str) (defScope s_u_law_hand) := ⟨rfl, rfl, rfl, by decide +kernel, rfl, by decide +kernel, by decide +kernel⟩
theorem ok_u_law_hand (T : Txt K mg a) : FnOk PW w K mg base (L2.CX PW w) 1 a.f_u_law_hand a.d_u_law_hand (["_law_script"] : List Str) (spOf (tb w K a) 1 m_u_law_hand) :=
  fund_okl T.F_u_law_hand sc_u_law_hand fun cdv A outer s H E hr =>
    (pssm_cons (psm_set (i := 1) sc_u_law_hand.nd rfl (Or.inl rfl) pem_int)
    (pssm_cons (psm_for (passes_of rfl) rfl (pim_enumA rfl rfl T.z_enumerate (pam_cons (pem_var (pv 0)) pam_nil)) (pgm_tup rfl rfl (PGN.cons (pg_name (i := 2) sc_u_law_hand.nd rfl (Or.inl rfl)) rfl (PGN.cons (pg_name (i := 3) sc_u_law_hand.nd rfl (Or.inl rfl)) rfl PGN.nil rfl) rfl)) (pssm_one (psm_set (i := 1) sc_u_law_hand.nd rfl (Or.inl rfl) (pem_op op_mod sim_mod (pem_callTy call_int1 sim_int rfl T.z_int bt_int (pam_cons (pem_op op_addAll sim_add (pem_op op_mulAll sim_mul (pem_var (pv 1)) pem_int) (pem_op op_mulAll sim_mul (pem_callTy call_int1 sim_int rfl T.z_int bt_int (pam_cons (pem_var (pv 3)) pam_nil)) (pem_op op_addAll sim_add (pem_var (pv 2)) pem_int))) pam_nil)) pem_int))))
    (pssm_one (psm_ret (pem_lst (pam_cons (pem_scope (pem_comp (own := [("_law_cell", 3)]) rfl sc_u_law_hand.nd (pim_seq rfl (pem_var (pv 0))) (show BlkOk (["_law_script", "_law_total", "_law_k", "_law_cell"] : List Str) (defScope s_u_law_hand) _ [("_law_cell", 3)] from ⟨rfl, by decide +kernel, by decide +kernel, by decide +kernel, by decide +kernel⟩) (fun _ _ _ _ _ => (pg_name (i := 3) sc_u_law_hand.nd rfl (Or.inl rfl))) (gr_name rfl) (gw_name (by decide)) (fun _ _ _ _ _ => (ptsm_nil (σ := ()))) (fun _ _ _ _ _ => (pem_callB call_abs sim_abs rfl T.z_abs bt_abs (pam_cons (pem_callTy call_int1 sim_int rfl T.z_int bt_int (pam_cons (pem_var (pv 3)) pam_nil)) pam_nil))))) (pam_cons pem_int (pam_cons pem_int (pam_cons (pem_var (pv 1)) pam_nil)))))))))
theorem sc_u_law_mix : FnScope (["_law_number", "_law_turn", "_law_once", "_law_twice"] : List Str) (["_law_number", "_law_turn"] : List Str) (defScope s_u_law_mix) := ⟨rfl, rfl, rfl, by decide +kernel, rfl, by decide +kernel, by decide +kernel⟩
theorem ok_u_law_mix (T : Txt K mg a) : FnOk PW w K mg base (L2.CX PW w) 1 a.f_u_law_mix a.d_u_law_mix (["_law_number", "_law_turn"] : List Str) (spOf (tb w K a) 2 m_u_law_mix) :=
  fund_okm T.F_u_law_mix sc_u_law_mix fun cdv A outer s H E hr =>
    (pssm_cons (psm_set (i := 2) sc_u_law_mix.nd rfl (Or.inl rfl) (pem_op op_mod sim_mod (pem_callTy call_int1 sim_int rfl T.z_int bt_int (pam_cons (pem_op op_addAll sim_add (pem_op op_addAll sim_add (pem_op op_mulAll sim_mul (pem_var (pv 0)) pem_int) (pem_op op_mulAll sim_mul (pem_var (pv 1)) pem_int)) pem_int) pam_nil)) pem_int))
    (pssm_cons (psm_set (i := 3) sc_u_law_mix.nd rfl (Or.inl rfl) (pem_op op_mod sim_mod (pem_callTy call_int1 sim_int rfl T.z_int bt_int (pam_cons (pem_op op_addAll sim_add (pem_op op_addAll sim_add (pem_op op_mulAll sim_mul (pem_var (pv 2)) (pem_var (pv 2))) (pem_op op_mulAll sim_mul (pem_op op_fdivW sim_div (pem_var (pv 2)) pem_int) pem_int)) (pem_op op_mulAll sim_mul (pem_var (pv 1)) pem_int)) pam_nil)) pem_int))
    (pssm_one (psm_ret (pem_op op_fdivW sim_div (pem_op op_mod sim_mod (pem_callTy call_int1 sim_int rfl T.z_int bt_int (pam_cons (pem_op op_addAll sim_add (pem_op op_fdivW sim_div (pem_op op_mulAll sim_mul (pem_var (pv 3)) (pem_var (pv 3))) pem_int) (pem_var (pv 2))) pam_nil)) pem_int) pem_int)))))
theorem sc_u_law_draw : FnScope (["_law_hand_here", "_law_many_here", "_law_cell", "_law_rest"] : List Str) (["_law_hand_here", "_law_many_here"] : List Str) (defScope s_u_law_draw) := ⟨rfl, rfl, rfl, by decide +kernel, rfl, by decide +kernel, by decide +kernel⟩
theorem ok_u_law_draw (T : Txt K mg a) : FnOk PW w K mg base (L2.CX PW w) 2 a.f_u_law_draw a.d_u_law_draw (["_law_hand_here", "_law_many_here"] : List Str) (spOf (tb w K a) 2 m_u_law_draw) :=
  fund_okm T.F_u_law_draw sc_u_law_draw fun cdv A outer s H E hr =>
    (pssm_cons (psm_if (PWm.pt (pwm_and (ptm_cmp (op_eqD hr.units) sim_eq (pem_ix ix_seq sim_ix (pem_var (pv 0)) pem_int) pem_int (nomark _)) (pwm_and1 (ptm_cmp op_lt sim_lt (pem_ix ix_seq sim_ix (pem_var (pv 0)) pem_int) (pem_callB call_len sim_len rfl T.z_len bt_len (pam_cons (pem_ix ix_seq sim_ix (pem_var (pv 0)) pem_int) pam_nil)) (nomark _))))) (pssm_cons (psm_set (i := 2) sc_u_law_draw.nd rfl (Or.inl rfl) (pem_ix ix_seq sim_ix (pem_ix ix_seq sim_ix (pem_var (pv 0)) pem_int) (pem_ix ix_seq sim_ix (pem_var (pv 0)) pem_int)))
    (pssm_cons (psm_setIx (ps_asg (pem_op op_addAll sim_add (pem_ix ix_seq sim_ix (pem_var (pv 0)) pem_int) pem_int) (pg_sub (pem_var (pv 0)) pem_int set_list)))
    (pssm_cons (psm_if (ptm_cmp op_lt sim_lt (pem_var (pv 2)) (pem_op op_pow sim_pow pem_int pem_int) (nomark _)) (pssm_one (psm_ret (pem_op op_mod sim_mod (pem_callTy call_int1 sim_int rfl T.z_int bt_int (pam_cons (pem_call (takes_of rfl rfl rfl rfl) (ok_u_law_mix T) (hr.mono (by decide)) rfl T.m_u_law_mix T.k_u_law_mix T.b_u_law_mix .nil (fun _ => .nil) rfl (pam_cons (pem_op op_mod sim_mod (pem_callTy call_int1 sim_int rfl T.z_int bt_int (pam_cons (pem_var (pv 2)) pam_nil)) pem_int) (pam_cons (pem_ix ix_seq sim_ix (pem_var (pv 0)) pem_int) pam_nil))) pam_nil)) (pem_var (pv 1))))) pssm_nil)
    (pssm_one (psm_setIx (ps_asg (pem_var (pv 2)) (pg_sub (pem_var (pv 0)) pem_int set_list))))))) pssm_nil)
    (pssm_cons (psm_if (ptm_cmp op_gt sim_gt (pem_ix ix_seq sim_ix (pem_var (pv 0)) pem_int) pem_int (nomark _)) (pssm_cons (psm_set (i := 3) sc_u_law_draw.nd rfl (Or.inl rfl) (pem_ix ix_seq sim_ix (pem_var (pv 0)) pem_int))
    (pssm_cons (psm_setIx (ps_asg (pem_op op_fdivW sim_div (pem_var (pv 3)) (pem_var (pv 1))) (pg_sub (pem_var (pv 0)) pem_int set_list)))
    (pssm_one (psm_ret (pem_op op_mod sim_mod (pem_callTy call_int1 sim_int rfl T.z_int bt_int (pam_cons (pem_var (pv 3)) pam_nil)) (pem_var (pv 1))))))) pssm_nil)
    (pssm_cons (psm_setIx (ps_asg (pem_op op_mod sim_mod (pem_callTy call_int1 sim_int rfl T.z_int bt_int (pam_cons (pem_op op_addAll sim_add (pem_ix ix_seq sim_ix (pem_var (pv 0)) pem_int) pem_int) pam_nil)) pem_int) (pg_sub (pem_var (pv 0)) pem_int set_list)))
    (pssm_one (psm_ret (pem_op op_mod sim_mod (pem_callTy call_int1 sim_int rfl T.z_int bt_int (pam_cons (pem_call (takes_of rfl rfl rfl rfl) (ok_u_law_mix T) (hr.mono (by decide)) rfl T.m_u_law_mix T.k_u_law_mix T.b_u_law_mix .nil (fun _ => .nil) rfl (pam_cons (pem_ix ix_seq sim_ix (pem_var (pv 0)) pem_int) (pam_cons (pem_ix ix_seq sim_ix (pem_var (pv 0)) pem_int) pam_nil))) pam_nil)) (pem_var (pv 1))))))))
theorem sc_u_law_pick : FnScope (["_law_hand_here", "_law_things"] : List Str) (["_law_hand_here", "_law_things"] : List Str) (defScope s_u_law_pick) := ⟨rfl, rfl, rfl, by decide +kernel, rfl, by decide +kernel, by decide +kernel⟩
theorem ok_u_law_pick (T : Txt K mg a) : FnOk PW w K mg base (L2.CX PW w) 3 a.f_u_law_pick a.d_u_law_pick (["_law_hand_here", "_law_things"] : List Str) (spOf (tb w K a) 2 m_u_law_pick) :=
  fund_okl T.F_u_law_pick sc_u_law_pick fun cdv A outer s H E hr =>
    (pssm_one (psm_ret (pem_ix ix_seq sim_ix (pem_var (pv 1)) (pem_call (takes_of rfl rfl rfl rfl) (ok_u_law_draw T) (hr.mono (by decide)) rfl T.m_u_law_draw T.k_u_law_draw T.b_u_law_draw .nil (fun _ => .nil) rfl (pam_cons (pem_var (pv 0)) (pam_cons (pem_callB call_len sim_len rfl T.z_len bt_len (pam_cons (pem_var (pv 1)) pam_nil)) pam_nil))))))
theorem sc_u_law_odd : FnScope (["_law_hand_here", "_law_sort", "_law_word", "_law_k"] : List Str) (["_law_hand_here"] : List Str) (defScope s_u_law_odd) := ⟨rfl, rfl, rfl, by decide +kernel, rfl, by decide +kernel, by decide +kernel⟩
theorem ok_u_law_odd (T : Txt K mg a) : FnOk PW w K mg base (L2.CX PW w) 4 a.f_u_law_odd a.d_u_law_odd (["_law_hand_here"] : List Str) (spOf (tb w K a) 1 m_u_law_odd) :=
  fund_okl T.F_u_law_odd sc_u_law_odd fun cdv A outer s H E hr =>
    (pssm_cons (psm_set (i := 1) sc_u_law_odd.nd rfl (Or.inl rfl) (pem_call (takes_of rfl rfl rfl rfl) (ok_u_law_draw T) (hr.mono (by decide)) rfl T.m_u_law_draw T.k_u_law_draw T.b_u_law_draw .nil (fun _ => .nil) rfl (pam_cons (pem_var (pv 0)) (pam_cons pem_int pam_nil))))
    (pssm_cons (psm_if (ptm_cmp (op_eqD hr.units) sim_eq (pem_var (pv 1)) pem_int (nomark _)) (pssm_one (psm_ret (pem_op op_sub sim_sub (pem_call (takes_of rfl rfl rfl rfl) (ok_u_law_draw T) (hr.mono (by decide)) rfl T.m_u_law_draw T.k_u_law_draw T.b_u_law_draw .nil (fun _ => .nil) rfl (pam_cons (pem_var (pv 0)) (pam_cons (pem_op op_pow sim_pow pem_int pem_int) pam_nil))) (pem_op op_pow sim_pow pem_int pem_int)))) pssm_nil)
    (pssm_cons (psm_if (ptm_cmp (op_eqD hr.units) sim_eq (pem_var (pv 1)) pem_int (nomark _)) (pssm_one (psm_ret (pem_op op_sub sim_sub (pem_op op_addAll sim_add (pem_op op_pow sim_pow pem_int pem_int) (pem_call (takes_of rfl rfl rfl rfl) (ok_u_law_draw T) (hr.mono (by decide)) rfl T.m_u_law_draw T.k_u_law_draw T.b_u_law_draw .nil (fun _ => .nil) rfl (pam_cons (pem_var (pv 0)) (pam_cons pem_int pam_nil)))) pem_int))) pssm_nil)
    (pssm_cons (psm_if (ptm_cmp (op_eqD hr.units) sim_eq (pem_var (pv 1)) pem_int (nomark _)) (pssm_one (psm_ret (pem_op op_sub sim_sub (pem_call (takes_of rfl rfl rfl rfl) (ok_u_law_draw T) (hr.mono (by decide)) rfl T.m_u_law_draw T.k_u_law_draw T.b_u_law_draw .nil (fun _ => .nil) rfl (pam_cons (pem_var (pv 0)) (pam_cons pem_int pam_nil))) pem_int))) pssm_nil)
    (pssm_cons (psm_if (ptm_cmp (op_eqD hr.units) sim_eq (pem_var (pv 1)) pem_int (nomark _)) (pssm_one (psm_ret (pem_call (takes_of rfl rfl rfl rfl) (ok_u_law_pick T) (hr.mono (by decide)) rfl T.m_u_law_pick T.k_u_law_pick T.b_u_law_pick .nil (fun _ => .nil) rfl (pam_cons (pem_var (pv 0)) (pam_cons (pem_lst (pam_cons pem_bl (pam_cons pem_bl (pam_cons pem_non (pam_cons (pem_tup pam_nil) (pam_cons (pem_scope (pem_lst pam_nil)) (pam_cons (pem_tup (pam_cons pem_str pam_nil)) (pam_cons pem_dic1 pam_nil)))))))) pam_nil))))) pssm_nil)
    (pssm_cons (psm_if (ptm_cmp (op_eqD hr.units) sim_eq (pem_var (pv 1)) pem_int (nomark _)) (pssm_one (psm_ret (pem_call (takes_of rfl rfl rfl rfl) (ok_u_law_pick T) (hr.mono (by decide)) rfl T.m_u_law_pick T.k_u_law_pick T.b_u_law_pick .nil (fun _ => .nil) rfl (pam_cons (pem_var (pv 0)) (pam_cons (pem_scope (pem_lst (pam_cons pem_str (pam_cons pem_str (pam_cons pem_str (pam_cons pem_str (pam_cons pem_str (pam_cons pem_str (pam_cons pem_str (pam_cons pem_str (pam_cons pem_str (pam_cons pem_str (pam_cons pem_str pam_nil))))))))))))) pam_nil))))) pssm_nil)
    (pssm_cons (psm_set (i := 2) sc_u_law_odd.nd rfl (Or.inl rfl) pem_str)
    (pssm_cons (psm_for (passes_of rfl) rfl (pim_range1 rfl T.z_range (pam_cons (pem_call (takes_of rfl rfl rfl rfl) (ok_u_law_draw T) (hr.mono (by decide)) rfl T.m_u_law_draw T.k_u_law_draw T.b_u_law_draw .nil (fun _ => .nil) rfl (pam_cons (pem_var (pv 0)) (pam_cons pem_int pam_nil))) pam_nil)) (pgm_name (pg_name (i := 3) sc_u_law_odd.nd rfl (Or.inl rfl))) (pssm_one (psm_set (i := 2) sc_u_law_odd.nd rfl (Or.inl rfl) (pem_op op_addAll sim_add (pem_var (pv 2)) (pem_call (takes_of rfl rfl rfl rfl) (ok_u_law_pick T) (hr.mono (by decide)) rfl T.m_u_law_pick T.k_u_law_pick T.b_u_law_pick .nil (fun _ => .nil) rfl (pam_cons (pem_var (pv 0)) (pam_cons (pem_ifExp (ptm_cmp op_lt sim_lt (pem_var (pv 1)) pem_int (nomark _)) pem_str pem_str) pam_nil)))))))
    (pssm_one (psm_ret (pem_var (pv 2))))))))))))
theorem sc_u_law_is_number : FnScope (["_law_thing", "_law_low", "_law_high"] : List Str) (["_law_thing", "_law_low", "_law_high"] : List Str) (defScope s_u_law_is_number) := ⟨rfl, rfl, rfl, by decide +kernel, rfl, by decide +kernel, by decide +kernel⟩
theorem ok_u_law_is_number (T : Txt K mg a) : FnOk PW w K mg base (L2.CX PW w) 1 a.f_u_law_is_number a.d_u_law_is_number (["_law_thing", "_law_low", "_law_high"] : List Str) (spOf (tb w K a) 3 m_u_law_is_number) :=
  fund_okm T.F_u_law_is_number sc_u_law_is_number fun cdv A outer s H E hr =>
    (pssm_one (psm_ret (pem_and (pem_isi1 T.isok rfl rfl T.z_isinstance (pem_var (pv 0)) (pe_bltn rfl T.z_int bt_int rfl)) (pem_and (pem_not (pem_isi1 T.isok rfl rfl T.z_isinstance (pem_var (pv 0)) (pe_bltn rfl T.z_bool bt_bool rfl))) (pem_one (pem_chain op_le sim_le op_le sim_le (pem_var (pv 1)) (pem_var (pv 0)) (pem_var (pv 2))))))))
theorem sc_is_whole : FnScope (["thing", "low", "high"] : List Str) (["thing", "low", "high"] : List Str) (defScope s_is_whole) := ⟨rfl, rfl, rfl, by decide +kernel, rfl, by decide +kernel, by decide +kernel⟩
theorem ok_is_whole (T : Txt K mg a) : FnOk PW w K mg base (L2.CX PW w) 1 a.f_is_whole a.d_is_whole (["thing", "low", "high"] : List Str) (spOf (tb w K a) 3 m_is_whole) :=
  fund_okm T.F_is_whole sc_is_whole fun cdv A outer s H E hr =>
    (pssm_one (psm_ret (pem_and (pem_isi1 T.isok rfl rfl T.z_isinstance (pem_var (pv 0)) (pe_bltn rfl T.z_int bt_int rfl)) (pem_and (pem_not (pem_isi1 T.isok rfl rfl T.z_isinstance (pem_var (pv 0)) (pe_bltn rfl T.z_bool bt_bool rfl))) (pem_one (pem_chain op_le sim_le op_le sim_le (pem_var (pv 1)) (pem_var (pv 0)) (pem_var (pv 2))))))))
theorem sc_fault_ahead : FnScope (["width", "rows"] : List Str) (["width", "rows"] : List Str) (defScope s_fault_ahead) := ⟨rfl, rfl, rfl, by decide +kernel, rfl, by decide +kernel, by decide +kernel⟩
theorem ok_fault_ahead (T : Txt K mg a) : FnOk PW w K mg base (L2.CX PW w) 2 a.f_fault_ahead a.d_fault_ahead (["width", "rows"] : List Str) (spOf (tb w K a) 2 m_fault_ahead) :=
  fund_okm T.F_fault_ahead sc_fault_ahead fun cdv A outer s H E hr =>
    (pssm_cons (psm_if (ptm_not (ptm_tru rfl (pem_call (takes_of rfl rfl rfl rfl) (ok_is_whole T) (hr.mono (by decide)) rfl T.m_is_whole T.k_is_whole T.b_is_whole .nil (fun _ => .nil) rfl (pam_cons (pem_var (pv 0)) (pam_cons pem_int (pam_cons (pem_c (pe_glob rfl T.g_MOST_WIDTH.2 T.g_MOST_WIDTH.1) fun _ => .int 2) pam_nil)))))) (pssm_one (psm_ret (pem_tup (pam_cons pem_int (pam_cons pem_str pam_nil))))) pssm_nil)
    (pssm_cons (psm_if (ptm_not (ptm_tru rfl (pem_isiT T.isok rfl rfl T.z_isinstance (pem_var (pv 1)) (pa_cons (pe_bltn rfl T.z_list bt_list rfl) (pa_cons (pe_bltn rfl T.z_tuple bt_tuple rfl) pa_nil)) (by simp) (by decide)))) (pssm_one (psm_ret (pem_tup (pam_cons pem_int (pam_cons pem_str pam_nil))))) pssm_nil)
    (pssm_cons (psm_if (ptm_cmp op_gt sim_gt (pem_callB call_len sim_len rfl T.z_len bt_len (pam_cons (pem_var (pv 1)) pam_nil)) (pem_c (pe_glob rfl T.g_MOST_ROWS.2 T.g_MOST_ROWS.1) fun _ => .int 5000) (nomark _)) (pssm_one (psm_ret (pem_tup (pam_cons (pem_c (pe_glob rfl T.g_MOST_ROWS.2 T.g_MOST_ROWS.1) fun _ => .int 5000) (pam_cons pem_str pam_nil))))) pssm_nil)
    (pssm_one (psm_ret pem_non)))))
theorem sc_is_label : FnScope (["thing", "letter"] : List Str) (["thing"] : List Str) (defScope s_is_label) := ⟨rfl, rfl, rfl, by decide +kernel, rfl, by decide +kernel, by decide +kernel⟩
theorem ok_is_label (T : Txt K mg a) : FnOk PW w K mg base (L2.CX PW w) 1 a.f_is_label a.d_is_label (["thing"] : List Str) (spOf (tb w K a) 1 m_is_label) :=
  fund_okm T.F_is_label sc_is_label fun cdv A outer s H E hr =>
    (pssm_cons (psm_if (PWm.pt (pwm_or (ptm_not (ptm_tru rfl (pem_isi1 T.isok rfl rfl T.z_isinstance (pem_var (pv 0)) (pe_bltn rfl T.z_str bt_str rfl)))) (pwm_or1 (ptm_not (ptm_chain op_le sim_le op_le sim_le pem_int (pem_callB call_len sim_len rfl T.z_len bt_len (pam_cons (pem_var (pv 0)) pam_nil)) pem_int))))) (pssm_one (psm_ret pem_bl)) pssm_nil)
    (pssm_cons (psm_for (passes_of rfl) rfl (pim_seq rfl (pem_var (pv 0))) (pgm_name (pg_name (i := 1) sc_is_label.nd rfl (Or.inl rfl))) (pssm_one (psm_if (ptm_cmp op_notin_str sim_notinS (pem_var (pv 1)) (pem_c (pe_glob rfl T.g_LETTERS.2 T.g_LETTERS.1) fun _ => .str "abcdefghijklmnopqrstuvwxyz") (by rfl)) (pssm_one (psm_ret pem_bl)) pssm_nil)))
    (pssm_one (psm_ret pem_bl))))
theorem sc_is_kind : FnScope (["thing"] : List Str) (["thing"] : List Str) (defScope s_is_kind) := ⟨rfl, rfl, rfl, by decide +kernel, rfl, by decide +kernel, by decide +kernel⟩
theorem ok_is_kind (T : Txt K mg a) : FnOk PW w K mg base (L2.CX PW w) 1 a.f_is_kind a.d_is_kind (["thing"] : List Str) (spOf (tb w K a) 1 m_is_kind) :=
  fund_okm T.F_is_kind sc_is_kind fun cdv A outer s H E hr =>
    (pssm_one (psm_ret (pem_and (pem_isi1 T.isok rfl rfl T.z_isinstance (pem_var (pv 0)) (pe_bltn rfl T.z_str bt_str rfl)) (pem_one (pem_cmp op_in_seq sim_in (pem_var (pv 0)) (pem_tup (pam_cons pem_str (pam_cons pem_str pam_nil))) (by rfl))))))
theorem sc_is_name : FnScope (["thing"] : List Str) (["thing"] : List Str) (defScope s_is_name) := ⟨rfl, rfl, rfl, by decide +kernel, rfl, by decide +kernel, by decide +kernel⟩
theorem ok_is_name (T : Txt K mg a) : FnOk PW w K mg base (L2.CX PW w) 2 a.f_is_name a.d_is_name (["thing"] : List Str) (spOf (tb w K a) 1 m_is_name) :=
  fund_okm T.F_is_name sc_is_name fun cdv A outer s H E hr =>
    (pssm_one (psm_ret (pem_call (takes_of rfl rfl rfl rfl) (ok_is_whole T) (hr.mono (by decide)) rfl T.m_is_whole T.k_is_whole T.b_is_whole .nil (fun _ => .nil) rfl (pam_cons (pem_var (pv 0)) (pam_cons pem_int (pam_cons (pem_c (pe_glob rfl T.g_MOST_NAME.2 T.g_MOST_NAME.1) fun _ => .int 1000000000000000000000000000000) pam_nil))))))
theorem sc_is_house : FnScope (["thing", "name"] : List Str) (["thing"] : List Str) (defScope s_is_house) := ⟨rfl, rfl, rfl, by decide +kernel, rfl, by decide +kernel, by decide +kernel⟩
theorem ok_is_house (T : Txt K mg a) : FnOk PW w K mg base (L2.CX PW w) 3 a.f_is_house a.d_is_house (["thing"] : List Str) (spOf (tb w K a) 1 m_is_house) :=
  fund_okm T.F_is_house sc_is_house fun cdv A outer s H E hr =>
    (pssm_cons (psm_if (ptm_not (ptm_tru rfl (pem_isiT T.isok rfl rfl T.z_isinstance (pem_var (pv 0)) (pa_cons (pe_bltn rfl T.z_list bt_list rfl) (pa_cons (pe_bltn rfl T.z_tuple bt_tuple rfl) pa_nil)) (by simp) (by decide)))) (pssm_one (psm_ret pem_bl)) pssm_nil)
    (pssm_cons (psm_for (passes_of rfl) rfl (pim_seq rfl (pem_var (pv 0))) (pgm_name (pg_name (i := 1) sc_is_house.nd rfl (Or.inl rfl))) (pssm_one (psm_if (ptm_not (ptm_tru rfl (pem_call (takes_of rfl rfl rfl rfl) (ok_is_name T) (hr.mono (by decide)) rfl T.m_is_name T.k_is_name T.b_is_name .nil (fun _ => .nil) rfl (pam_cons (pem_var (pv 1)) pam_nil)))) (pssm_one (psm_ret pem_bl)) pssm_nil)))
    (pssm_one (psm_ret pem_bl))))
theorem sc_plain_row : FnScope (["thing", "size"] : List Str) (["thing"] : List Str) (defScope s_plain_row) := ⟨rfl, rfl, rfl, by decide +kernel, rfl, by decide +kernel, by decide +kernel⟩
theorem ok_plain_row (T : Txt K mg a) : FnOk PW w K mg base (L2.CX PW w) 4 a.f_plain_row a.d_plain_row (["thing"] : List Str) (spOf (tb w K a) 1 m_plain_row) :=
  fund_okm T.F_plain_row sc_plain_row fun cdv A outer s H E hr =>
    (pssm_cons (psm_if (PWm.pt (pwm_or (ptm_not (ptm_tru rfl (pem_isiT T.isok rfl rfl T.z_isinstance (pem_var (pv 0)) (pa_cons (pe_bltn rfl T.z_list bt_list rfl) (pa_cons (pe_bltn rfl T.z_tuple bt_tuple rfl) pa_nil)) (by simp) (by decide)))) (pwm_or (ptm_cmp (op_eqD hr.units) sim_eq (pem_callB call_len sim_len rfl T.z_len bt_len (pam_cons (pem_var (pv 0)) pam_nil)) pem_int (nomark _)) (pwm_or1 (ptm_not (ptm_tru rfl (pem_isi1 T.isok rfl rfl T.z_isinstance (pem_ix ix_seq sim_ix (pem_var (pv 0)) pem_int) (pe_bltn rfl T.z_str bt_str rfl)))))))) (pssm_one (psm_ret pem_non)) pssm_nil)
    (pssm_cons (psm_set (i := 1) sc_plain_row.nd rfl (Or.inl rfl) (pem_callB call_len sim_len rfl T.z_len bt_len (pam_cons (pem_var (pv 0)) pam_nil)))
    (pssm_cons (psm_if (ptm_cmp (op_eqD hr.units) sim_eq (pem_ix ix_seq sim_ix (pem_var (pv 0)) pem_int) pem_str (nomark _)) (pssm_cons (psm_if (PWm.pt (pwm_or (ptm_cmp (op_neD hr.units) sim_ne (pem_var (pv 1)) pem_int (nomark _)) (pwm_or1 (ptm_not (PWm.pt (pwm_and (ptm_tru rfl (pem_call (takes_of rfl rfl rfl rfl) (ok_is_label T) (hr.mono (by decide)) rfl T.m_is_label T.k_is_label T.b_is_label .nil (fun _ => .nil) rfl (pam_cons (pem_ix ix_seq sim_ix (pem_var (pv 0)) pem_int) pam_nil))) (pwm_and (ptm_tru rfl (pem_call (takes_of rfl rfl rfl rfl) (ok_is_kind T) (hr.mono (by decide)) rfl T.m_is_kind T.k_is_kind T.b_is_kind .nil (fun _ => .nil) rfl (pam_cons (pem_ix ix_seq sim_ix (pem_var (pv 0)) pem_int) pam_nil))) (pwm_and (ptm_tru rfl (pem_call (takes_of rfl rfl rfl rfl) (ok_is_name T) (hr.mono (by decide)) rfl T.m_is_name T.k_is_name T.b_is_name .nil (fun _ => .nil) rfl (pam_cons (pem_ix ix_seq sim_ix (pem_var (pv 0)) pem_int) pam_nil))) (pwm_and1 (ptm_tru rfl (pem_call (takes_of rfl rfl rfl rfl) (ok_is_house T) (hr.mono (by decide)) rfl T.m_is_house T.k_is_house T.b_is_house .nil (fun _ => .nil) rfl (pam_cons (pem_ix ix_seq sim_ix (pem_var (pv 0)) pem_int) pam_nil)))))))))))) (pssm_one (psm_ret pem_non)) pssm_nil)
    (pssm_one (psm_ret (pem_tup (pam_cons pem_str (pam_cons (pem_ix ix_seq sim_ix (pem_var (pv 0)) pem_int) (pam_cons (pem_ix ix_seq sim_ix (pem_var (pv 0)) pem_int) (pam_cons (pem_ix ix_seq sim_ix (pem_var (pv 0)) pem_int) (pam_cons (pem_callTy call_tuple_of sim_tuple rfl T.z_tuple bt_tuple (pam_cons (pem_ix ix_seq sim_ix (pem_var (pv 0)) pem_int) pam_nil)) pam_nil))))))))) pssm_nil)
    (pssm_cons psm_stub
    (pssm_cons psm_stub
    (pssm_cons psm_stub
    (pssm_one (psm_ret pem_non))))))))
theorem sc_Ledger_fault_of_row : FnScope (["self", "row"] : List Str) (["self", "row"] : List Str) (defScope s_Ledger_fault_of_row) := ⟨rfl, rfl, rfl, by decide +kernel, rfl, by decide +kernel, by decide +kernel⟩
theorem ok_Ledger_fault_of_row (T : Txt K mg a) : FnOk PW w K mg base (L2.CX PW w) 1 a.f_Ledger_fault_of_row a.d_Ledger_fault_of_row (["self", "row"] : List Str) (spOf (tb w K a) 2 m_Ledger_fault_of_row) :=
  fund_okm T.F_Ledger_fault_of_row sc_Ledger_fault_of_row fun cdv A outer s H E hr =>
    (pssm_cons (psm_if (ptm_cmp (op_eqD hr.units) sim_eq (pem_ix ix_seq sim_ix (pem_var (pv 1)) pem_int) pem_str (nomark _)) (pssm_cons (psm_if (ptm_pc (pcm_din (units1 hr) (pem_ix ix_seq sim_ix (pem_var (pv 1)) pem_int) (pem_fld rfl T.o_Ledger_kinds (pe_fld (pem_var (pv 0)) rfl)))) (pssm_one (psm_ret pem_str)) pssm_nil)
    (pssm_one (psm_ret (pem_ifExp (ptm_cmp (op_neD hr.units) sim_ne (pem_callB call_len sim_len rfl T.z_len bt_len (pam_cons (pem_ix ix_seq sim_ix (pem_var (pv 1)) pem_int) pam_nil)) (pem_fld rfl T.o_Ledger_width (pe_fld (pem_var (pv 0)) rfl)) (nomark _)) pem_str pem_non)))) pssm_nil)
    (pssm_cons psm_stub
    (pssm_cons psm_stub
    (pssm_cons psm_stub
    (pssm_one psm_stub)))))
theorem sc_Ledger_enter : FnScope (["self", "label", "kind", "parents", "at"] : List Str) (["self", "label", "kind", "parents", "at"] : List Str) (defScope s_Ledger_enter) := ⟨rfl, rfl, rfl, by decide +kernel, rfl, by decide +kernel, by decide +kernel⟩
theorem ok_Ledger_enter (T : Txt K mg a) : FnOk PW w K mg base (L2.CX PW w) 1 a.f_Ledger_enter a.d_Ledger_enter (["self", "label", "kind", "parents", "at"] : List Str) (spOf (tb w K a) 5 m_Ledger_enter) :=
  fund_okl T.F_Ledger_enter sc_Ledger_enter fun cdv A outer s H E hr =>
    (pssm_cons (psm_expr (pem_bm sim_app (pe_bm PySem.F.plainAttrs_list PySem.F.slot_list_append PySem.F.type_list_append mt_append (pem_fld rfl T.o_Ledger_persons (pe_fld (pem_var (pv 0)) rfl)) (pam_cons (pem_var (pv 1)) pam_nil))))
    (pssm_cons (psm_dput (ps_dput (units1 hr) (pem_fld rfl T.o_Ledger_kinds (pe_fld (pem_var (pv 0)) rfl)) (pem_var (pv 1)) (pem_var (pv 2)) rfl))
    (pssm_cons (psm_dput (ps_dput (units1 hr) (pem_fld rfl T.o_Ledger_parents (pe_fld (pem_var (pv 0)) rfl)) (pem_var (pv 1)) (pem_var (pv 3)) rfl))
    (pssm_cons (psm_dput (ps_dput (units1 hr) (pem_fld rfl T.o_Ledger_starts (pe_fld (pem_var (pv 0)) rfl)) (pem_var (pv 1)) (pem_var (pv 4)) rfl))
    (pssm_one (psm_dput (ps_dput (units1 hr) (pem_fld rfl T.o_Ledger_mates (pe_fld (pem_var (pv 0)) rfl)) (pem_var (pv 1)) (pem_lst pam_nil) rfl)))))))
theorem sc_Ledger_take : FnScope (["self", "row", "at"] : List Str) (["self", "row", "at"] : List Str) (defScope s_Ledger_take) := ⟨rfl, rfl, rfl, by decide +kernel, rfl, by decide +kernel, by decide +kernel⟩
theorem ok_Ledger_take (T : Txt K mg a) : FnOk PW w K mg base (L2.CX PW w) 2 a.f_Ledger_take a.d_Ledger_take (["self", "row", "at"] : List Str) (spOf (tb w K a) 3 m_Ledger_take) :=
  fund_okl T.F_Ledger_take sc_Ledger_take fun cdv A outer s H E hr =>
    (pssm_one (psm_if (ptm_cmp (op_eqD hr.units) sim_eq (pem_ix ix_seq sim_ix (pem_var (pv 1)) pem_int) pem_str (nomark _)) (pssm_one (psm_expr (pem_meth (takes_of rfl rfl rfl rfl) (ok_Ledger_enter T) (hr.mono (by decide)) T.i_Ledger.cl T.h_Ledger_enter (show ¬ ("enter" : Str) ∈ fldN 3 by decide +kernel) T.b_Ledger_enter .nil (fun _ => .nil) (pem_var (pv 0)) (pam_cons (pem_ix ix_seq sim_ix (pem_var (pv 1)) pem_int) (pam_cons (pem_ix ix_seq sim_ix (pem_var (pv 1)) pem_int) (pam_cons pem_non (pam_cons (pem_var (pv 2)) pam_nil))))))) (pssm_one psm_stub)))
theorem sc_fill_ledger : FnScope (["ledger", "rows", "plain", "at", "thing", "row", "what"] : List Str) (["ledger", "rows", "plain"] : List Str) (defScope s_fill_ledger) := ⟨rfl, rfl, rfl, by decide +kernel, rfl, by decide +kernel, by decide +kernel⟩
theorem ok_fill_ledger (T : Txt K mg a) : FnOk PW w K mg base (L2.CX PW w) 5 a.f_fill_ledger a.d_fill_ledger (["ledger", "rows", "plain"] : List Str) (spOf (tb w K a) 3 m_fill_ledger) :=
  fund_okl T.F_fill_ledger sc_fill_ledger fun cdv A outer s H E hr =>
    (pssm_cons (psm_for (passes_of rfl) rfl (pim_enumA rfl rfl T.z_enumerate (pam_cons (pem_var (pv 1)) pam_nil)) (pgm_tup rfl rfl (PGN.cons (pg_name (i := 3) sc_fill_ledger.nd rfl (Or.inl rfl)) rfl (PGN.cons (pg_name (i := 4) sc_fill_ledger.nd rfl (Or.inl rfl)) rfl PGN.nil rfl) rfl)) (pssm_cons (psm_set (i := 5) sc_fill_ledger.nd rfl (Or.inl rfl) (pem_call (takes_of rfl rfl rfl rfl) (ok_plain_row T) (hr.mono (by decide)) rfl T.m_plain_row T.k_plain_row T.b_plain_row .nil (fun _ => .nil) rfl (pam_cons (pem_var (pv 4)) pam_nil)))
    (pssm_cons (psm_if (ptm_cmp op_isN sim_isN (pem_var (pv 5)) pem_non (nomark _)) (pssm_one (psm_ret (pem_tup (pam_cons (pem_var (pv 3)) (pam_cons pem_str pam_nil))))) pssm_nil)
    (pssm_cons (psm_set (i := 6) sc_fill_ledger.nd rfl (Or.inl rfl) (pem_meth (takes_of rfl rfl rfl rfl) (ok_Ledger_fault_of_row T) (hr.mono (by decide)) T.i_Ledger.cl T.h_Ledger_fault_of_row (show ¬ ("fault_of_row" : Str) ∈ fldN 3 by decide +kernel) T.b_Ledger_fault_of_row .nil (fun _ => .nil) (pem_var (pv 0)) (pam_cons (pem_var (pv 5)) pam_nil)))
    (pssm_cons (psm_if (ptm_cmp op_notN sim_notN (pem_var (pv 6)) pem_non (nomark _)) (pssm_one (psm_ret (pem_tup (pam_cons (pem_var (pv 3)) (pam_cons (pem_var (pv 6)) pam_nil))))) pssm_nil)
    (pssm_cons (psm_expr (pem_meth (takes_of rfl rfl rfl rfl) (ok_Ledger_take T) (hr.mono (by decide)) T.i_Ledger.cl T.h_Ledger_take (show ¬ ("take" : Str) ∈ fldN 3 by decide +kernel) T.b_Ledger_take .nil (fun _ => .nil) (pem_var (pv 0)) (pam_cons (pem_var (pv 5)) (pam_cons (pem_var (pv 3)) pam_nil))))
    (pssm_one (psm_expr (pem_bm sim_app (pe_bm PySem.F.plainAttrs_list PySem.F.slot_list_append PySem.F.type_list_append mt_append (pem_var (pv 2)) (pam_cons (pem_var (pv 5)) pam_nil)))))))))))
    (pssm_one (psm_ret pem_non)))
theorem sc_Ledger___init : FnScope (["self", "width"] : List Str) (["self", "width"] : List Str) (defScope s_Ledger___init) := ⟨rfl, rfl, rfl, by decide +kernel, rfl, by decide +kernel, by decide +kernel⟩
theorem ok_Ledger___init (T : Txt K mg a) : FnOk PW w K mg base (L2.CX PW w) 1 a.f_Ledger___init a.d_Ledger___init (["self", "width"] : List Str) (spOf (tb w K a) 2 m_Ledger___init) :=
  fund_okl T.F_Ledger___init sc_Ledger___init fun cdv A outer s H E hr =>
    (pssm_cons (psm_fld rfl T.o_Ledger_width (ps_fld (pem_var (pv 0)) (pem_var (pv 1)) rfl))
    (pssm_cons (psm_fld rfl T.o_Ledger_persons (ps_fld (pem_var (pv 0)) (pem_lst pam_nil) rfl))
    (pssm_cons (psm_fld rfl T.o_Ledger_kinds (ps_fld (pem_var (pv 0)) pem_dict rfl))
    (pssm_cons (psm_fld rfl T.o_Ledger_parents (ps_fld (pem_var (pv 0)) pem_dict rfl))
    (pssm_cons (psm_fld rfl T.o_Ledger_starts (ps_fld (pem_var (pv 0)) pem_dict rfl))
    (pssm_cons (psm_fld rfl T.o_Ledger_dead (ps_fld (pem_var (pv 0)) pem_dict rfl))
    (pssm_cons (psm_fld rfl T.o_Ledger_mates (ps_fld (pem_var (pv 0)) pem_dict rfl))
    (pssm_one (psm_fld rfl T.o_Ledger_broods (ps_fld (pem_var (pv 0)) pem_dict rfl))))))))))
theorem sc_record_fault : FnScope (["width", "rows", "fault"] : List Str) (["width", "rows"] : List Str) (defScope s_record_fault) := ⟨rfl, rfl, rfl, by decide +kernel, rfl, by decide +kernel, by decide +kernel⟩
theorem ok_record_fault (T : Txt K mg a) : FnOk PW w K mg base (L2.CX PW w) 6 a.f_record_fault a.d_record_fault (["width", "rows"] : List Str) (spOf (tb w K a) 2 m_record_fault) :=
  fund_okm T.F_record_fault sc_record_fault fun cdv A outer s H E hr =>
    (pssm_cons (psm_set (i := 2) sc_record_fault.nd rfl (Or.inl rfl) (pem_call (takes_of rfl rfl rfl rfl) (ok_fault_ahead T) (hr.mono (by decide)) rfl T.m_fault_ahead T.k_fault_ahead T.b_fault_ahead .nil (fun _ => .nil) rfl (pam_cons (pem_var (pv 0)) (pam_cons (pem_var (pv 1)) pam_nil))))
    (pssm_cons (psm_if (ptm_cmp op_notN sim_notN (pem_var (pv 2)) pem_non (nomark _)) (pssm_one (psm_ret (pem_var (pv 2)))) pssm_nil)
    (pssm_one (psm_ret (pem_call (takes_of rfl rfl rfl rfl) (ok_fill_ledger T) (hr.mono (by decide)) rfl T.m_fill_ledger T.k_fill_ledger T.b_fill_ledger .nil (fun _ => .nil) rfl (pam_cons (pem_make (takes_of rfl rfl rfl rfl) T.mk_Ledger (ok_Ledger___init T) (hr.mono (by decide)) rfl T.c_Ledger T.b_Ledger___init .nil (fun _ => .nil) (pam_cons (pem_var (pv 0)) pam_nil)) (pam_cons (pem_var (pv 1)) (pam_cons (pem_lst pam_nil) pam_nil))))))))
theorem sc_is_way : FnScope (["thing", "least", "most", "letter"] : List Str) (["thing", "least", "most"] : List Str) (defScope s_is_way) := ⟨rfl, rfl, rfl, by decide +kernel, rfl, by decide +kernel, by decide +kernel⟩
theorem ok_is_way (T : Txt K mg a) : FnOk PW w K mg base (L2.CX PW w) 1 a.f_is_way a.d_is_way (["thing", "least", "most"] : List Str) (spOf (tb w K a) 3 m_is_way) :=
  fund_okm T.F_is_way sc_is_way fun cdv A outer s H E hr =>
    (pssm_cons (psm_if (PWm.pt (pwm_or (ptm_not (ptm_tru rfl (pem_isi1 T.isok rfl rfl T.z_isinstance (pem_var (pv 0)) (pe_bltn rfl T.z_str bt_str rfl)))) (pwm_or1 (ptm_not (ptm_chain op_le sim_le op_le sim_le (pem_var (pv 1)) (pem_callB call_len sim_len rfl T.z_len bt_len (pam_cons (pem_var (pv 0)) pam_nil)) (pem_var (pv 2))))))) (pssm_one (psm_ret pem_bl)) pssm_nil)
    (pssm_cons (psm_for (passes_of rfl) rfl (pim_seq rfl (pem_var (pv 0))) (pgm_name (pg_name (i := 3) sc_is_way.nd rfl (Or.inl rfl))) (pssm_one (psm_if (ptm_cmp op_notIn_seq sim_in (pem_var (pv 3)) (pem_tup (pam_cons pem_str (pam_cons pem_str pam_nil))) (by rfl)) (pssm_one (psm_ret pem_bl)) pssm_nil)))
    (pssm_one (psm_ret pem_bl))))
theorem sc_u_law_only : FnScope (["_law_thing", "_law_signs", "_law_least", "_law_most", "_law_sign"] : List Str) (["_law_thing", "_law_signs", "_law_least", "_law_most"] : List Str) (defScope s_u_law_only) := ⟨rfl, rfl, rfl, by decide +kernel, rfl, by decide +kernel, by decide +kernel⟩
theorem ok_u_law_only (T : Txt K mg a) : FnOk PW w K mg base (L2.CX PW w) 1 a.f_u_law_only a.d_u_law_only (["_law_thing", "_law_signs", "_law_least", "_law_most"] : List Str) (spOf (tb w K a) 4 m_u_law_only) :=
  fund_okm T.F_u_law_only sc_u_law_only fun cdv A outer s H E hr =>
    (pssm_cons (psm_if (PWm.pt (pwm_or (ptm_not (ptm_tru rfl (pem_isi1 T.isok rfl rfl T.z_isinstance (pem_var (pv 0)) (pe_bltn rfl T.z_str bt_str rfl)))) (pwm_or1 (ptm_not (ptm_chain op_le sim_le op_le sim_le (pem_var (pv 2)) (pem_callB call_len sim_len rfl T.z_len bt_len (pam_cons (pem_var (pv 0)) pam_nil)) (pem_var (pv 3))))))) (pssm_one (psm_ret pem_bl)) pssm_nil)
    (pssm_one (psm_ret (pem_cmp (op_eqD hr.units) sim_eq (pem_scope (pem_comp (own := [("_law_sign", 4)]) rfl sc_u_law_only.nd (pim_seq rfl (pem_var (pv 0))) (show BlkOk (["_law_thing", "_law_signs", "_law_least", "_law_most", "_law_sign"] : List Str) (defScope s_u_law_only) _ [("_law_sign", 4)] from ⟨rfl, by decide +kernel, by decide +kernel, by decide +kernel, by decide +kernel⟩) (fun _ _ _ _ _ => (pg_name (i := 4) sc_u_law_only.nd rfl (Or.inl rfl))) (gr_name rfl) (gw_name (by decide)) (fun _ _ _ _ _ => (ptsm_one (ptm_cmp op_notin_str sim_notinS (pem_var (pv 4)) (pem_var (pv 1)) (by rfl)))) (fun _ _ _ _ _ => (pem_var (pv 4))))) (pem_scope (pem_lst pam_nil)) (nomark _)))))
theorem sc_u_law_questions : FnScope (["_law_thing", "_law_low", "_law_high", "_law_letters", "_law_told", "_law_due", "_law_k"] : List Str) (["_law_thing", "_law_low", "_law_high"] : List Str) (defScope s_u_law_questions) := ⟨rfl, rfl, rfl, by decide +kernel, rfl, by decide +kernel, by decide +kernel⟩
theorem ok_u_law_questions (T : Txt K mg a) : FnOk PW w K mg base (L2.CX PW w) 3 a.f_u_law_questions a.d_u_law_questions (["_law_thing", "_law_low", "_law_high"] : List Str) (spOf (tb w K a) 3 m_u_law_questions) :=
  fund_okm T.F_u_law_questions sc_u_law_questions fun cdv A outer s H E hr =>
    (pssm_cons (psm_set (i := 3) sc_u_law_questions.nd rfl (Or.inl rfl) pem_str)
    (pssm_cons (psm_set (i := 4) sc_u_law_questions.nd rfl (Or.inl rfl) (pem_scope (pem_lst (pam_cons (pem_call (takes_of rfl rfl rfl rfl) (ok_is_whole T) (hr.mono (by decide)) rfl T.m_is_whole T.k_is_whole T.b_is_whole .nil (fun _ => .nil) rfl (pam_cons (pem_var (pv 0)) (pam_cons (pem_var (pv 1)) (pam_cons (pem_var (pv 2)) pam_nil)))) (pam_cons (pem_call (takes_of rfl rfl rfl rfl) (ok_is_name T) (hr.mono (by decide)) rfl T.m_is_name T.k_is_name T.b_is_name .nil (fun _ => .nil) rfl (pam_cons (pem_var (pv 0)) pam_nil)) (pam_cons (pem_call (takes_of rfl rfl rfl rfl) (ok_is_label T) (hr.mono (by decide)) rfl T.m_is_label T.k_is_label T.b_is_label .nil (fun _ => .nil) rfl (pam_cons (pem_var (pv 0)) pam_nil)) (pam_cons (pem_call (takes_of rfl rfl rfl rfl) (ok_is_kind T) (hr.mono (by decide)) rfl T.m_is_kind T.k_is_kind T.b_is_kind .nil (fun _ => .nil) rfl (pam_cons (pem_var (pv 0)) pam_nil)) (pam_cons (pem_call (takes_of rfl rfl rfl rfl) (ok_is_way T) (hr.mono (by decide)) rfl T.m_is_way T.k_is_way T.b_is_way .nil (fun _ => .nil) rfl (pam_cons (pem_var (pv 0)) (pam_cons (pem_var (pv 1)) (pam_cons (pem_var (pv 2)) pam_nil)))) pam_nil))))))))
    (pssm_cons (psm_set (i := 5) sc_u_law_questions.nd rfl (Or.inl rfl) (pem_scope (pem_lst (pam_cons (pem_call (takes_of rfl rfl rfl rfl) (ok_u_law_is_number T) (hr.mono (by decide)) rfl T.m_u_law_is_number T.k_u_law_is_number T.b_u_law_is_number .nil (fun _ => .nil) rfl (pam_cons (pem_var (pv 0)) (pam_cons (pem_var (pv 1)) (pam_cons (pem_var (pv 2)) pam_nil)))) (pam_cons (pem_call (takes_of rfl rfl rfl rfl) (ok_u_law_is_number T) (hr.mono (by decide)) rfl T.m_u_law_is_number T.k_u_law_is_number T.b_u_law_is_number .nil (fun _ => .nil) rfl (pam_cons (pem_var (pv 0)) (pam_cons pem_int (pam_cons (pem_op op_pow sim_pow pem_int pem_int) pam_nil)))) (pam_cons (pem_call (takes_of rfl rfl rfl rfl) (ok_u_law_only T) (hr.mono (by decide)) rfl T.m_u_law_only T.k_u_law_only T.b_u_law_only .nil (fun _ => .nil) rfl (pam_cons (pem_var (pv 0)) (pam_cons (pem_var (pv 3)) (pam_cons pem_int (pam_cons pem_int pam_nil))))) (pam_cons (pem_and (pem_isi1 T.isok rfl rfl T.z_isinstance (pem_var (pv 0)) (pe_bltn rfl T.z_str bt_str rfl)) (pem_one (pem_cmp op_in_seq sim_in (pem_var (pv 0)) (pem_scope (pem_lst (pam_cons pem_str (pam_cons pem_str pam_nil)))) (by rfl)))) (pam_cons (pem_call (takes_of rfl rfl rfl rfl) (ok_u_law_only T) (hr.mono (by decide)) rfl T.m_u_law_only T.k_u_law_only T.b_u_law_only .nil (fun _ => .nil) rfl (pam_cons (pem_var (pv 0)) (pam_cons pem_str (pam_cons (pem_var (pv 1)) (pam_cons (pem_var (pv 2)) pam_nil))))) pam_nil))))))))
    (pssm_cons (psm_for (passes_of rfl) rfl (pim_range1 rfl T.z_range (pam_cons pem_int pam_nil)) (pgm_name (pg_name (i := 6) sc_u_law_questions.nd rfl (Or.inl rfl))) (pssm_one (psm_if (PWm.pt (pwm_or (ptm_not (ptm_tru rfl (pem_isi1 T.isok rfl rfl T.z_isinstance (pem_ix ix_seq sim_ix (pem_var (pv 4)) (pem_var (pv 6))) (pe_bltn rfl T.z_bool bt_bool rfl)))) (pwm_or1 (ptm_cmp (op_neD hr.units) sim_ne (pem_ix ix_seq sim_ix (pem_var (pv 4)) (pem_var (pv 6))) (pem_ix ix_seq sim_ix (pem_var (pv 5)) (pem_var (pv 6))) (nomark _))))) (pssm_one (psm_ret pem_bl)) pssm_nil)))
    (pssm_one (psm_ret pem_bl))))))
theorem sc_u_law_long_label : FnScope (["_law_k", "_law_letters"] : List Str) (["_law_k"] : List Str) (defScope s_u_law_long_label) := ⟨rfl, rfl, rfl, by decide +kernel, rfl, by decide +kernel, by decide +kernel⟩
theorem ok_u_law_long_label (T : Txt K mg a) : FnOk PW w K mg base (L2.CX PW w) 1 a.f_u_law_long_label a.d_u_law_long_label (["_law_k"] : List Str) (spOf (tb w K a) 1 m_u_law_long_label) :=
  fund_okm T.F_u_law_long_label sc_u_law_long_label fun cdv A outer s H E hr =>
    (pssm_cons (psm_set (i := 1) sc_u_law_long_label.nd rfl (Or.inl rfl) pem_str)
    (pssm_one (psm_ret (pem_op op_addAll sim_add (pem_op op_addAll sim_add (pem_ix ix_seq sim_ix (pem_var (pv 1)) (pem_op op_mod sim_mod (pem_op op_fdivW sim_div (pem_var (pv 0)) pem_int) pem_int)) (pem_ix ix_seq sim_ix (pem_var (pv 1)) (pem_op op_mod sim_mod (pem_op op_fdivW sim_div (pem_var (pv 0)) pem_int) pem_int))) (pem_ix ix_seq sim_ix (pem_var (pv 1)) (pem_op op_mod sim_mod (pem_var (pv 0)) pem_int))))))
theorem sc_u_law_many : FnScope (["_law_many_here", "_law_k"] : List Str) (["_law_many_here"] : List Str) (defScope s_u_law_many) := ⟨rfl, rfl, rfl, by decide +kernel, rfl, by decide +kernel, by decide +kernel⟩
theorem ok_u_law_many (T : Txt K mg a) : FnOk PW w K mg base (L2.CX PW w) 2 a.f_u_law_many a.d_u_law_many (["_law_many_here"] : List Str) (spOf (tb w K a) 1 m_u_law_many) :=
  fund_okm T.F_u_law_many sc_u_law_many fun cdv A outer s H E hr =>
    (pssm_one (psm_ret (pem_scope (pem_comp (own := [("_law_k", 1)]) rfl sc_u_law_many.nd (pim_range1 rfl T.z_range (pam_cons (pem_var (pv 0)) pam_nil)) (show BlkOk (["_law_many_here", "_law_k"] : List Str) (defScope s_u_law_many) _ [("_law_k", 1)] from ⟨rfl, by decide +kernel, by decide +kernel, by decide +kernel, by decide +kernel⟩) (fun _ _ _ _ _ => (pg_name (i := 1) sc_u_law_many.nd rfl (Or.inl rfl))) (gr_name rfl) (gw_name (by decide)) (fun _ _ _ _ _ => (ptsm_nil (σ := ()))) (fun _ _ _ _ _ => (pem_tup (pam_cons pem_str (pam_cons (pem_call takes0 (ok_u_law_long_label T) (hr.mono (by decide)) rfl T.m_u_law_long_label T.k_u_law_long_label T.b_u_law_long_label .nil (fun _ => .nil) rfl (pam_cons (pem_var (pv 1)) pam_nil)) (pam_cons pem_str (pam_cons (pem_var (pv 1)) (pam_cons (pem_tup pam_nil) pam_nil)))))))))))
theorem ok_BadRecord___init (T : Txt K mg a) : FnOk PW w K mg base (L2.CX PW w) 1 a.f_BadRecord___init a.d_BadRecord___init (["self", "index", "what"] : List Str) (spIniG (gIx [0]) a.c_BadRecord (fldN 1)) := by
  obtain ⟨oc, od, osl, dV, kV, doc, pm, an, ct, e, l, cd⟩ := T.l_BadRecord
  rw [e] at l ⊢
  refine init_okG l cd T.S_BadRecord rfl rfl rfl (by decide) (by decide) (fun A outer s H E => ⟨_, (pa_cons pe_str (pa_cons (pe_callTy call_str_int rfl T.z_str bt_str (pa_cons (pv 1) pa_nil)) (pa_cons (pv 2) pa_nil))), fun vs hl hg H Q hq => ?_⟩) (fun A outer s H E => (.cons (pv 0) (pv 1) T.n_BadRecord_index rfl (.cons (pv 0) (pv 2) T.n_BadRecord_what rfl .nil)))
  obtain ⟨i0, e0, l0⟩ := hg 0 (by simp)
  match vs, hl with
  | [z0, z1, z2], _ =>
    cases e0
    exact ⟨_, rfl, _, rfl, l0, ⟨_, rfl, hq _ (by simp)⟩⟩
theorem sc_Record___init : FnScope (["self", "width", "rows", "fault", "ledger", "plain", "label", "pair"] : List Str) (["self", "width", "rows"] : List Str) (defScope s_Record___init) := ⟨rfl, rfl, rfl, by decide +kernel, rfl, by decide +kernel, by decide +kernel⟩
theorem ok_Record___init (T : Txt K mg a) : FnOk PW w K mg base (L2.CX PW w) 6 a.f_Record___init a.d_Record___init (["self", "width", "rows"] : List Str) (spOf (tb w K a) 3 m_Record___init) :=
  fund_okl T.F_Record___init sc_Record___init fun cdv A outer s H E hr =>
    (pssm_cons (psm_set (i := 3) sc_Record___init.nd rfl (Or.inl rfl) (pem_call (takes_of rfl rfl rfl rfl) (ok_fault_ahead T) (hr.mono (by decide)) rfl T.m_fault_ahead T.k_fault_ahead T.b_fault_ahead .nil (fun _ => .nil) rfl (pam_cons (pem_var (pv 1)) (pam_cons (pem_var (pv 2)) pam_nil))))
    (pssm_cons (psm_if (ptm_cmp op_notN sim_notN (pem_var (pv 3)) pem_non (nomark _)) (pssm_one (psm_raiseG (k := 1) rfl (takes_of rfl rfl rfl rfl) T.e_BadRecord T.ei_BadRecord T.et_BadRecord (ok_BadRecord___init T) (hr.mono (by decide)) T.b_BadRecord___init rfl T.c_BadRecord rfl (by decide) (pam_cons (pem_ix ix_seq sim_ix (pem_var (pv 3)) pem_int) (pam_cons (pem_ix ix_seq sim_ix (pem_var (pv 3)) pem_int) pam_nil)))) pssm_nil)
    (pssm_cons (psm_set (i := 4) sc_Record___init.nd rfl (Or.inr rfl) (pem_make (takes_of rfl rfl rfl rfl) T.mk_Ledger (ok_Ledger___init T) (hr.mono (by decide)) rfl T.c_Ledger T.b_Ledger___init .nil (fun _ => .nil) (pam_cons (pem_var (pv 1)) pam_nil)))
    (pssm_cons (psm_set (i := 5) sc_Record___init.nd rfl (Or.inl rfl) (pem_lst pam_nil))
    (pssm_cons (psm_set (i := 3) sc_Record___init.nd rfl (Or.inl rfl) (pem_call (takes_of rfl rfl rfl rfl) (ok_fill_ledger T) (hr.mono (by decide)) rfl T.m_fill_ledger T.k_fill_ledger T.b_fill_ledger .nil (fun _ => .nil) rfl (pam_cons (pem_var (pv 4)) (pam_cons (pem_var (pv 2)) (pam_cons (pem_var (pv 5)) pam_nil)))))
    (pssm_cons (psm_if (ptm_cmp op_notN sim_notN (pem_var (pv 3)) pem_non (nomark _)) (pssm_one (psm_raiseG (k := 1) rfl (takes_of rfl rfl rfl rfl) T.e_BadRecord T.ei_BadRecord T.et_BadRecord (ok_BadRecord___init T) (hr.mono (by decide)) T.b_BadRecord___init rfl T.c_BadRecord rfl (by decide) (pam_cons (pem_ix ix_seq sim_ix (pem_var (pv 3)) pem_int) (pam_cons (pem_ix ix_seq sim_ix (pem_var (pv 3)) pem_int) pam_nil)))) pssm_nil)
    (pssm_cons (psm_fld rfl T.o_Record_ledger (ps_fld (pem_var (pv 0)) (pem_var (pv 4)) rfl))
    (pssm_cons (psm_fld rfl T.o_Record_width (ps_fld (pem_var (pv 0)) (pem_var (pv 1)) rfl))
    (pssm_cons (psm_fld rfl T.o_Record_rows (ps_fld (pem_var (pv 0)) (pem_callTy call_tuple_of sim_tuple rfl T.z_tuple bt_tuple (pam_cons (pem_var (pv 5)) pam_nil)) rfl))
    (pssm_cons (psm_fld rfl T.o_Record_persons (ps_fld (pem_var (pv 0)) (pem_callTy call_tuple_of sim_tuple rfl T.z_tuple bt_tuple (pam_cons (pem_fld rfl T.o_Ledger_persons (pe_fld (pem_var (pv 4)) rfl)) pam_nil)) rfl))
    (pssm_cons (psm_fld rfl T.o_Record_founders (ps_fld (pem_var (pv 0)) (pem_callTy call_tuple_of sim_tuple rfl T.z_tuple bt_tuple (pam_cons (pem_scope (pem_comp (own := [("label", 6)]) rfl sc_Record___init.nd (pim_seq rfl (pem_fld rfl T.o_Ledger_persons (pe_fld (pem_var (pv 4)) rfl))) (show BlkOk (["self", "width", "rows", "fault", "ledger", "plain", "label", "pair"] : List Str) (defScope s_Record___init) _ [("label", 6)] from ⟨rfl, by decide +kernel, by decide +kernel, by decide +kernel, by decide +kernel⟩) (fun _ _ _ _ _ => (pg_name (i := 6) sc_Record___init.nd rfl (Or.inl rfl))) (gr_name rfl) (gw_name (by decide)) (fun _ _ _ _ _ => (ptsm_one (ptm_cmp op_isN sim_isN (pem_dget (units1 hr) (pem_fld rfl T.o_Ledger_parents (pe_fld (pem_var (pv 4)) rfl)) (pem_var (pv 6)) fun _ _ => rfl) pem_non (nomark _)))) (fun _ _ _ _ _ => (pem_var (pv 6))))) pam_nil)) rfl))
    (pssm_cons (psm_fld rfl T.o_Record_born (ps_fld (pem_var (pv 0)) (pem_callTy call_tuple_of sim_tuple rfl T.z_tuple bt_tuple (pam_cons (pem_scope (pem_comp (own := [("label", 6)]) rfl sc_Record___init.nd (pim_seq rfl (pem_fld rfl T.o_Ledger_persons (pe_fld (pem_var (pv 4)) rfl))) (show BlkOk (["self", "width", "rows", "fault", "ledger", "plain", "label", "pair"] : List Str) (defScope s_Record___init) _ [("label", 6)] from ⟨rfl, by decide +kernel, by decide +kernel, by decide +kernel, by decide +kernel⟩) (fun _ _ _ _ _ => (pg_name (i := 6) sc_Record___init.nd rfl (Or.inl rfl))) (gr_name rfl) (gw_name (by decide)) (fun _ _ _ _ _ => (ptsm_one (ptm_cmp op_notN sim_notN (pem_dget (units1 hr) (pem_fld rfl T.o_Ledger_parents (pe_fld (pem_var (pv 4)) rfl)) (pem_var (pv 6)) fun _ _ => rfl) pem_non (nomark _)))) (fun _ _ _ _ _ => (pem_var (pv 6))))) pam_nil)) rfl))
    (pssm_cons (psm_fld rfl T.o_Record_weddings (ps_fld (pem_var (pv 0)) (pem_callTy call_tuple_of sim_tuple rfl T.z_tuple bt_tuple (pam_cons (pem_scope (pem_callTy (call_list_dK rfl) sim_listD rfl T.z_list bt_list (pam_cons (pem_fld rfl T.o_Ledger_broods (pe_fld (pem_var (pv 4)) rfl)) pam_nil))) pam_nil)) rfl))
    (pssm_cons (psm_fld rfl T.o_Record_couples (ps_fld (pem_var (pv 0)) (pem_callTy call_tuple_of sim_tuple rfl T.z_tuple bt_tuple (pam_cons (pem_scope (pem_comp (own := [("pair", 7)]) rfl sc_Record___init.nd (pim_seq rfl (pem_fld rfl T.o_Record_weddings (pe_fld (pem_var (pv 0)) rfl))) (show BlkOk (["self", "width", "rows", "fault", "ledger", "plain", "label", "pair"] : List Str) (defScope s_Record___init) _ [("pair", 7)] from ⟨rfl, by decide +kernel, by decide +kernel, by decide +kernel, by decide +kernel⟩) (fun _ _ _ _ _ => (pg_name (i := 7) sc_Record___init.nd rfl (Or.inl rfl))) (gr_name rfl) (gw_name (by decide)) (fun _ _ _ _ _ => (ptsm_one (ptm_tru rfl pem_stub))) (fun _ _ _ _ _ => (pem_var (pv 7))))) pam_nil)) rfl))
    (pssm_one (psm_fld rfl T.o_Record_living (ps_fld (pem_var (pv 0)) (pem_callTy call_tuple_of sim_tuple rfl T.z_tuple bt_tuple (pam_cons (pem_scope (pem_comp (own := [("label", 6)]) rfl sc_Record___init.nd (pim_seq rfl (pem_fld rfl T.o_Ledger_persons (pe_fld (pem_var (pv 4)) rfl))) (show BlkOk (["self", "width", "rows", "fault", "ledger", "plain", "label", "pair"] : List Str) (defScope s_Record___init) _ [("label", 6)] from ⟨rfl, by decide +kernel, by decide +kernel, by decide +kernel, by decide +kernel⟩) (fun _ _ _ _ _ => (pg_name (i := 6) sc_Record___init.nd rfl (Or.inl rfl))) (gr_name rfl) (gw_name (by decide)) (fun _ _ _ _ _ => (ptsm_one (ptm_pc (pcm_dnotin (units1 hr) (pem_var (pv 6)) (pem_fld rfl T.o_Ledger_dead (pe_fld (pem_var (pv 4)) rfl)))))) (fun _ _ _ _ _ => (pem_var (pv 6))))) pam_nil)) rfl)))))))))))))))))
theorem sc_Record___len : FnScope (["self"] : List Str) (["self"] : List Str) (defScope s_Record___len) := ⟨rfl, rfl, rfl, by decide +kernel, rfl, by decide +kernel, by decide +kernel⟩
theorem ok_Record___len (T : Txt K mg a) : FnOk PW w K mg base (L2.CX PW w) 1 a.f_Record___len a.d_Record___len (["self"] : List Str) (spOf (tb w K a) 1 m_Record___len) :=
  fund_okm T.F_Record___len sc_Record___len fun cdv A outer s H E hr =>
    (pssm_one (psm_ret (pem_callB call_len sim_len rfl T.z_len bt_len (pam_cons (pem_fld rfl T.o_Record_rows (pe_fld (pem_var (pv 0)) rfl)) pam_nil))))
theorem sc_u_law_asked : FnScope (["_law_width", "_law_rows", "_law_record", "_law_told", "e"] : List Str) (["_law_width", "_law_rows"] : List Str) (defScope s_u_law_asked) := ⟨rfl, rfl, rfl, by decide +kernel, rfl, by decide +kernel, by decide +kernel⟩
theorem ok_u_law_asked (T : Txt K mg a) : FnOk PW w K mg base (L2.CX PW w) 8 a.f_u_law_asked a.d_u_law_asked (["_law_width", "_law_rows"] : List Str) (spOf (tb w K a) 2 m_u_law_asked) :=
  fund_okm T.F_u_law_asked sc_u_law_asked fun cdv A outer s H E hr =>
    (pssm_cons (psm_try (i := 4) rfl rfl sc_u_law_asked.nd rfl rfl ⟨rfl, by decide, Or.inl T.c_BadRecord⟩ (takes_of rfl rfl rfl rfl) T.exm_BadRecord (fun W pn xe tk own => (pssm_cons (psm_set (i := 2) sc_u_law_asked.nd rfl (Or.inl rfl) (pem_make tk T.mk_Record (ok_Record___init T) (hr.mono (by decide)) rfl T.c_Record T.b_Record___init .nil (fun _ => .nil) (pam_cons (pem_var (pv 0)) (pam_cons (pem_var (pv 1)) pam_nil))))
    (pssm_one (psm_set (i := 3) sc_u_law_asked.nd rfl (Or.inl rfl) (pem_tup (pam_cons pem_str (pam_cons (pem_fld rfl T.o_Record_width (pe_fld (pem_var (pv 2)) rfl)) (pam_cons (pem_callB (call_ownLen (ok_Record___len T) (hr.mono (by decide)) T.ql_Record.1 T.ql_Record.2 T.b_Record___len passL) (sim_ownLen (T := (tb w K a))) rfl T.z_len bt_len (pam_cons (pem_var (pv 2)) pam_nil)) pam_nil)))))))) (fun ax oe cls d pn x hz hv => (pssm_one (psm_set (i := 3) sc_u_law_asked.nd rfl (Or.inl rfl) (pem_tup (pam_cons pem_str (pam_cons (pem_exf rfl T.x_BadRecord rfl (show (fldN 1).Nodup by decide +kernel) T.n_BadRecord_index hz hv (pv 4)) (pam_cons (pem_exf rfl T.x_BadRecord rfl (show (fldN 1).Nodup by decide +kernel) T.n_BadRecord_what hz hv (pv 4)) pam_nil))))))))
    (pssm_one (psm_ret (pem_var (pv 3)))))
theorem sc_law : FnScope (["_law_script", "_law_hand_here", "_law_k", "_law_low", "_law_width", "_law_rows", "_law_sort", "_law_due"] : List Str) (["_law_script"] : List Str) (defScope s_law) := ⟨rfl, rfl, rfl, by decide +kernel, rfl, by decide +kernel, by decide +kernel⟩
theorem ok_law (T : Txt K mg a) : FnOk PW w K mg base (L2.CX PW w) 9 a.f_law a.d_law (["_law_script"] : List Str) (spOf (tb w K a) 1 m_law) :=
  fund_okm T.F_law sc_law fun cdv A outer s H E hr =>
    (pssm_cons (psm_set (i := 1) sc_law.nd rfl (Or.inl rfl) (pem_call (takes_of rfl rfl rfl rfl) (ok_u_law_hand T) (hr.mono (by decide)) rfl T.m_u_law_hand T.k_u_law_hand T.b_u_law_hand .nil (fun _ => .nil) rfl (pam_cons (pem_var (pv 0)) pam_nil)))
    (pssm_cons (psm_if (ptm_cmp (op_neD hr.units) sim_ne (pem_tup (pam_cons (pem_c (pe_glob rfl T.g_MOST_ROWS.2 T.g_MOST_ROWS.1) fun _ => .int 5000) (pam_cons (pem_c (pe_glob rfl T.g_MOST_NAME.2 T.g_MOST_NAME.1) fun _ => .int 1000000000000000000000000000000) (pam_cons (pem_c (pe_glob rfl T.g_MOST_WIDTH.2 T.g_MOST_WIDTH.1) fun _ => .int 2) pam_nil)))) (pem_tup (pam_cons pem_int (pam_cons (pem_op op_pow sim_pow pem_int pem_int) (pam_cons pem_int pam_nil)))) (nomark _)) (pssm_one (psm_ret pem_bl)) pssm_nil)
    (pssm_cons (psm_for (passes_of rfl) rfl (pim_range1 rfl T.z_range (pam_cons pem_int pam_nil)) (pgm_name (pg_name (i := 2) sc_law.nd rfl (Or.inl rfl))) (pssm_cons (psm_set (i := 3) sc_law.nd rfl (Or.inl rfl) (pem_call (takes_of rfl rfl rfl rfl) (ok_u_law_draw T) (hr.mono (by decide)) rfl T.m_u_law_draw T.k_u_law_draw T.b_u_law_draw .nil (fun _ => .nil) rfl (pam_cons (pem_var (pv 1)) (pam_cons pem_int pam_nil))))
    (pssm_one (psm_if (ptm_not (ptm_tru rfl (pem_call (takes_of rfl rfl rfl rfl) (ok_u_law_questions T) (hr.mono (by decide)) rfl T.m_u_law_questions T.k_u_law_questions T.b_u_law_questions .nil (fun _ => .nil) rfl (pam_cons (pem_call (takes_of rfl rfl rfl rfl) (ok_u_law_odd T) (hr.mono (by decide)) rfl T.m_u_law_odd T.k_u_law_odd T.b_u_law_odd .nil (fun _ => .nil) rfl (pam_cons (pem_var (pv 1)) pam_nil)) (pam_cons (pem_var (pv 3)) (pam_cons (pem_op op_addAll sim_add (pem_var (pv 3)) (pem_call (takes_of rfl rfl rfl rfl) (ok_u_law_draw T) (hr.mono (by decide)) rfl T.m_u_law_draw T.k_u_law_draw T.b_u_law_draw .nil (fun _ => .nil) rfl (pam_cons (pem_var (pv 1)) (pam_cons pem_int pam_nil)))) pam_nil)))))) (pssm_one (psm_ret pem_bl)) pssm_nil))))
    (pssm_cons (psm_par (i := 4) (j := 5) rfl sc_law.nd rfl rfl (by decide) rfl rfl (pam_cons (pem_call (takes_of rfl rfl rfl rfl) (ok_u_law_odd T) (hr.mono (by decide)) rfl T.m_u_law_odd T.k_u_law_odd T.b_u_law_odd .nil (fun _ => .nil) rfl (pam_cons (pem_var (pv 1)) pam_nil)) (pam_cons (pem_scope (pem_lst (pam_cons (pem_tup (pam_cons pem_str (pam_cons pem_str (pam_cons pem_str (pam_cons pem_int (pam_cons (pem_tup pam_nil) pam_nil)))))) pam_nil))) pam_nil)) rfl)
    (pssm_cons (psm_if (ptm_cmp (op_eqD hr.units) sim_eq (pem_call (takes_of rfl rfl rfl rfl) (ok_u_law_draw T) (hr.mono (by decide)) rfl T.m_u_law_draw T.k_u_law_draw T.b_u_law_draw .nil (fun _ => .nil) rfl (pam_cons (pem_var (pv 1)) (pam_cons pem_int pam_nil))) pem_int (nomark _)) (pssm_one (psm_set (i := 4) sc_law.nd rfl (Or.inl rfl) (pem_call (takes_of rfl rfl rfl rfl) (ok_u_law_draw T) (hr.mono (by decide)) rfl T.m_u_law_draw T.k_u_law_draw T.b_u_law_draw .nil (fun _ => .nil) rfl (pam_cons (pem_var (pv 1)) (pam_cons pem_int pam_nil))))) pssm_nil)
    (pssm_cons (psm_set (i := 6) sc_law.nd rfl (Or.inl rfl) (pem_call (takes_of rfl rfl rfl rfl) (ok_u_law_draw T) (hr.mono (by decide)) rfl T.m_u_law_draw T.k_u_law_draw T.b_u_law_draw .nil (fun _ => .nil) rfl (pam_cons (pem_var (pv 1)) (pam_cons pem_int pam_nil))))
    (pssm_cons (psm_if (ptm_cmp op_lt sim_lt (pem_var (pv 6)) pem_int (nomark _)) (pssm_one (psm_set (i := 5) sc_law.nd rfl (Or.inl rfl) (pem_call (takes_of rfl rfl rfl rfl) (ok_u_law_pick T) (hr.mono (by decide)) rfl T.m_u_law_pick T.k_u_law_pick T.b_u_law_pick .nil (fun _ => .nil) rfl (pam_cons (pem_var (pv 1)) (pam_cons (pem_lst (pam_cons pem_non (pam_cons pem_str (pam_cons pem_str (pam_cons pem_int (pam_cons pem_dic1 (pam_cons pem_bl pam_nil))))))) pam_nil))))) (pssm_one (psm_if (ptm_cmp (op_eqD hr.units) sim_eq (pem_var (pv 6)) pem_int (nomark _)) (pssm_one (psm_set (i := 5) sc_law.nd rfl (Or.inl rfl) (pem_call (takes_of rfl rfl rfl rfl) (ok_u_law_many T) (hr.mono (by decide)) rfl T.m_u_law_many T.k_u_law_many T.b_u_law_many .nil (fun _ => .nil) rfl (pam_cons (pem_op op_addAll sim_add pem_int (pem_call (takes_of rfl rfl rfl rfl) (ok_u_law_draw T) (hr.mono (by decide)) rfl T.m_u_law_draw T.k_u_law_draw T.b_u_law_draw .nil (fun _ => .nil) rfl (pam_cons (pem_var (pv 1)) (pam_cons pem_int pam_nil)))) pam_nil)))) (pssm_one (psm_if (ptm_cmp (op_eqD hr.units) sim_eq (pem_var (pv 6)) pem_int (nomark _)) (pssm_cons (psm_set (i := 5) sc_law.nd rfl (Or.inl rfl) (pem_call (takes_of rfl rfl rfl rfl) (ok_u_law_many T) (hr.mono (by decide)) rfl T.m_u_law_many T.k_u_law_many T.b_u_law_many .nil (fun _ => .nil) rfl (pam_cons pem_int pam_nil)))
    (pssm_one (psm_set (i := 4) sc_law.nd rfl (Or.inl rfl) pem_int))) (pssm_one (psm_if (ptm_cmp op_lt sim_lt (pem_var (pv 6)) pem_int (nomark _)) (pssm_one (psm_set (i := 5) sc_law.nd rfl (Or.inl rfl) (pem_scope (pem_op op_mulAll sim_mul (pem_scope (pem_lst (pam_cons pem_non pam_nil))) (pem_call (takes_of rfl rfl rfl rfl) (ok_u_law_draw T) (hr.mono (by decide)) rfl T.m_u_law_draw T.k_u_law_draw T.b_u_law_draw .nil (fun _ => .nil) rfl (pam_cons (pem_var (pv 1)) (pam_cons pem_int pam_nil))))))) pssm_nil)))))))
    (pssm_cons (psm_if (ptm_not (ptm_tru rfl (pem_call (takes_of rfl rfl rfl rfl) (ok_u_law_is_number T) (hr.mono (by decide)) rfl T.m_u_law_is_number T.k_u_law_is_number T.b_u_law_is_number .nil (fun _ => .nil) rfl (pam_cons (pem_var (pv 4)) (pam_cons pem_int (pam_cons pem_int pam_nil)))))) (pssm_one (psm_set (i := 7) sc_law.nd rfl (Or.inl rfl) (pem_tup (pam_cons pem_int (pam_cons pem_str pam_nil))))) (pssm_one (psm_if (ptm_cmp op_lt sim_lt (pem_var (pv 6)) pem_int (nomark _)) (pssm_one (psm_set (i := 7) sc_law.nd rfl (Or.inl rfl) (pem_tup (pam_cons pem_int (pam_cons pem_str pam_nil))))) (pssm_one (psm_if (ptm_cmp (op_eqD hr.units) sim_eq (pem_var (pv 6)) pem_int (nomark _)) (pssm_one (psm_set (i := 7) sc_law.nd rfl (Or.inl rfl) (pem_tup (pam_cons pem_int (pam_cons pem_str pam_nil))))) (pssm_one (psm_if (PWm.pt (pwm_and (ptm_cmp op_lt sim_lt (pem_var (pv 6)) pem_int (nomark _)) (pwm_and1 (ptm_cmp (op_neD hr.units) sim_ne (pem_var (pv 6)) pem_int (nomark _))))) (pssm_one (psm_set (i := 7) sc_law.nd rfl (Or.inl rfl) (pem_ifExp (ptm_cmp (op_eqD hr.units) sim_eq (pem_var (pv 5)) (pem_scope (pem_lst pam_nil)) (nomark _)) pem_non (pem_tup (pam_cons pem_int (pam_cons pem_str pam_nil)))))) (pssm_one (psm_set (i := 7) sc_law.nd rfl (Or.inl rfl) (pem_ifExp (ptm_cmp (op_eqD hr.units) sim_eq (pem_var (pv 4)) pem_int (nomark _)) pem_non (pem_tup (pam_cons pem_int (pam_cons pem_str pam_nil)))))))))))))
    (pssm_cons (psm_if (ptm_cmp (op_neD hr.units) sim_ne (pem_call (takes_of rfl rfl rfl rfl) (ok_record_fault T) (hr.mono (by decide)) rfl T.m_record_fault T.k_record_fault T.b_record_fault .nil (fun _ => .nil) rfl (pam_cons (pem_var (pv 4)) (pam_cons (pem_var (pv 5)) pam_nil))) (pem_var (pv 7)) (nomark _)) (pssm_one (psm_ret pem_bl)) pssm_nil)
    (pssm_cons (psm_if (ptm_cmp op_notN sim_notN (pem_var (pv 7)) pem_non (nomark _)) (pssm_one (psm_ret (pem_cmp (op_eqD hr.units) sim_eq (pem_call (takes_of rfl rfl rfl rfl) (ok_u_law_asked T) (hr.mono (by decide)) rfl T.m_u_law_asked T.k_u_law_asked T.b_u_law_asked .nil (fun _ => .nil) rfl (pam_cons (pem_var (pv 4)) (pam_cons (pem_var (pv 5)) pam_nil))) (pem_tup (pam_cons pem_str (pam_cons (pem_ix ix_seq sim_ix (pem_var (pv 7)) pem_int) (pam_cons (pem_ix ix_seq sim_ix (pem_var (pv 7)) pem_int) pam_nil)))) (nomark _)))) pssm_nil)
    (pssm_one (psm_ret (pem_and (pem_cmp (op_eqD hr.units) sim_eq (pem_call (takes_of rfl rfl rfl rfl) (ok_u_law_asked T) (hr.mono (by decide)) rfl T.m_u_law_asked T.k_u_law_asked T.b_u_law_asked .nil (fun _ => .nil) rfl (pam_cons (pem_var (pv 4)) (pam_cons (pem_var (pv 5)) pam_nil))) (pem_tup (pam_cons pem_str (pam_cons (pem_var (pv 4)) (pam_cons (pem_callB call_len sim_len rfl T.z_len bt_len (pam_cons (pem_var (pv 5)) pam_nil)) pam_nil)))) (nomark _)) (pem_one (pem_cmp (op_eqD hr.units) sim_eq (pem_call (takes_of rfl rfl rfl rfl) (ok_u_law_asked T) (hr.mono (by decide)) rfl T.m_u_law_asked T.k_u_law_asked T.b_u_law_asked .nil (fun _ => .nil) rfl (pam_cons pem_int (pam_cons (pem_tup pam_nil) pam_nil))) (pem_tup (pam_cons pem_str (pam_cons pem_int (pam_cons pem_int pam_nil)))) (nomark _))))))))))))))))
end
end G

set_option Elab.async false
set_option linter.all false
set_option maxRecDepth 100000
set_option maxHeartbeats 2000000
/-! Q35a: the hand and the draws. -/
namespace G
open PySem L2 NK
theorem eqv_ii (i j : Int) : eqvU (.int i) (.int j) = (i == j) := by simp [eqvU, datU, PyData.eqv]
theorem ok_int (i : Int) : okU 12 (.int i) = true := rfl
theorem ok_non : okU 12 .non = true := rfl
theorem ok_bl (b : Bool) : okU 12 (.bl b) = true := rfl
theorem fEq_ii (i j : Int) (st : Sto) : fEq (.int i) (.int j) st = .ok (.bl (i == j)) st := by rw [fEq_ok (ok_int i) (ok_int j), eqv_ii]
theorem fNe_ii (i j : Int) (st : Sto) : fNe (.int i) (.int j) st = .ok (.bl (!(i == j))) st := by rw [fNe_ok (ok_int i) (ok_int j), eqv_ii]
theorem pow18 (st : Sto) : fPow (.int 10) (.int 18) st = .ok (.int 1000000000000000000) st := by
  show (if cPow 10 18 = true then Out.ok (U.int ((10 : Int) ^ (18 : Int).toNat)) st else .bad) = _
  rw [if_pos (by decide)]
  rfl
theorem mix_ok (n t : Int) (st : Sto) : ∃ k, m_u_law_mix [.int n, .int t] st = .ok (.int k) st := by
  have h1 : ∀ x : Int, 0 ≤ x % 2147483647 ∧ x % 2147483647 < 2147483647 := fun x => ⟨Int.emod_nonneg _ (by decide), Int.emod_lt_of_pos _ (by decide)⟩
  have h2 : ∀ x : Int, 0 ≤ x % 2147483399 ∧ x % 2147483399 < 2147483399 := fun x => ⟨Int.emod_nonneg _ (by decide), Int.emod_lt_of_pos _ (by decide)⟩
  suffices h : ∃ k, b_u_law_mix [some (.int n), some (.int t), none, none] st = .ret (.int k) st from let ⟨k, e⟩ := h; ⟨k, fs_same rfl e rfl⟩
  unfold b_u_law_mix
  simp only [sSeq, sIf, sAsg, sRet, sDrop, sSetIx, sNext, sCont, NK.tAnd, NK.tOr, NK.tNot, NK.tTru, NK.tB, eOp, eUn, eCB, eIf, eAnd, eOr, eNot, eVar, eC, aCons, aNil, gN, ob, xb, NK.os, NK.xs, nb, rb, kb, eb, List.getElem?_cons_zero, List.getElem?_cons_succ, List.set_cons_zero, List.set_cons_succ, ↓reduceIte, Bool.false_eq_true, Bool.not_true, Bool.not_false, fAdd_i, fSub_i, fNeg_i, fInt_i, fAbs_i, fLt_i, fLe_i, fGt_i, fMin_i, fIsN_n, fNotN_n, fLen_lst, fLen_tup, fTuple_lst, fTuple_tup, U.isNon, truth, fMod_i, fDiv_i, fMul_i, Int.reduceLT, Int.reduceNeg, Int.reducePow, Int.reduceLE, or_true, true_or, and_self, and_true, true_and, eCall, List.append_nil, List.length_cons, List.length_nil, Nat.reduceAdd, Nat.zero_add]
  generalize he : (n * 48271 + t * 16807 + 11) % 2147483647 = e
  have b1 := h1 (n * 48271 + t * 16807 + 11)
  rw [he] at b1
  have c1 : -18446744073709551616 < e ∧ e < 18446744073709551616 := ⟨by omega, by omega⟩
  simp only [sSeq, sIf, sAsg, sRet, sDrop, sSetIx, sNext, sCont, NK.tAnd, NK.tOr, NK.tNot, NK.tTru, NK.tB, eOp, eUn, eCB, eIf, eAnd, eOr, eNot, eVar, eC, aCons, aNil, gN, ob, xb, NK.os, NK.xs, nb, rb, kb, eb, List.getElem?_cons_zero, List.getElem?_cons_succ, List.set_cons_zero, List.set_cons_succ, ↓reduceIte, Bool.false_eq_true, Bool.not_true, Bool.not_false, fAdd_i, fSub_i, fNeg_i, fInt_i, fAbs_i, fLt_i, fLe_i, fGt_i, fMin_i, fIsN_n, fNotN_n, fLen_lst, fLen_tup, fTuple_lst, fTuple_tup, U.isNon, truth, fMod_i, fDiv_i, fMul_i, Int.reduceLT, Int.reduceNeg, Int.reducePow, Int.reduceLE, or_true, true_or, and_self, and_true, true_and, eCall, List.append_nil, List.length_cons, List.length_nil, Nat.reduceAdd, Nat.zero_add, c1]
  generalize hf : (e * e + e / 127 * 40692 + t * 69621) % 2147483399 = f
  have b2 := h2 (e * e + e / 127 * 40692 + t * 69621)
  rw [hf] at b2
  have c2 : -18446744073709551616 < f ∧ f < 18446744073709551616 := ⟨by omega, by omega⟩
  simp only [sSeq, sIf, sAsg, sRet, sDrop, sSetIx, sNext, sCont, NK.tAnd, NK.tOr, NK.tNot, NK.tTru, NK.tB, eOp, eUn, eCB, eIf, eAnd, eOr, eNot, eVar, eC, aCons, aNil, gN, ob, xb, NK.os, NK.xs, nb, rb, kb, eb, List.getElem?_cons_zero, List.getElem?_cons_succ, List.set_cons_zero, List.set_cons_succ, ↓reduceIte, Bool.false_eq_true, Bool.not_true, Bool.not_false, fAdd_i, fSub_i, fNeg_i, fInt_i, fAbs_i, fLt_i, fLe_i, fGt_i, fMin_i, fIsN_n, fNotN_n, fLen_lst, fLen_tup, fTuple_lst, fTuple_tup, U.isNon, truth, fMod_i, fDiv_i, fMul_i, Int.reduceLT, Int.reduceNeg, Int.reducePow, Int.reduceLE, or_true, true_or, and_self, and_true, true_and, eCall, List.append_nil, List.length_cons, List.length_nil, Nat.reduceAdd, Nat.zero_add, c2]
  exact ⟨_, rfl⟩

/-- the hand -/
def hob (cs : List Int) (i r t : Int) : Ob := .lst [.lst (cs.map U.int), .int i, .int r, .int t]
def HOb (o : Ob) : Prop := ∃ cs i r t, o = hob cs i r t ∧ 0 ≤ i ∧ 0 ≤ r
theorem ints_under : ∀ cs : List Int, U.underL 0 (cs.map U.int) = true
  | [] => rfl
  | c :: cs => by
    show U.underL 0 (U.int c :: cs.map U.int) = true
    unfold U.underL
    rw [ints_under cs]
    rfl
theorem HOb.under {o : Ob} (h : HOb o) : o.under 0 = true := by
  obtain ⟨cs, i, r, t, rfl, _, _⟩ := h
  show U.underL 0 [.lst (cs.map U.int), .int i, .int r, .int t] = true
  simp [U.underL, U.under, ints_under cs]
section
variable {cs : List Int} {i r t : Int} {st : Sto}
theorem ix0 : fIx (.loc 0) (.int 0) (hob cs i r t :: st) = .ok (.lst (cs.map U.int)) (hob cs i r t :: st) := rfl
theorem ix1 : fIx (.loc 0) (.int 1) (hob cs i r t :: st) = .ok (.int i) (hob cs i r t :: st) := rfl
theorem ix2 : fIx (.loc 0) (.int 2) (hob cs i r t :: st) = .ok (.int r) (hob cs i r t :: st) := rfl
theorem ix3 : fIx (.loc 0) (.int 3) (hob cs i r t :: st) = .ok (.int t) (hob cs i r t :: st) := rfl
theorem set1 {x : Int} : setIx (.loc 0) (.int 1) (.int x) (hob cs i r t :: st) = some (hob cs x r t :: st) := rfl
theorem set2 {x : Int} : setIx (.loc 0) (.int 2) (.int x) (hob cs i r t :: st) = some (hob cs i x t :: st) := rfl
theorem set3 {x : Int} : setIx (.loc 0) (.int 3) (.int x) (hob cs i r t :: st) = some (hob cs i r x :: st) := rfl
theorem cell_at (h0 : 0 ≤ i) (h1 : i < cs.length) : ∃ c : Int, fIx (.lst (cs.map U.int)) (.int i) st = .ok (.int c) st := by
  obtain ⟨k, rfl⟩ := Int.eq_ofNat_of_zero_le h0
  have hk : k < cs.length := by omega
  refine ⟨cs[k], fIx_lst ?_⟩
  rw [NK.atI_nat]
  simp [hk]
end
/-- what a def does with the hand: it answers d -/
theorem draw_ok {h : Ob} {st : Sto} {m : Int} (H : HOb h) (hm : 0 < m) (hm2 : m < 1000000000000000000000000000000000000000000000000000000000000) : ∃ d h', HOb h' ∧ 0 ≤ d ∧ d < m ∧ m_u_law_draw [.loc 0, .int m] (h :: st) = .ok (.int d) (h' :: st) := by
  obtain ⟨cs, i, r, t, rfl, hi, hr⟩ := H
  have fin : ∀ {d : Int} {o : Ob}, HOb o → b_u_law_draw [some (.loc 0), some (.int m), none, none] (hob cs i r t :: st) = .ret (.int (d % m)) (o :: st) → ∃ d h', HOb h' ∧ 0 ≤ d ∧ d < m ∧ m_u_law_draw [.loc 0, .int m] (hob cs i r t :: st) = .ok (.int d) (h' :: st) := fun {d o} ho e =>
    ⟨d % m, o, ho, Int.emod_nonneg _ (by omega), Int.emod_lt_of_pos _ hm, fs_old rfl e (Old.hand ho.under) rfl⟩
  have hlen : ((cs.map U.int).length : Int) = cs.length := by simp
  -- the second half: r is above 0
  have big : ∀ (i r : Int) (e2 e3 : Option U), 0 ≤ i → 0 < r → (sSeq (sIf (NK.tB (eOp fGt (eOp fIx (eVar 0) (eC (.int 2))) (eC (.int 0)))) (sSeq (sAsg (eOp fIx (eVar 0) (eC (.int 2))) (gN 3))
    (sSeq (sSetIx (eVar 0) (eC (.int 2)) (eOp fDiv (eVar 3) (eVar 1)))
    (sRet (eOp fMod (eCB fInt (aCons (eVar 3) aNil)) (eVar 1))))) sNext)
    (sSeq (sSetIx (eVar 0) (eC (.int 3)) (eOp fMod (eCB fInt (aCons (eOp fAdd (eOp fIx (eVar 0) (eC (.int 3))) (eC (.int 1))) aNil)) (eC (.int 2147483629))))
    (sRet (eOp fMod (eCB fInt (aCons (eCall 2 m_u_law_mix [] (aCons (eOp fIx (eVar 0) (eC (.int 3))) (aCons (eOp fIx (eVar 0) (eC (.int 1))) aNil))) aNil)) (eVar 1))))) [some (.loc 0), some (.int m), e2, e3] (hob cs i r t :: st) = .ret (.int (r % m)) (hob cs i (r / m) t :: st) := by
    intro i r e2 e3 h0 h1
    simp only [sSeq, sIf, sAsg, sRet, sDrop, sSetIx, sNext, sCont, NK.tAnd, NK.tOr, NK.tNot, NK.tTru, NK.tB, eOp, eUn, eCB, eIf, eAnd, eOr, eNot, eVar, eC, aCons, aNil, gN, ob, xb, NK.os, NK.xs, nb, rb, kb, eb, List.getElem?_cons_zero, List.getElem?_cons_succ, List.set_cons_zero, List.set_cons_succ, ↓reduceIte, Bool.false_eq_true, Bool.not_true, Bool.not_false, fAdd_i, fSub_i, fNeg_i, fInt_i, fAbs_i, fLt_i, fLe_i, fGt_i, fMin_i, fIsN_n, fNotN_n, fLen_lst, fLen_tup, fTuple_lst, fTuple_tup, U.isNon, truth, fMod_i, fDiv_i, fMul_i, Int.reduceLT, Int.reduceNeg, Int.reducePow, Int.reduceLE, or_true, true_or, and_self, and_true, true_and, eCall, List.append_nil, List.length_cons, List.length_nil, Nat.reduceAdd, Nat.zero_add, hm, hm2, ix2, decide_eq_true h1, set2]
  by_cases hr0 : r = 0
  · subst hr0
    by_cases hl : i < cs.length
    · obtain ⟨c, hc⟩ := cell_at (st := hob cs i 0 t :: st) hi hl
      by_cases hb : c < 1000000000000000000
      · obtain ⟨k, hk⟩ := mix_ok (c % 2147483647) (i + 1) (hob cs (i + 1) 0 t :: st)
        refine fin (d := k) (o := hob cs (i + 1) 0 t) ⟨_, _, _, _, rfl, by omega, by omega⟩ ?_
        unfold b_u_law_draw
        simp only [sSeq, sIf, sAsg, sRet, sDrop, sSetIx, sNext, sCont, NK.tAnd, NK.tOr, NK.tNot, NK.tTru, NK.tB, eOp, eUn, eCB, eIf, eAnd, eOr, eNot, eVar, eC, aCons, aNil, gN, ob, xb, NK.os, NK.xs, nb, rb, kb, eb, List.getElem?_cons_zero, List.getElem?_cons_succ, List.set_cons_zero, List.set_cons_succ, ↓reduceIte, Bool.false_eq_true, Bool.not_true, Bool.not_false, fAdd_i, fSub_i, fNeg_i, fInt_i, fAbs_i, fLt_i, fLe_i, fGt_i, fMin_i, fIsN_n, fNotN_n, fLen_lst, fLen_tup, fTuple_lst, fTuple_tup, U.isNon, truth, fMod_i, fDiv_i, fMul_i, Int.reduceLT, Int.reduceNeg, Int.reducePow, Int.reduceLE, or_true, true_or, and_self, and_true, true_and, eCall, List.append_nil, List.length_cons, List.length_nil, Nat.reduceAdd, Nat.zero_add, hm, hm2, ix0, ix1, ix2, fEq_ii, beq_self_eq_true, hlen, decide_eq_true hl, hc, set1, pow18, decide_eq_true hb, hk]
      · refine fin (d := c) (o := hob cs (i + 1) (c / m) t) ⟨_, _, _, _, rfl, by omega, Int.ediv_nonneg (by omega) (by omega)⟩ ?_
        have hb2 : decide (c < 1000000000000000000) = false := decide_eq_false hb
        have bg := big (i + 1) c (some (.int c)) none (by omega) (by omega)
        unfold b_u_law_draw
        show SO.bind _ _ = _
        rw [show (sIf (NK.tAnd (NK.tB (eOp fEq (eOp fIx (eVar 0) (eC (.int 2))) (eC (.int 0)))) (NK.tB (eOp fLt (eOp fIx (eVar 0) (eC (.int 1))) (eCB fLen (aCons (eOp fIx (eVar 0) (eC (.int 0))) aNil))))) (sSeq (sAsg (eOp fIx (eOp fIx (eVar 0) (eC (.int 0))) (eOp fIx (eVar 0) (eC (.int 1)))) (gN 2))
    (sSeq (sSetIx (eVar 0) (eC (.int 1)) (eOp fAdd (eOp fIx (eVar 0) (eC (.int 1))) (eC (.int 1))))
    (sSeq (sIf (NK.tB (eOp fLt (eVar 2) (eOp fPow (eC (.int 10)) (eC (.int 18))))) (sRet (eOp fMod (eCB fInt (aCons (eCall 2 m_u_law_mix [] (aCons (eOp fMod (eCB fInt (aCons (eVar 2) aNil)) (eC (.int 2147483647))) (aCons (eOp fIx (eVar 0) (eC (.int 1))) aNil))) aNil)) (eVar 1))) sNext)
    (sSetIx (eVar 0) (eC (.int 2)) (eVar 2))))) sNext) [some (.loc 0), some (.int m), none, none] (hob cs i 0 t :: st) = .next [some (.loc 0), some (.int m), some (.int c), none] (hob cs (i + 1) c t :: st) from by
          simp only [sSeq, sIf, sAsg, sRet, sDrop, sSetIx, sNext, sCont, NK.tAnd, NK.tOr, NK.tNot, NK.tTru, NK.tB, eOp, eUn, eCB, eIf, eAnd, eOr, eNot, eVar, eC, aCons, aNil, gN, ob, xb, NK.os, NK.xs, nb, rb, kb, eb, List.getElem?_cons_zero, List.getElem?_cons_succ, List.set_cons_zero, List.set_cons_succ, ↓reduceIte, Bool.false_eq_true, Bool.not_true, Bool.not_false, fAdd_i, fSub_i, fNeg_i, fInt_i, fAbs_i, fLt_i, fLe_i, fGt_i, fMin_i, fIsN_n, fNotN_n, fLen_lst, fLen_tup, fTuple_lst, fTuple_tup, U.isNon, truth, fMod_i, fDiv_i, fMul_i, Int.reduceLT, Int.reduceNeg, Int.reducePow, Int.reduceLE, or_true, true_or, and_self, and_true, true_and, eCall, List.append_nil, List.length_cons, List.length_nil, Nat.reduceAdd, Nat.zero_add, ix0, ix1, ix2, fEq_ii, beq_self_eq_true, hlen, decide_eq_true hl, hc, set1, pow18, hb2, set2]]
        exact bg
    · have hl2 : decide (i < (cs.length : Int)) = false := decide_eq_false hl
      obtain ⟨k, hk⟩ := mix_ok ((t + 1) % 2147483629) i (hob cs i 0 ((t + 1) % 2147483629) :: st)
      refine fin (d := k) (o := hob cs i 0 ((t + 1) % 2147483629)) ⟨_, _, _, _, rfl, hi, by omega⟩ ?_
      unfold b_u_law_draw
      simp only [sSeq, sIf, sAsg, sRet, sDrop, sSetIx, sNext, sCont, NK.tAnd, NK.tOr, NK.tNot, NK.tTru, NK.tB, eOp, eUn, eCB, eIf, eAnd, eOr, eNot, eVar, eC, aCons, aNil, gN, ob, xb, NK.os, NK.xs, nb, rb, kb, eb, List.getElem?_cons_zero, List.getElem?_cons_succ, List.set_cons_zero, List.set_cons_succ, ↓reduceIte, Bool.false_eq_true, Bool.not_true, Bool.not_false, fAdd_i, fSub_i, fNeg_i, fInt_i, fAbs_i, fLt_i, fLe_i, fGt_i, fMin_i, fIsN_n, fNotN_n, fLen_lst, fLen_tup, fTuple_lst, fTuple_tup, U.isNon, truth, fMod_i, fDiv_i, fMul_i, Int.reduceLT, Int.reduceNeg, Int.reducePow, Int.reduceLE, or_true, true_or, and_self, and_true, true_and, eCall, List.append_nil, List.length_cons, List.length_nil, Nat.reduceAdd, Nat.zero_add, hm, hm2, ix0, ix1, ix2, ix3, fEq_ii, beq_self_eq_true, hlen, hl2, Int.lt_irrefl, decide_false, set3, hk]
  · have hr1 : 0 < r := by omega
    refine fin (d := r) (o := hob cs i (r / m) t) ⟨_, _, _, _, rfl, hi, Int.ediv_nonneg hr (by omega)⟩ ?_
    have bg := big i r none none hi hr1
    have hz : (r == 0) = false := by simpa using hr0
    unfold b_u_law_draw
    show SO.bind _ _ = _
    rw [show (sIf (NK.tAnd (NK.tB (eOp fEq (eOp fIx (eVar 0) (eC (.int 2))) (eC (.int 0)))) (NK.tB (eOp fLt (eOp fIx (eVar 0) (eC (.int 1))) (eCB fLen (aCons (eOp fIx (eVar 0) (eC (.int 0))) aNil))))) (sSeq (sAsg (eOp fIx (eOp fIx (eVar 0) (eC (.int 0))) (eOp fIx (eVar 0) (eC (.int 1)))) (gN 2))
    (sSeq (sSetIx (eVar 0) (eC (.int 1)) (eOp fAdd (eOp fIx (eVar 0) (eC (.int 1))) (eC (.int 1))))
    (sSeq (sIf (NK.tB (eOp fLt (eVar 2) (eOp fPow (eC (.int 10)) (eC (.int 18))))) (sRet (eOp fMod (eCB fInt (aCons (eCall 2 m_u_law_mix [] (aCons (eOp fMod (eCB fInt (aCons (eVar 2) aNil)) (eC (.int 2147483647))) (aCons (eOp fIx (eVar 0) (eC (.int 1))) aNil))) aNil)) (eVar 1))) sNext)
    (sSetIx (eVar 0) (eC (.int 2)) (eVar 2))))) sNext) [some (.loc 0), some (.int m), none, none] (hob cs i r t :: st) = .next [some (.loc 0), some (.int m), none, none] (hob cs i r t :: st) from by
      simp only [sSeq, sIf, sAsg, sRet, sDrop, sSetIx, sNext, sCont, NK.tAnd, NK.tOr, NK.tNot, NK.tTru, NK.tB, eOp, eUn, eCB, eIf, eAnd, eOr, eNot, eVar, eC, aCons, aNil, gN, ob, xb, NK.os, NK.xs, nb, rb, kb, eb, List.getElem?_cons_zero, List.getElem?_cons_succ, List.set_cons_zero, List.set_cons_succ, ↓reduceIte, Bool.false_eq_true, Bool.not_true, Bool.not_false, fAdd_i, fSub_i, fNeg_i, fInt_i, fAbs_i, fLt_i, fLe_i, fGt_i, fMin_i, fIsN_n, fNotN_n, fLen_lst, fLen_tup, fTuple_lst, fTuple_tup, U.isNon, truth, fMod_i, fDiv_i, fMul_i, Int.reduceLT, Int.reduceNeg, Int.reducePow, Int.reduceLE, or_true, true_or, and_self, and_true, true_and, eCall, List.append_nil, List.length_cons, List.length_nil, Nat.reduceAdd, Nat.zero_add, ix2, fEq_ii, hz]]
    exact bg
end G

set_option Elab.async false
set_option linter.all false
set_option maxRecDepth 100000
set_option maxHeartbeats 2000000
/-! Q35b: picks, the hand made, the plain judges. -/
namespace G
open PySem L2 NK
theorem pick_body {md : MF} {things u : U} {n k : Int} {S S1 : Sto} (hl : fLen [things] S = Out.ok (U.int n) S) (hd : md [U.loc 0, U.int n] S = Out.ok (U.int k) S1) (hx : fIx things (U.int k) S1 = Out.ok u S1) :
    (sRet (eOp fIx (eVar 1) (eCall 2 md [] (aCons (eVar 0) (aCons (eCB fLen (aCons (eVar 1) aNil)) aNil))))) [some (U.loc 0), some things] S = SO.ret u S1 := by
  simp (maxDischargeDepth := 8) -implicitDefEqProofs only [sSeq, sIf, sAsg, sRet, sDrop, sSetIx, sNext, sCont, NK.tAnd, NK.tOr, NK.tNot, NK.tTru, NK.tB, eOp, eUn, eCB, eIf, eAnd, eOr, eNot, eVar, eC, aCons, aNil, gN, ob, xb, NK.os, NK.xs, nb, rb, kb, eb, List.getElem?_cons_zero, List.getElem?_cons_succ, List.set_cons_zero, List.set_cons_succ, ↓reduceIte, Bool.false_eq_true, Bool.not_true, Bool.not_false, fAdd_i, fSub_i, fNeg_i, fInt_i, fAbs_i, fLt_i, fLe_i, fGt_i, fMin_i, fIsN_n, fNotN_n, fLen_lst, fLen_tup, fTuple_lst, fTuple_tup, U.isNon, truth, fMod_i, fDiv_i, fMul_i, Int.reduceLT, Int.reduceNeg, Int.reducePow, Int.reduceLE, or_true, true_or, and_self, and_true, true_and, eCall, List.append_nil, List.length_cons, List.length_nil, Nat.reduceAdd, Nat.zero_add, hl, hd, hx]
theorem pick_gen {h : Ob} {st : Sto} {things : U} {n : Nat} {P : U → Prop} (H : HOb h) (hn : 0 < n) (hn2 : n ≤ 1000) (hl : fLen [things] (h :: st) = Out.ok (U.int (n : Int)) (h :: st))
    (hx : ∀ (h' : Ob) (k : Nat), k < n → ∃ u, P u ∧ fIx things (U.int (k : Int)) (h' :: st) = Out.ok u (h' :: st)) : ∃ u h', P u ∧ HOb h' ∧ m_u_law_pick [U.loc 0, things] (h :: st) = Out.ok u (h' :: st) := by
  obtain ⟨d, h', H', d0, d1, e⟩ := draw_ok (st := st) (m := (n : Int)) H (by omega) (by omega)
  obtain ⟨k, rfl⟩ := Int.eq_ofNat_of_zero_le d0
  obtain ⟨u, pu, eu⟩ := hx h' k (by omega)
  exact ⟨u, h', pu, H', run_ret (n := 2) (mb := b_u_law_pick) (env := [some (U.loc 0), some things]) rfl (pick_body hl e eu)⟩
theorem pick_ok {h : Ob} {st : Sto} {us : List U} (H : HOb h) (hne : us ≠ []) (hl : us.length ≤ 1000) : ∃ u h', u ∈ us ∧ HOb h' ∧ m_u_law_pick [U.loc 0, U.lst us] (h :: st) = Out.ok u (h' :: st) :=
  pick_gen (P := (· ∈ us)) H (List.length_pos_iff.mpr hne) hl rfl fun h' k hk => ⟨us[k], List.getElem_mem hk, fIx_lst (by rw [NK.atI_nat]; simp [hk])⟩
theorem pick_loc {h : Ob} {st : Sto} {us : List U} {j : Nat} (H : HOb h) (hne : us ≠ []) (hl : us.length ≤ 1000) (hj : st[j]? = some (.lst us)) : ∃ u h', u ∈ us ∧ HOb h' ∧ m_u_law_pick [U.loc 0, U.loc (j + 1)] (h :: st) = Out.ok u (h' :: st) := by
  refine pick_gen (P := (· ∈ us)) (n := us.length) H (List.length_pos_iff.mpr hne) hl ?_ fun h' k hk => ⟨us[k], List.getElem_mem hk, ?_⟩
  · have e : (h :: st)[j + 1]? = some (.lst us) := by rw [List.getElem?_cons_succ]; exact hj
    simp only [fLen, items, e]
  · have e : (h' :: st)[j + 1]? = some (.lst us) := by rw [List.getElem?_cons_succ]; exact hj
    exact fIx_loc e (by rw [NK.atI_nat]; simp [hk])
/-- one sign of a text -/
def sgn (k : Nat) : Str := ⟨#[k]⟩
theorem pick_str {h : Ob} {st : Sto} {z : Str} (H : HOb h) (hz : 0 < z.cps.size) (hl : z.cps.size ≤ 1000) : ∃ u h', (∃ k ∈ z.cps.toList, u = U.str (sgn k)) ∧ HOb h' ∧ m_u_law_pick [U.loc 0, U.str z] (h :: st) = Out.ok u (h' :: st) := by
  refine pick_gen (P := fun u => ∃ k ∈ z.cps.toList, u = U.str (sgn k)) (n := z.cps.size) H hz hl ?_ fun h' k hk => ⟨U.str (sgn z.cps[k]), ⟨_, by simp, rfl⟩, ?_⟩
  · have hz2 : z.length ≤ 16777216 := by show z.cps.size ≤ 16777216; omega
    show (if z.length ≤ 16777216 then _ else _) = _
    rw [if_pos hz2]
    rfl
  · have hz2 : z.length ≤ 16777216 := by show z.cps.size ≤ 16777216; omega
    have ha : atI z.cps.toList (k : Int) = some z.cps[k] := by simp [atI, ixN, hk]
    unfold fIx
    dsimp only
    rw [if_pos hz2, ha]
    rfl
def absU : U → U | .int i => .int (if i < 0 then -i else i) | u => u
theorem filter_all (l : List U) : l.filter (fun _ => true) = l := List.filter_eq_self.mpr fun _ _ => rfl
theorem abs_map (ns : List Int) : ((ns.map U.int).filter fun _ => true).map absU = (ns.map fun i => if i < 0 then -i else i).map U.int := by
  rw [filter_all, List.map_map, List.map_map]
  rfl
/-- the hand is made -/
theorem hand_ok (ns : List Int) (hl : ns.length ≤ 63) : ∃ h, HOb h ∧ m_u_law_hand [.scr (ns.map U.int)] [] = .ok (.loc 0) [h] := by
  have loop : ∀ (ns : List Int) (k : Nat) (s : Option U) (t : Int) (e2 e3 : Option U), k + ns.length ≤ 1000 → ∃ t' e2' e3', forM (fun _ => True) (gT [2, 3]) l_u_law_hand_1
      (enumFrom k (ns.map U.int)) [s, some (.int t), e2, e3] [] = .next [s, some (.int t'), e2', e3'] [] := by
    intro ns
    induction ns with
    | nil => intro k s t e2 e3 _; exact ⟨t, e2, e3, forM_nil True.intro⟩
    | cons n ns ih =>
      intro k s t e2 e3 hk
      simp only [List.length_cons] at hk
      obtain ⟨t', e2', e3', h⟩ := ih (k + 1) s ((t * 31 + n * ((k : Int) + 7)) % 2147483629) (some (.int (k : Int))) (some (.int n)) (by omega)
      refine ⟨t', e2', e3', Eq.trans (forM_n (env1 := [s, some (.int t), some (.int (k : Int)), some (.int n)]) True.intro rfl ?_) h⟩
      have c : -18446744073709551616 < (k : Int) + 7 ∧ (k : Int) + 7 < 18446744073709551616 := ⟨by omega, by omega⟩
      unfold l_u_law_hand_1
      simp only [sSeq, sIf, sAsg, sRet, sDrop, sSetIx, sNext, sCont, NK.tAnd, NK.tOr, NK.tNot, NK.tTru, NK.tB, eOp, eUn, eCB, eIf, eAnd, eOr, eNot, eVar, eC, aCons, aNil, gN, ob, xb, NK.os, NK.xs, nb, rb, kb, eb, List.getElem?_cons_zero, List.getElem?_cons_succ, List.set_cons_zero, List.set_cons_succ, ↓reduceIte, Bool.false_eq_true, Bool.not_true, Bool.not_false, fAdd_i, fSub_i, fNeg_i, fInt_i, fAbs_i, fLt_i, fLe_i, fGt_i, fMin_i, fIsN_n, fNotN_n, fLen_lst, fLen_tup, fTuple_lst, fTuple_tup, U.isNon, truth, fMod_i, fDiv_i, fMul_i, Int.reduceLT, Int.reduceNeg, Int.reducePow, Int.reduceLE, or_true, true_or, and_self, and_true, true_and, eCall, List.append_nil, List.length_cons, List.length_nil, Nat.reduceAdd, Nat.zero_add, c]
  obtain ⟨t', e2', e3', hloop⟩ := loop ns 0 (some (.scr (ns.map U.int))) 0 none none (by omega)
  have hc := comp_scope (i := 3) (mt := NK.tYes) (me := eCB fAbs (aCons (eCB fInt (aCons (eVar 3) aNil)) aNil)) (mi := iSeq (eVar 0)) (env := [some (.scr (ns.map U.int)), some (.int t'), e2', e3']) (st := []) (g := fun _ => True)
    absU (fun _ => true) (us := ns.map U.int) (by simp only [iSeq, sSeq, sIf, sAsg, sRet, sDrop, sSetIx, sNext, sCont, NK.tAnd, NK.tOr, NK.tNot, NK.tTru, NK.tB, eOp, eUn, eCB, eIf, eAnd, eOr, eNot, eVar, eC, aCons, aNil, gN, ob, xb, NK.os, NK.xs, nb, rb, kb, eb, List.getElem?_cons_zero, List.getElem?_cons_succ, List.set_cons_zero, List.set_cons_succ, ↓reduceIte, Bool.false_eq_true, Bool.not_true, Bool.not_false, fAdd_i, fSub_i, fNeg_i, fInt_i, fAbs_i, fLt_i, fLe_i, fGt_i, fMin_i, fIsN_n, fNotN_n, fLen_lst, fLen_tup, fTuple_lst, fTuple_tup, U.isNon, truth, fMod_i, fDiv_i, fMul_i, Int.reduceLT, Int.reduceNeg, Int.reducePow, Int.reduceLE, or_true, true_or, and_self, and_true, true_and, eCall, List.append_nil, List.length_cons, List.length_nil, Nat.reduceAdd, Nat.zero_add, src]) (fun _ => True.intro) (by simp; omega)
    (fun u hu acc => by
      obtain ⟨n, _, rfl⟩ := List.mem_map.mp hu
      refine ⟨rfl, fun _ => ?_⟩
      simp only [sSeq, sIf, sAsg, sRet, sDrop, sSetIx, sNext, sCont, NK.tAnd, NK.tOr, NK.tNot, NK.tTru, NK.tB, eOp, eUn, eCB, eIf, eAnd, eOr, eNot, eVar, eC, aCons, aNil, gN, ob, xb, NK.os, NK.xs, nb, rb, kb, eb, List.getElem?_cons_zero, List.getElem?_cons_succ, List.set_cons_zero, List.set_cons_succ, ↓reduceIte, Bool.false_eq_true, Bool.not_true, Bool.not_false, fAdd_i, fSub_i, fNeg_i, fInt_i, fAbs_i, fLt_i, fLe_i, fGt_i, fMin_i, fIsN_n, fNotN_n, fLen_lst, fLen_tup, fTuple_lst, fTuple_tup, U.isNon, truth, fMod_i, fDiv_i, fMul_i, Int.reduceLT, Int.reduceNeg, Int.reducePow, Int.reduceLE, or_true, true_or, and_self, and_true, true_and, eCall, List.append_nil, List.length_cons, List.length_nil, Nat.reduceAdd, Nat.zero_add, absU]) (by
      refine underL_all fun u hu => ?_
      obtain ⟨w, hw, rfl⟩ := List.mem_map.mp hu
      obtain ⟨n, _, rfl⟩ := List.mem_map.mp (List.mem_filter.mp hw).1
      rfl)
  rw [abs_map] at hc
  refine ⟨hob (ns.map fun i => if i < 0 then -i else i) 0 0 t', ⟨_, _, _, _, rfl, by decide, by decide⟩, ?_⟩
  show runF 4 b_u_law_hand [.scr (ns.map U.int)] [] = _
  refine run_ret (env := [some (.scr (ns.map U.int)), none, none, none]) rfl ?_
  unfold b_u_law_hand
  simp only [sSeq, sIf, sAsg, sRet, sDrop, sSetIx, sNext, sCont, NK.tAnd, NK.tOr, NK.tNot, NK.tTru, NK.tB, eOp, eUn, eCB, eIf, eAnd, eOr, eNot, eVar, eC, aCons, aNil, gN, ob, xb, NK.os, NK.xs, nb, rb, kb, eb, List.getElem?_cons_zero, List.getElem?_cons_succ, List.set_cons_zero, List.set_cons_succ, ↓reduceIte, Bool.false_eq_true, Bool.not_true, Bool.not_false, fAdd_i, fSub_i, fNeg_i, fInt_i, fAbs_i, fLt_i, fLe_i, fGt_i, fMin_i, fIsN_n, fNotN_n, fLen_lst, fLen_tup, fTuple_lst, fTuple_tup, U.isNon, truth, fMod_i, fDiv_i, fMul_i, Int.reduceLT, Int.reduceNeg, Int.reducePow, Int.reduceLE, or_true, true_or, and_self, and_true, true_and, eCall, List.append_nil, List.length_cons, List.length_nil, Nat.reduceAdd, Nat.zero_add, sFor, iEnumA, hloop, hc, eLst, Nat.reduceLeDiff]
  rfl
/-! ### judges -/
theorem isa_int_none : isAny isl (.b .none) [.b .int] = some false := rfl
theorem isa_int_bool : isAny isl (.b .bool) [.b .int] = some true := rfl
theorem isa_int_int : isAny isl (.b .int) [.b .int] = some true := rfl
theorem isa_int_str : isAny isl (.b .str) [.b .int] = some false := rfl
theorem isa_int_tuple : isAny isl (.b .tuple) [.b .int] = some false := rfl
theorem isa_int_list : isAny isl (.b .list) [.b .int] = some false := rfl
theorem isa_bool_none : isAny isl (.b .none) [.b .bool] = some false := rfl
theorem isa_bool_bool : isAny isl (.b .bool) [.b .bool] = some true := rfl
theorem isa_bool_int : isAny isl (.b .int) [.b .bool] = some false := rfl
theorem isa_bool_str : isAny isl (.b .str) [.b .bool] = some false := rfl
theorem isa_bool_tuple : isAny isl (.b .tuple) [.b .bool] = some false := rfl
theorem isa_bool_list : isAny isl (.b .list) [.b .bool] = some false := rfl
theorem isa_str_none : isAny isl (.b .none) [.b .str] = some false := rfl
theorem isa_str_bool : isAny isl (.b .bool) [.b .str] = some false := rfl
theorem isa_str_int : isAny isl (.b .int) [.b .str] = some false := rfl
theorem isa_str_str : isAny isl (.b .str) [.b .str] = some true := rfl
theorem isa_str_tuple : isAny isl (.b .tuple) [.b .str] = some false := rfl
theorem isa_str_list : isAny isl (.b .list) [.b .str] = some false := rfl
theorem isa_seq_none : isAny isl (.b .none) [.b .list, .b .tuple] = some false := rfl
theorem isa_seq_bool : isAny isl (.b .bool) [.b .list, .b .tuple] = some false := rfl
theorem isa_seq_int : isAny isl (.b .int) [.b .list, .b .tuple] = some false := rfl
theorem isa_seq_str : isAny isl (.b .str) [.b .list, .b .tuple] = some false := rfl
theorem isa_seq_tuple : isAny isl (.b .tuple) [.b .list, .b .tuple] = some true := rfl
theorem isa_seq_list : isAny isl (.b .list) [.b .list, .b .tuple] = some true := rfl
theorem isa_tup_none : isAny isl (.b .none) [.b .tuple] = some false := rfl
theorem isa_tup_bool : isAny isl (.b .bool) [.b .tuple] = some false := rfl
theorem isa_tup_int : isAny isl (.b .int) [.b .tuple] = some false := rfl
theorem isa_tup_str : isAny isl (.b .str) [.b .tuple] = some false := rfl
theorem isa_tup_tuple : isAny isl (.b .tuple) [.b .tuple] = some true := rfl
theorem isa_tup_list : isAny isl (.b .list) [.b .tuple] = some false := rfl

theorem isa_int_dict : isAny isl (.b .dict) [.b .int] = some false := rfl
theorem isa_bool_dict : isAny isl (.b .dict) [.b .bool] = some false := rfl
theorem isa_str_dict : isAny isl (.b .dict) [.b .str] = some false := rfl
theorem isa_seq_dict : isAny isl (.b .dict) [.b .list, .b .tuple] = some false := rfl
end G

set_option Elab.async false
set_option linter.all false
set_option maxRecDepth 100000
set_option maxHeartbeats 4000000
/-! Q03c: the judges of things. -/
namespace G
open PySem L2 NK
def okS (x : Str) : Prop := PyData.strOk x = true ∧ x.cps.size ≤ 1000
def Th (u : U) (S : Sto) : Prop := match u with
  | .non => True
  | .bl _ => True
  | .int _ => True
  | .str x => okS x
  | .tup _ => True
  | .lst _ => True
  | .loc d => ∃ kvs, S[d]? = some (.dK kvs)
  | _ => False
theorem Th.app {u : U} {S ext : Sto} (h : Th u S) : Th u (S ++ ext) := by
  cases u with
  | loc d =>
    obtain ⟨kvs, e⟩ := h
    exact ⟨kvs, by rw [List.getElem?_append_left (List.getElem?_eq_some_iff.mp e).1]; exact e⟩
  | _ => exact h
theorem Th.hand {u : U} {h h' : Ob} {st : Sto} (H : HOb h) (t : Th u (h :: st)) : Th u (h' :: st) := by
  cases u with
  | loc d =>
    obtain ⟨kvs, e⟩ := t
    cases d with
    | zero =>
      obtain ⟨cs, i, r, t, rfl, _, _⟩ := H
      cases e
    | succ d => exact ⟨kvs, e⟩
  | _ => exact t
def isWh (u : U) (lo hi : Int) : Bool := match u with
  | .int i => decide (lo ≤ i) && decide (i ≤ hi)
  | _ => false
section
variable {u : U} {lo hi : Int} {S : Sto}
theorem whole_body (h : Th u S) : (sRet (eAnd (eIsi isl [(.b .int)] (eVar 0)) (eAnd (eNot (eIsi isl [(.b .bool)] (eVar 0))) (eChain fLe fLe (eVar 1) (eVar 0) (eVar 2))))) [some u, some (U.int lo), some (U.int hi)] S = SO.ret (U.bl (isWh u lo hi)) S := by
  cases u with
  | int i =>
    by_cases h1 : lo ≤ i
    · simp (maxDischargeDepth := 8) -implicitDefEqProofs only [sSeq, sIf, sAsg, sRet, sDrop, sSetIx, sNext, sCont, NK.tAnd, NK.tOr, NK.tNot, NK.tTru, NK.tB, eOp, eUn, eCB, eIf, eAnd, eOr, eNot, eVar, eC, aCons, aNil, gN, ob, xb, NK.os, NK.xs, nb, rb, kb, eb, List.getElem?_cons_zero, List.getElem?_cons_succ, List.set_cons_zero, List.set_cons_succ, ↓reduceIte, Bool.false_eq_true, Bool.not_true, Bool.not_false, fAdd_i, fSub_i, fNeg_i, fInt_i, fAbs_i, fLt_i, fLe_i, fGt_i, fMin_i, fIsN_n, fNotN_n, fLen_lst, fLen_tup, fTuple_lst, fTuple_tup, U.isNon, truth, fMod_i, fDiv_i, fMul_i, Int.reduceLT, Int.reduceNeg, Int.reducePow, Int.reduceLE, or_true, true_or, and_self, and_true, true_and, eCall, List.append_nil, List.length_cons, List.length_nil, Nat.reduceAdd, Nat.zero_add, eIsi, trOf, isa_int_none, isa_int_bool, isa_int_int, isa_int_str, isa_int_tuple, isa_int_list, isa_bool_none, isa_bool_bool, isa_bool_int, isa_bool_str, isa_bool_tuple, isa_bool_list, isa_str_none, isa_str_bool, isa_str_int, isa_str_str, isa_str_tuple, isa_str_list, isa_seq_none, isa_seq_bool, isa_seq_int, isa_seq_str, isa_seq_tuple, isa_seq_list, isa_tup_none, isa_tup_bool, isa_tup_int, isa_tup_str, isa_tup_tuple, isa_tup_list, isa_int_dict, isa_bool_dict, isa_str_dict, isa_seq_dict, eChain, decide_eq_true h1, isWh, Bool.true_and]
    · simp (maxDischargeDepth := 8) -implicitDefEqProofs only [sSeq, sIf, sAsg, sRet, sDrop, sSetIx, sNext, sCont, NK.tAnd, NK.tOr, NK.tNot, NK.tTru, NK.tB, eOp, eUn, eCB, eIf, eAnd, eOr, eNot, eVar, eC, aCons, aNil, gN, ob, xb, NK.os, NK.xs, nb, rb, kb, eb, List.getElem?_cons_zero, List.getElem?_cons_succ, List.set_cons_zero, List.set_cons_succ, ↓reduceIte, Bool.false_eq_true, Bool.not_true, Bool.not_false, fAdd_i, fSub_i, fNeg_i, fInt_i, fAbs_i, fLt_i, fLe_i, fGt_i, fMin_i, fIsN_n, fNotN_n, fLen_lst, fLen_tup, fTuple_lst, fTuple_tup, U.isNon, truth, fMod_i, fDiv_i, fMul_i, Int.reduceLT, Int.reduceNeg, Int.reducePow, Int.reduceLE, or_true, true_or, and_self, and_true, true_and, eCall, List.append_nil, List.length_cons, List.length_nil, Nat.reduceAdd, Nat.zero_add, eIsi, trOf, isa_int_none, isa_int_bool, isa_int_int, isa_int_str, isa_int_tuple, isa_int_list, isa_bool_none, isa_bool_bool, isa_bool_int, isa_bool_str, isa_bool_tuple, isa_bool_list, isa_str_none, isa_str_bool, isa_str_int, isa_str_str, isa_str_tuple, isa_str_list, isa_seq_none, isa_seq_bool, isa_seq_int, isa_seq_str, isa_seq_tuple, isa_seq_list, isa_tup_none, isa_tup_bool, isa_tup_int, isa_tup_str, isa_tup_tuple, isa_tup_list, isa_int_dict, isa_bool_dict, isa_str_dict, isa_seq_dict, eChain, decide_eq_false h1, isWh, Bool.false_and]
  | loc d =>
    obtain ⟨kvs, e⟩ := h
    simp (maxDischargeDepth := 8) -implicitDefEqProofs only [sSeq, sIf, sAsg, sRet, sDrop, sSetIx, sNext, sCont, NK.tAnd, NK.tOr, NK.tNot, NK.tTru, NK.tB, eOp, eUn, eCB, eIf, eAnd, eOr, eNot, eVar, eC, aCons, aNil, gN, ob, xb, NK.os, NK.xs, nb, rb, kb, eb, List.getElem?_cons_zero, List.getElem?_cons_succ, List.set_cons_zero, List.set_cons_succ, ↓reduceIte, Bool.false_eq_true, Bool.not_true, Bool.not_false, fAdd_i, fSub_i, fNeg_i, fInt_i, fAbs_i, fLt_i, fLe_i, fGt_i, fMin_i, fIsN_n, fNotN_n, fLen_lst, fLen_tup, fTuple_lst, fTuple_tup, U.isNon, truth, fMod_i, fDiv_i, fMul_i, Int.reduceLT, Int.reduceNeg, Int.reducePow, Int.reduceLE, or_true, true_or, and_self, and_true, true_and, eCall, List.append_nil, List.length_cons, List.length_nil, Nat.reduceAdd, Nat.zero_add, eIsi, trOf, isa_int_none, isa_int_bool, isa_int_int, isa_int_str, isa_int_tuple, isa_int_list, isa_bool_none, isa_bool_bool, isa_bool_int, isa_bool_str, isa_bool_tuple, isa_bool_list, isa_str_none, isa_str_bool, isa_str_int, isa_str_str, isa_str_tuple, isa_str_list, isa_seq_none, isa_seq_bool, isa_seq_int, isa_seq_str, isa_seq_tuple, isa_seq_list, isa_tup_none, isa_tup_bool, isa_tup_int, isa_tup_str, isa_tup_tuple, isa_tup_list, isa_int_dict, isa_bool_dict, isa_str_dict, isa_seq_dict, e, isWh]
  | ins => exact h.elim
  | ty => exact h.elim
  | cls => exact h.elim
  | scr => exact h.elim
  | _ => simp (maxDischargeDepth := 8) -implicitDefEqProofs only [sSeq, sIf, sAsg, sRet, sDrop, sSetIx, sNext, sCont, NK.tAnd, NK.tOr, NK.tNot, NK.tTru, NK.tB, eOp, eUn, eCB, eIf, eAnd, eOr, eNot, eVar, eC, aCons, aNil, gN, ob, xb, NK.os, NK.xs, nb, rb, kb, eb, List.getElem?_cons_zero, List.getElem?_cons_succ, List.set_cons_zero, List.set_cons_succ, ↓reduceIte, Bool.false_eq_true, Bool.not_true, Bool.not_false, fAdd_i, fSub_i, fNeg_i, fInt_i, fAbs_i, fLt_i, fLe_i, fGt_i, fMin_i, fIsN_n, fNotN_n, fLen_lst, fLen_tup, fTuple_lst, fTuple_tup, U.isNon, truth, fMod_i, fDiv_i, fMul_i, Int.reduceLT, Int.reduceNeg, Int.reducePow, Int.reduceLE, or_true, true_or, and_self, and_true, true_and, eCall, List.append_nil, List.length_cons, List.length_nil, Nat.reduceAdd, Nat.zero_add, eIsi, trOf, isa_int_none, isa_int_bool, isa_int_int, isa_int_str, isa_int_tuple, isa_int_list, isa_bool_none, isa_bool_bool, isa_bool_int, isa_bool_str, isa_bool_tuple, isa_bool_list, isa_str_none, isa_str_bool, isa_str_int, isa_str_str, isa_str_tuple, isa_str_list, isa_seq_none, isa_seq_bool, isa_seq_int, isa_seq_str, isa_seq_tuple, isa_seq_list, isa_tup_none, isa_tup_bool, isa_tup_int, isa_tup_str, isa_tup_tuple, isa_tup_list, isa_int_dict, isa_bool_dict, isa_str_dict, isa_seq_dict, isWh]
theorem whole_ok (h : Th u S) : m_is_whole [u, U.int lo, U.int hi] S = Out.ok (U.bl (isWh u lo hi)) S := fs_same (n := 3) (mb := b_is_whole) rfl (whole_body h) rfl
theorem number_ok (h : Th u S) : m_u_law_is_number [u, U.int lo, U.int hi] S = Out.ok (U.bl (isWh u lo hi)) S := fs_same (n := 3) (mb := b_u_law_is_number) rfl (whole_body h) rfl
theorem name_body {mw : MF} {b : Bool} (h : mw [u, U.int 0, U.int 1000000000000000000000000000000] S = Out.ok (U.bl b) S) : (sRet (eCall 3 mw [] (aCons (eVar 0) (aCons (eC (.int 0)) (aCons (eC (.int 1000000000000000000000000000000)) aNil))))) [some u] S = SO.ret (U.bl b) S := by
  simp (maxDischargeDepth := 8) -implicitDefEqProofs only [sSeq, sIf, sAsg, sRet, sDrop, sSetIx, sNext, sCont, NK.tAnd, NK.tOr, NK.tNot, NK.tTru, NK.tB, eOp, eUn, eCB, eIf, eAnd, eOr, eNot, eVar, eC, aCons, aNil, gN, ob, xb, NK.os, NK.xs, nb, rb, kb, eb, List.getElem?_cons_zero, List.getElem?_cons_succ, List.set_cons_zero, List.set_cons_succ, ↓reduceIte, Bool.false_eq_true, Bool.not_true, Bool.not_false, fAdd_i, fSub_i, fNeg_i, fInt_i, fAbs_i, fLt_i, fLe_i, fGt_i, fMin_i, fIsN_n, fNotN_n, fLen_lst, fLen_tup, fTuple_lst, fTuple_tup, U.isNon, truth, fMod_i, fDiv_i, fMul_i, Int.reduceLT, Int.reduceNeg, Int.reducePow, Int.reduceLE, or_true, true_or, and_self, and_true, true_and, eCall, List.append_nil, List.length_cons, List.length_nil, Nat.reduceAdd, Nat.zero_add, h]
theorem name_ok (h : Th u S) : m_is_name [u] S = Out.ok (U.bl (isWh u 0 1000000000000000000000000000000)) S := fs_same (n := 1) (mb := b_is_name) rfl (name_body (whole_ok h)) rfl
end
theorem sFor_ok {mi : MI} {gt : MGt} {b : MS} {env : NK.Env} {S : Sto} {us : List U} {g : Sto → Prop} {r : SO} (hi : mi env S = .ok ⟨us, g⟩ S) (hf : forM g gt b us env S = r) : sFor mi gt b env S = r := by
  unfold sFor
  rw [hi]
  exact hf
/-! ### texts -/
def occ (j i : Str) : Bool := !(Builtin.Str.occurrences j i 0 j.length 1).isEmpty
abbrev abc : Str := Str.ofString "abcdefghijklmnopqrstuvwxyz"
theorem inS_n {i j : Str} {S : Sto} : fInS true (U.str i) (U.str j) S = Out.ok (U.bl (!occ j i)) S := by
  show Out.ok (U.bl ((!(Builtin.Str.occurrences j i 0 j.length 1).isEmpty) != true)) S = _
  rw [Bool.bne_true]
  rfl
theorem len_str {x : Str} {S : Sto} (h : x.cps.size ≤ 1000) : fLen [U.str x] S = Out.ok (U.int (x.cps.size : Nat)) S := by
  have h2 : x.length ≤ 16777216 := by show x.cps.size ≤ _; omega
  show (if x.length ≤ 16777216 then _ else _) = _
  rw [if_pos h2]
  rfl
def signs (x : Str) : List U := x.cps.toList.map fun k => U.str (sgn k)
theorem src_str {x : Str} {S : Sto} : NK.src (U.str x) S = some ⟨signs x, fun _ => True⟩ := rfl
def inLen (x : Str) (lo hi : Int) : Bool := decide (lo ≤ (x.cps.size : Int)) && decide ((x.cps.size : Int) ≤ hi)
def labU (u : U) : Bool := match u with
  | .str x => inLen x 1 6 && x.cps.toList.all fun k => occ abc (sgn k)
  | _ => false
theorem lab_loop {S : Sto} : ∀ (ks : List Nat) (e0 e1 : Option U),
    ((ks.all fun k => occ abc (sgn k)) = true ∧ ∃ env', forM (fun _ => True) (gN 1) l_is_label_1 (ks.map fun k => U.str (sgn k)) [e0, e1] S = SO.next env' S) ∨ ((ks.all fun k => occ abc (sgn k)) = false ∧ forM (fun _ => True) (gN 1) l_is_label_1 (ks.map fun k => U.str (sgn k)) [e0, e1] S = SO.ret (U.bl false) S)
  | [], e0, e1 => .inl ⟨rfl, _, forM_nil True.intro⟩
  | k :: ks, e0, e1 => by
    rw [List.all_cons, List.map_cons]
    cases q : occ abc (sgn k) with
    | true =>
      rw [Bool.true_and, forM_n (env1 := [e0, some (U.str (sgn k))]) (env2 := [e0, some (U.str (sgn k))]) (st2 := S) True.intro rfl (by
        unfold l_is_label_1
        simp (maxDischargeDepth := 8) -implicitDefEqProofs only [sSeq, sIf, sAsg, sRet, sDrop, sSetIx, sNext, sCont, NK.tAnd, NK.tOr, NK.tNot, NK.tTru, NK.tB, eOp, eUn, eCB, eIf, eAnd, eOr, eNot, eVar, eC, aCons, aNil, gN, ob, xb, NK.os, NK.xs, nb, rb, kb, eb, List.getElem?_cons_zero, List.getElem?_cons_succ, List.set_cons_zero, List.set_cons_succ, ↓reduceIte, Bool.false_eq_true, Bool.not_true, Bool.not_false, fAdd_i, fSub_i, fNeg_i, fInt_i, fAbs_i, fLt_i, fLe_i, fGt_i, fMin_i, fIsN_n, fNotN_n, fLen_lst, fLen_tup, fTuple_lst, fTuple_tup, U.isNon, truth, fMod_i, fDiv_i, fMul_i, Int.reduceLT, Int.reduceNeg, Int.reducePow, Int.reduceLE, or_true, true_or, and_self, and_true, true_and, eCall, List.append_nil, List.length_cons, List.length_nil, Nat.reduceAdd, Nat.zero_add, inS_n, q])]
      exact lab_loop ks e0 _
    | false =>
      right
      refine ⟨rfl, forM_r (env1 := [e0, some (U.str (sgn k))]) True.intro rfl ?_⟩
      unfold l_is_label_1
      simp (maxDischargeDepth := 8) -implicitDefEqProofs only [sSeq, sIf, sAsg, sRet, sDrop, sSetIx, sNext, sCont, NK.tAnd, NK.tOr, NK.tNot, NK.tTru, NK.tB, eOp, eUn, eCB, eIf, eAnd, eOr, eNot, eVar, eC, aCons, aNil, gN, ob, xb, NK.os, NK.xs, nb, rb, kb, eb, List.getElem?_cons_zero, List.getElem?_cons_succ, List.set_cons_zero, List.set_cons_succ, ↓reduceIte, Bool.false_eq_true, Bool.not_true, Bool.not_false, fAdd_i, fSub_i, fNeg_i, fInt_i, fAbs_i, fLt_i, fLe_i, fGt_i, fMin_i, fIsN_n, fNotN_n, fLen_lst, fLen_tup, fTuple_lst, fTuple_tup, U.isNon, truth, fMod_i, fDiv_i, fMul_i, Int.reduceLT, Int.reduceNeg, Int.reducePow, Int.reduceLE, or_true, true_or, and_self, and_true, true_and, eCall, List.append_nil, List.length_cons, List.length_nil, Nat.reduceAdd, Nat.zero_add, inS_n, q]
theorem label_body {lo : MS} {x : Str} {S : Sto} {b : Bool} {env' : NK.Env} (hx : x.cps.size ≤ 1000) (hl : inLen x 1 6 = true) (h : (b = true ∧ lo [some (U.str x), none] S = SO.next env' S) ∨ (b = false ∧ lo [some (U.str x), none] S = SO.ret (U.bl false) S)) :
    (sSeq (sIf (tOr (tNot (tTru (eIsi isl [(.b .str)] (eVar 0)))) (tNot (NK.tB (eChain fLe fLe (eC (.int 1)) (eCB fLen (aCons (eVar 0) aNil)) (eC (.int 6)))))) (sRet (eC (.bl false))) sNext)
    (sSeq lo
    (sRet (eC (.bl true))))) [some (U.str x), none] S = SO.ret (U.bl b) S := by
  obtain ⟨h1, h2⟩ := Bool.and_eq_true_iff.mp hl
  rcases h with ⟨rfl, h⟩ | ⟨rfl, h⟩ <;> simp (maxDischargeDepth := 8) -implicitDefEqProofs only [sSeq, sIf, sAsg, sRet, sDrop, sSetIx, sNext, sCont, NK.tAnd, NK.tOr, NK.tNot, NK.tTru, NK.tB, eOp, eUn, eCB, eIf, eAnd, eOr, eNot, eVar, eC, aCons, aNil, gN, ob, xb, NK.os, NK.xs, nb, rb, kb, eb, List.getElem?_cons_zero, List.getElem?_cons_succ, List.set_cons_zero, List.set_cons_succ, ↓reduceIte, Bool.false_eq_true, Bool.not_true, Bool.not_false, fAdd_i, fSub_i, fNeg_i, fInt_i, fAbs_i, fLt_i, fLe_i, fGt_i, fMin_i, fIsN_n, fNotN_n, fLen_lst, fLen_tup, fTuple_lst, fTuple_tup, U.isNon, truth, fMod_i, fDiv_i, fMul_i, Int.reduceLT, Int.reduceNeg, Int.reducePow, Int.reduceLE, or_true, true_or, and_self, and_true, true_and, eCall, List.append_nil, List.length_cons, List.length_nil, Nat.reduceAdd, Nat.zero_add, eIsi, trOf, isa_int_none, isa_int_bool, isa_int_int, isa_int_str, isa_int_tuple, isa_int_list, isa_bool_none, isa_bool_bool, isa_bool_int, isa_bool_str, isa_bool_tuple, isa_bool_list, isa_str_none, isa_str_bool, isa_str_int, isa_str_str, isa_str_tuple, isa_str_list, isa_seq_none, isa_seq_bool, isa_seq_int, isa_seq_str, isa_seq_tuple, isa_seq_list, isa_tup_none, isa_tup_bool, isa_tup_int, isa_tup_str, isa_tup_tuple, isa_tup_list, isa_int_dict, isa_bool_dict, isa_str_dict, isa_seq_dict, eChain, len_str hx, h1, h2, h]
theorem label_body2 {lo : MS} {x : Str} {S : Sto} (hx : x.cps.size ≤ 1000) (hl : inLen x 1 6 = false) : (sSeq (sIf (tOr (tNot (tTru (eIsi isl [(.b .str)] (eVar 0)))) (tNot (NK.tB (eChain fLe fLe (eC (.int 1)) (eCB fLen (aCons (eVar 0) aNil)) (eC (.int 6)))))) (sRet (eC (.bl false))) sNext)
    (sSeq lo
    (sRet (eC (.bl true))))) [some (U.str x), none] S = SO.ret (U.bl false) S := by
  by_cases h1 : (1 : Int) ≤ (x.cps.size : Int)
  · have h2 : decide ((x.cps.size : Int) ≤ 6) = false := by
      unfold inLen at hl
      rw [decide_eq_true h1, Bool.true_and] at hl
      exact hl
    simp (maxDischargeDepth := 8) -implicitDefEqProofs only [sSeq, sIf, sAsg, sRet, sDrop, sSetIx, sNext, sCont, NK.tAnd, NK.tOr, NK.tNot, NK.tTru, NK.tB, eOp, eUn, eCB, eIf, eAnd, eOr, eNot, eVar, eC, aCons, aNil, gN, ob, xb, NK.os, NK.xs, nb, rb, kb, eb, List.getElem?_cons_zero, List.getElem?_cons_succ, List.set_cons_zero, List.set_cons_succ, ↓reduceIte, Bool.false_eq_true, Bool.not_true, Bool.not_false, fAdd_i, fSub_i, fNeg_i, fInt_i, fAbs_i, fLt_i, fLe_i, fGt_i, fMin_i, fIsN_n, fNotN_n, fLen_lst, fLen_tup, fTuple_lst, fTuple_tup, U.isNon, truth, fMod_i, fDiv_i, fMul_i, Int.reduceLT, Int.reduceNeg, Int.reducePow, Int.reduceLE, or_true, true_or, and_self, and_true, true_and, eCall, List.append_nil, List.length_cons, List.length_nil, Nat.reduceAdd, Nat.zero_add, eIsi, trOf, isa_int_none, isa_int_bool, isa_int_int, isa_int_str, isa_int_tuple, isa_int_list, isa_bool_none, isa_bool_bool, isa_bool_int, isa_bool_str, isa_bool_tuple, isa_bool_list, isa_str_none, isa_str_bool, isa_str_int, isa_str_str, isa_str_tuple, isa_str_list, isa_seq_none, isa_seq_bool, isa_seq_int, isa_seq_str, isa_seq_tuple, isa_seq_list, isa_tup_none, isa_tup_bool, isa_tup_int, isa_tup_str, isa_tup_tuple, isa_tup_list, isa_int_dict, isa_bool_dict, isa_str_dict, isa_seq_dict, eChain, len_str hx, decide_eq_true h1, h2]
  · simp (maxDischargeDepth := 8) -implicitDefEqProofs only [sSeq, sIf, sAsg, sRet, sDrop, sSetIx, sNext, sCont, NK.tAnd, NK.tOr, NK.tNot, NK.tTru, NK.tB, eOp, eUn, eCB, eIf, eAnd, eOr, eNot, eVar, eC, aCons, aNil, gN, ob, xb, NK.os, NK.xs, nb, rb, kb, eb, List.getElem?_cons_zero, List.getElem?_cons_succ, List.set_cons_zero, List.set_cons_succ, ↓reduceIte, Bool.false_eq_true, Bool.not_true, Bool.not_false, fAdd_i, fSub_i, fNeg_i, fInt_i, fAbs_i, fLt_i, fLe_i, fGt_i, fMin_i, fIsN_n, fNotN_n, fLen_lst, fLen_tup, fTuple_lst, fTuple_tup, U.isNon, truth, fMod_i, fDiv_i, fMul_i, Int.reduceLT, Int.reduceNeg, Int.reducePow, Int.reduceLE, or_true, true_or, and_self, and_true, true_and, eCall, List.append_nil, List.length_cons, List.length_nil, Nat.reduceAdd, Nat.zero_add, eIsi, trOf, isa_int_none, isa_int_bool, isa_int_int, isa_int_str, isa_int_tuple, isa_int_list, isa_bool_none, isa_bool_bool, isa_bool_int, isa_bool_str, isa_bool_tuple, isa_bool_list, isa_str_none, isa_str_bool, isa_str_int, isa_str_str, isa_str_tuple, isa_str_list, isa_seq_none, isa_seq_bool, isa_seq_int, isa_seq_str, isa_seq_tuple, isa_seq_list, isa_tup_none, isa_tup_bool, isa_tup_int, isa_tup_str, isa_tup_tuple, isa_tup_list, isa_int_dict, isa_bool_dict, isa_str_dict, isa_seq_dict, eChain, len_str hx, decide_eq_false h1]
theorem label_body3 {lo : MS} {u : U} {S : Sto} (h : Th u S) (hn : ∀ x, u ≠ U.str x) : (sSeq (sIf (tOr (tNot (tTru (eIsi isl [(.b .str)] (eVar 0)))) (tNot (NK.tB (eChain fLe fLe (eC (.int 1)) (eCB fLen (aCons (eVar 0) aNil)) (eC (.int 6)))))) (sRet (eC (.bl false))) sNext)
    (sSeq lo
    (sRet (eC (.bl true))))) [some u, none] S = SO.ret (U.bl false) S := by
  cases u with
  | str x => exact absurd rfl (hn x)
  | loc d =>
    obtain ⟨kvs, e⟩ := h
    simp (maxDischargeDepth := 8) -implicitDefEqProofs only [sSeq, sIf, sAsg, sRet, sDrop, sSetIx, sNext, sCont, NK.tAnd, NK.tOr, NK.tNot, NK.tTru, NK.tB, eOp, eUn, eCB, eIf, eAnd, eOr, eNot, eVar, eC, aCons, aNil, gN, ob, xb, NK.os, NK.xs, nb, rb, kb, eb, List.getElem?_cons_zero, List.getElem?_cons_succ, List.set_cons_zero, List.set_cons_succ, ↓reduceIte, Bool.false_eq_true, Bool.not_true, Bool.not_false, fAdd_i, fSub_i, fNeg_i, fInt_i, fAbs_i, fLt_i, fLe_i, fGt_i, fMin_i, fIsN_n, fNotN_n, fLen_lst, fLen_tup, fTuple_lst, fTuple_tup, U.isNon, truth, fMod_i, fDiv_i, fMul_i, Int.reduceLT, Int.reduceNeg, Int.reducePow, Int.reduceLE, or_true, true_or, and_self, and_true, true_and, eCall, List.append_nil, List.length_cons, List.length_nil, Nat.reduceAdd, Nat.zero_add, eIsi, trOf, isa_int_none, isa_int_bool, isa_int_int, isa_int_str, isa_int_tuple, isa_int_list, isa_bool_none, isa_bool_bool, isa_bool_int, isa_bool_str, isa_bool_tuple, isa_bool_list, isa_str_none, isa_str_bool, isa_str_int, isa_str_str, isa_str_tuple, isa_str_list, isa_seq_none, isa_seq_bool, isa_seq_int, isa_seq_str, isa_seq_tuple, isa_seq_list, isa_tup_none, isa_tup_bool, isa_tup_int, isa_tup_str, isa_tup_tuple, isa_tup_list, isa_int_dict, isa_bool_dict, isa_str_dict, isa_seq_dict, e]
  | ins => exact h.elim
  | ty => exact h.elim
  | cls => exact h.elim
  | scr => exact h.elim
  | _ => simp (maxDischargeDepth := 8) -implicitDefEqProofs only [sSeq, sIf, sAsg, sRet, sDrop, sSetIx, sNext, sCont, NK.tAnd, NK.tOr, NK.tNot, NK.tTru, NK.tB, eOp, eUn, eCB, eIf, eAnd, eOr, eNot, eVar, eC, aCons, aNil, gN, ob, xb, NK.os, NK.xs, nb, rb, kb, eb, List.getElem?_cons_zero, List.getElem?_cons_succ, List.set_cons_zero, List.set_cons_succ, ↓reduceIte, Bool.false_eq_true, Bool.not_true, Bool.not_false, fAdd_i, fSub_i, fNeg_i, fInt_i, fAbs_i, fLt_i, fLe_i, fGt_i, fMin_i, fIsN_n, fNotN_n, fLen_lst, fLen_tup, fTuple_lst, fTuple_tup, U.isNon, truth, fMod_i, fDiv_i, fMul_i, Int.reduceLT, Int.reduceNeg, Int.reducePow, Int.reduceLE, or_true, true_or, and_self, and_true, true_and, eCall, List.append_nil, List.length_cons, List.length_nil, Nat.reduceAdd, Nat.zero_add, eIsi, trOf, isa_int_none, isa_int_bool, isa_int_int, isa_int_str, isa_int_tuple, isa_int_list, isa_bool_none, isa_bool_bool, isa_bool_int, isa_bool_str, isa_bool_tuple, isa_bool_list, isa_str_none, isa_str_bool, isa_str_int, isa_str_str, isa_str_tuple, isa_str_list, isa_seq_none, isa_seq_bool, isa_seq_int, isa_seq_str, isa_seq_tuple, isa_seq_list, isa_tup_none, isa_tup_bool, isa_tup_int, isa_tup_str, isa_tup_tuple, isa_tup_list, isa_int_dict, isa_bool_dict, isa_str_dict, isa_seq_dict]
theorem labU_no {u : U} (hn : ∀ x, u ≠ U.str x) : labU u = false := by
  cases u with
  | str x => exact absurd rfl (hn x)
  | _ => rfl
theorem label_ok {u : U} {S : Sto} (h : Th u S) : m_is_label [u] S = Out.ok (U.bl (labU u)) S := by
  by_cases hs : ∃ x, u = U.str x
  · obtain ⟨x, rfl⟩ := hs
    have hx : x.cps.size ≤ 1000 := h.2
    cases hl : inLen x 1 6 with
    | true =>
      have e : labU (U.str x) = x.cps.toList.all fun k => occ abc (sgn k) := by
        show (inLen x 1 6 && _) = _
        rw [hl, Bool.true_and]
      rw [e]
      rcases lab_loop (S := S) x.cps.toList (some (U.str x)) none with ⟨q, env', f⟩ | ⟨q, f⟩
      · exact fs_same (n := 2) (mb := b_is_label) rfl (label_body (env' := env') hx hl (.inl ⟨q, sFor_ok rfl f⟩)) rfl
      · exact fs_same (n := 2) (mb := b_is_label) rfl (label_body (env' := []) hx hl (.inr ⟨q, sFor_ok rfl f⟩)) rfl
    | false =>
      have e : labU (U.str x) = false := by
        show (inLen x 1 6 && _) = _
        rw [hl, Bool.false_and]
      rw [e]
      exact fs_same (n := 2) (mb := b_is_label) rfl (label_body2 hx hl) rfl
  · have hn : ∀ x, u ≠ U.str x := fun x e => hs ⟨x, e⟩
    rw [labU_no hn]
    exact fs_same (n := 2) (mb := b_is_label) rfl (label_body3 h hn) rfl
end G

set_option Elab.async false
set_option linter.all false
set_option maxRecDepth 100000
set_option maxHeartbeats 4000000
/-! Q03d: kinds, ways, only. -/
namespace G
open PySem L2 NK
/-- one of two texts -/
def twoU (a b : String) (u : U) : Bool := match u with
  | .str x => Str.ofString a == x || Str.ofString b == x
  | _ => false
section
variable {u : U} {lo hi : Int} {S : Sto}
theorem th_cases (h : Th u S) : (∃ x, u = U.str x ∧ okS x) ∨ (∀ x, u ≠ U.str x) ∧ (∃ t, trOf u S = some t ∧ isAny isl t [.b .str] = some false) := by
  cases u with
  | str x => exact .inl ⟨x, rfl, h⟩
  | non => exact .inr ⟨(fun _ e => by cases e), _, rfl, rfl⟩
  | bl b => exact .inr ⟨(fun _ e => by cases e), _, rfl, rfl⟩
  | int i => exact .inr ⟨(fun _ e => by cases e), _, rfl, rfl⟩
  | tup us => exact .inr ⟨(fun _ e => by cases e), _, rfl, rfl⟩
  | lst us => exact .inr ⟨(fun _ e => by cases e), _, rfl, rfl⟩
  | loc d =>
    obtain ⟨kvs, e⟩ := h
    refine .inr ⟨(fun _ e => by cases e), .b .dict, ?_, rfl⟩
    simp only [trOf, e]
  | _ => exact h.elim
theorem in_two {a b : String} {x : Str} {S : Sto} : fIn false (U.str x) (U.tup [U.str (Str.ofString a), U.str (Str.ofString b)]) S = Out.ok (U.bl (twoU a b (U.str x))) S := by
  simp [fIn, items, flatU, inU, NK.eqU, twoU]
theorem in_two_l {a b : String} {x : Str} {S : Sto} : fIn false (U.str x) (U.lst [U.str (Str.ofString a), U.str (Str.ofString b)]) S = Out.ok (U.bl (twoU a b (U.str x))) S := by
  simp [fIn, items, flatU, inU, NK.eqU, twoU]
theorem notin_two {a b : String} {x : Str} {S : Sto} : fIn true (U.str x) (U.tup [U.str (Str.ofString a), U.str (Str.ofString b)]) S = Out.ok (U.bl (!twoU a b (U.str x))) S := by
  simp [fIn, items, flatU, inU, NK.eqU, twoU]
theorem two_no {a b : String} (h : ∀ x, u ≠ U.str x) : twoU a b u = false := by
  cases u with
  | str x => exact absurd rfl (h x)
  | _ => rfl
theorem kind_body (h : Th u S) : (sRet (eAnd (eIsi isl [(.b .str)] (eVar 0)) (eOp (fIn false) (eVar 0) (eTup (aCons (eC (.str "s")) (aCons (eC (.str "d")) aNil)))))) [some u] S = SO.ret (U.bl (twoU "s" "d" u)) S := by
  rcases th_cases h with ⟨x, rfl, _⟩ | ⟨hn, t, ht, ha⟩
  · simp (maxDischargeDepth := 8) -implicitDefEqProofs only [sSeq, sIf, sAsg, sRet, sDrop, sSetIx, sNext, sCont, NK.tAnd, NK.tOr, NK.tNot, NK.tTru, NK.tB, eOp, eUn, eCB, eIf, eAnd, eOr, eNot, eVar, eC, aCons, aNil, gN, ob, xb, NK.os, NK.xs, nb, rb, kb, eb, List.getElem?_cons_zero, List.getElem?_cons_succ, List.set_cons_zero, List.set_cons_succ, ↓reduceIte, Bool.false_eq_true, Bool.not_true, Bool.not_false, fAdd_i, fSub_i, fNeg_i, fInt_i, fAbs_i, fLt_i, fLe_i, fGt_i, fMin_i, fIsN_n, fNotN_n, fLen_lst, fLen_tup, fTuple_lst, fTuple_tup, U.isNon, truth, fMod_i, fDiv_i, fMul_i, Int.reduceLT, Int.reduceNeg, Int.reducePow, Int.reduceLE, or_true, true_or, and_self, and_true, true_and, eCall, List.append_nil, List.length_cons, List.length_nil, Nat.reduceAdd, Nat.zero_add, eIsi, trOf, isa_int_none, isa_int_bool, isa_int_int, isa_int_str, isa_int_tuple, isa_int_list, isa_bool_none, isa_bool_bool, isa_bool_int, isa_bool_str, isa_bool_tuple, isa_bool_list, isa_str_none, isa_str_bool, isa_str_int, isa_str_str, isa_str_tuple, isa_str_list, isa_seq_none, isa_seq_bool, isa_seq_int, isa_seq_str, isa_seq_tuple, isa_seq_list, isa_tup_none, isa_tup_bool, isa_tup_int, isa_tup_str, isa_tup_tuple, isa_tup_list, isa_int_dict, isa_bool_dict, isa_str_dict, isa_seq_dict, eTup, in_two, Nat.reduceLeDiff]
  · rw [two_no hn]
    simp (maxDischargeDepth := 8) -implicitDefEqProofs only [sSeq, sIf, sAsg, sRet, sDrop, sSetIx, sNext, sCont, NK.tAnd, NK.tOr, NK.tNot, NK.tTru, NK.tB, eOp, eUn, eCB, eIf, eAnd, eOr, eNot, eVar, eC, aCons, aNil, gN, ob, xb, NK.os, NK.xs, nb, rb, kb, eb, List.getElem?_cons_zero, List.getElem?_cons_succ, List.set_cons_zero, List.set_cons_succ, ↓reduceIte, Bool.false_eq_true, Bool.not_true, Bool.not_false, fAdd_i, fSub_i, fNeg_i, fInt_i, fAbs_i, fLt_i, fLe_i, fGt_i, fMin_i, fIsN_n, fNotN_n, fLen_lst, fLen_tup, fTuple_lst, fTuple_tup, U.isNon, truth, fMod_i, fDiv_i, fMul_i, Int.reduceLT, Int.reduceNeg, Int.reducePow, Int.reduceLE, or_true, true_or, and_self, and_true, true_and, eCall, List.append_nil, List.length_cons, List.length_nil, Nat.reduceAdd, Nat.zero_add, eIsi, ht, ha]
theorem kind_ok (h : Th u S) : m_is_kind [u] S = Out.ok (U.bl (twoU "s" "d" u)) S := fs_same (n := 1) (mb := b_is_kind) rfl (kind_body h) rfl
/-! ways -/
def wayU (lo hi : Int) (u : U) : Bool := match u with
  | .str x => inLen x lo hi && x.cps.toList.all fun k => twoU "f" "m" (U.str (sgn k))
  | _ => false
theorem way_loop {e0 e1 e2 : Option U} : ∀ (ks : List Nat) (e3 : Option U),
    ((ks.all fun k => twoU "f" "m" (U.str (sgn k))) = true ∧ ∃ env', forM (fun _ => True) (gN 3) l_is_way_1 (ks.map fun k => U.str (sgn k)) [e0, e1, e2, e3] S = SO.next env' S) ∨ ((ks.all fun k => twoU "f" "m" (U.str (sgn k))) = false ∧ forM (fun _ => True) (gN 3) l_is_way_1 (ks.map fun k => U.str (sgn k)) [e0, e1, e2, e3] S = SO.ret (U.bl false) S)
  | [], e3 => .inl ⟨rfl, _, forM_nil True.intro⟩
  | k :: ks, e3 => by
    rw [List.all_cons, List.map_cons]
    cases q : twoU "f" "m" (U.str (sgn k)) with
    | true =>
      rw [Bool.true_and, forM_n (env1 := [e0, e1, e2, some (U.str (sgn k))]) (env2 := [e0, e1, e2, some (U.str (sgn k))]) (st2 := S) True.intro rfl (by
        unfold l_is_way_1
        simp (maxDischargeDepth := 8) -implicitDefEqProofs only [sSeq, sIf, sAsg, sRet, sDrop, sSetIx, sNext, sCont, NK.tAnd, NK.tOr, NK.tNot, NK.tTru, NK.tB, eOp, eUn, eCB, eIf, eAnd, eOr, eNot, eVar, eC, aCons, aNil, gN, ob, xb, NK.os, NK.xs, nb, rb, kb, eb, List.getElem?_cons_zero, List.getElem?_cons_succ, List.set_cons_zero, List.set_cons_succ, ↓reduceIte, Bool.false_eq_true, Bool.not_true, Bool.not_false, fAdd_i, fSub_i, fNeg_i, fInt_i, fAbs_i, fLt_i, fLe_i, fGt_i, fMin_i, fIsN_n, fNotN_n, fLen_lst, fLen_tup, fTuple_lst, fTuple_tup, U.isNon, truth, fMod_i, fDiv_i, fMul_i, Int.reduceLT, Int.reduceNeg, Int.reducePow, Int.reduceLE, or_true, true_or, and_self, and_true, true_and, eCall, List.append_nil, List.length_cons, List.length_nil, Nat.reduceAdd, Nat.zero_add, eTup, notin_two, q, Nat.reduceLeDiff])]
      exact way_loop ks _
    | false =>
      right
      refine ⟨rfl, forM_r (env1 := [e0, e1, e2, some (U.str (sgn k))]) True.intro rfl ?_⟩
      unfold l_is_way_1
      simp (maxDischargeDepth := 8) -implicitDefEqProofs only [sSeq, sIf, sAsg, sRet, sDrop, sSetIx, sNext, sCont, NK.tAnd, NK.tOr, NK.tNot, NK.tTru, NK.tB, eOp, eUn, eCB, eIf, eAnd, eOr, eNot, eVar, eC, aCons, aNil, gN, ob, xb, NK.os, NK.xs, nb, rb, kb, eb, List.getElem?_cons_zero, List.getElem?_cons_succ, List.set_cons_zero, List.set_cons_succ, ↓reduceIte, Bool.false_eq_true, Bool.not_true, Bool.not_false, fAdd_i, fSub_i, fNeg_i, fInt_i, fAbs_i, fLt_i, fLe_i, fGt_i, fMin_i, fIsN_n, fNotN_n, fLen_lst, fLen_tup, fTuple_lst, fTuple_tup, U.isNon, truth, fMod_i, fDiv_i, fMul_i, Int.reduceLT, Int.reduceNeg, Int.reducePow, Int.reduceLE, or_true, true_or, and_self, and_true, true_and, eCall, List.append_nil, List.length_cons, List.length_nil, Nat.reduceAdd, Nat.zero_add, eTup, notin_two, q, Nat.reduceLeDiff]
theorem way_body {lp : MS} {x : Str} {b : Bool} {env' : NK.Env} (hx : x.cps.size ≤ 1000) (hl : inLen x lo hi = true) (h : (b = true ∧ lp [some (U.str x), some (U.int lo), some (U.int hi), none] S = SO.next env' S) ∨ (b = false ∧ lp [some (U.str x), some (U.int lo), some (U.int hi), none] S = SO.ret (U.bl false) S)) :
    (sSeq (sIf (tOr (tNot (tTru (eIsi isl [(.b .str)] (eVar 0)))) (tNot (NK.tB (eChain fLe fLe (eVar 1) (eCB fLen (aCons (eVar 0) aNil)) (eVar 2))))) (sRet (eC (.bl false))) sNext)
    (sSeq lp
    (sRet (eC (.bl true))))) [some (U.str x), some (U.int lo), some (U.int hi), none] S = SO.ret (U.bl b) S := by
  obtain ⟨h1, h2⟩ := Bool.and_eq_true_iff.mp hl
  rcases h with ⟨rfl, h⟩ | ⟨rfl, h⟩ <;> simp (maxDischargeDepth := 8) -implicitDefEqProofs only [sSeq, sIf, sAsg, sRet, sDrop, sSetIx, sNext, sCont, NK.tAnd, NK.tOr, NK.tNot, NK.tTru, NK.tB, eOp, eUn, eCB, eIf, eAnd, eOr, eNot, eVar, eC, aCons, aNil, gN, ob, xb, NK.os, NK.xs, nb, rb, kb, eb, List.getElem?_cons_zero, List.getElem?_cons_succ, List.set_cons_zero, List.set_cons_succ, ↓reduceIte, Bool.false_eq_true, Bool.not_true, Bool.not_false, fAdd_i, fSub_i, fNeg_i, fInt_i, fAbs_i, fLt_i, fLe_i, fGt_i, fMin_i, fIsN_n, fNotN_n, fLen_lst, fLen_tup, fTuple_lst, fTuple_tup, U.isNon, truth, fMod_i, fDiv_i, fMul_i, Int.reduceLT, Int.reduceNeg, Int.reducePow, Int.reduceLE, or_true, true_or, and_self, and_true, true_and, eCall, List.append_nil, List.length_cons, List.length_nil, Nat.reduceAdd, Nat.zero_add, eIsi, trOf, isa_int_none, isa_int_bool, isa_int_int, isa_int_str, isa_int_tuple, isa_int_list, isa_bool_none, isa_bool_bool, isa_bool_int, isa_bool_str, isa_bool_tuple, isa_bool_list, isa_str_none, isa_str_bool, isa_str_int, isa_str_str, isa_str_tuple, isa_str_list, isa_seq_none, isa_seq_bool, isa_seq_int, isa_seq_str, isa_seq_tuple, isa_seq_list, isa_tup_none, isa_tup_bool, isa_tup_int, isa_tup_str, isa_tup_tuple, isa_tup_list, isa_int_dict, isa_bool_dict, isa_str_dict, isa_seq_dict, eChain, len_str hx, h1, h2, h]
theorem way_body2 {lp : MS} {x : Str} (hx : x.cps.size ≤ 1000) (hl : inLen x lo hi = false) : (sSeq (sIf (tOr (tNot (tTru (eIsi isl [(.b .str)] (eVar 0)))) (tNot (NK.tB (eChain fLe fLe (eVar 1) (eCB fLen (aCons (eVar 0) aNil)) (eVar 2))))) (sRet (eC (.bl false))) sNext)
    (sSeq lp
    (sRet (eC (.bl true))))) [some (U.str x), some (U.int lo), some (U.int hi), none] S = SO.ret (U.bl false) S := by
  by_cases h1 : lo ≤ (x.cps.size : Int)
  · have h2 : decide ((x.cps.size : Int) ≤ hi) = false := by
      unfold inLen at hl
      rw [decide_eq_true h1, Bool.true_and] at hl
      exact hl
    simp (maxDischargeDepth := 8) -implicitDefEqProofs only [sSeq, sIf, sAsg, sRet, sDrop, sSetIx, sNext, sCont, NK.tAnd, NK.tOr, NK.tNot, NK.tTru, NK.tB, eOp, eUn, eCB, eIf, eAnd, eOr, eNot, eVar, eC, aCons, aNil, gN, ob, xb, NK.os, NK.xs, nb, rb, kb, eb, List.getElem?_cons_zero, List.getElem?_cons_succ, List.set_cons_zero, List.set_cons_succ, ↓reduceIte, Bool.false_eq_true, Bool.not_true, Bool.not_false, fAdd_i, fSub_i, fNeg_i, fInt_i, fAbs_i, fLt_i, fLe_i, fGt_i, fMin_i, fIsN_n, fNotN_n, fLen_lst, fLen_tup, fTuple_lst, fTuple_tup, U.isNon, truth, fMod_i, fDiv_i, fMul_i, Int.reduceLT, Int.reduceNeg, Int.reducePow, Int.reduceLE, or_true, true_or, and_self, and_true, true_and, eCall, List.append_nil, List.length_cons, List.length_nil, Nat.reduceAdd, Nat.zero_add, eIsi, trOf, isa_int_none, isa_int_bool, isa_int_int, isa_int_str, isa_int_tuple, isa_int_list, isa_bool_none, isa_bool_bool, isa_bool_int, isa_bool_str, isa_bool_tuple, isa_bool_list, isa_str_none, isa_str_bool, isa_str_int, isa_str_str, isa_str_tuple, isa_str_list, isa_seq_none, isa_seq_bool, isa_seq_int, isa_seq_str, isa_seq_tuple, isa_seq_list, isa_tup_none, isa_tup_bool, isa_tup_int, isa_tup_str, isa_tup_tuple, isa_tup_list, isa_int_dict, isa_bool_dict, isa_str_dict, isa_seq_dict, eChain, len_str hx, decide_eq_true h1, h2]
  · simp (maxDischargeDepth := 8) -implicitDefEqProofs only [sSeq, sIf, sAsg, sRet, sDrop, sSetIx, sNext, sCont, NK.tAnd, NK.tOr, NK.tNot, NK.tTru, NK.tB, eOp, eUn, eCB, eIf, eAnd, eOr, eNot, eVar, eC, aCons, aNil, gN, ob, xb, NK.os, NK.xs, nb, rb, kb, eb, List.getElem?_cons_zero, List.getElem?_cons_succ, List.set_cons_zero, List.set_cons_succ, ↓reduceIte, Bool.false_eq_true, Bool.not_true, Bool.not_false, fAdd_i, fSub_i, fNeg_i, fInt_i, fAbs_i, fLt_i, fLe_i, fGt_i, fMin_i, fIsN_n, fNotN_n, fLen_lst, fLen_tup, fTuple_lst, fTuple_tup, U.isNon, truth, fMod_i, fDiv_i, fMul_i, Int.reduceLT, Int.reduceNeg, Int.reducePow, Int.reduceLE, or_true, true_or, and_self, and_true, true_and, eCall, List.append_nil, List.length_cons, List.length_nil, Nat.reduceAdd, Nat.zero_add, eIsi, trOf, isa_int_none, isa_int_bool, isa_int_int, isa_int_str, isa_int_tuple, isa_int_list, isa_bool_none, isa_bool_bool, isa_bool_int, isa_bool_str, isa_bool_tuple, isa_bool_list, isa_str_none, isa_str_bool, isa_str_int, isa_str_str, isa_str_tuple, isa_str_list, isa_seq_none, isa_seq_bool, isa_seq_int, isa_seq_str, isa_seq_tuple, isa_seq_list, isa_tup_none, isa_tup_bool, isa_tup_int, isa_tup_str, isa_tup_tuple, isa_tup_list, isa_int_dict, isa_bool_dict, isa_str_dict, isa_seq_dict, eChain, len_str hx, decide_eq_false h1]
theorem way_body3 {lp : MS} {t : Tr} {e1 e2 e3 : Option U} (ht : trOf u S = some t) (ha : isAny isl t [.b .str] = some false) : (sSeq (sIf (tOr (tNot (tTru (eIsi isl [(.b .str)] (eVar 0)))) (tNot (NK.tB (eChain fLe fLe (eVar 1) (eCB fLen (aCons (eVar 0) aNil)) (eVar 2))))) (sRet (eC (.bl false))) sNext)
    (sSeq lp
    (sRet (eC (.bl true))))) [some u, e1, e2, e3] S = SO.ret (U.bl false) S := by
  simp (maxDischargeDepth := 8) -implicitDefEqProofs only [sSeq, sIf, sAsg, sRet, sDrop, sSetIx, sNext, sCont, NK.tAnd, NK.tOr, NK.tNot, NK.tTru, NK.tB, eOp, eUn, eCB, eIf, eAnd, eOr, eNot, eVar, eC, aCons, aNil, gN, ob, xb, NK.os, NK.xs, nb, rb, kb, eb, List.getElem?_cons_zero, List.getElem?_cons_succ, List.set_cons_zero, List.set_cons_succ, ↓reduceIte, Bool.false_eq_true, Bool.not_true, Bool.not_false, fAdd_i, fSub_i, fNeg_i, fInt_i, fAbs_i, fLt_i, fLe_i, fGt_i, fMin_i, fIsN_n, fNotN_n, fLen_lst, fLen_tup, fTuple_lst, fTuple_tup, U.isNon, truth, fMod_i, fDiv_i, fMul_i, Int.reduceLT, Int.reduceNeg, Int.reducePow, Int.reduceLE, or_true, true_or, and_self, and_true, true_and, eCall, List.append_nil, List.length_cons, List.length_nil, Nat.reduceAdd, Nat.zero_add, eIsi, ht, ha]
theorem way_ok (h : Th u S) : m_is_way [u, U.int lo, U.int hi] S = Out.ok (U.bl (wayU lo hi u)) S := by
  rcases th_cases h with ⟨x, rfl, hx⟩ | ⟨hn, t, ht, ha⟩
  · have hx : x.cps.size ≤ 1000 := hx.2
    cases hl : inLen x lo hi with
    | true =>
      have e : wayU lo hi (U.str x) = x.cps.toList.all fun k => twoU "f" "m" (U.str (sgn k)) := by
        show (inLen x lo hi && _) = _
        rw [hl, Bool.true_and]
      rw [e]
      rcases way_loop (S := S) (e0 := some (U.str x)) (e1 := some (U.int lo)) (e2 := some (U.int hi)) x.cps.toList none with ⟨q, env', f⟩ | ⟨q, f⟩
      · exact fs_same (n := 4) (mb := b_is_way) rfl (way_body (env' := env') hx hl (.inl ⟨q, sFor_ok rfl f⟩)) rfl
      · exact fs_same (n := 4) (mb := b_is_way) rfl (way_body (env' := []) hx hl (.inr ⟨q, sFor_ok rfl f⟩)) rfl
    | false =>
      have e : wayU lo hi (U.str x) = false := by
        show (inLen x lo hi && _) = _
        rw [hl, Bool.false_and]
      rw [e]
      exact fs_same (n := 4) (mb := b_is_way) rfl (way_body2 hx hl) rfl
  · have e : wayU lo hi u = false := by
      cases u with
      | str x => exact absurd rfl (hn x)
      | _ => rfl
    rw [e]
    exact fs_same (n := 4) (mb := b_is_way) rfl (way_body3 ht ha) rfl
/-! only -/
def onlyU (s : Str) (lo hi : Int) (u : U) : Bool := match u with
  | .str x => inLen x lo hi && x.cps.toList.all fun k => occ s (sgn k)
  | _ => false
theorem okU_sgn {x : Str} (h : PyData.strOk x = true) {k : Nat} (hk : k ∈ x.cps.toList) (n : Nat) : okU (n + 1) (U.str (sgn k)) = true := by
  have h2 : PyData.strOk (sgn k) = true := by
    unfold PyData.strOk at h ⊢
    rw [← Array.all_toList, List.all_eq_true] at h ⊢
    intro c hc
    have : c = k := by simpa [sgn] using hc
    subst this
    exact h _ hk
  show PyData.canLay0 (.str _) = true
  simpa only [PyData.canLay0] using h2
theorem only_body {oc : ME} {x s : Str} {ws : List U} {e4 : Option U} (hx : x.cps.size ≤ 1000) (hl : inLen x lo hi = true) (h : oc [some (U.str x), some (U.str s), some (U.int lo), some (U.int hi), e4] S = Out.ok (U.lst ws) S) (he : fEq (U.lst ws) (U.lst []) S = Out.ok (U.bl ws.isEmpty) S) :
    (sSeq (sIf (tOr (tNot (tTru (eIsi isl [(.b .str)] (eVar 0)))) (tNot (NK.tB (eChain fLe fLe (eVar 2) (eCB fLen (aCons (eVar 0) aNil)) (eVar 3))))) (sRet (eC (.bl false))) sNext)
    (sRet (eOp fEq oc (eScope (eLst aNil))))) [some (U.str x), some (U.str s), some (U.int lo), some (U.int hi), e4] S = SO.ret (U.bl ws.isEmpty) S := by
  obtain ⟨h1, h2⟩ := Bool.and_eq_true_iff.mp hl
  have nil : eScope (eLst aNil) [some (U.str x), some (U.str s), some (U.int lo), some (U.int hi), e4] S = Out.ok (U.lst []) S := sc_loc (st := S) (st2 := S) (j := 0) [Ob.lst []] (Old.refl S) rfl rfl
  generalize eScope (eLst aNil) = en at nil ⊢
  simp (maxDischargeDepth := 8) -implicitDefEqProofs only [sSeq, sIf, sAsg, sRet, sDrop, sSetIx, sNext, sCont, NK.tAnd, NK.tOr, NK.tNot, NK.tTru, NK.tB, eOp, eUn, eCB, eIf, eAnd, eOr, eNot, eVar, eC, aCons, aNil, gN, ob, xb, NK.os, NK.xs, nb, rb, kb, eb, List.getElem?_cons_zero, List.getElem?_cons_succ, List.set_cons_zero, List.set_cons_succ, ↓reduceIte, Bool.false_eq_true, Bool.not_true, Bool.not_false, fAdd_i, fSub_i, fNeg_i, fInt_i, fAbs_i, fLt_i, fLe_i, fGt_i, fMin_i, fIsN_n, fNotN_n, fLen_lst, fLen_tup, fTuple_lst, fTuple_tup, U.isNon, truth, fMod_i, fDiv_i, fMul_i, Int.reduceLT, Int.reduceNeg, Int.reducePow, Int.reduceLE, or_true, true_or, and_self, and_true, true_and, eCall, List.append_nil, List.length_cons, List.length_nil, Nat.reduceAdd, Nat.zero_add, eIsi, trOf, isa_int_none, isa_int_bool, isa_int_int, isa_int_str, isa_int_tuple, isa_int_list, isa_bool_none, isa_bool_bool, isa_bool_int, isa_bool_str, isa_bool_tuple, isa_bool_list, isa_str_none, isa_str_bool, isa_str_int, isa_str_str, isa_str_tuple, isa_str_list, isa_seq_none, isa_seq_bool, isa_seq_int, isa_seq_str, isa_seq_tuple, isa_seq_list, isa_tup_none, isa_tup_bool, isa_tup_int, isa_tup_str, isa_tup_tuple, isa_tup_list, isa_int_dict, isa_bool_dict, isa_str_dict, isa_seq_dict, eChain, len_str hx, h1, h2, h, he, nil]
theorem only_body2 {oc : ME} {x s : Str} {e4 : Option U} (hx : x.cps.size ≤ 1000) (hl : inLen x lo hi = false) : (sSeq (sIf (tOr (tNot (tTru (eIsi isl [(.b .str)] (eVar 0)))) (tNot (NK.tB (eChain fLe fLe (eVar 2) (eCB fLen (aCons (eVar 0) aNil)) (eVar 3))))) (sRet (eC (.bl false))) sNext)
    (sRet (eOp fEq oc (eScope (eLst aNil))))) [some (U.str x), some (U.str s), some (U.int lo), some (U.int hi), e4] S = SO.ret (U.bl false) S := by
  by_cases h1 : lo ≤ (x.cps.size : Int)
  · have h2 : decide ((x.cps.size : Int) ≤ hi) = false := by
      unfold inLen at hl
      rw [decide_eq_true h1, Bool.true_and] at hl
      exact hl
    simp (maxDischargeDepth := 8) -implicitDefEqProofs only [sSeq, sIf, sAsg, sRet, sDrop, sSetIx, sNext, sCont, NK.tAnd, NK.tOr, NK.tNot, NK.tTru, NK.tB, eOp, eUn, eCB, eIf, eAnd, eOr, eNot, eVar, eC, aCons, aNil, gN, ob, xb, NK.os, NK.xs, nb, rb, kb, eb, List.getElem?_cons_zero, List.getElem?_cons_succ, List.set_cons_zero, List.set_cons_succ, ↓reduceIte, Bool.false_eq_true, Bool.not_true, Bool.not_false, fAdd_i, fSub_i, fNeg_i, fInt_i, fAbs_i, fLt_i, fLe_i, fGt_i, fMin_i, fIsN_n, fNotN_n, fLen_lst, fLen_tup, fTuple_lst, fTuple_tup, U.isNon, truth, fMod_i, fDiv_i, fMul_i, Int.reduceLT, Int.reduceNeg, Int.reducePow, Int.reduceLE, or_true, true_or, and_self, and_true, true_and, eCall, List.append_nil, List.length_cons, List.length_nil, Nat.reduceAdd, Nat.zero_add, eIsi, trOf, isa_int_none, isa_int_bool, isa_int_int, isa_int_str, isa_int_tuple, isa_int_list, isa_bool_none, isa_bool_bool, isa_bool_int, isa_bool_str, isa_bool_tuple, isa_bool_list, isa_str_none, isa_str_bool, isa_str_int, isa_str_str, isa_str_tuple, isa_str_list, isa_seq_none, isa_seq_bool, isa_seq_int, isa_seq_str, isa_seq_tuple, isa_seq_list, isa_tup_none, isa_tup_bool, isa_tup_int, isa_tup_str, isa_tup_tuple, isa_tup_list, isa_int_dict, isa_bool_dict, isa_str_dict, isa_seq_dict, eChain, len_str hx, decide_eq_true h1, h2]
  · simp (maxDischargeDepth := 8) -implicitDefEqProofs only [sSeq, sIf, sAsg, sRet, sDrop, sSetIx, sNext, sCont, NK.tAnd, NK.tOr, NK.tNot, NK.tTru, NK.tB, eOp, eUn, eCB, eIf, eAnd, eOr, eNot, eVar, eC, aCons, aNil, gN, ob, xb, NK.os, NK.xs, nb, rb, kb, eb, List.getElem?_cons_zero, List.getElem?_cons_succ, List.set_cons_zero, List.set_cons_succ, ↓reduceIte, Bool.false_eq_true, Bool.not_true, Bool.not_false, fAdd_i, fSub_i, fNeg_i, fInt_i, fAbs_i, fLt_i, fLe_i, fGt_i, fMin_i, fIsN_n, fNotN_n, fLen_lst, fLen_tup, fTuple_lst, fTuple_tup, U.isNon, truth, fMod_i, fDiv_i, fMul_i, Int.reduceLT, Int.reduceNeg, Int.reducePow, Int.reduceLE, or_true, true_or, and_self, and_true, true_and, eCall, List.append_nil, List.length_cons, List.length_nil, Nat.reduceAdd, Nat.zero_add, eIsi, trOf, isa_int_none, isa_int_bool, isa_int_int, isa_int_str, isa_int_tuple, isa_int_list, isa_bool_none, isa_bool_bool, isa_bool_int, isa_bool_str, isa_bool_tuple, isa_bool_list, isa_str_none, isa_str_bool, isa_str_int, isa_str_str, isa_str_tuple, isa_str_list, isa_seq_none, isa_seq_bool, isa_seq_int, isa_seq_str, isa_seq_tuple, isa_seq_list, isa_tup_none, isa_tup_bool, isa_tup_int, isa_tup_str, isa_tup_tuple, isa_tup_list, isa_int_dict, isa_bool_dict, isa_str_dict, isa_seq_dict, eChain, len_str hx, decide_eq_false h1]
theorem only_body3 {oc : ME} {t : Tr} {e1 e2 e3 e4 : Option U} (ht : trOf u S = some t) (ha : isAny isl t [.b .str] = some false) : (sSeq (sIf (tOr (tNot (tTru (eIsi isl [(.b .str)] (eVar 0)))) (tNot (NK.tB (eChain fLe fLe (eVar 2) (eCB fLen (aCons (eVar 0) aNil)) (eVar 3))))) (sRet (eC (.bl false))) sNext)
    (sRet (eOp fEq oc (eScope (eLst aNil))))) [some u, e1, e2, e3, e4] S = SO.ret (U.bl false) S := by
  simp (maxDischargeDepth := 8) -implicitDefEqProofs only [sSeq, sIf, sAsg, sRet, sDrop, sSetIx, sNext, sCont, NK.tAnd, NK.tOr, NK.tNot, NK.tTru, NK.tB, eOp, eUn, eCB, eIf, eAnd, eOr, eNot, eVar, eC, aCons, aNil, gN, ob, xb, NK.os, NK.xs, nb, rb, kb, eb, List.getElem?_cons_zero, List.getElem?_cons_succ, List.set_cons_zero, List.set_cons_succ, ↓reduceIte, Bool.false_eq_true, Bool.not_true, Bool.not_false, fAdd_i, fSub_i, fNeg_i, fInt_i, fAbs_i, fLt_i, fLe_i, fGt_i, fMin_i, fIsN_n, fNotN_n, fLen_lst, fLen_tup, fTuple_lst, fTuple_tup, U.isNon, truth, fMod_i, fDiv_i, fMul_i, Int.reduceLT, Int.reduceNeg, Int.reducePow, Int.reduceLE, or_true, true_or, and_self, and_true, true_and, eCall, List.append_nil, List.length_cons, List.length_nil, Nat.reduceAdd, Nat.zero_add, eIsi, ht, ha]
theorem eqv_nil (ws : List U) : eqvU (U.lst ws) (U.lst []) = ws.isEmpty := by
  cases ws <;> simp [eqvU, datU, datL, PyData.eqv, PyData.eqvAll]
theorem only_ok {s : Str} (h : Th u S) : m_u_law_only [u, U.str s, U.int lo, U.int hi] S = Out.ok (U.bl (onlyU s lo hi u)) S := by
  rcases th_cases h with ⟨x, rfl, hx⟩ | ⟨hn, t, ht, ha⟩
  · have hs : x.cps.size ≤ 1000 := hx.2
    cases hl : inLen x lo hi with
    | true =>
      have e := comp_scope (i := 4) (mt := NK.tB (eOp (fInS true) (eVar 4) (eVar 1))) (me := eVar 4) (mi := iSeq (eVar 0)) (env := [some (U.str x), some (U.str s), some (U.int lo), some (U.int hi), none]) (st := S) (g := fun _ => True) id (fun u => match u with | .str c => !occ s c | _ => false) (us := signs x) rfl (fun _ => True.intro) (by
          unfold signs
          rw [List.length_map, Array.length_toList]
          omega) (fun u hu acc => by
        unfold signs at hu
        rw [List.mem_map] at hu
        obtain ⟨k, _, rfl⟩ := hu
        have hs : [some (U.str x), some (U.str s), some (U.int lo), some (U.int hi), none].set 4 (some (U.str (sgn k))) = [some (U.str x), some (U.str s), some (U.int lo), some (U.int hi), some (U.str (sgn k))] := rfl
        rw [hs]
        exact ⟨by simp only [NK.tB, eOp, eVar, List.getElem?_cons_zero, List.getElem?_cons_succ, ob, inS_n], fun _ => rfl⟩) (underL_all fun u hu => by
        rw [List.map_id] at hu
        have := (List.mem_filter.mp hu).1
        unfold signs at this
        rw [List.mem_map] at this
        obtain ⟨k, _, rfl⟩ := this
        rfl)
      rw [List.map_id] at e
      have c : ((signs x).filter (fun u => match u with | .str c => !occ s c | _ => false)).isEmpty = x.cps.toList.all fun k => occ s (sgn k) := by
        unfold signs
        rw [List.filter_map]
        generalize x.cps.toList = ks
        induction ks with
        | nil => rfl
        | cons k ks ih =>
          rw [List.all_cons]
          cases q : occ s (sgn k) with
          | true =>
            rw [List.filter_cons_of_neg (by simp [q]), Bool.true_and]
            exact ih
          | false =>
            rw [List.filter_cons_of_pos (by simp [q])]
            rfl
      have okk : okU 12 (U.lst ((signs x).filter (fun u => match u with | .str c => !occ s c | _ => false))) = true := List.all_eq_true.mpr fun u hu => by
        have := (List.mem_filter.mp hu).1
        unfold signs at this
        rw [List.mem_map] at this
        obtain ⟨k, hk, rfl⟩ := this
        exact okU_sgn hx.1 hk 10
      have he := fEq_ok (st := S) okk (w := U.lst []) rfl
      rw [eqv_nil] at he
      have b := only_body hs hl e he
      rw [c] at b
      have e2 : onlyU s lo hi (U.str x) = x.cps.toList.all fun k => occ s (sgn k) := by
        show (inLen x lo hi && _) = _
        rw [hl, Bool.true_and]
      rw [e2]
      exact fs_same (n := 5) (mb := b_u_law_only) rfl b rfl
    | false =>
      have e : onlyU s lo hi (U.str x) = false := by
        show (inLen x lo hi && _) = _
        rw [hl, Bool.false_and]
      rw [e]
      exact fs_same (n := 5) (mb := b_u_law_only) rfl (only_body2 hs hl) rfl
  · have e : onlyU s lo hi u = false := by
      cases u with
      | str x => exact absurd rfl (hn x)
      | _ => rfl
    rw [e]
    exact fs_same (n := 5) (mb := b_u_law_only) rfl (only_body3 ht ha) rfl
end
/-- the letters of a way, asked in two manners -/
theorem occ_fm (k : Nat) : occ (Str.ofString "fm") (sgn k) = twoU "f" "m" (U.str (sgn k)) := by
  by_cases h1 : k = 102
  · subst h1
    decide +kernel
  · by_cases h2 : k = 109
    · subst h2
      decide +kernel
    · have e1 : occ (Str.ofString "fm") (sgn k) = false := by
        unfold occ
        rw [PySem.W.occ_nil_of_no]
        · rfl
        · intro i hi
          have hs : (Str.ofString "fm") = ⟨#[102, 109]⟩ := by decide +kernel
          rw [hs] at hi ⊢
          have hi2 : i + 1 ≤ 2 := hi
          have : i = 0 ∨ i = 1 := by omega
          rcases this with rfl | rfl
          · show ((#[102, 109] : Array Nat).extract 0 1 == #[k]) = false
            simp
            omega
          · show ((#[102, 109] : Array Nat).extract 1 2 == #[k]) = false
            simp
            omega
      have e2 : twoU "f" "m" (U.str (sgn k)) = false := by
        have f : (Str.ofString "f") = ⟨#[102]⟩ := by decide +kernel
        have m : (Str.ofString "m") = ⟨#[109]⟩ := by decide +kernel
        show (Str.ofString "f" == sgn k || Str.ofString "m" == sgn k) = false
        rw [f, m]
        have a : ((⟨#[102]⟩ : Str) == sgn k) = false := beq_eq_false_iff_ne.mpr fun e => h1 (by simpa [sgn] using e.symm)
        have b : ((⟨#[109]⟩ : Str) == sgn k) = false := beq_eq_false_iff_ne.mpr fun e => h2 (by simpa [sgn] using e.symm)
        rw [a, b]
        rfl
      rw [e1, e2]
theorem way_only {lo hi : Int} {u : U} : onlyU (Str.ofString "fm") lo hi u = wayU lo hi u := by
  cases u with
  | str x => simp only [onlyU, wayU, occ_fm]
  | _ => rfl
theorem lab_only {u : U} : onlyU abc 1 6 u = labU u := by
  cases u <;> rfl
end G

set_option Elab.async false
set_option linter.all false
set_option maxRecDepth 100000
set_option maxHeartbeats 4000000
/-! Q03e: questions; odd things. -/
namespace G
open PySem L2 NK
def lstK (xs : List U) (st1 : Sto) : Out U := if xs.length ≤ 16777216 then .ok (.loc st1.length) (st1 ++ [.lst xs]) else .bad
theorem lstK_nil {st : Sto} : lstK [] st = .ok (.loc st.length) (st ++ [.lst []]) := by
  unfold lstK
  exact if_pos (Nat.zero_le _)
theorem lstK_ok {xs : List U} {st : Sto} (h : xs.length ≤ 1000) : lstK xs st = .ok (.loc st.length) (st ++ [.lst xs]) := by
  unfold lstK
  rw [if_pos (Nat.le_trans h (by omega))]
theorem eLst_k {ma : MA} {env : NK.Env} {st : Sto} : eLst ma env st = (ma env st).bind lstK := rfl
theorem esl {ma : MA} {env : NK.Env} {st : Sto} : eScope (eLst ma) env st = scopeOut st ((ma env st).bind lstK) := rfl
theorem sc_lit {us : List U} {st : Sto} {k : Nat} (hk : k = st.length) (h : U.underL 0 us = true) : scopeOut st (.ok (.loc k) (st ++ [.lst us])) = .ok (.lst us) st := by
  subst hk
  exact sc_loc (j := 0) [.lst us] (Old.refl st) rfl h
theorem pw62 : (2 : Int) ^ 62 = 4611686018427387904 := by decide
theorem rng_ok {ma : MA} {env : NK.Env} {st st1 : Sto} {n : Nat} (h : ma env st = .ok [.int (n : Int)] st1) (hn : n ≤ 1000) : NK.iRng1 ma env st = .ok ⟨(List.range n).map fun (i : Nat) => .int (0 + (i : Int)), fun _ => True⟩ st1 := by
  unfold NK.iRng1
  rw [h, ob]
  show (if -(2 ^ 62) ≤ (n : Int) ∧ (n : Int) < 2 ^ 62 then _ else _) = _
  rw [pw62, if_pos ⟨by omega, by omega⟩, Int.toNat_natCast]

theorem pow30 {S : Sto} : fPow (U.int 10) (U.int 30) S = Out.ok (U.int 1000000000000000000000000000000) S := by
  show (if cPow 10 30 = true then Out.ok (U.int ((10 : Int) ^ (30 : Int).toNat)) S else .bad) = _
  rw [if_pos (by decide)]
  rfl
theorem pow31 {S : Sto} : fPow (U.int 10) (U.int 31) S = Out.ok (U.int 10000000000000000000000000000000) S := by
  show (if cPow 10 31 = true then Out.ok (U.int ((10 : Int) ^ (31 : Int).toNat)) S else .bad) = _
  rw [if_pos (by decide)]
  rfl
theorem ne_bl {b : Bool} {S : Sto} : fNe (U.bl b) (U.bl b) S = Out.ok (U.bl false) S := by
  rw [fNe_ok rfl rfl, eqvU_same rfl]
  rfl
theorem q_step {us : List U} {k : Nat} {b : Bool} {e0 e1 e2 e3 e6 : Option U} {S : Sto} (hk : us[k]? = some (U.bl b)) :
    l_u_law_questions_1 [e0, e1, e2, e3, some (U.lst us), some (U.lst us), some (U.int (0 + (k : Int)))] S = SO.next [e0, e1, e2, e3, some (U.lst us), some (U.lst us), some (U.int (0 + (k : Int)))] S := by
  have hx : fIx (U.lst us) (U.int (0 + (k : Int))) S = Out.ok (U.bl b) S := by
    rw [Int.zero_add]
    exact fIx_lst (by rw [NK.atI_nat]; exact hk)
  unfold l_u_law_questions_1
  simp (maxDischargeDepth := 8) -implicitDefEqProofs only [sSeq, sIf, sAsg, sRet, sDrop, sSetIx, sNext, sCont, NK.tAnd, NK.tOr, NK.tNot, NK.tTru, NK.tB, eOp, eUn, eCB, eIf, eAnd, eOr, eNot, eVar, eC, aCons, aNil, gN, ob, xb, NK.os, NK.xs, nb, rb, kb, eb, List.getElem?_cons_zero, List.getElem?_cons_succ, List.set_cons_zero, List.set_cons_succ, ↓reduceIte, Bool.false_eq_true, Bool.not_true, Bool.not_false, fAdd_i, fSub_i, fNeg_i, fInt_i, fAbs_i, fLt_i, fLe_i, fGt_i, fMin_i, fIsN_n, fNotN_n, fLen_lst, fLen_tup, fTuple_lst, fTuple_tup, U.isNon, truth, fMod_i, fDiv_i, fMul_i, Int.reduceLT, Int.reduceNeg, Int.reducePow, Int.reduceLE, or_true, true_or, and_self, and_true, true_and, eCall, List.append_nil, List.length_cons, List.length_nil, Nat.reduceAdd, Nat.zero_add, eIsi, trOf, isa_int_none, isa_int_bool, isa_int_int, isa_int_str, isa_int_tuple, isa_int_list, isa_bool_none, isa_bool_bool, isa_bool_int, isa_bool_str, isa_bool_tuple, isa_bool_list, isa_str_none, isa_str_bool, isa_str_int, isa_str_str, isa_str_tuple, isa_str_list, isa_seq_none, isa_seq_bool, isa_seq_int, isa_seq_str, isa_seq_tuple, isa_seq_list, isa_tup_none, isa_tup_bool, isa_tup_int, isa_tup_str, isa_tup_tuple, isa_tup_list, isa_int_dict, isa_bool_dict, isa_str_dict, isa_seq_dict, hx, ne_bl]
theorem q_loop {bs : List Bool} {e0 e1 e2 e3 : Option U} {S : Sto} : ∀ (ks : List Nat) (e6 : Option U), (∀ k ∈ ks, k < bs.length) → ∃ f6, forM (fun _ => True) (gN 6) l_u_law_questions_1 (ks.map fun (i : Nat) => U.int (0 + (i : Int))) [e0, e1, e2, e3, some (U.lst (bs.map U.bl)), some (U.lst (bs.map U.bl)), e6] S = SO.next [e0, e1, e2, e3, some (U.lst (bs.map U.bl)), some (U.lst (bs.map U.bl)), f6] S
  | [], e6, _ => ⟨e6, forM_nil True.intro⟩
  | k :: ks, e6, h => by
    obtain ⟨f6, e⟩ := q_loop (bs := bs) (e0 := e0) (e1 := e1) (e2 := e2) (e3 := e3) (S := S) ks (some (U.int (0 + (k : Int)))) fun j hj => h j (List.mem_cons_of_mem _ hj)
    have hk := h k List.mem_cons_self
    refine ⟨f6, ?_⟩
    rw [List.map_cons, forM_n (env1 := [e0, e1, e2, e3, some (U.lst (bs.map U.bl)), some (U.lst (bs.map U.bl)), some (U.int (0 + (k : Int)))]) True.intro rfl (q_step (b := bs[k]) (e6 := e6) (by rw [List.getElem?_map, List.getElem?_eq_getElem hk]; rfl)), e]
theorem k4_ok {u : U} {S : Sto} {e1 e2 e3 e4 e5 e6 : Option U} (h : Th u S) : (eAnd (eIsi isl [(.b .str)] (eVar 0)) (eOp (fIn false) (eVar 0) (eScope (eLst (aCons (eC (.str "s")) (aCons (eC (.str "d")) aNil)))))) [some u, e1, e2, e3, e4, e5, e6] S = Out.ok (U.bl (twoU "s" "d" u)) S := by
  rcases th_cases h with ⟨x, rfl, _⟩ | ⟨hn, t, ht, ha⟩
  · have li : eScope (eLst (aCons (eC (.str "s")) (aCons (eC (.str "d")) aNil))) [some (U.str x), e1, e2, e3, e4, e5, e6] S = Out.ok (U.lst [U.str (Str.ofString "s"), U.str (Str.ofString "d")]) S := by
      simp (maxDischargeDepth := 8) -implicitDefEqProofs only [sSeq, sIf, sAsg, sRet, sDrop, sSetIx, sNext, sCont, NK.tAnd, NK.tOr, NK.tNot, NK.tTru, NK.tB, eOp, eUn, eCB, eIf, eAnd, eOr, eNot, eVar, eC, aCons, aNil, gN, ob, xb, NK.os, NK.xs, nb, rb, kb, eb, List.getElem?_cons_zero, List.getElem?_cons_succ, List.set_cons_zero, List.set_cons_succ, ↓reduceIte, Bool.false_eq_true, Bool.not_true, Bool.not_false, fAdd_i, fSub_i, fNeg_i, fInt_i, fAbs_i, fLt_i, fLe_i, fGt_i, fMin_i, fIsN_n, fNotN_n, fLen_lst, fLen_tup, fTuple_lst, fTuple_tup, U.isNon, truth, fMod_i, fDiv_i, fMul_i, Int.reduceLT, Int.reduceNeg, Int.reducePow, Int.reduceLE, or_true, true_or, and_self, and_true, true_and, eCall, List.append_nil, List.length_cons, List.length_nil, Nat.reduceAdd, Nat.zero_add, esl, lstK_ok, Nat.reduceLeDiff, sc_lit, U.underL, U.under, Bool.and_self]
    simp (maxDischargeDepth := 8) -implicitDefEqProofs only [sSeq, sIf, sAsg, sRet, sDrop, sSetIx, sNext, sCont, NK.tAnd, NK.tOr, NK.tNot, NK.tTru, NK.tB, eOp, eUn, eCB, eIf, eAnd, eOr, eNot, eVar, eC, aCons, aNil, gN, ob, xb, NK.os, NK.xs, nb, rb, kb, eb, List.getElem?_cons_zero, List.getElem?_cons_succ, List.set_cons_zero, List.set_cons_succ, ↓reduceIte, Bool.false_eq_true, Bool.not_true, Bool.not_false, fAdd_i, fSub_i, fNeg_i, fInt_i, fAbs_i, fLt_i, fLe_i, fGt_i, fMin_i, fIsN_n, fNotN_n, fLen_lst, fLen_tup, fTuple_lst, fTuple_tup, U.isNon, truth, fMod_i, fDiv_i, fMul_i, Int.reduceLT, Int.reduceNeg, Int.reducePow, Int.reduceLE, or_true, true_or, and_self, and_true, true_and, eCall, List.append_nil, List.length_cons, List.length_nil, Nat.reduceAdd, Nat.zero_add, eIsi, trOf, isa_int_none, isa_int_bool, isa_int_int, isa_int_str, isa_int_tuple, isa_int_list, isa_bool_none, isa_bool_bool, isa_bool_int, isa_bool_str, isa_bool_tuple, isa_bool_list, isa_str_none, isa_str_bool, isa_str_int, isa_str_str, isa_str_tuple, isa_str_list, isa_seq_none, isa_seq_bool, isa_seq_int, isa_seq_str, isa_seq_tuple, isa_seq_list, isa_tup_none, isa_tup_bool, isa_tup_int, isa_tup_str, isa_tup_tuple, isa_tup_list, isa_int_dict, isa_bool_dict, isa_str_dict, isa_seq_dict, li, in_two_l]
  · rw [two_no hn]
    simp (maxDischargeDepth := 8) -implicitDefEqProofs only [sSeq, sIf, sAsg, sRet, sDrop, sSetIx, sNext, sCont, NK.tAnd, NK.tOr, NK.tNot, NK.tTru, NK.tB, eOp, eUn, eCB, eIf, eAnd, eOr, eNot, eVar, eC, aCons, aNil, gN, ob, xb, NK.os, NK.xs, nb, rb, kb, eb, List.getElem?_cons_zero, List.getElem?_cons_succ, List.set_cons_zero, List.set_cons_succ, ↓reduceIte, Bool.false_eq_true, Bool.not_true, Bool.not_false, fAdd_i, fSub_i, fNeg_i, fInt_i, fAbs_i, fLt_i, fLe_i, fGt_i, fMin_i, fIsN_n, fNotN_n, fLen_lst, fLen_tup, fTuple_lst, fTuple_tup, U.isNon, truth, fMod_i, fDiv_i, fMul_i, Int.reduceLT, Int.reduceNeg, Int.reducePow, Int.reduceLE, or_true, true_or, and_self, and_true, true_and, eCall, List.append_nil, List.length_cons, List.length_nil, Nat.reduceAdd, Nat.zero_add, eIsi, ht, ha]
theorem q_body {mw mn ml mk my mx mo : MF} {k4 : ME} {lp : MS} {u : U} {lo hi : Int} {a b c d e : Bool} {S : Sto} {f6 : Option U}
    (h1 : mw [u, U.int lo, U.int hi] S = Out.ok (U.bl a) S) (h2 : mn [u] S = Out.ok (U.bl b) S) (h3 : ml [u] S = Out.ok (U.bl c) S) (h4 : mk [u] S = Out.ok (U.bl d) S) (h5 : my [u, U.int lo, U.int hi] S = Out.ok (U.bl e) S)
    (g1 : mx [u, U.int lo, U.int hi] S = Out.ok (U.bl a) S) (g2 : mx [u, U.int 0, U.int 1000000000000000000000000000000] S = Out.ok (U.bl b) S) (g3 : mo [u, U.str abc, U.int 1, U.int 6] S = Out.ok (U.bl c) S) (g4 : ∀ e1 e2 e3 e4 e5 e6, k4 [some u, e1, e2, e3, e4, e5, e6] S = Out.ok (U.bl d) S) (g5 : mo [u, U.str (Str.ofString "fm"), U.int lo, U.int hi] S = Out.ok (U.bl e) S)
    (hl : lp [some u, some (U.int lo), some (U.int hi), some (U.str abc), some (U.lst [U.bl a, U.bl b, U.bl c, U.bl d, U.bl e]), some (U.lst [U.bl a, U.bl b, U.bl c, U.bl d, U.bl e]), none] S = SO.next [some u, some (U.int lo), some (U.int hi), some (U.str abc), some (U.lst [U.bl a, U.bl b, U.bl c, U.bl d, U.bl e]), some (U.lst [U.bl a, U.bl b, U.bl c, U.bl d, U.bl e]), f6] S) :
    (sSeq (sAsg (eC (.str "abcdefghijklmnopqrstuvwxyz")) (gN 3))
    (sSeq (sAsg (eScope (eLst (aCons (eCall 3 mw [] (aCons (eVar 0) (aCons (eVar 1) (aCons (eVar 2) aNil)))) (aCons (eCall 1 mn [] (aCons (eVar 0) aNil)) (aCons (eCall 1 ml [] (aCons (eVar 0) aNil)) (aCons (eCall 1 mk [] (aCons (eVar 0) aNil)) (aCons (eCall 3 my [] (aCons (eVar 0) (aCons (eVar 1) (aCons (eVar 2) aNil)))) aNil))))))) (gN 4))
    (sSeq (sAsg (eScope (eLst (aCons (eCall 3 mx [] (aCons (eVar 0) (aCons (eVar 1) (aCons (eVar 2) aNil)))) (aCons (eCall 3 mx [] (aCons (eVar 0) (aCons (eC (.int 0)) (aCons (eOp fPow (eC (.int 10)) (eC (.int 30))) aNil)))) (aCons (eCall 4 mo [] (aCons (eVar 0) (aCons (eVar 3) (aCons (eC (.int 1)) (aCons (eC (.int 6)) aNil))))) (aCons k4 (aCons (eCall 4 mo [] (aCons (eVar 0) (aCons (eC (.str "fm")) (aCons (eVar 1) (aCons (eVar 2) aNil))))) aNil))))))) (gN 5))
    (sSeq lp
    (sRet (eC (.bl true))))))) [some u, some (U.int lo), some (U.int hi), none, none, none, none] S = SO.ret (U.bl true) S := by
  simp (maxDischargeDepth := 8) -implicitDefEqProofs only [sSeq, sIf, sAsg, sRet, sDrop, sSetIx, sNext, sCont, NK.tAnd, NK.tOr, NK.tNot, NK.tTru, NK.tB, eOp, eUn, eCB, eIf, eAnd, eOr, eNot, eVar, eC, aCons, aNil, gN, ob, xb, NK.os, NK.xs, nb, rb, kb, eb, List.getElem?_cons_zero, List.getElem?_cons_succ, List.set_cons_zero, List.set_cons_succ, ↓reduceIte, Bool.false_eq_true, Bool.not_true, Bool.not_false, fAdd_i, fSub_i, fNeg_i, fInt_i, fAbs_i, fLt_i, fLe_i, fGt_i, fMin_i, fIsN_n, fNotN_n, fLen_lst, fLen_tup, fTuple_lst, fTuple_tup, U.isNon, truth, fMod_i, fDiv_i, fMul_i, Int.reduceLT, Int.reduceNeg, Int.reducePow, Int.reduceLE, or_true, true_or, and_self, and_true, true_and, eCall, List.append_nil, List.length_cons, List.length_nil, Nat.reduceAdd, Nat.zero_add, esl, lstK_ok, Nat.reduceLeDiff, sc_lit, U.underL, U.under, Bool.and_self, h1, h2, h3, h4, h5, g1, g2, g3, g4, g5, hl, pow30]
theorem questions_ok {u : U} {lo hi : Int} {S : Sto} (h : Th u S) : m_u_law_questions [u, U.int lo, U.int hi] S = Out.ok (U.bl true) S := by
  obtain ⟨f6, l⟩ := q_loop (bs := [isWh u lo hi, isWh u 0 1000000000000000000000000000000, labU u, twoU "s" "d" u, wayU lo hi u]) (e0 := some u) (e1 := some (U.int lo)) (e2 := some (U.int hi)) (e3 := some (U.str abc)) (S := S) (List.range 5) none (fun k hk => by simpa using hk)
  have g3 := only_ok (s := abc) (lo := 1) (hi := 6) h
  rw [lab_only] at g3
  have g5 := only_ok (s := Str.ofString "fm") (lo := lo) (hi := hi) h
  rw [way_only] at g5
  have body : b_u_law_questions [some u, some (U.int lo), some (U.int hi), none, none, none, none] S = SO.ret (U.bl true) S :=
    q_body (whole_ok h) (name_ok h) (label_ok h) (kind_ok h) (way_ok h) (number_ok h) (number_ok h) g3 (fun _ _ _ _ _ _ => k4_ok h) g5 (sFor_ok (rng_ok (n := 5) rfl (by decide)) l)
  exact fs_same (n := 7) (mb := b_u_law_questions) rfl body rfl
/-! ### odd things -/
theorem odd0 {dr pk : MF} {x : Int} {S S1 S2 : Sto} (h : dr [U.loc 0, U.int 8] S = Out.ok (U.int 0) S1) (h2 : dr [U.loc 0, U.int 10000000000000000000000000000000] S1 = Out.ok (U.int x) S2) : (sSeq (sAsg (eCall 2 dr [] (aCons (eVar 0) (aCons (eC (.int 8)) aNil))) (gN 1))
    (sSeq (sIf (NK.tB (eOp fEq (eVar 1) (eC (.int 0)))) (sRet (eOp fSub (eCall 2 dr [] (aCons (eVar 0) (aCons (eOp fPow (eC (.int 10)) (eC (.int 31))) aNil))) (eOp fPow (eC (.int 10)) (eC (.int 30))))) sNext)
    (sSeq (sIf (NK.tB (eOp fEq (eVar 1) (eC (.int 1)))) (sRet (eOp fSub (eOp fAdd (eOp fPow (eC (.int 10)) (eC (.int 30))) (eCall 2 dr [] (aCons (eVar 0) (aCons (eC (.int 3)) aNil)))) (eC (.int 1)))) sNext)
    (sSeq (sIf (NK.tB (eOp fEq (eVar 1) (eC (.int 2)))) (sRet (eOp fSub (eCall 2 dr [] (aCons (eVar 0) (aCons (eC (.int 5)) aNil))) (eC (.int 1)))) sNext)
    (sSeq (sIf (NK.tB (eOp fEq (eVar 1) (eC (.int 3)))) (sRet (eCall 2 pk [] (aCons (eVar 0) (aCons (eLst (aCons (eC (.bl true)) (aCons (eC (.bl false)) (aCons (eC .non) (aCons (eTup aNil) (aCons (eScope (eLst aNil)) (aCons (eTup (aCons (eC (.str "s")) aNil)) (aCons (eDic1 "s" 1) aNil)))))))) aNil)))) sNext)
    (sSeq (sIf (NK.tB (eOp fEq (eVar 1) (eC (.int 4)))) (sRet (eCall 2 pk [] (aCons (eVar 0) (aCons (eScope (eLst (aCons (eC (.str "")) (aCons (eC (.str "s")) (aCons (eC (.str "d")) (aCons (eC (.str "f")) (aCons (eC (.str "m")) (aCons (eC (.str "fm")) (aCons (eC (.str "sd")) (aCons (eC (.str "S")) (aCons (eC (.str "ffm")) (aCons (eC (.str "mfmf")) (aCons (eC (.str " ")) aNil))))))))))))) aNil)))) sNext)
    (sSeq (sAsg (eC (.str "")) (gN 2))
    (sSeq (sFor (iRng1 (aCons (eCall 2 dr [] (aCons (eVar 0) (aCons (eC (.int 9)) aNil))) aNil)) (gN 3) l_u_law_odd_1)
    (sRet (eVar 2)))))))))) [some (U.loc 0), none, none, none] S = SO.ret (U.int (x - 1000000000000000000000000000000)) S2 := by
  simp (maxDischargeDepth := 8) -implicitDefEqProofs only [sSeq, sIf, sAsg, sRet, sDrop, sSetIx, sNext, sCont, NK.tAnd, NK.tOr, NK.tNot, NK.tTru, NK.tB, eOp, eUn, eCB, eIf, eAnd, eOr, eNot, eVar, eC, aCons, aNil, gN, ob, xb, NK.os, NK.xs, nb, rb, kb, eb, List.getElem?_cons_zero, List.getElem?_cons_succ, List.set_cons_zero, List.set_cons_succ, ↓reduceIte, Bool.false_eq_true, Bool.not_true, Bool.not_false, fAdd_i, fSub_i, fNeg_i, fInt_i, fAbs_i, fLt_i, fLe_i, fGt_i, fMin_i, fIsN_n, fNotN_n, fLen_lst, fLen_tup, fTuple_lst, fTuple_tup, U.isNon, truth, fMod_i, fDiv_i, fMul_i, Int.reduceLT, Int.reduceNeg, Int.reducePow, Int.reduceLE, or_true, true_or, and_self, and_true, true_and, eCall, List.append_nil, List.length_cons, List.length_nil, Nat.reduceAdd, Nat.zero_add, h, h2, fEq_ii, beq_self_eq_true, pow30, pow31]
theorem odd1 {dr pk : MF} {x : Int} {S S1 S2 : Sto} (h : dr [U.loc 0, U.int 8] S = Out.ok (U.int 1) S1) (h2 : dr [U.loc 0, U.int 3] S1 = Out.ok (U.int x) S2) : (sSeq (sAsg (eCall 2 dr [] (aCons (eVar 0) (aCons (eC (.int 8)) aNil))) (gN 1))
    (sSeq (sIf (NK.tB (eOp fEq (eVar 1) (eC (.int 0)))) (sRet (eOp fSub (eCall 2 dr [] (aCons (eVar 0) (aCons (eOp fPow (eC (.int 10)) (eC (.int 31))) aNil))) (eOp fPow (eC (.int 10)) (eC (.int 30))))) sNext)
    (sSeq (sIf (NK.tB (eOp fEq (eVar 1) (eC (.int 1)))) (sRet (eOp fSub (eOp fAdd (eOp fPow (eC (.int 10)) (eC (.int 30))) (eCall 2 dr [] (aCons (eVar 0) (aCons (eC (.int 3)) aNil)))) (eC (.int 1)))) sNext)
    (sSeq (sIf (NK.tB (eOp fEq (eVar 1) (eC (.int 2)))) (sRet (eOp fSub (eCall 2 dr [] (aCons (eVar 0) (aCons (eC (.int 5)) aNil))) (eC (.int 1)))) sNext)
    (sSeq (sIf (NK.tB (eOp fEq (eVar 1) (eC (.int 3)))) (sRet (eCall 2 pk [] (aCons (eVar 0) (aCons (eLst (aCons (eC (.bl true)) (aCons (eC (.bl false)) (aCons (eC .non) (aCons (eTup aNil) (aCons (eScope (eLst aNil)) (aCons (eTup (aCons (eC (.str "s")) aNil)) (aCons (eDic1 "s" 1) aNil)))))))) aNil)))) sNext)
    (sSeq (sIf (NK.tB (eOp fEq (eVar 1) (eC (.int 4)))) (sRet (eCall 2 pk [] (aCons (eVar 0) (aCons (eScope (eLst (aCons (eC (.str "")) (aCons (eC (.str "s")) (aCons (eC (.str "d")) (aCons (eC (.str "f")) (aCons (eC (.str "m")) (aCons (eC (.str "fm")) (aCons (eC (.str "sd")) (aCons (eC (.str "S")) (aCons (eC (.str "ffm")) (aCons (eC (.str "mfmf")) (aCons (eC (.str " ")) aNil))))))))))))) aNil)))) sNext)
    (sSeq (sAsg (eC (.str "")) (gN 2))
    (sSeq (sFor (iRng1 (aCons (eCall 2 dr [] (aCons (eVar 0) (aCons (eC (.int 9)) aNil))) aNil)) (gN 3) l_u_law_odd_1)
    (sRet (eVar 2)))))))))) [some (U.loc 0), none, none, none] S = SO.ret (U.int (1000000000000000000000000000000 + x - 1)) S2 := by
  have c : ((1 : Int) == 0) = false := by decide
  simp (maxDischargeDepth := 8) -implicitDefEqProofs only [sSeq, sIf, sAsg, sRet, sDrop, sSetIx, sNext, sCont, NK.tAnd, NK.tOr, NK.tNot, NK.tTru, NK.tB, eOp, eUn, eCB, eIf, eAnd, eOr, eNot, eVar, eC, aCons, aNil, gN, ob, xb, NK.os, NK.xs, nb, rb, kb, eb, List.getElem?_cons_zero, List.getElem?_cons_succ, List.set_cons_zero, List.set_cons_succ, ↓reduceIte, Bool.false_eq_true, Bool.not_true, Bool.not_false, fAdd_i, fSub_i, fNeg_i, fInt_i, fAbs_i, fLt_i, fLe_i, fGt_i, fMin_i, fIsN_n, fNotN_n, fLen_lst, fLen_tup, fTuple_lst, fTuple_tup, U.isNon, truth, fMod_i, fDiv_i, fMul_i, Int.reduceLT, Int.reduceNeg, Int.reducePow, Int.reduceLE, or_true, true_or, and_self, and_true, true_and, eCall, List.append_nil, List.length_cons, List.length_nil, Nat.reduceAdd, Nat.zero_add, h, h2, fEq_ii, c, beq_self_eq_true, pow30]
theorem odd2 {dr pk : MF} {x : Int} {S S1 S2 : Sto} (h : dr [U.loc 0, U.int 8] S = Out.ok (U.int 2) S1) (h2 : dr [U.loc 0, U.int 5] S1 = Out.ok (U.int x) S2) : (sSeq (sAsg (eCall 2 dr [] (aCons (eVar 0) (aCons (eC (.int 8)) aNil))) (gN 1))
    (sSeq (sIf (NK.tB (eOp fEq (eVar 1) (eC (.int 0)))) (sRet (eOp fSub (eCall 2 dr [] (aCons (eVar 0) (aCons (eOp fPow (eC (.int 10)) (eC (.int 31))) aNil))) (eOp fPow (eC (.int 10)) (eC (.int 30))))) sNext)
    (sSeq (sIf (NK.tB (eOp fEq (eVar 1) (eC (.int 1)))) (sRet (eOp fSub (eOp fAdd (eOp fPow (eC (.int 10)) (eC (.int 30))) (eCall 2 dr [] (aCons (eVar 0) (aCons (eC (.int 3)) aNil)))) (eC (.int 1)))) sNext)
    (sSeq (sIf (NK.tB (eOp fEq (eVar 1) (eC (.int 2)))) (sRet (eOp fSub (eCall 2 dr [] (aCons (eVar 0) (aCons (eC (.int 5)) aNil))) (eC (.int 1)))) sNext)
    (sSeq (sIf (NK.tB (eOp fEq (eVar 1) (eC (.int 3)))) (sRet (eCall 2 pk [] (aCons (eVar 0) (aCons (eLst (aCons (eC (.bl true)) (aCons (eC (.bl false)) (aCons (eC .non) (aCons (eTup aNil) (aCons (eScope (eLst aNil)) (aCons (eTup (aCons (eC (.str "s")) aNil)) (aCons (eDic1 "s" 1) aNil)))))))) aNil)))) sNext)
    (sSeq (sIf (NK.tB (eOp fEq (eVar 1) (eC (.int 4)))) (sRet (eCall 2 pk [] (aCons (eVar 0) (aCons (eScope (eLst (aCons (eC (.str "")) (aCons (eC (.str "s")) (aCons (eC (.str "d")) (aCons (eC (.str "f")) (aCons (eC (.str "m")) (aCons (eC (.str "fm")) (aCons (eC (.str "sd")) (aCons (eC (.str "S")) (aCons (eC (.str "ffm")) (aCons (eC (.str "mfmf")) (aCons (eC (.str " ")) aNil))))))))))))) aNil)))) sNext)
    (sSeq (sAsg (eC (.str "")) (gN 2))
    (sSeq (sFor (iRng1 (aCons (eCall 2 dr [] (aCons (eVar 0) (aCons (eC (.int 9)) aNil))) aNil)) (gN 3) l_u_law_odd_1)
    (sRet (eVar 2)))))))))) [some (U.loc 0), none, none, none] S = SO.ret (U.int (x - 1)) S2 := by
  have c : ((2 : Int) == 0) = false := by decide
  have c2 : ((2 : Int) == 1) = false := by decide
  simp (maxDischargeDepth := 8) -implicitDefEqProofs only [sSeq, sIf, sAsg, sRet, sDrop, sSetIx, sNext, sCont, NK.tAnd, NK.tOr, NK.tNot, NK.tTru, NK.tB, eOp, eUn, eCB, eIf, eAnd, eOr, eNot, eVar, eC, aCons, aNil, gN, ob, xb, NK.os, NK.xs, nb, rb, kb, eb, List.getElem?_cons_zero, List.getElem?_cons_succ, List.set_cons_zero, List.set_cons_succ, ↓reduceIte, Bool.false_eq_true, Bool.not_true, Bool.not_false, fAdd_i, fSub_i, fNeg_i, fInt_i, fAbs_i, fLt_i, fLe_i, fGt_i, fMin_i, fIsN_n, fNotN_n, fLen_lst, fLen_tup, fTuple_lst, fTuple_tup, U.isNon, truth, fMod_i, fDiv_i, fMul_i, Int.reduceLT, Int.reduceNeg, Int.reducePow, Int.reduceLE, or_true, true_or, and_self, and_true, true_and, eCall, List.append_nil, List.length_cons, List.length_nil, Nat.reduceAdd, Nat.zero_add, h, h2, fEq_ii, c, c2, beq_self_eq_true]
theorem odd3 {dr pk : MF} {l7 : ME} {u x : U} {S S1 S2 S3 : Sto} (h : dr [U.loc 0, U.int 8] S = Out.ok (U.int 3) S1) (h2 : l7 [some (U.loc 0), some (U.int 3), none, none] S1 = Out.ok x S2) (h3 : pk [U.loc 0, x] S2 = Out.ok u S3) : (sSeq (sAsg (eCall 2 dr [] (aCons (eVar 0) (aCons (eC (.int 8)) aNil))) (gN 1))
    (sSeq (sIf (NK.tB (eOp fEq (eVar 1) (eC (.int 0)))) (sRet (eOp fSub (eCall 2 dr [] (aCons (eVar 0) (aCons (eOp fPow (eC (.int 10)) (eC (.int 31))) aNil))) (eOp fPow (eC (.int 10)) (eC (.int 30))))) sNext)
    (sSeq (sIf (NK.tB (eOp fEq (eVar 1) (eC (.int 1)))) (sRet (eOp fSub (eOp fAdd (eOp fPow (eC (.int 10)) (eC (.int 30))) (eCall 2 dr [] (aCons (eVar 0) (aCons (eC (.int 3)) aNil)))) (eC (.int 1)))) sNext)
    (sSeq (sIf (NK.tB (eOp fEq (eVar 1) (eC (.int 2)))) (sRet (eOp fSub (eCall 2 dr [] (aCons (eVar 0) (aCons (eC (.int 5)) aNil))) (eC (.int 1)))) sNext)
    (sSeq (sIf (NK.tB (eOp fEq (eVar 1) (eC (.int 3)))) (sRet (eCall 2 pk [] (aCons (eVar 0) (aCons l7 aNil)))) sNext)
    (sSeq (sIf (NK.tB (eOp fEq (eVar 1) (eC (.int 4)))) (sRet (eCall 2 pk [] (aCons (eVar 0) (aCons (eScope (eLst (aCons (eC (.str "")) (aCons (eC (.str "s")) (aCons (eC (.str "d")) (aCons (eC (.str "f")) (aCons (eC (.str "m")) (aCons (eC (.str "fm")) (aCons (eC (.str "sd")) (aCons (eC (.str "S")) (aCons (eC (.str "ffm")) (aCons (eC (.str "mfmf")) (aCons (eC (.str " ")) aNil))))))))))))) aNil)))) sNext)
    (sSeq (sAsg (eC (.str "")) (gN 2))
    (sSeq (sFor (iRng1 (aCons (eCall 2 dr [] (aCons (eVar 0) (aCons (eC (.int 9)) aNil))) aNil)) (gN 3) l_u_law_odd_1)
    (sRet (eVar 2)))))))))) [some (U.loc 0), none, none, none] S = SO.ret u S3 := by
  have c : ((3 : Int) == 0) = false := by decide
  have c2 : ((3 : Int) == 1) = false := by decide
  have c3 : ((3 : Int) == 2) = false := by decide
  simp (maxDischargeDepth := 8) -implicitDefEqProofs only [sSeq, sIf, sAsg, sRet, sDrop, sSetIx, sNext, sCont, NK.tAnd, NK.tOr, NK.tNot, NK.tTru, NK.tB, eOp, eUn, eCB, eIf, eAnd, eOr, eNot, eVar, eC, aCons, aNil, gN, ob, xb, NK.os, NK.xs, nb, rb, kb, eb, List.getElem?_cons_zero, List.getElem?_cons_succ, List.set_cons_zero, List.set_cons_succ, ↓reduceIte, Bool.false_eq_true, Bool.not_true, Bool.not_false, fAdd_i, fSub_i, fNeg_i, fInt_i, fAbs_i, fLt_i, fLe_i, fGt_i, fMin_i, fIsN_n, fNotN_n, fLen_lst, fLen_tup, fTuple_lst, fTuple_tup, U.isNon, truth, fMod_i, fDiv_i, fMul_i, Int.reduceLT, Int.reduceNeg, Int.reducePow, Int.reduceLE, or_true, true_or, and_self, and_true, true_and, eCall, List.append_nil, List.length_cons, List.length_nil, Nat.reduceAdd, Nat.zero_add, h, h2, h3, fEq_ii, c, c2, c3, beq_self_eq_true]
theorem odd4 {dr pk : MF} {l7 l11 : ME} {u x : U} {S S1 S3 : Sto} (h : dr [U.loc 0, U.int 8] S = Out.ok (U.int 4) S1) (h2 : l11 [some (U.loc 0), some (U.int 4), none, none] S1 = Out.ok x S1) (h3 : pk [U.loc 0, x] S1 = Out.ok u S3) : (sSeq (sAsg (eCall 2 dr [] (aCons (eVar 0) (aCons (eC (.int 8)) aNil))) (gN 1))
    (sSeq (sIf (NK.tB (eOp fEq (eVar 1) (eC (.int 0)))) (sRet (eOp fSub (eCall 2 dr [] (aCons (eVar 0) (aCons (eOp fPow (eC (.int 10)) (eC (.int 31))) aNil))) (eOp fPow (eC (.int 10)) (eC (.int 30))))) sNext)
    (sSeq (sIf (NK.tB (eOp fEq (eVar 1) (eC (.int 1)))) (sRet (eOp fSub (eOp fAdd (eOp fPow (eC (.int 10)) (eC (.int 30))) (eCall 2 dr [] (aCons (eVar 0) (aCons (eC (.int 3)) aNil)))) (eC (.int 1)))) sNext)
    (sSeq (sIf (NK.tB (eOp fEq (eVar 1) (eC (.int 2)))) (sRet (eOp fSub (eCall 2 dr [] (aCons (eVar 0) (aCons (eC (.int 5)) aNil))) (eC (.int 1)))) sNext)
    (sSeq (sIf (NK.tB (eOp fEq (eVar 1) (eC (.int 3)))) (sRet (eCall 2 pk [] (aCons (eVar 0) (aCons l7 aNil)))) sNext)
    (sSeq (sIf (NK.tB (eOp fEq (eVar 1) (eC (.int 4)))) (sRet (eCall 2 pk [] (aCons (eVar 0) (aCons l11 aNil)))) sNext)
    (sSeq (sAsg (eC (.str "")) (gN 2))
    (sSeq (sFor (iRng1 (aCons (eCall 2 dr [] (aCons (eVar 0) (aCons (eC (.int 9)) aNil))) aNil)) (gN 3) l_u_law_odd_1)
    (sRet (eVar 2)))))))))) [some (U.loc 0), none, none, none] S = SO.ret u S3 := by
  have c : ((4 : Int) == 0) = false := by decide
  have c2 : ((4 : Int) == 1) = false := by decide
  have c3 : ((4 : Int) == 2) = false := by decide
  have c4 : ((4 : Int) == 3) = false := by decide
  simp (maxDischargeDepth := 8) -implicitDefEqProofs only [sSeq, sIf, sAsg, sRet, sDrop, sSetIx, sNext, sCont, NK.tAnd, NK.tOr, NK.tNot, NK.tTru, NK.tB, eOp, eUn, eCB, eIf, eAnd, eOr, eNot, eVar, eC, aCons, aNil, gN, ob, xb, NK.os, NK.xs, nb, rb, kb, eb, List.getElem?_cons_zero, List.getElem?_cons_succ, List.set_cons_zero, List.set_cons_succ, ↓reduceIte, Bool.false_eq_true, Bool.not_true, Bool.not_false, fAdd_i, fSub_i, fNeg_i, fInt_i, fAbs_i, fLt_i, fLe_i, fGt_i, fMin_i, fIsN_n, fNotN_n, fLen_lst, fLen_tup, fTuple_lst, fTuple_tup, U.isNon, truth, fMod_i, fDiv_i, fMul_i, Int.reduceLT, Int.reduceNeg, Int.reducePow, Int.reduceLE, or_true, true_or, and_self, and_true, true_and, eCall, List.append_nil, List.length_cons, List.length_nil, Nat.reduceAdd, Nat.zero_add, h, h2, h3, fEq_ii, c, c2, c3, c4, beq_self_eq_true]
theorem odd5 {dr pk : MF} {l7 l11 : ME} {lp : MS} {d : Int} {u : U} {e3 : Option U} {S S1 S2 : Sto} (h : dr [U.loc 0, U.int 8] S = Out.ok (U.int d) S1) (hd : 5 ≤ d) (hl : lp [some (U.loc 0), some (U.int d), some (U.str Str.empty), none] S1 = SO.next [some (U.loc 0), some (U.int d), some u, e3] S2) : (sSeq (sAsg (eCall 2 dr [] (aCons (eVar 0) (aCons (eC (.int 8)) aNil))) (gN 1))
    (sSeq (sIf (NK.tB (eOp fEq (eVar 1) (eC (.int 0)))) (sRet (eOp fSub (eCall 2 dr [] (aCons (eVar 0) (aCons (eOp fPow (eC (.int 10)) (eC (.int 31))) aNil))) (eOp fPow (eC (.int 10)) (eC (.int 30))))) sNext)
    (sSeq (sIf (NK.tB (eOp fEq (eVar 1) (eC (.int 1)))) (sRet (eOp fSub (eOp fAdd (eOp fPow (eC (.int 10)) (eC (.int 30))) (eCall 2 dr [] (aCons (eVar 0) (aCons (eC (.int 3)) aNil)))) (eC (.int 1)))) sNext)
    (sSeq (sIf (NK.tB (eOp fEq (eVar 1) (eC (.int 2)))) (sRet (eOp fSub (eCall 2 dr [] (aCons (eVar 0) (aCons (eC (.int 5)) aNil))) (eC (.int 1)))) sNext)
    (sSeq (sIf (NK.tB (eOp fEq (eVar 1) (eC (.int 3)))) (sRet (eCall 2 pk [] (aCons (eVar 0) (aCons l7 aNil)))) sNext)
    (sSeq (sIf (NK.tB (eOp fEq (eVar 1) (eC (.int 4)))) (sRet (eCall 2 pk [] (aCons (eVar 0) (aCons l11 aNil)))) sNext)
    (sSeq (sAsg (eC (.str "")) (gN 2))
    (sSeq lp
    (sRet (eVar 2)))))))))) [some (U.loc 0), none, none, none] S = SO.ret u S2 := by
  have c : (d == 0) = false := beq_eq_false_iff_ne.mpr (by omega)
  have c2 : (d == 1) = false := beq_eq_false_iff_ne.mpr (by omega)
  have c3 : (d == 2) = false := beq_eq_false_iff_ne.mpr (by omega)
  have c4 : (d == 3) = false := beq_eq_false_iff_ne.mpr (by omega)
  have c5 : (d == 4) = false := beq_eq_false_iff_ne.mpr (by omega)
  have e : Str.ofString "" = Str.empty := by decide +kernel
  simp (maxDischargeDepth := 8) -implicitDefEqProofs only [sSeq, sIf, sAsg, sRet, sDrop, sSetIx, sNext, sCont, NK.tAnd, NK.tOr, NK.tNot, NK.tTru, NK.tB, eOp, eUn, eCB, eIf, eAnd, eOr, eNot, eVar, eC, aCons, aNil, gN, ob, xb, NK.os, NK.xs, nb, rb, kb, eb, List.getElem?_cons_zero, List.getElem?_cons_succ, List.set_cons_zero, List.set_cons_succ, ↓reduceIte, Bool.false_eq_true, Bool.not_true, Bool.not_false, fAdd_i, fSub_i, fNeg_i, fInt_i, fAbs_i, fLt_i, fLe_i, fGt_i, fMin_i, fIsN_n, fNotN_n, fLen_lst, fLen_tup, fTuple_lst, fTuple_tup, U.isNon, truth, fMod_i, fDiv_i, fMul_i, Int.reduceLT, Int.reduceNeg, Int.reducePow, Int.reduceLE, or_true, true_or, and_self, and_true, true_and, eCall, List.append_nil, List.length_cons, List.length_nil, Nat.reduceAdd, Nat.zero_add, h, hl, fEq_ii, c, c2, c3, c4, c5, e]
end G

set_option Elab.async false
set_option linter.all false
set_option maxRecDepth 100000
set_option maxHeartbeats 4000000
/-! Q03f: odd things, joined. -/
namespace G
open PySem L2 NK
theorem app_cps (a b : Str) : (a ++ b).cps = a.cps ++ b.cps := rfl
theorem strOk_app {a b : Str} (h : PyData.strOk a = true) (g : PyData.strOk b = true) : PyData.strOk (a ++ b) = true := by
  unfold PyData.strOk at h g ⊢
  rw [app_cps, Array.all_append, h, g]
  rfl
theorem strOk_of (s : String) : PyData.strOk (Str.ofString s) = true := by
  rw [Str.ofString_eq_toList]
  unfold PyData.strOk
  rw [List.all_toArray, List.all_map, List.all_eq_true]
  intro c _
  have := c.valid
  rcases this with q | q
  · exact decide_eq_true (by show c.val.toNat < _; have : c.val.toNat < 0xd800 := q; omega)
  · exact decide_eq_true (by show c.val.toNat < _; exact q.2)
theorem strOk_sgn {x : Str} (h : PyData.strOk x = true) {k : Nat} (hk : k ∈ x.cps.toList) : PyData.strOk (sgn k) = true := by
  unfold PyData.strOk at h ⊢
  rw [← Array.all_toList, List.all_eq_true] at h ⊢
  intro c hc
  have : c = k := by simpa [sgn] using hc
  subst this
  exact h _ hk
theorem fAdd_s {a b : Str} {S : Sto} (h : a.cps.size + b.cps.size ≤ 1000) : fAdd (U.str a) (U.str b) S = Out.ok (U.str (a ++ b)) S := by
  have h2 : a.length + b.length ≤ 16777216 := by show a.cps.size + b.cps.size ≤ _; omega
  show (if a.length + b.length ≤ 16777216 then _ else _) = _
  rw [if_pos h2]
theorem odd_step {pk : MF} {d : Int} {w c : Str} {k : U} {S S1 : Sto} (hp : ∀ z, z = Str.ofString "fmsdazbyn" ∨ z = Str.ofString "fmsdaz AB1-_" → (z = if d < 7 then Str.ofString "fmsdazbyn" else Str.ofString "fmsdaz AB1-_") → pk [U.loc 0, U.str z] S = Out.ok (U.str c) S1) (hl : w.cps.size + c.cps.size ≤ 1000) :
    (sAsg (eOp fAdd (eVar 2) (eCall 2 pk [] (aCons (eVar 0) (aCons (eIf (NK.tB (eOp fLt (eVar 1) (eC (.int 7)))) (eC (.str "fmsdazbyn")) (eC (.str "fmsdaz AB1-_"))) aNil)))) (gN 2)) [some (U.loc 0), some (U.int d), some (U.str w), some k] S = SO.next [some (U.loc 0), some (U.int d), some (U.str (w ++ c)), some k] S1 := by
  by_cases q : d < 7
  · have h := hp _ (.inl rfl) (by rw [if_pos q])
    simp (maxDischargeDepth := 8) -implicitDefEqProofs only [sSeq, sIf, sAsg, sRet, sDrop, sSetIx, sNext, sCont, NK.tAnd, NK.tOr, NK.tNot, NK.tTru, NK.tB, eOp, eUn, eCB, eIf, eAnd, eOr, eNot, eVar, eC, aCons, aNil, gN, ob, xb, NK.os, NK.xs, nb, rb, kb, eb, List.getElem?_cons_zero, List.getElem?_cons_succ, List.set_cons_zero, List.set_cons_succ, ↓reduceIte, Bool.false_eq_true, Bool.not_true, Bool.not_false, fAdd_i, fSub_i, fNeg_i, fInt_i, fAbs_i, fLt_i, fLe_i, fGt_i, fMin_i, fIsN_n, fNotN_n, fLen_lst, fLen_tup, fTuple_lst, fTuple_tup, U.isNon, truth, fMod_i, fDiv_i, fMul_i, Int.reduceLT, Int.reduceNeg, Int.reducePow, Int.reduceLE, or_true, true_or, and_self, and_true, true_and, eCall, List.append_nil, List.length_cons, List.length_nil, Nat.reduceAdd, Nat.zero_add, decide_eq_true q, h, fAdd_s hl]
  · have h := hp _ (.inr rfl) (by rw [if_neg q])
    simp (maxDischargeDepth := 8) -implicitDefEqProofs only [sSeq, sIf, sAsg, sRet, sDrop, sSetIx, sNext, sCont, NK.tAnd, NK.tOr, NK.tNot, NK.tTru, NK.tB, eOp, eUn, eCB, eIf, eAnd, eOr, eNot, eVar, eC, aCons, aNil, gN, ob, xb, NK.os, NK.xs, nb, rb, kb, eb, List.getElem?_cons_zero, List.getElem?_cons_succ, List.set_cons_zero, List.set_cons_succ, ↓reduceIte, Bool.false_eq_true, Bool.not_true, Bool.not_false, fAdd_i, fSub_i, fNeg_i, fInt_i, fAbs_i, fLt_i, fLe_i, fGt_i, fMin_i, fIsN_n, fNotN_n, fLen_lst, fLen_tup, fTuple_lst, fTuple_tup, U.isNon, truth, fMod_i, fDiv_i, fMul_i, Int.reduceLT, Int.reduceNeg, Int.reducePow, Int.reduceLE, or_true, true_or, and_self, and_true, true_and, eCall, List.append_nil, List.length_cons, List.length_nil, Nat.reduceAdd, Nat.zero_add, decide_eq_false q, h, fAdd_s hl]
theorem odd_loop {st : Sto} {d : Int} : ∀ (ks : List Nat) (h : Ob) (w : Str) (e3 : Option U), HOb h → PyData.strOk w = true → w.cps.size + ks.length ≤ 100 →
    ∃ h' w' f3, HOb h' ∧ PyData.strOk w' = true ∧ w'.cps.size ≤ 100 ∧ forM (fun _ => True) (gN 3) l_u_law_odd_1 (ks.map fun (i : Nat) => U.int (0 + (i : Int))) [some (U.loc 0), some (U.int d), some (U.str w), e3] (h :: st) = SO.next [some (U.loc 0), some (U.int d), some (U.str w'), f3] (h' :: st)
  | [], h, w, e3, H, hw, hl => ⟨h, w, e3, H, hw, by simpa using hl, forM_nil True.intro⟩
  | k :: ks, h, w, e3, H, hw, hl => by
    rw [List.length_cons] at hl
    obtain ⟨z, hz, hz2, hz3⟩ : ∃ z : Str, z = (if d < 7 then Str.ofString "fmsdazbyn" else Str.ofString "fmsdaz AB1-_") ∧ PyData.strOk z = true ∧ 0 < z.cps.size ∧ z.cps.size ≤ 1000 := by
      by_cases q : d < 7
      · exact ⟨_, rfl, by rw [if_pos q]; exact strOk_of _, by rw [if_pos q]; decide +kernel⟩
      · exact ⟨_, rfl, by rw [if_neg q]; exact strOk_of _, by rw [if_neg q]; decide +kernel⟩
    obtain ⟨u, h1, ⟨c, hc, rfl⟩, H1, e⟩ := pick_str (st := st) (z := z) H hz3.1 hz3.2
    have hs : (sgn c).cps.size = 1 := rfl
    obtain ⟨h2, w', f3, H2, ow, lw, e2⟩ := odd_loop (st := st) (d := d) ks h1 (w ++ sgn c) (some (U.int (0 + (k : Int)))) H1 (strOk_app hw (strOk_sgn hz2 hc)) (by rw [app_cps, Array.size_append, hs]; omega)
    refine ⟨h2, w', f3, H2, ow, lw, ?_⟩
    rw [List.map_cons, forM_n (b := l_u_law_odd_1) (env1 := [some (U.loc 0), some (U.int d), some (U.str w), some (U.int (0 + (k : Int)))]) True.intro rfl (odd_step (pk := m_u_law_pick) (c := sgn c) (fun z' _ hz' => by rw [hz', ← hz]; exact e) (by rw [hs]; omega)), e2]
def list7 (d : Nat) : List U := [U.bl true, U.bl false, U.non, U.tup [], U.lst [], U.tup [U.str (Str.ofString "s")], U.loc d]
theorem l7_ok {env : NK.Env} {S : Sto} : (eLst (aCons (eC (.bl true)) (aCons (eC (.bl false)) (aCons (eC .non) (aCons (eTup aNil) (aCons (eScope (eLst aNil)) (aCons (eTup (aCons (eC (.str "s")) aNil)) (aCons (eDic1 "s" 1) aNil)))))))) env S = Out.ok (U.loc (S.length + 1)) (S ++ [Ob.dK [(.inr (Str.ofString "s"), U.int 1)], Ob.lst (list7 S.length)]) := by
  have nil : ∀ env S, eScope (eLst aNil) env S = Out.ok (U.lst []) S := fun env S => sc_loc (st := S) (st2 := S) (j := 0) [Ob.lst []] (Old.refl S) rfl rfl
  have e1 : (S ++ [Ob.dK [(.inr (Str.ofString "s"), U.int 1)]]).length = S.length + 1 := by simp
  have e2 : (S ++ [Ob.dK [(.inr (Str.ofString "s"), U.int 1)]]) ++ [Ob.lst (list7 S.length)] = S ++ [Ob.dK [(.inr (Str.ofString "s"), U.int 1)], Ob.lst (list7 S.length)] := by simp
  generalize hn : eScope (eLst aNil) = en at nil ⊢
  unfold list7 at e2 ⊢
  simp (maxDischargeDepth := 8) -implicitDefEqProofs only [sSeq, sIf, sAsg, sRet, sDrop, sSetIx, sNext, sCont, NK.tAnd, NK.tOr, NK.tNot, NK.tTru, NK.tB, eOp, eUn, eCB, eIf, eAnd, eOr, eNot, eVar, eC, aCons, aNil, gN, ob, xb, NK.os, NK.xs, nb, rb, kb, eb, List.getElem?_cons_zero, List.getElem?_cons_succ, List.set_cons_zero, List.set_cons_succ, ↓reduceIte, Bool.false_eq_true, Bool.not_true, Bool.not_false, fAdd_i, fSub_i, fNeg_i, fInt_i, fAbs_i, fLt_i, fLe_i, fGt_i, fMin_i, fIsN_n, fNotN_n, fLen_lst, fLen_tup, fTuple_lst, fTuple_tup, U.isNon, truth, fMod_i, fDiv_i, fMul_i, Int.reduceLT, Int.reduceNeg, Int.reducePow, Int.reduceLE, or_true, true_or, and_self, and_true, true_and, eCall, List.append_nil, List.length_cons, List.length_nil, Nat.reduceAdd, Nat.zero_add, eTup, eLst_k, lstK_ok, nil, eDic1, e1, e2, Nat.reduceLeDiff]
def list11 : List U := ["", "s", "d", "f", "m", "fm", "sd", "S", "ffm", "mfmf", " "].map fun s => U.str (Str.ofString s)
theorem l11_ok {env : NK.Env} {S : Sto} : (eScope (eLst (aCons (eC (.str "")) (aCons (eC (.str "s")) (aCons (eC (.str "d")) (aCons (eC (.str "f")) (aCons (eC (.str "m")) (aCons (eC (.str "fm")) (aCons (eC (.str "sd")) (aCons (eC (.str "S")) (aCons (eC (.str "ffm")) (aCons (eC (.str "mfmf")) (aCons (eC (.str " ")) aNil))))))))))))) env S = Out.ok (U.lst list11) S := by
  unfold list11
  simp (maxDischargeDepth := 8) -implicitDefEqProofs only [sSeq, sIf, sAsg, sRet, sDrop, sSetIx, sNext, sCont, NK.tAnd, NK.tOr, NK.tNot, NK.tTru, NK.tB, eOp, eUn, eCB, eIf, eAnd, eOr, eNot, eVar, eC, aCons, aNil, gN, ob, xb, NK.os, NK.xs, nb, rb, kb, eb, List.getElem?_cons_zero, List.getElem?_cons_succ, List.set_cons_zero, List.set_cons_succ, ↓reduceIte, Bool.false_eq_true, Bool.not_true, Bool.not_false, fAdd_i, fSub_i, fNeg_i, fInt_i, fAbs_i, fLt_i, fLe_i, fGt_i, fMin_i, fIsN_n, fNotN_n, fLen_lst, fLen_tup, fTuple_lst, fTuple_tup, U.isNon, truth, fMod_i, fDiv_i, fMul_i, Int.reduceLT, Int.reduceNeg, Int.reducePow, Int.reduceLE, or_true, true_or, and_self, and_true, true_and, eCall, List.append_nil, List.length_cons, List.length_nil, Nat.reduceAdd, Nat.zero_add, esl, lstK_ok, Nat.reduceLeDiff, sc_lit, U.underL, U.under, Bool.and_self, List.map_cons, List.map_nil]
theorem sFor_ok2 {mi : MI} {gt : MGt} {b : MS} {env : NK.Env} {S S1 : Sto} {us : List U} {g : Sto → Prop} {r : SO} (hi : mi env S = Out.ok ⟨us, g⟩ S1) (hf : forM g gt b us env S1 = r) : sFor mi gt b env S = r := by
  unfold sFor
  rw [hi]
  exact hf
theorem rng_draw {md : MF} {env : NK.Env} {S S1 : Sto} {x : U} {n k : Int} (h0 : env[0]? = some (some x)) (hd : md [x, U.int k] S = Out.ok (U.int n) S1) : aCons (eCall 2 md [] (aCons (eVar 0) (aCons (eC (.int k)) aNil))) aNil env S = Out.ok [U.int n] S1 := by
  simp (maxDischargeDepth := 8) -implicitDefEqProofs only [sSeq, sIf, sAsg, sRet, sDrop, sSetIx, sNext, sCont, NK.tAnd, NK.tOr, NK.tNot, NK.tTru, NK.tB, eOp, eUn, eCB, eIf, eAnd, eOr, eNot, eVar, eC, aCons, aNil, gN, ob, xb, NK.os, NK.xs, nb, rb, kb, eb, List.getElem?_cons_zero, List.getElem?_cons_succ, List.set_cons_zero, List.set_cons_succ, ↓reduceIte, Bool.false_eq_true, Bool.not_true, Bool.not_false, fAdd_i, fSub_i, fNeg_i, fInt_i, fAbs_i, fLt_i, fLe_i, fGt_i, fMin_i, fIsN_n, fNotN_n, fLen_lst, fLen_tup, fTuple_lst, fTuple_tup, U.isNon, truth, fMod_i, fDiv_i, fMul_i, Int.reduceLT, Int.reduceNeg, Int.reducePow, Int.reduceLE, or_true, true_or, and_self, and_true, true_and, eCall, List.append_nil, List.length_cons, List.length_nil, Nat.reduceAdd, Nat.zero_add, h0, hd]
theorem odd_ok {h : Ob} {st : Sto} (H : HOb h) : ∃ u h' ext, HOb h' ∧ Th u (h' :: (st ++ ext)) ∧ m_u_law_odd [U.loc 0] (h :: st) = Out.ok u (h' :: (st ++ ext)) := by
  obtain ⟨d, h1, H1, d0, d1, e1⟩ := draw_ok (st := st) (m := 8) H (by decide) (by decide)
  by_cases q0 : d = 0
  · subst q0
    obtain ⟨x, h2, H2, _, _, e2⟩ := draw_ok (st := st) (m := 10000000000000000000000000000000) H1 (by decide) (by decide)
    exact ⟨U.int _, h2, [], H2, True.intro, by rw [List.append_nil]; exact run_ret (n := 4) (mb := b_u_law_odd) rfl (odd0 e1 e2)⟩
  by_cases q1 : d = 1
  · subst q1
    obtain ⟨x, h2, H2, _, _, e2⟩ := draw_ok (st := st) (m := 3) H1 (by decide) (by decide)
    exact ⟨U.int _, h2, [], H2, True.intro, by rw [List.append_nil]; exact run_ret (n := 4) (mb := b_u_law_odd) rfl (odd1 e1 e2)⟩
  by_cases q2 : d = 2
  · subst q2
    obtain ⟨x, h2, H2, _, _, e2⟩ := draw_ok (st := st) (m := 5) H1 (by decide) (by decide)
    exact ⟨U.int _, h2, [], H2, True.intro, by rw [List.append_nil]; exact run_ret (n := 4) (mb := b_u_law_odd) rfl (odd2 e1 e2)⟩
  by_cases q3 : d = 3
  · subst q3
    have l7 := l7_ok (env := [some (U.loc 0), some (U.int 3), none, none]) (S := h1 :: st)
    obtain ⟨u, h2, hu, H2, e2⟩ := pick_loc (st := st ++ [Ob.dK [(.inr (Str.ofString "s"), U.int 1)], Ob.lst (list7 (h1 :: st).length)]) (us := list7 (h1 :: st).length) (j := st.length + 1) H1 (by simp [list7]) (by simp [list7]) (by simp)
    refine ⟨u, h2, _, H2, ?_, run_ret (n := 4) (mb := b_u_law_odd) rfl (odd3 e1 l7 e2)⟩
    simp only [list7, List.mem_cons, List.not_mem_nil, or_false] at hu
    rcases hu with rfl | rfl | rfl | rfl | rfl | rfl | rfl
    · exact True.intro
    · exact True.intro
    · exact True.intro
    · exact True.intro
    · exact True.intro
    · exact True.intro
    · exact ⟨_, by rw [List.length_cons, List.getElem?_cons_succ, List.getElem?_append_right (Nat.le_refl _), Nat.sub_self]; rfl⟩
  by_cases q4 : d = 4
  · subst q4
    obtain ⟨u, h2, hu, H2, e2⟩ := pick_ok (st := st) (us := list11) H1 (by simp [list11]) (by simp [list11])
    refine ⟨u, h2, [], H2, ?_, by rw [List.append_nil]; exact run_ret (n := 4) (mb := b_u_law_odd) rfl (odd4 e1 l11_ok e2)⟩
    unfold list11 at hu
    rw [List.mem_map] at hu
    obtain ⟨s, hs, rfl⟩ := hu
    refine ⟨strOk_of s, ?_⟩
    simp only [List.mem_cons, List.not_mem_nil, or_false] at hs
    rcases hs with rfl | rfl | rfl | rfl | rfl | rfl | rfl | rfl | rfl | rfl | rfl <;> decide +kernel
  · obtain ⟨n, h2, H2, n0, n1, e2⟩ := draw_ok (st := st) (m := 9) H1 (by decide) (by decide)
    obtain ⟨n, rfl⟩ := Int.eq_ofNat_of_zero_le n0
    obtain ⟨h3, w, f3, H3, ow, lw, e3⟩ := odd_loop (st := st) (d := d) (List.range n) h2 Str.empty none H2 (by decide +kernel) (by simp [Str.empty]; omega)
    have hi : NK.iRng1 (aCons (eCall 2 m_u_law_draw [] (aCons (eVar 0) (aCons (eC (.int 9)) aNil))) aNil) [some (U.loc 0), some (U.int d), some (U.str Str.empty), none] (h1 :: st) = Out.ok ⟨(List.range n).map fun (i : Nat) => U.int (0 + (i : Int)), fun _ => True⟩ (h2 :: st) := rng_ok (n := n) (rng_draw (x := U.loc 0) rfl e2) (by omega)
    exact ⟨U.str w, h3, [], H3, ⟨ow, by omega⟩, by rw [List.append_nil]; exact run_ret (n := 4) (mb := b_u_law_odd) rfl (odd5 e1 (by omega) (sFor_ok2 hi e3))⟩
end G

set_option Elab.async false
set_option linter.all false
set_option maxRecDepth 100000
set_option maxHeartbeats 4000000
/-! Q03g: rows. -/
namespace G
open PySem L2 NK
/-! ### labels -/
theorem abc_at : ∀ j : Fin 26, abc.cps.toList[j.val]? = some (97 + j.val) := by decide +kernel
theorem letter_ix {j : Int} {n : Nat} {S : Sto} (h : j = (n : Int)) (hn : n < 26) : fIx (U.str abc) (U.int j) S = Out.ok (U.str (sgn (97 + n))) S := by
  subst h
  have hz2 : abc.length ≤ 16777216 := by decide +kernel
  have hs : abc.cps.toList.length = 26 := by decide +kernel
  have ha : atI abc.cps.toList (n : Int) = some (97 + n) := by
    have := abc_at ⟨n, hn⟩
    have hn' : (n : Int) < 26 := by omega
    simp [atI, ixN, hs, hn']
    simpa using this
  unfold fIx
  dsimp only
  rw [if_pos hz2, ha]
  rfl
def lbl (k : Nat) : Str := sgn (97 + k / 676 % 26) ++ sgn (97 + k / 26 % 26) ++ sgn (97 + k % 26)
theorem lbl_cps (k : Nat) : (lbl k).cps = #[97 + k / 676 % 26, 97 + k / 26 % 26, 97 + k % 26] := rfl
theorem label_long_body {k : Int} {a b c : Str} {S : Sto} (h1 : fIx (U.str abc) (U.int (k / 676 % 26)) S = Out.ok (U.str a) S) (h2 : fIx (U.str abc) (U.int (k / 26 % 26)) S = Out.ok (U.str b) S) (h3 : fIx (U.str abc) (U.int (k % 26)) S = Out.ok (U.str c) S) (l1 : a.cps.size + b.cps.size ≤ 1000) (l2 : (a ++ b).cps.size + c.cps.size ≤ 1000) :
    (sSeq (sAsg (eC (.str "abcdefghijklmnopqrstuvwxyz")) (gN 1))
    (sRet (eOp fAdd (eOp fAdd (eOp fIx (eVar 1) (eOp fMod (eOp fDiv (eVar 0) (eC (.int 676))) (eC (.int 26)))) (eOp fIx (eVar 1) (eOp fMod (eOp fDiv (eVar 0) (eC (.int 26))) (eC (.int 26))))) (eOp fIx (eVar 1) (eOp fMod (eVar 0) (eC (.int 26))))))) [some (U.int k), none] S = SO.ret (U.str (a ++ b ++ c)) S := by
  simp (maxDischargeDepth := 8) -implicitDefEqProofs only [sSeq, sIf, sAsg, sRet, sDrop, sSetIx, sNext, sCont, NK.tAnd, NK.tOr, NK.tNot, NK.tTru, NK.tB, eOp, eUn, eCB, eIf, eAnd, eOr, eNot, eVar, eC, aCons, aNil, gN, ob, xb, NK.os, NK.xs, nb, rb, kb, eb, List.getElem?_cons_zero, List.getElem?_cons_succ, List.set_cons_zero, List.set_cons_succ, ↓reduceIte, Bool.false_eq_true, Bool.not_true, Bool.not_false, fAdd_i, fSub_i, fNeg_i, fInt_i, fAbs_i, fLt_i, fLe_i, fGt_i, fMin_i, fIsN_n, fNotN_n, fLen_lst, fLen_tup, fTuple_lst, fTuple_tup, U.isNon, truth, fMod_i, fDiv_i, fMul_i, Int.reduceLT, Int.reduceNeg, Int.reducePow, Int.reduceLE, or_true, true_or, and_self, and_true, true_and, eCall, List.append_nil, List.length_cons, List.length_nil, Nat.reduceAdd, Nat.zero_add, h1, h2, h3, fAdd_s l1, fAdd_s l2, Int.reduceLT]
theorem long_label_ok {k : Nat} {S : Sto} : m_u_law_long_label [U.int (k : Int)] S = Out.ok (U.str (lbl k)) S := by
  refine fs_same (n := 2) (mb := b_u_law_long_label) rfl (label_long_body (letter_ix (n := k / 676 % 26) (by omega) (by omega)) (letter_ix (n := k / 26 % 26) (by omega) (by omega)) (letter_ix (n := k % 26) (by omega) (by omega)) (by simp [sgn]) (by simp [sgn, app_cps])) rfl
theorem abc_occ : ∀ j : Fin 26, occ abc (sgn (97 + j.val)) = true := by decide +kernel
theorem occ_letter {n : Nat} (h1 : 97 ≤ n) (h2 : n < 123) : occ abc (sgn n) = true := by
  have := abc_occ ⟨n - 97, by omega⟩
  rw [show n = 97 + (n - 97) by omega]
  exact this
theorem lbl_lab (k : Nat) : labU (U.str (lbl k)) = true := by
  show (inLen (lbl k) 1 6 && (lbl k).cps.toList.all fun j => occ abc (sgn j)) = true
  have hs : (lbl k).cps.size = 3 := rfl
  rw [lbl_cps]
  simp only [List.all_cons, List.all_nil, Bool.and_true]
  rw [occ_letter (by omega) (by omega), occ_letter (by omega) (by omega), occ_letter (by omega) (by omega)]
  unfold inLen
  rw [hs]
  rfl
theorem lbl_inj {i j : Nat} (hi : i < 17576) (hj : j < 17576) (h : lbl i = lbl j) : i = j := by
  have e := congrArg Str.cps h
  rw [lbl_cps, lbl_cps] at e
  simp only [Array.mk.injEq, List.cons.injEq, and_true] at e
  obtain ⟨e1, e2, e3⟩ := e
  omega
theorem lbl_ok (k : Nat) : okS (lbl k) := by
  refine ⟨?_, by show 3 ≤ 1000; decide⟩
  unfold PyData.strOk
  rw [lbl_cps]
  simp
  omega
/-! ### rows -/
def rowU (l : Str) (k : Nat) : U := U.tup [U.str (Str.ofString "comes"), U.str l, U.str (Str.ofString "s"), U.int (k : Int), U.tup []]
theorem rng_big {ma : MA} {env : NK.Env} {st st1 : Sto} {n : Nat} (h : ma env st = Out.ok [U.int (n : Int)] st1) (hn : n ≤ 10000) : NK.iRng1 ma env st = Out.ok ⟨(List.range n).map fun (i : Nat) => U.int (0 + (i : Int)), fun _ => True⟩ st1 := by
  unfold NK.iRng1
  rw [h, ob]
  show (if -(2 ^ 62) ≤ (n : Int) ∧ (n : Int) < 2 ^ 62 then _ else _) = _
  rw [pw62, if_pos ⟨by omega, by omega⟩, Int.toNat_natCast]
theorem many_elem {ml : MF} {i : Int} {l : Str} {e0 : Option U} {S : Sto} (h : ml [U.int i] S = Out.ok (U.str l) S) : (eTup (aCons (eC (.str "comes")) (aCons (eCall 1 ml [] (aCons (eVar 1) aNil)) (aCons (eC (.str "s")) (aCons (eVar 1) (aCons (eTup aNil) aNil)))))) [e0, some (U.int i)] S = Out.ok (U.tup [U.str (Str.ofString "comes"), U.str l, U.str (Str.ofString "s"), U.int i, U.tup []]) S := by
  simp (maxDischargeDepth := 8) -implicitDefEqProofs only [sSeq, sIf, sAsg, sRet, sDrop, sSetIx, sNext, sCont, NK.tAnd, NK.tOr, NK.tNot, NK.tTru, NK.tB, eOp, eUn, eCB, eIf, eAnd, eOr, eNot, eVar, eC, aCons, aNil, gN, ob, xb, NK.os, NK.xs, nb, rb, kb, eb, List.getElem?_cons_zero, List.getElem?_cons_succ, List.set_cons_zero, List.set_cons_succ, ↓reduceIte, Bool.false_eq_true, Bool.not_true, Bool.not_false, fAdd_i, fSub_i, fNeg_i, fInt_i, fAbs_i, fLt_i, fLe_i, fGt_i, fMin_i, fIsN_n, fNotN_n, fLen_lst, fLen_tup, fTuple_lst, fTuple_tup, U.isNon, truth, fMod_i, fDiv_i, fMul_i, Int.reduceLT, Int.reduceNeg, Int.reducePow, Int.reduceLE, or_true, true_or, and_self, and_true, true_and, eCall, List.append_nil, List.length_cons, List.length_nil, Nat.reduceAdd, Nat.zero_add, eTup, h, Nat.reduceLeDiff]
theorem many_body {mc : ME} {x : U} {ws : List U} {S : Sto} (h : mc [some x, none] S = Out.ok (U.lst ws) S) : (sRet mc) [some x, none] S = SO.ret (U.lst ws) S := by
  simp (maxDischargeDepth := 8) -implicitDefEqProofs only [sSeq, sIf, sAsg, sRet, sDrop, sSetIx, sNext, sCont, NK.tAnd, NK.tOr, NK.tNot, NK.tTru, NK.tB, eOp, eUn, eCB, eIf, eAnd, eOr, eNot, eVar, eC, aCons, aNil, gN, ob, xb, NK.os, NK.xs, nb, rb, kb, eb, List.getElem?_cons_zero, List.getElem?_cons_succ, List.set_cons_zero, List.set_cons_succ, ↓reduceIte, Bool.false_eq_true, Bool.not_true, Bool.not_false, fAdd_i, fSub_i, fNeg_i, fInt_i, fAbs_i, fLt_i, fLe_i, fGt_i, fMin_i, fIsN_n, fNotN_n, fLen_lst, fLen_tup, fTuple_lst, fTuple_tup, U.isNon, truth, fMod_i, fDiv_i, fMul_i, Int.reduceLT, Int.reduceNeg, Int.reducePow, Int.reduceLE, or_true, true_or, and_self, and_true, true_and, eCall, List.append_nil, List.length_cons, List.length_nil, Nat.reduceAdd, Nat.zero_add, h]
theorem many_ok {n : Nat} {S : Sto} (hn : n ≤ 10000) : m_u_law_many [U.int (n : Int)] S = Out.ok (U.lst ((List.range n).map fun k => rowU (lbl k) k)) S := by
  have e := comp_scope (i := 1) (mt := NK.tYes) (me := (eTup (aCons (eC (.str "comes")) (aCons (eCall 1 m_u_law_long_label [] (aCons (eVar 1) aNil)) (aCons (eC (.str "s")) (aCons (eVar 1) (aCons (eTup aNil) aNil))))))) (mi := NK.iRng1 (aCons (eVar 0) aNil)) (env := [some (U.int (n : Int)), none]) (st := S) (g := fun _ => True) (fun u => match u with | .int i => rowU (lbl i.toNat) i.toNat | _ => .non) (fun _ => true) (us := (List.range n).map fun (i : Nat) => U.int (0 + (i : Int))) (rng_big rfl hn) (fun _ => True.intro) (by simp; omega) (fun u hu acc => by
    rw [List.mem_map] at hu
    obtain ⟨k, _, rfl⟩ := hu
    refine ⟨rfl, fun _ => ?_⟩
    have hs : [some (U.int (n : Int)), none].set 1 (some (U.int (0 + (k : Int)))) = [some (U.int (n : Int)), some (U.int (0 + (k : Int)))] := rfl
    rw [hs, many_elem (ml := m_u_law_long_label) (l := lbl k) (by rw [Int.zero_add]; exact long_label_ok)]
    simp [rowU]) (by
      rw [filter_all, List.map_map]
      exact underL_all fun u hu => by
        rw [List.mem_map] at hu
        obtain ⟨k, _, rfl⟩ := hu
        rfl)
  rw [filter_all, List.map_map] at e
  have c : (List.range n).map ((fun u => match u with | .int i => rowU (lbl i.toNat) i.toNat | _ => .non) ∘ fun (i : Nat) => U.int (0 + (i : Int))) = (List.range n).map fun k => rowU (lbl k) k := by
    refine List.map_congr_left fun k _ => ?_
    simp
  rw [c] at e
  exact fs_same (n := 2) (mb := b_u_law_many) rfl (many_body (mc := eScope (eComp (NK.iRng1 (aCons (eVar 0) aNil)) (gN 1) NK.tYes (eTup (aCons (eC (.str "comes")) (aCons (eCall 1 m_u_law_long_label [] (aCons (eVar 1) aNil)) (aCons (eC (.str "s")) (aCons (eVar 1) (aCons (eTup aNil) aNil)))))) [1])) e) (by
    unfold U.under
    exact underL_all fun u hu => by
      rw [List.mem_map] at hu
      obtain ⟨k, _, rfl⟩ := hu
      rfl)
/-! ### a row is read -/
theorem house_body {lo : MS} {S : Sto} (h : lo [some (U.tup []), none] S = SO.next [some (U.tup []), none] S) : (sSeq (sIf (tNot (tTru (eIsi isl [(.b .list), (.b .tuple)] (eVar 0)))) (sRet (eC (.bl false))) sNext)
    (sSeq lo
    (sRet (eC (.bl true))))) [some (U.tup []), none] S = SO.ret (U.bl true) S := by
  simp (maxDischargeDepth := 8) -implicitDefEqProofs only [sSeq, sIf, sAsg, sRet, sDrop, sSetIx, sNext, sCont, NK.tAnd, NK.tOr, NK.tNot, NK.tTru, NK.tB, eOp, eUn, eCB, eIf, eAnd, eOr, eNot, eVar, eC, aCons, aNil, gN, ob, xb, NK.os, NK.xs, nb, rb, kb, eb, List.getElem?_cons_zero, List.getElem?_cons_succ, List.set_cons_zero, List.set_cons_succ, ↓reduceIte, Bool.false_eq_true, Bool.not_true, Bool.not_false, fAdd_i, fSub_i, fNeg_i, fInt_i, fAbs_i, fLt_i, fLe_i, fGt_i, fMin_i, fIsN_n, fNotN_n, fLen_lst, fLen_tup, fTuple_lst, fTuple_tup, U.isNon, truth, fMod_i, fDiv_i, fMul_i, Int.reduceLT, Int.reduceNeg, Int.reducePow, Int.reduceLE, or_true, true_or, and_self, and_true, true_and, eCall, List.append_nil, List.length_cons, List.length_nil, Nat.reduceAdd, Nat.zero_add, eIsi, trOf, isa_int_none, isa_int_bool, isa_int_int, isa_int_str, isa_int_tuple, isa_int_list, isa_bool_none, isa_bool_bool, isa_bool_int, isa_bool_str, isa_bool_tuple, isa_bool_list, isa_str_none, isa_str_bool, isa_str_int, isa_str_str, isa_str_tuple, isa_str_list, isa_seq_none, isa_seq_bool, isa_seq_int, isa_seq_str, isa_seq_tuple, isa_seq_list, isa_tup_none, isa_tup_bool, isa_tup_int, isa_tup_str, isa_tup_tuple, isa_tup_list, isa_int_dict, isa_bool_dict, isa_str_dict, isa_seq_dict, h]
theorem plain_non_body {ml mk mn mh : MF} {S : Sto} : (sSeq (sIf (tOr (tNot (tTru (eIsi isl [(.b .list), (.b .tuple)] (eVar 0)))) (tOr (NK.tB (eOp fEq (eCB fLen (aCons (eVar 0) aNil)) (eC (.int 0)))) (tNot (tTru (eIsi isl [(.b .str)] (eOp fIx (eVar 0) (eC (.int 0)))))))) (sRet (eC .non)) sNext)
    (sSeq (sAsg (eCB fLen (aCons (eVar 0) aNil)) (gN 1))
    (sSeq (sIf (NK.tB (eOp fEq (eOp fIx (eVar 0) (eC (.int 0))) (eC (.str "comes")))) (sSeq (sIf (tOr (NK.tB (eOp fNe (eVar 1) (eC (.int 5)))) (tNot (tAnd (tTru (eCall 1 ml [] (aCons (eOp fIx (eVar 0) (eC (.int 1))) aNil))) (tAnd (tTru (eCall 1 mk [] (aCons (eOp fIx (eVar 0) (eC (.int 2))) aNil))) (tAnd (tTru (eCall 1 mn [] (aCons (eOp fIx (eVar 0) (eC (.int 3))) aNil))) (tTru (eCall 1 mh [] (aCons (eOp fIx (eVar 0) (eC (.int 4))) aNil)))))))) (sRet (eC .non)) sNext)
    (sRet (eTup (aCons (eC (.str "comes")) (aCons (eOp fIx (eVar 0) (eC (.int 1))) (aCons (eOp fIx (eVar 0) (eC (.int 2))) (aCons (eOp fIx (eVar 0) (eC (.int 3))) (aCons (eCB fTuple (aCons (eOp fIx (eVar 0) (eC (.int 4))) aNil)) aNil)))))))) sNext)
    (sSeq sStub
    (sSeq sStub
    (sSeq sStub
    (sRet (eC .non)))))))) [some U.non, none] S = SO.ret U.non S := by
  simp (maxDischargeDepth := 8) -implicitDefEqProofs only [sSeq, sIf, sAsg, sRet, sDrop, sSetIx, sNext, sCont, NK.tAnd, NK.tOr, NK.tNot, NK.tTru, NK.tB, eOp, eUn, eCB, eIf, eAnd, eOr, eNot, eVar, eC, aCons, aNil, gN, ob, xb, NK.os, NK.xs, nb, rb, kb, eb, List.getElem?_cons_zero, List.getElem?_cons_succ, List.set_cons_zero, List.set_cons_succ, ↓reduceIte, Bool.false_eq_true, Bool.not_true, Bool.not_false, fAdd_i, fSub_i, fNeg_i, fInt_i, fAbs_i, fLt_i, fLe_i, fGt_i, fMin_i, fIsN_n, fNotN_n, fLen_lst, fLen_tup, fTuple_lst, fTuple_tup, U.isNon, truth, fMod_i, fDiv_i, fMul_i, Int.reduceLT, Int.reduceNeg, Int.reducePow, Int.reduceLE, or_true, true_or, and_self, and_true, true_and, eCall, List.append_nil, List.length_cons, List.length_nil, Nat.reduceAdd, Nat.zero_add, eIsi, trOf, isa_int_none, isa_int_bool, isa_int_int, isa_int_str, isa_int_tuple, isa_int_list, isa_bool_none, isa_bool_bool, isa_bool_int, isa_bool_str, isa_bool_tuple, isa_bool_list, isa_str_none, isa_str_bool, isa_str_int, isa_str_str, isa_str_tuple, isa_str_list, isa_seq_none, isa_seq_bool, isa_seq_int, isa_seq_str, isa_seq_tuple, isa_seq_list, isa_tup_none, isa_tup_bool, isa_tup_int, isa_tup_str, isa_tup_tuple, isa_tup_list, isa_int_dict, isa_bool_dict, isa_str_dict, isa_seq_dict]

theorem house_ok {S : Sto} : m_is_house [U.tup []] S = Out.ok (U.bl true) S := by
  have lo : (sFor (iSeq (eVar 0)) (gN 1) l_is_house_1) [some (U.tup []), none] S = SO.next [some (U.tup []), none] S := sFor_ok rfl (forM_nil True.intro)
  exact fs_same (n := 2) (mb := b_is_house) rfl (house_body lo) rfl
theorem plain_good {ml mk mn mh : MF} {r : U} {l : Str} {k : Int} {S : Sto} (hl : ml [U.str l] S = Out.ok (U.bl true) S) (hk : mk [U.str (Str.ofString "s")] S = Out.ok (U.bl true) S) (hn : mn [U.int k] S = Out.ok (U.bl true) S) (hh : mh [U.tup []] S = Out.ok (U.bl true) S)
    (x0 : fIx r (U.int 0) S = Out.ok (U.str (Str.ofString "comes")) S) (x1 : fIx r (U.int 1) S = Out.ok (U.str l) S) (x2 : fIx r (U.int 2) S = Out.ok (U.str (Str.ofString "s")) S) (x3 : fIx r (U.int 3) S = Out.ok (U.int k) S) (x4 : fIx r (U.int 4) S = Out.ok (U.tup []) S) (xl : fLen [r] S = Out.ok (U.int 5) S) (tr : trOf r S = some (.b .tuple)) :
    (sSeq (sIf (tOr (tNot (tTru (eIsi isl [(.b .list), (.b .tuple)] (eVar 0)))) (tOr (NK.tB (eOp fEq (eCB fLen (aCons (eVar 0) aNil)) (eC (.int 0)))) (tNot (tTru (eIsi isl [(.b .str)] (eOp fIx (eVar 0) (eC (.int 0)))))))) (sRet (eC .non)) sNext)
    (sSeq (sAsg (eCB fLen (aCons (eVar 0) aNil)) (gN 1))
    (sSeq (sIf (NK.tB (eOp fEq (eOp fIx (eVar 0) (eC (.int 0))) (eC (.str "comes")))) (sSeq (sIf (tOr (NK.tB (eOp fNe (eVar 1) (eC (.int 5)))) (tNot (tAnd (tTru (eCall 1 ml [] (aCons (eOp fIx (eVar 0) (eC (.int 1))) aNil))) (tAnd (tTru (eCall 1 mk [] (aCons (eOp fIx (eVar 0) (eC (.int 2))) aNil))) (tAnd (tTru (eCall 1 mn [] (aCons (eOp fIx (eVar 0) (eC (.int 3))) aNil))) (tTru (eCall 1 mh [] (aCons (eOp fIx (eVar 0) (eC (.int 4))) aNil)))))))) (sRet (eC .non)) sNext)
    (sRet (eTup (aCons (eC (.str "comes")) (aCons (eOp fIx (eVar 0) (eC (.int 1))) (aCons (eOp fIx (eVar 0) (eC (.int 2))) (aCons (eOp fIx (eVar 0) (eC (.int 3))) (aCons (eCB fTuple (aCons (eOp fIx (eVar 0) (eC (.int 4))) aNil)) aNil)))))))) sNext)
    (sSeq sStub
    (sSeq sStub
    (sSeq sStub
    (sRet (eC .non)))))))) [some r, none] S = SO.ret (U.tup [U.str (Str.ofString "comes"), U.str l, U.str (Str.ofString "s"), U.int k, U.tup []]) S := by
  have ts : trOf (U.str (Str.ofString "comes")) S = some (.b .str) := rfl
  have c5 : ((5 : Int) == 0) = false := by decide
  have ec : fEq (U.str (Str.ofString "comes")) (U.str (Str.ofString "comes")) S = Out.ok (U.bl true) S := by
    have ok : okU 12 (U.str (Str.ofString "comes")) = true := by
      show PyData.canLay0 (.str _) = true
      simpa only [PyData.canLay0] using strOk_of "comes"
    rw [fEq_ok ok ok, eqvU_same ok]
  simp (maxDischargeDepth := 8) -implicitDefEqProofs only [sSeq, sIf, sAsg, sRet, sDrop, sSetIx, sNext, sCont, NK.tAnd, NK.tOr, NK.tNot, NK.tTru, NK.tB, eOp, eUn, eCB, eIf, eAnd, eOr, eNot, eVar, eC, aCons, aNil, gN, ob, xb, NK.os, NK.xs, nb, rb, kb, eb, List.getElem?_cons_zero, List.getElem?_cons_succ, List.set_cons_zero, List.set_cons_succ, ↓reduceIte, Bool.false_eq_true, Bool.not_true, Bool.not_false, fAdd_i, fSub_i, fNeg_i, fInt_i, fAbs_i, fLt_i, fLe_i, fGt_i, fMin_i, fIsN_n, fNotN_n, fLen_lst, fLen_tup, fTuple_lst, fTuple_tup, U.isNon, truth, fMod_i, fDiv_i, fMul_i, Int.reduceLT, Int.reduceNeg, Int.reducePow, Int.reduceLE, or_true, true_or, and_self, and_true, true_and, eCall, List.append_nil, List.length_cons, List.length_nil, Nat.reduceAdd, Nat.zero_add, eTup, eIsi, isa_seq_tuple, isa_str_str, tr, ts, x0, x1, x2, x3, x4, xl, fEq_ii, fNe_ii, c5, ec, beq_self_eq_true, hl, hk, hn, hh, Nat.reduceLeDiff]
theorem plain_ok {l : Str} {k : Nat} {S : Sto} (hl : okS l) (lab : labU (U.str l) = true) (hk : (k : Int) ≤ 1000000000000000000000000000000) : m_plain_row [rowU l k] S = Out.ok (rowU l k) S := by
  have h1 := label_ok (u := U.str l) (S := S) hl
  rw [lab] at h1
  have h2 := kind_ok (u := U.str (Str.ofString "s")) (S := S) ⟨strOk_of _, by decide +kernel⟩
  rw [show twoU "s" "d" (U.str (Str.ofString "s")) = true by decide +kernel] at h2
  have h3 := name_ok (u := U.int (k : Int)) (S := S) True.intro
  rw [show isWh (U.int (k : Int)) 0 1000000000000000000000000000000 = true by simp [isWh, hk]] at h3
  exact fs_same (n := 2) (mb := b_plain_row) rfl (plain_good h1 h2 h3 house_ok rfl rfl rfl rfl rfl rfl rfl) rfl
theorem plain_non {S : Sto} : m_plain_row [U.non] S = Out.ok U.non S := fs_same (n := 2) (mb := b_plain_row) rfl (plain_non_body) rfl
end G

set_option Elab.async false
set_option linter.all false
set_option maxRecDepth 100000
set_option maxHeartbeats 4000000
/-! Q03h: the ledger. -/
namespace G
open PySem L2 NK
section
variable {S xs : Sto} {o o' : Ob} {j : Nat}
theorem at0 : (S ++ o :: xs)[S.length]? = some o := by simp
theorem atj : (S ++ xs)[S.length + j]? = xs[j]? := by rw [List.getElem?_append_right (by omega), Nat.add_sub_cancel_left]
theorem set0 : (S ++ o :: xs).set S.length o' = S ++ o' :: xs := by simp
theorem setj : (S ++ xs).set (S.length + j) o = S ++ xs.set j o := by rw [List.set_append, if_neg (by omega), Nat.add_sub_cancel_left]
theorem len2 : (S ++ xs).length = S.length + xs.length := List.length_append
theorem put2 {k : Nat} {us : List U} {w : U} (h : j = us.length) : putFld k j (U.loc S.length) w (S ++ Ob.ins k us :: xs) = some (S ++ Ob.ins k (us ++ [w]) :: xs) := by
  subst h
  simp [putFld]
theorem get2 {k : Nat} {us : List U} : getF k j (U.loc S.length) (S ++ Ob.ins k us :: xs) = us[j]? := by simp [getF, asIns]
end
def flds (b : Nat) (w : Int) : List U := [U.int w, U.loc (b + 1), U.loc (b + 2), U.loc (b + 3), U.loc (b + 4), U.loc (b + 5), U.loc (b + 6), U.loc (b + 7)]
theorem led_body {w : Int} {S : Sto} : (sSeq (NK.sFld 3 0 (eVar 0) (eVar 1))
    (sSeq (NK.sFld 3 1 (eVar 0) (eLst aNil))
    (sSeq (NK.sFld 3 2 (eVar 0) eDict)
    (sSeq (NK.sFld 3 3 (eVar 0) eDict)
    (sSeq (NK.sFld 3 4 (eVar 0) eDict)
    (sSeq (NK.sFld 3 5 (eVar 0) eDict)
    (sSeq (NK.sFld 3 6 (eVar 0) eDict)
    (NK.sFld 3 7 (eVar 0) eDict)))))))) [some (U.loc S.length), some (U.int w)] (S ++ [Ob.ins 3 []]) = SO.next [some (U.loc S.length), some (U.int w)] (S ++ [Ob.ins 3 (flds S.length w), Ob.lst [], Ob.dK [], Ob.dK [], Ob.dK [], Ob.dK [], Ob.dK [], Ob.dK []]) := by
  simp (maxDischargeDepth := 8) -implicitDefEqProofs only [sSeq, sIf, sAsg, sRet, sDrop, sSetIx, sNext, sCont, NK.tAnd, NK.tOr, NK.tNot, NK.tTru, NK.tB, eOp, eUn, eCB, eIf, eAnd, eOr, eNot, eVar, eC, aCons, aNil, gN, ob, xb, NK.os, NK.xs, nb, rb, kb, eb, List.getElem?_cons_zero, List.getElem?_cons_succ, List.set_cons_zero, List.set_cons_succ, ↓reduceIte, Bool.false_eq_true, Bool.not_true, Bool.not_false, fAdd_i, fSub_i, fNeg_i, fInt_i, fAbs_i, fLt_i, fLe_i, fGt_i, fMin_i, fIsN_n, fNotN_n, fLen_lst, fLen_tup, fTuple_lst, fTuple_tup, U.isNon, truth, fMod_i, fDiv_i, fMul_i, Int.reduceLT, Int.reduceNeg, Int.reducePow, Int.reduceLE, or_true, true_or, and_self, and_true, true_and, eCall, List.append_nil, List.length_cons, List.length_nil, Nat.reduceAdd, Nat.zero_add, NK.sFld, eLst_k, lstK_nil, eDict, put2, len2, List.append_assoc, List.cons_append, List.nil_append, flds]
theorem led_made {w : Int} {S : Sto} {env : NK.Env} {ma : MA} (h : ma env S = Out.ok [U.int w] S) : eMake 3 2 m_Ledger___init [] ma env S = Out.ok (U.loc S.length) (S ++ [Ob.ins 3 (flds S.length w), Ob.lst [], Ob.dK [], Ob.dK [], Ob.dK [], Ob.dK [], Ob.dK [], Ob.dK []]) := by
  have e : m_Ledger___init [U.loc S.length, U.int w] (S ++ [Ob.ins 3 []]) = Out.ok U.non (S ++ [Ob.ins 3 (flds S.length w), Ob.lst [], Ob.dK [], Ob.dK [], Ob.dK [], Ob.dK [], Ob.dK [], Ob.dK []]) := run_next (n := 2) (mb := b_Ledger___init) rfl led_body
  generalize m_Ledger___init = mf at e ⊢
  simp only [eMake, h, ob, List.append_nil, List.length_cons, List.length_nil, Nat.reduceAdd, ↓reduceIte, e]
/-- the ledger in the store, behind it the plain rows and what lies about -/
def led (S : Sto) (w : Int) (ps : List U) (kd pa sa ma : List (Key × U)) (rest : Sto) : Sto := S ++ Ob.ins 3 (flds S.length w) :: Ob.lst ps :: Ob.dK kd :: Ob.dK pa :: Ob.dK sa :: Ob.dK [] :: Ob.dK ma :: Ob.dK [] :: rest
section
variable {S rest : Sto} {w : Int} {ps : List U} {kd pa sa ma : List (Key × U)} {l : Str}
theorem enter_body {at_ : Int} (h1 : ∀ v, putU kd (.inr l) v = kd ++ [(.inr l, v)]) (h2 : ∀ v, putU pa (.inr l) v = pa ++ [(.inr l, v)]) (h3 : ∀ v, putU sa (.inr l) v = sa ++ [(.inr l, v)]) (h4 : ∀ v, putU ma (.inr l) v = ma ++ [(.inr l, v)])
    (z0 : ps.length < 16777216) (z1 : kd.length < 16777216) (z2 : pa.length < 16777216) (z3 : sa.length < 16777216) (z4 : ma.length < 16777216) :
    (sSeq (sDrop (eBM fApp (eFld 3 1 (eVar 0)) (aCons (eVar 1) aNil)))
    (sSeq (NK.sDPut (eFld 3 2 (eVar 0)) (eVar 1) (eVar 2))
    (sSeq (NK.sDPut (eFld 3 3 (eVar 0)) (eVar 1) (eVar 3))
    (sSeq (NK.sDPut (eFld 3 4 (eVar 0)) (eVar 1) (eVar 4))
    (NK.sDPut (eFld 3 6 (eVar 0)) (eVar 1) (eLst aNil)))))) [some (U.loc S.length), some (U.str l), some (U.str (Str.ofString "s")), some U.non, some (U.int at_)] (led S w ps kd pa sa ma rest) = SO.next [some (U.loc S.length), some (U.str l), some (U.str (Str.ofString "s")), some U.non, some (U.int at_)] (led S w (ps ++ [U.str l]) (kd ++ [(.inr l, U.str (Str.ofString "s"))]) (pa ++ [(.inr l, U.non)]) (sa ++ [(.inr l, U.int at_)]) (ma ++ [(.inr l, U.loc (S.length + (rest.length + 8)))]) (rest ++ [Ob.lst []])) := by
  unfold led
  simp (maxDischargeDepth := 8) -implicitDefEqProofs only [sSeq, sIf, sAsg, sRet, sDrop, sSetIx, sNext, sCont, NK.tAnd, NK.tOr, NK.tNot, NK.tTru, NK.tB, eOp, eUn, eCB, eIf, eAnd, eOr, eNot, eVar, eC, aCons, aNil, gN, ob, xb, NK.os, NK.xs, nb, rb, kb, eb, List.getElem?_cons_zero, List.getElem?_cons_succ, List.set_cons_zero, List.set_cons_succ, ↓reduceIte, Bool.false_eq_true, Bool.not_true, Bool.not_false, fAdd_i, fSub_i, fNeg_i, fInt_i, fAbs_i, fLt_i, fLe_i, fGt_i, fMin_i, fIsN_n, fNotN_n, fLen_lst, fLen_tup, fTuple_lst, fTuple_tup, U.isNon, truth, fMod_i, fDiv_i, fMul_i, Int.reduceLT, Int.reduceNeg, Int.reducePow, Int.reduceLE, or_true, true_or, and_self, and_true, true_and, eCall, List.append_nil, List.length_cons, List.length_nil, Nat.reduceAdd, Nat.zero_add, eBM, isLoc, fApp, NK.sDPut, dput, dictAt, keyU, eFld, get2, flds, atj, setj, at0, h1, h2, h3, h4, z0, z1, z2, z3, z4, eLst_k, lstK_nil, len2, List.append_assoc, List.cons_append, List.nil_append]
theorem enter_ok {at_ : Int} (h1 : ∀ v, putU kd (.inr l) v = kd ++ [(.inr l, v)]) (h2 : ∀ v, putU pa (.inr l) v = pa ++ [(.inr l, v)]) (h3 : ∀ v, putU sa (.inr l) v = sa ++ [(.inr l, v)]) (h4 : ∀ v, putU ma (.inr l) v = ma ++ [(.inr l, v)])
    (z0 : ps.length < 16777216) (z1 : kd.length < 16777216) (z2 : pa.length < 16777216) (z3 : sa.length < 16777216) (z4 : ma.length < 16777216) :
    m_Ledger_enter [U.loc S.length, U.str l, U.str (Str.ofString "s"), U.non, U.int at_] (led S w ps kd pa sa ma rest) = Out.ok U.non (led S w (ps ++ [U.str l]) (kd ++ [(.inr l, U.str (Str.ofString "s"))]) (pa ++ [(.inr l, U.non)]) (sa ++ [(.inr l, U.int at_)]) (ma ++ [(.inr l, U.loc (S.length + (rest.length + 8)))]) (rest ++ [Ob.lst []])) :=
  run_next (n := 5) (mb := b_Ledger_enter) rfl (enter_body h1 h2 h3 h4 z0 z1 z2 z3 z4)
theorem comes_eq {S : Sto} : fEq (U.str (Str.ofString "comes")) (U.str (Str.ofString "comes")) S = Out.ok (U.bl true) S := by
  have ok : okU 12 (U.str (Str.ofString "comes")) = true := by
    show PyData.canLay0 (.str _) = true
    simpa only [PyData.canLay0] using strOk_of "comes"
  rw [fEq_ok ok ok, eqvU_same ok]
theorem take_body {en : MF} {r x1 x2 at_ b : U} {S S2 : Sto} (x0 : fIx r (U.int 0) S = Out.ok (U.str (Str.ofString "comes")) S) (h1 : fIx r (U.int 1) S = Out.ok x1 S) (h2 : fIx r (U.int 2) S = Out.ok x2 S) (hk : NK.isK 3 b S = true) (he : en [b, x1, x2, U.non, at_] S = Out.ok U.non S2) :
    (sIf (NK.tB (eOp fEq (eOp fIx (eVar 1) (eC (.int 0))) (eC (.str "comes")))) (sDrop (eMeth 3 5 en [] (eVar 0) (aCons (eOp fIx (eVar 1) (eC (.int 1))) (aCons (eOp fIx (eVar 1) (eC (.int 2))) (aCons (eC .non) (aCons (eVar 2) aNil)))))) sStub) [some b, some r, some at_] S = SO.next [some b, some r, some at_] S2 := by
  simp (maxDischargeDepth := 8) -implicitDefEqProofs only [sSeq, sIf, sAsg, sRet, sDrop, sSetIx, sNext, sCont, NK.tAnd, NK.tOr, NK.tNot, NK.tTru, NK.tB, eOp, eUn, eCB, eIf, eAnd, eOr, eNot, eVar, eC, aCons, aNil, gN, ob, xb, NK.os, NK.xs, nb, rb, kb, eb, List.getElem?_cons_zero, List.getElem?_cons_succ, List.set_cons_zero, List.set_cons_succ, ↓reduceIte, Bool.false_eq_true, Bool.not_true, Bool.not_false, fAdd_i, fSub_i, fNeg_i, fInt_i, fAbs_i, fLt_i, fLe_i, fGt_i, fMin_i, fIsN_n, fNotN_n, fLen_lst, fLen_tup, fTuple_lst, fTuple_tup, U.isNon, truth, fMod_i, fDiv_i, fMul_i, Int.reduceLT, Int.reduceNeg, Int.reducePow, Int.reduceLE, or_true, true_or, and_self, and_true, true_and, eCall, List.append_nil, List.length_cons, List.length_nil, Nat.reduceAdd, Nat.zero_add, eMeth, x0, h1, h2, hk, he, comes_eq]
theorem fault_body {r t b : U} {kd : List (Key × U)} {S : Sto} {n w : Int} {d : Nat} (x0 : fIx r (U.int 0) S = Out.ok (U.str (Str.ofString "comes")) S) (x1 : fIx r (U.int 1) S = Out.ok (U.str l) S) (x4 : fIx r (U.int 4) S = Out.ok t S) (xl : fLen [t] S = Out.ok (U.int n) S)
    (f0 : getF 3 0 b S = some (U.int w)) (f2 : getF 3 2 b S = some (U.loc d)) (hd : S[d]? = some (Ob.dK kd)) (hv : valU kd (.inr l) = none) :
    (sSeq (sIf (NK.tB (eOp fEq (eOp fIx (eVar 1) (eC (.int 0))) (eC (.str "comes")))) (sSeq (sIf (NK.tB (eOp (fDIn false) (eOp fIx (eVar 1) (eC (.int 1))) (eFld 3 2 (eVar 0)))) (sRet (eC (.str "label"))) sNext)
    (sRet (eIf (NK.tB (eOp fNe (eCB fLen (aCons (eOp fIx (eVar 1) (eC (.int 4))) aNil)) (eFld 3 0 (eVar 0)))) (eC (.str "width")) (eC .non)))) sNext)
    (sSeq sStub
    (sSeq sStub
    (sSeq sStub
    sStub)))) [some b, some r] S = SO.ret (if (n == w) = true then U.non else U.str (Str.ofString "width")) S := by
  cases q : n == w <;> simp (maxDischargeDepth := 8) -implicitDefEqProofs only [sSeq, sIf, sAsg, sRet, sDrop, sSetIx, sNext, sCont, NK.tAnd, NK.tOr, NK.tNot, NK.tTru, NK.tB, eOp, eUn, eCB, eIf, eAnd, eOr, eNot, eVar, eC, aCons, aNil, gN, ob, xb, NK.os, NK.xs, nb, rb, kb, eb, List.getElem?_cons_zero, List.getElem?_cons_succ, List.set_cons_zero, List.set_cons_succ, ↓reduceIte, Bool.false_eq_true, Bool.not_true, Bool.not_false, fAdd_i, fSub_i, fNeg_i, fInt_i, fAbs_i, fLt_i, fLe_i, fGt_i, fMin_i, fIsN_n, fNotN_n, fLen_lst, fLen_tup, fTuple_lst, fTuple_tup, U.isNon, truth, fMod_i, fDiv_i, fMul_i, Int.reduceLT, Int.reduceNeg, Int.reducePow, Int.reduceLE, or_true, true_or, and_self, and_true, true_and, eCall, List.append_nil, List.length_cons, List.length_nil, Nat.reduceAdd, Nat.zero_add, eFld, f0, f2, fDIn, dictAt, keyU, hd, hv, Option.isSome_none, bne_self_eq_false, x0, x1, x4, xl, comes_eq, fNe_ii, q]
end
end G

set_option Elab.async false
set_option linter.all false
set_option maxRecDepth 100000
set_option maxHeartbeats 4000000
/-! Q03i: the ledger is filled. -/
namespace G
open PySem L2 NK
section
variable {pr fo ta : MF} {b rows r : U} {n : Int} {k : Nat} {e5 e6 : Option U} {S S2 S3 : Sto} {rr pl : List U} {x : Str}
theorem fill_good (h1 : pr [r] S = Out.ok (U.tup rr) S) (h2 : fo [b, U.tup rr] S = Out.ok U.non S) (hk : NK.isK 3 b S = true) (h3 : ta [b, U.tup rr, U.int n] S = Out.ok U.non S2) (hp : S2[k]? = some (Ob.lst pl)) (hz : pl.length < 16777216) (hs : S2.set k (Ob.lst (pl ++ [U.tup rr])) = S3) :
    (sSeq (sAsg (eCall 1 pr [] (aCons (eVar 4) aNil)) (gN 5))
    (sSeq (sIf (NK.tB (eOp fIsN (eVar 5) (eC .non))) (sRet (eTup (aCons (eVar 3) (aCons (eC (.str "row")) aNil)))) sNext)
    (sSeq (sAsg (eMeth 3 2 fo [] (eVar 0) (aCons (eVar 5) aNil)) (gN 6))
    (sSeq (sIf (NK.tB (eOp fNotN (eVar 6) (eC .non))) (sRet (eTup (aCons (eVar 3) (aCons (eVar 6) aNil)))) sNext)
    (sSeq (sDrop (eMeth 3 3 ta [] (eVar 0) (aCons (eVar 5) (aCons (eVar 3) aNil))))
    (sDrop (eBM fApp (eVar 2) (aCons (eVar 5) aNil)))))))) [some b, some rows, some (U.loc k), some (U.int n), some r, e5, e6] S = SO.next [some b, some rows, some (U.loc k), some (U.int n), some r, some (U.tup rr), some U.non] S3 := by
  simp (maxDischargeDepth := 8) -implicitDefEqProofs only [sSeq, sIf, sAsg, sRet, sDrop, sSetIx, sNext, sCont, NK.tAnd, NK.tOr, NK.tNot, NK.tTru, NK.tB, eOp, eUn, eCB, eIf, eAnd, eOr, eNot, eVar, eC, aCons, aNil, gN, ob, xb, NK.os, NK.xs, nb, rb, kb, eb, List.getElem?_cons_zero, List.getElem?_cons_succ, List.set_cons_zero, List.set_cons_succ, ↓reduceIte, Bool.false_eq_true, Bool.not_true, Bool.not_false, fAdd_i, fSub_i, fNeg_i, fInt_i, fAbs_i, fLt_i, fLe_i, fGt_i, fMin_i, fIsN_n, fNotN_n, fLen_lst, fLen_tup, fTuple_lst, fTuple_tup, U.isNon, truth, fMod_i, fDiv_i, fMul_i, Int.reduceLT, Int.reduceNeg, Int.reducePow, Int.reduceLE, or_true, true_or, and_self, and_true, true_and, eCall, List.append_nil, List.length_cons, List.length_nil, Nat.reduceAdd, Nat.zero_add, eMeth, eBM, isLoc, fApp, h1, h2, hk, h3, hp, hz, hs]
theorem fill_none (h1 : pr [r] S = Out.ok U.non S) :
    (sSeq (sAsg (eCall 1 pr [] (aCons (eVar 4) aNil)) (gN 5))
    (sSeq (sIf (NK.tB (eOp fIsN (eVar 5) (eC .non))) (sRet (eTup (aCons (eVar 3) (aCons (eC (.str "row")) aNil)))) sNext)
    (sSeq (sAsg (eMeth 3 2 fo [] (eVar 0) (aCons (eVar 5) aNil)) (gN 6))
    (sSeq (sIf (NK.tB (eOp fNotN (eVar 6) (eC .non))) (sRet (eTup (aCons (eVar 3) (aCons (eVar 6) aNil)))) sNext)
    (sSeq (sDrop (eMeth 3 3 ta [] (eVar 0) (aCons (eVar 5) (aCons (eVar 3) aNil))))
    (sDrop (eBM fApp (eVar 2) (aCons (eVar 5) aNil)))))))) [some b, some rows, some (U.loc k), some (U.int n), some r, e5, e6] S = SO.ret (U.tup [U.int n, U.str (Str.ofString "row")]) S := by
  simp (maxDischargeDepth := 8) -implicitDefEqProofs only [sSeq, sIf, sAsg, sRet, sDrop, sSetIx, sNext, sCont, NK.tAnd, NK.tOr, NK.tNot, NK.tTru, NK.tB, eOp, eUn, eCB, eIf, eAnd, eOr, eNot, eVar, eC, aCons, aNil, gN, ob, xb, NK.os, NK.xs, nb, rb, kb, eb, List.getElem?_cons_zero, List.getElem?_cons_succ, List.set_cons_zero, List.set_cons_succ, ↓reduceIte, Bool.false_eq_true, Bool.not_true, Bool.not_false, fAdd_i, fSub_i, fNeg_i, fInt_i, fAbs_i, fLt_i, fLe_i, fGt_i, fMin_i, fIsN_n, fNotN_n, fLen_lst, fLen_tup, fTuple_lst, fTuple_tup, U.isNon, truth, fMod_i, fDiv_i, fMul_i, Int.reduceLT, Int.reduceNeg, Int.reducePow, Int.reduceLE, or_true, true_or, and_self, and_true, true_and, eCall, List.append_nil, List.length_cons, List.length_nil, Nat.reduceAdd, Nat.zero_add, eTup, h1, Nat.reduceLeDiff]
theorem fill_word (h1 : pr [r] S = Out.ok (U.tup rr) S) (h2 : fo [b, U.tup rr] S = Out.ok (U.str x) S) (hk : NK.isK 3 b S = true) :
    (sSeq (sAsg (eCall 1 pr [] (aCons (eVar 4) aNil)) (gN 5))
    (sSeq (sIf (NK.tB (eOp fIsN (eVar 5) (eC .non))) (sRet (eTup (aCons (eVar 3) (aCons (eC (.str "row")) aNil)))) sNext)
    (sSeq (sAsg (eMeth 3 2 fo [] (eVar 0) (aCons (eVar 5) aNil)) (gN 6))
    (sSeq (sIf (NK.tB (eOp fNotN (eVar 6) (eC .non))) (sRet (eTup (aCons (eVar 3) (aCons (eVar 6) aNil)))) sNext)
    (sSeq (sDrop (eMeth 3 3 ta [] (eVar 0) (aCons (eVar 5) (aCons (eVar 3) aNil))))
    (sDrop (eBM fApp (eVar 2) (aCons (eVar 5) aNil)))))))) [some b, some rows, some (U.loc k), some (U.int n), some r, e5, e6] S = SO.ret (U.tup [U.int n, U.str x]) S := by
  simp (maxDischargeDepth := 8) -implicitDefEqProofs only [sSeq, sIf, sAsg, sRet, sDrop, sSetIx, sNext, sCont, NK.tAnd, NK.tOr, NK.tNot, NK.tTru, NK.tB, eOp, eUn, eCB, eIf, eAnd, eOr, eNot, eVar, eC, aCons, aNil, gN, ob, xb, NK.os, NK.xs, nb, rb, kb, eb, List.getElem?_cons_zero, List.getElem?_cons_succ, List.set_cons_zero, List.set_cons_succ, ↓reduceIte, Bool.false_eq_true, Bool.not_true, Bool.not_false, fAdd_i, fSub_i, fNeg_i, fInt_i, fAbs_i, fLt_i, fLe_i, fGt_i, fMin_i, fIsN_n, fNotN_n, fLen_lst, fLen_tup, fTuple_lst, fTuple_tup, U.isNon, truth, fMod_i, fDiv_i, fMul_i, Int.reduceLT, Int.reduceNeg, Int.reducePow, Int.reduceLE, or_true, true_or, and_self, and_true, true_and, eCall, List.append_nil, List.length_cons, List.length_nil, Nat.reduceAdd, Nat.zero_add, eTup, eMeth, h1, h2, hk, Nat.reduceLeDiff]
end
theorem val_none : ∀ {kvs : List (Key × U)} {k : Key}, k ∉ kvs.map (·.1) → valU kvs k = none
  | [], _, _ => rfl
  | x :: xs, k, h => by
    rw [List.map_cons, List.mem_cons, not_or] at h
    have a : valU (x :: xs) k = valU xs k := by simp [valU, List.find?, Ne.symm h.1]
    rw [a]
    exact val_none h.2
theorem any_val {kvs : List (Key × U)} {k : Key} : (kvs.any fun kv => decide (kv.1 = k)) = (valU kvs k).isSome := by
  induction kvs with
  | nil => rfl
  | cons x xs ih =>
    by_cases e : x.1 = k
    · simp [valU, e]
    · have a : valU (x :: xs) k = valU xs k := by simp [valU, List.find?, e]
      rw [a, ← ih]
      simp [e]
theorem put_new {kvs : List (Key × U)} {k : Key} {w : U} (h : valU kvs k = none) : putU kvs k w = kvs ++ [(k, w)] := by
  unfold putU
  rw [any_val, h]
  rfl
/-- the ledger behind n rows -/
def LI (S : Sto) (w : Int) (lb : Nat → Str) (n : Nat) (X : Sto) : Prop := ∃ sa ma ext, X = led S w ((List.range n).map fun k => U.str (lb k)) ((List.range n).map fun k => (.inr (lb k), U.str (Str.ofString "s"))) ((List.range n).map fun k => (.inr (lb k), U.non)) sa ma (Ob.lst ((List.range n).map fun k => rowU (lb k) k) :: ext) ∧
  sa.map (·.1) = ((List.range n).map fun k => (.inr (lb k) : Key)) ∧ ma.map (·.1) = ((List.range n).map fun k => (.inr (lb k) : Key))
theorem new_key {lb : Nat → Str} {n N : Nat} (hN : n < N) (inj : ∀ i j, i < N → j < N → lb i = lb j → i = j) : (.inr (lb n) : Key) ∉ (List.range n).map fun k => (.inr (lb k) : Key) := by
  intro h
  rw [List.mem_map] at h
  obtain ⟨k, hk, e⟩ := h
  rw [List.mem_range] at hk
  have := inj k n (by omega) hN (Sum.inr.inj e)
  omega
theorem fill_step {S : Sto} {lb : Nat → Str} {n N : Nat} {rows : U} {e5 e6 : Option U} {X : Sto} (hN : n < N) (h5 : N ≤ 10000) (inj : ∀ i j, i < N → j < N → lb i = lb j → i = j) (ok : okS (lb n)) (lab : labU (U.str (lb n)) = true) (h : LI S 0 lb n X) :
    ∃ X', LI S 0 lb (n + 1) X' ∧ l_fill_ledger_1 [some (U.loc S.length), some rows, some (U.loc (S.length + 8)), some (U.int (n : Int)), some (rowU (lb n) n), e5, e6] X = SO.next [some (U.loc S.length), some rows, some (U.loc (S.length + 8)), some (U.int (n : Int)), some (rowU (lb n) n), some (rowU (lb n) n), some U.non] X' := by
  obtain ⟨sa, ma, ext, rfl, hsa, hma⟩ := h
  have nk := new_key hN inj
  have hkd : valU ((List.range n).map fun k => ((.inr (lb k), U.str (Str.ofString "s")) : Key × U)) (.inr (lb n)) = none := val_none (by rw [List.map_map]; exact nk)
  have hpa : valU ((List.range n).map fun k => ((.inr (lb k), U.non) : Key × U)) (.inr (lb n)) = none := val_none (by rw [List.map_map]; exact nk)
  have hsv : valU sa (.inr (lb n)) = none := val_none (by rw [hsa]; exact nk)
  have hmv : valU ma (.inr (lb n)) = none := val_none (by rw [hma]; exact nk)
  have lsa : sa.length = n := by have := congrArg List.length hsa; simpa using this
  have lma : ma.length = n := by have := congrArg List.length hma; simpa using this
  generalize hX : led S 0 ((List.range n).map fun k => U.str (lb k)) ((List.range n).map fun k => (.inr (lb k), U.str (Str.ofString "s"))) ((List.range n).map fun k => (.inr (lb k), U.non)) sa ma (Ob.lst ((List.range n).map fun k => rowU (lb k) k) :: ext) = X
  have p1 := plain_ok (k := n) (S := X) ok lab (by omega)
  have isk : NK.isK 3 (U.loc S.length) X = true := by
    rw [← hX]
    unfold led NK.isK asIns
    dsimp only
    rw [at0]
    rfl
  have f0 : getF 3 0 (U.loc S.length) X = some (U.int 0) := by
    rw [← hX]
    exact get2
  have f2 : getF 3 2 (U.loc S.length) X = some (U.loc (S.length + 2)) := by
    rw [← hX]
    exact get2
  have hd : X[S.length + 2]? = some (Ob.dK ((List.range n).map fun k => (.inr (lb k), U.str (Str.ofString "s")))) := by
    rw [← hX]
    exact atj
  have p2 : m_Ledger_fault_of_row [U.loc S.length, rowU (lb n) n] X = Out.ok U.non X := fs_same (n := 2) (mb := b_Ledger_fault_of_row) rfl (fault_body (r := rowU (lb n) n) (n := 0) (w := 0) (t := U.tup []) rfl rfl rfl rfl f0 f2 hd hkd) rfl
  have en := enter_ok (S := S) (w := 0) (ps := (List.range n).map fun k => U.str (lb k)) (kd := (List.range n).map fun k => (.inr (lb k), U.str (Str.ofString "s"))) (pa := (List.range n).map fun k => (.inr (lb k), U.non)) (sa := sa) (ma := ma) (rest := Ob.lst ((List.range n).map fun k => rowU (lb k) k) :: ext) (l := lb n) (at_ := (n : Int)) (fun v => put_new hkd) (fun v => put_new hpa) (fun v => put_new hsv) (fun v => put_new hmv) (by simp; omega) (by simp; omega) (by simp; omega) (by omega) (by omega)
  rw [hX] at en
  have p3 := run_next (n := 3) (mb := b_Ledger_take) (us := [U.loc S.length, rowU (lb n) n, U.int (n : Int)]) rfl (take_body (r := rowU (lb n) n) rfl rfl rfl isk en)
  refine ⟨_, ?_, fill_good (pr := m_plain_row) (fo := m_Ledger_fault_of_row) (ta := m_Ledger_take) (pl := (List.range n).map fun k => rowU (lb k) k) p1 p2 isk p3 atj (by simp; omega) setj⟩
  refine ⟨sa ++ [(.inr (lb n), U.int (n : Int))], ma ++ [(.inr (lb n), U.loc (S.length + ((Ob.lst ((List.range n).map fun k => rowU (lb k) k) :: ext).length + 8)))], ext ++ [Ob.lst []], ?_, ?_, ?_⟩
  · simp only [List.range_succ, List.map_append, List.map_cons, List.map_nil]
    rfl
  · rw [List.map_append, hsa, List.range_succ, List.map_append]
    rfl
  · rw [List.map_append, hma, List.range_succ, List.map_append]
    rfl
theorem fill_loop {S : Sto} {lb : Nat → Str} {N : Nat} {rows : U} (h5 : N ≤ 10000) (inj : ∀ i j, i < N → j < N → lb i = lb j → i = j) (ok : ∀ i, okS (lb i)) (lab : ∀ i, labU (U.str (lb i)) = true) : ∀ (m n : Nat) (e3 e4 e5 e6 : Option U) (X : Sto), n + m = N → LI S 0 lb n X →
    ∃ X' env', LI S 0 lb N X' ∧ forM (fun _ => True) (gT [3, 4]) l_fill_ledger_1 (enumFrom n ((List.range' n m).map fun k => rowU (lb k) k)) [some (U.loc S.length), some rows, some (U.loc (S.length + 8)), e3, e4, e5, e6] X = SO.next env' X'
  | 0, n, e3, e4, e5, e6, X, hn, h => ⟨X, _, by rw [← hn]; exact h, forM_nil True.intro⟩
  | m + 1, n, e3, e4, e5, e6, X, hn, h => by
    obtain ⟨X1, h1, s1⟩ := fill_step (rows := rows) (e5 := e5) (e6 := e6) (by omega) h5 inj (ok n) (lab n) h
    obtain ⟨X2, env', h2, s2⟩ := fill_loop (rows := rows) h5 inj ok lab m (n + 1) (some (U.int (n : Int))) (some (rowU (lb n) n)) (some (rowU (lb n) n)) (some U.non) X1 (by omega) h1
    refine ⟨X2, env', h2, ?_⟩
    have e : enumFrom n ((List.range' n (m + 1)).map fun k => rowU (lb k) k) = U.tup [U.int (n : Int), rowU (lb n) n] :: enumFrom (n + 1) ((List.range' (n + 1) m).map fun k => rowU (lb k) k) := rfl
    rw [e, forM_n (b := l_fill_ledger_1) (env1 := [some (U.loc S.length), some rows, some (U.loc (S.length + 8)), some (U.int (n : Int)), some (rowU (lb n) n), e5, e6]) True.intro rfl s1]
    exact s2
theorem fill_body {lo : MS} {x0 rows x2 : U} {S S2 : Sto} {env' : NK.Env} (h : lo [some x0, some rows, some x2, none, none, none, none] S = SO.next env' S2) : (sSeq lo
    (sRet (eC .non))) [some x0, some rows, some x2, none, none, none, none] S = SO.ret U.non S2 := by
  simp (maxDischargeDepth := 8) -implicitDefEqProofs only [sSeq, sIf, sAsg, sRet, sDrop, sSetIx, sNext, sCont, NK.tAnd, NK.tOr, NK.tNot, NK.tTru, NK.tB, eOp, eUn, eCB, eIf, eAnd, eOr, eNot, eVar, eC, aCons, aNil, gN, ob, xb, NK.os, NK.xs, nb, rb, kb, eb, List.getElem?_cons_zero, List.getElem?_cons_succ, List.set_cons_zero, List.set_cons_succ, ↓reduceIte, Bool.false_eq_true, Bool.not_true, Bool.not_false, fAdd_i, fSub_i, fNeg_i, fInt_i, fAbs_i, fLt_i, fLe_i, fGt_i, fMin_i, fIsN_n, fNotN_n, fLen_lst, fLen_tup, fTuple_lst, fTuple_tup, U.isNon, truth, fMod_i, fDiv_i, fMul_i, Int.reduceLT, Int.reduceNeg, Int.reducePow, Int.reduceLE, or_true, true_or, and_self, and_true, true_and, eCall, List.append_nil, List.length_cons, List.length_nil, Nat.reduceAdd, Nat.zero_add, h]
theorem fill_body2 {lo : MS} {x0 rows x2 u : U} {S S2 : Sto} (h : lo [some x0, some rows, some x2, none, none, none, none] S = SO.ret u S2) : (sSeq lo
    (sRet (eC .non))) [some x0, some rows, some x2, none, none, none, none] S = SO.ret u S2 := by
  simp (maxDischargeDepth := 8) -implicitDefEqProofs only [sSeq, sIf, sAsg, sRet, sDrop, sSetIx, sNext, sCont, NK.tAnd, NK.tOr, NK.tNot, NK.tTru, NK.tB, eOp, eUn, eCB, eIf, eAnd, eOr, eNot, eVar, eC, aCons, aNil, gN, ob, xb, NK.os, NK.xs, nb, rb, kb, eb, List.getElem?_cons_zero, List.getElem?_cons_succ, List.set_cons_zero, List.set_cons_succ, ↓reduceIte, Bool.false_eq_true, Bool.not_true, Bool.not_false, fAdd_i, fSub_i, fNeg_i, fInt_i, fAbs_i, fLt_i, fLe_i, fGt_i, fMin_i, fIsN_n, fNotN_n, fLen_lst, fLen_tup, fTuple_lst, fTuple_tup, U.isNon, truth, fMod_i, fDiv_i, fMul_i, Int.reduceLT, Int.reduceNeg, Int.reducePow, Int.reduceLE, or_true, true_or, and_self, and_true, true_and, eCall, List.append_nil, List.length_cons, List.length_nil, Nat.reduceAdd, Nat.zero_add, h]
/-- the ledger before any row, the plain rows behind it -/
theorem LI.zero {S : Sto} {w : Int} {lb : Nat → Str} : LI S w lb 0 (led S w [] [] [] [] [] [Ob.lst []]) := ⟨[], [], [], rfl, rfl, rfl⟩
theorem fill_all {S : Sto} {lb : Nat → Str} {N : Nat} (h5 : N ≤ 10000) (inj : ∀ i j, i < N → j < N → lb i = lb j → i = j) (ok : ∀ i, okS (lb i)) (lab : ∀ i, labU (U.str (lb i)) = true) :
    ∃ X', LI S 0 lb N X' ∧ m_fill_ledger [U.loc S.length, U.lst ((List.range N).map fun k => rowU (lb k) k), U.loc (S.length + 8)] (led S 0 [] [] [] [] [] [Ob.lst []]) = Out.ok U.non X' := by
  obtain ⟨X', env', h, e⟩ := fill_loop (S := S) (rows := U.lst ((List.range N).map fun k => rowU (lb k) k)) h5 inj ok lab N 0 none none none none _ (by omega) LI.zero
  rw [← List.range_eq_range'] at e
  exact ⟨X', h, run_ret (n := 7) (mb := b_fill_ledger) rfl (fill_body (sFor_ok rfl e))⟩
theorem fill_nil {S X : Sto} {rows x0 x2 : U} (hr : rows = U.lst [] ∨ rows = U.tup []) : m_fill_ledger [x0, rows, x2] X = Out.ok U.non X := by
  rcases hr with rfl | rfl <;> exact run_ret (n := 7) (mb := b_fill_ledger) rfl (fill_body (sFor_ok rfl (forM_nil True.intro)))
theorem fill_nones {X : Sto} {us : List U} {x0 : U} {k : Nat} : m_fill_ledger [x0, U.lst (U.non :: us), U.loc k] X = Out.ok (U.tup [U.int 0, U.str (Str.ofString "row")]) X := by
  have e : forM (fun _ => True) (gT [3, 4]) l_fill_ledger_1 (enumFrom 0 (U.non :: us)) [some x0, some (U.lst (U.non :: us)), some (U.loc k), none, none, none, none] X = SO.ret (U.tup [U.int 0, U.str (Str.ofString "row")]) X :=
    forM_r (b := l_fill_ledger_1) (env1 := [some x0, some (U.lst (U.non :: us)), some (U.loc k), some (U.int 0), some U.non, none, none]) True.intro rfl (fill_none (pr := m_plain_row) (fo := m_Ledger_fault_of_row) (ta := m_Ledger_take) plain_non)
  exact run_ret (n := 7) (mb := b_fill_ledger) rfl (fill_body2 (sFor_ok rfl e))
theorem fill_width {S : Sto} {us : List U} {l : Str} {w : Int} {k : Nat} (hw : w ≠ 0) (ok : okS l) (lab : labU (U.str l) = true) : m_fill_ledger [U.loc S.length, U.lst (rowU l 0 :: us), U.loc k] (led S w [] [] [] [] [] [Ob.lst []]) = Out.ok (U.tup [U.int 0, U.str (Str.ofString "width")]) (led S w [] [] [] [] [] [Ob.lst []]) := by
  generalize hX : led S w [] [] [] [] [] [Ob.lst []] = X
  have p1 := plain_ok (k := 0) (S := X) ok lab (by omega)
  have isk : NK.isK 3 (U.loc S.length) X = true := by
    rw [← hX]
    unfold led NK.isK asIns
    dsimp only
    rw [at0]
    rfl
  have f0 : getF 3 0 (U.loc S.length) X = some (U.int w) := by
    rw [← hX]
    exact get2
  have f2 : getF 3 2 (U.loc S.length) X = some (U.loc (S.length + 2)) := by
    rw [← hX]
    exact get2
  have hd : X[S.length + 2]? = some (Ob.dK []) := by
    rw [← hX]
    exact atj
  have fb := fault_body (r := rowU l 0) (l := l) (n := 0) (w := w) (t := U.tup []) (b := U.loc S.length) (S := X) rfl rfl rfl rfl f0 f2 hd rfl
  rw [if_neg (by rw [beq_iff_eq]; exact fun e => hw e.symm)] at fb
  have p2 : m_Ledger_fault_of_row [U.loc S.length, rowU l 0] X = Out.ok (U.str (Str.ofString "width")) X := fs_same (n := 2) (mb := b_Ledger_fault_of_row) rfl fb rfl
  have e : forM (fun _ => True) (gT [3, 4]) l_fill_ledger_1 (enumFrom 0 (rowU l 0 :: us)) [some (U.loc S.length), some (U.lst (rowU l 0 :: us)), some (U.loc k), none, none, none, none] X = SO.ret (U.tup [U.int 0, U.str (Str.ofString "width")]) X :=
    forM_r (b := l_fill_ledger_1) (env1 := [some (U.loc S.length), some (U.lst (rowU l 0 :: us)), some (U.loc k), some (U.int 0), some (rowU l 0), none, none]) True.intro rfl (fill_word (pr := m_plain_row) (fo := m_Ledger_fault_of_row) (ta := m_Ledger_take) p1 p2 isk)
  exact run_ret (n := 7) (mb := b_fill_ledger) rfl (fill_body2 (sFor_ok rfl e))
end G

set_option Elab.async false
set_option linter.all false
set_option maxRecDepth 100000
set_option maxHeartbeats 4000000
/-! Q03j: records asked. -/
namespace G
open PySem L2 NK
def word (i : Int) (x : String) : U := U.tup [U.int i, U.str (Str.ofString x)]
section
variable {mw : MF} {wd rows : U} {e2 : Option U} {S : Sto}
theorem fa1 (h : mw [wd, U.int 0, U.int 2] S = Out.ok (U.bl false) S) : (sSeq (sIf (tNot (tTru (eCall 3 mw [] (aCons (eVar 0) (aCons (eC (.int 0)) (aCons (eC (.int 2)) aNil)))))) (sRet (eTup (aCons (eC (.int 0)) (aCons (eC (.str "width")) aNil)))) sNext)
    (sSeq (sIf (tNot (tTru (eIsi isl [(.b .list), (.b .tuple)] (eVar 1)))) (sRet (eTup (aCons (eC (.int 0)) (aCons (eC (.str "rows")) aNil)))) sNext)
    (sSeq (sIf (NK.tB (eOp fGt (eCB fLen (aCons (eVar 1) aNil)) (eC (.int 5000)))) (sRet (eTup (aCons (eC (.int 5000)) (aCons (eC (.str "many")) aNil)))) sNext)
    (sRet (eC .non))))) [some wd, some rows] S = SO.ret (word 0 "width") S := by
  unfold word
  simp (maxDischargeDepth := 8) -implicitDefEqProofs only [sSeq, sIf, sAsg, sRet, sDrop, sSetIx, sNext, sCont, NK.tAnd, NK.tOr, NK.tNot, NK.tTru, NK.tB, eOp, eUn, eCB, eIf, eAnd, eOr, eNot, eVar, eC, aCons, aNil, gN, ob, xb, NK.os, NK.xs, nb, rb, kb, eb, List.getElem?_cons_zero, List.getElem?_cons_succ, List.set_cons_zero, List.set_cons_succ, ↓reduceIte, Bool.false_eq_true, Bool.not_true, Bool.not_false, fAdd_i, fSub_i, fNeg_i, fInt_i, fAbs_i, fLt_i, fLe_i, fGt_i, fMin_i, fIsN_n, fNotN_n, fLen_lst, fLen_tup, fTuple_lst, fTuple_tup, U.isNon, truth, fMod_i, fDiv_i, fMul_i, Int.reduceLT, Int.reduceNeg, Int.reducePow, Int.reduceLE, or_true, true_or, and_self, and_true, true_and, eCall, List.append_nil, List.length_cons, List.length_nil, Nat.reduceAdd, Nat.zero_add, eTup, h, Nat.reduceLeDiff]
theorem fa2 {t : Tr} (h : mw [wd, U.int 0, U.int 2] S = Out.ok (U.bl true) S) (ht : trOf rows S = some t) (ha : isAny isl t [.b .list, .b .tuple] = some false) : (sSeq (sIf (tNot (tTru (eCall 3 mw [] (aCons (eVar 0) (aCons (eC (.int 0)) (aCons (eC (.int 2)) aNil)))))) (sRet (eTup (aCons (eC (.int 0)) (aCons (eC (.str "width")) aNil)))) sNext)
    (sSeq (sIf (tNot (tTru (eIsi isl [(.b .list), (.b .tuple)] (eVar 1)))) (sRet (eTup (aCons (eC (.int 0)) (aCons (eC (.str "rows")) aNil)))) sNext)
    (sSeq (sIf (NK.tB (eOp fGt (eCB fLen (aCons (eVar 1) aNil)) (eC (.int 5000)))) (sRet (eTup (aCons (eC (.int 5000)) (aCons (eC (.str "many")) aNil)))) sNext)
    (sRet (eC .non))))) [some wd, some rows] S = SO.ret (word 0 "rows") S := by
  unfold word
  simp (maxDischargeDepth := 8) -implicitDefEqProofs only [sSeq, sIf, sAsg, sRet, sDrop, sSetIx, sNext, sCont, NK.tAnd, NK.tOr, NK.tNot, NK.tTru, NK.tB, eOp, eUn, eCB, eIf, eAnd, eOr, eNot, eVar, eC, aCons, aNil, gN, ob, xb, NK.os, NK.xs, nb, rb, kb, eb, List.getElem?_cons_zero, List.getElem?_cons_succ, List.set_cons_zero, List.set_cons_succ, ↓reduceIte, Bool.false_eq_true, Bool.not_true, Bool.not_false, fAdd_i, fSub_i, fNeg_i, fInt_i, fAbs_i, fLt_i, fLe_i, fGt_i, fMin_i, fIsN_n, fNotN_n, fLen_lst, fLen_tup, fTuple_lst, fTuple_tup, U.isNon, truth, fMod_i, fDiv_i, fMul_i, Int.reduceLT, Int.reduceNeg, Int.reducePow, Int.reduceLE, or_true, true_or, and_self, and_true, true_and, eCall, List.append_nil, List.length_cons, List.length_nil, Nat.reduceAdd, Nat.zero_add, eTup, eIsi, h, ht, ha, Nat.reduceLeDiff]
theorem fa3 {t : Tr} {n : Int} (h : mw [wd, U.int 0, U.int 2] S = Out.ok (U.bl true) S) (ht : trOf rows S = some t) (ha : isAny isl t [.b .list, .b .tuple] = some true) (hl : fLen [rows] S = Out.ok (U.int n) S) (hn : decide (5000 < n) = true) : (sSeq (sIf (tNot (tTru (eCall 3 mw [] (aCons (eVar 0) (aCons (eC (.int 0)) (aCons (eC (.int 2)) aNil)))))) (sRet (eTup (aCons (eC (.int 0)) (aCons (eC (.str "width")) aNil)))) sNext)
    (sSeq (sIf (tNot (tTru (eIsi isl [(.b .list), (.b .tuple)] (eVar 1)))) (sRet (eTup (aCons (eC (.int 0)) (aCons (eC (.str "rows")) aNil)))) sNext)
    (sSeq (sIf (NK.tB (eOp fGt (eCB fLen (aCons (eVar 1) aNil)) (eC (.int 5000)))) (sRet (eTup (aCons (eC (.int 5000)) (aCons (eC (.str "many")) aNil)))) sNext)
    (sRet (eC .non))))) [some wd, some rows] S = SO.ret (word 5000 "many") S := by
  unfold word
  simp (maxDischargeDepth := 8) -implicitDefEqProofs only [sSeq, sIf, sAsg, sRet, sDrop, sSetIx, sNext, sCont, NK.tAnd, NK.tOr, NK.tNot, NK.tTru, NK.tB, eOp, eUn, eCB, eIf, eAnd, eOr, eNot, eVar, eC, aCons, aNil, gN, ob, xb, NK.os, NK.xs, nb, rb, kb, eb, List.getElem?_cons_zero, List.getElem?_cons_succ, List.set_cons_zero, List.set_cons_succ, ↓reduceIte, Bool.false_eq_true, Bool.not_true, Bool.not_false, fAdd_i, fSub_i, fNeg_i, fInt_i, fAbs_i, fLt_i, fLe_i, fGt_i, fMin_i, fIsN_n, fNotN_n, fLen_lst, fLen_tup, fTuple_lst, fTuple_tup, U.isNon, truth, fMod_i, fDiv_i, fMul_i, Int.reduceLT, Int.reduceNeg, Int.reducePow, Int.reduceLE, or_true, true_or, and_self, and_true, true_and, eCall, List.append_nil, List.length_cons, List.length_nil, Nat.reduceAdd, Nat.zero_add, eTup, eIsi, h, ht, ha, hl, hn, Nat.reduceLeDiff]
theorem fa4 {t : Tr} {n : Int} (h : mw [wd, U.int 0, U.int 2] S = Out.ok (U.bl true) S) (ht : trOf rows S = some t) (ha : isAny isl t [.b .list, .b .tuple] = some true) (hl : fLen [rows] S = Out.ok (U.int n) S) (hn : decide (5000 < n) = false) : (sSeq (sIf (tNot (tTru (eCall 3 mw [] (aCons (eVar 0) (aCons (eC (.int 0)) (aCons (eC (.int 2)) aNil)))))) (sRet (eTup (aCons (eC (.int 0)) (aCons (eC (.str "width")) aNil)))) sNext)
    (sSeq (sIf (tNot (tTru (eIsi isl [(.b .list), (.b .tuple)] (eVar 1)))) (sRet (eTup (aCons (eC (.int 0)) (aCons (eC (.str "rows")) aNil)))) sNext)
    (sSeq (sIf (NK.tB (eOp fGt (eCB fLen (aCons (eVar 1) aNil)) (eC (.int 5000)))) (sRet (eTup (aCons (eC (.int 5000)) (aCons (eC (.str "many")) aNil)))) sNext)
    (sRet (eC .non))))) [some wd, some rows] S = SO.ret U.non S := by
  simp (maxDischargeDepth := 8) -implicitDefEqProofs only [sSeq, sIf, sAsg, sRet, sDrop, sSetIx, sNext, sCont, NK.tAnd, NK.tOr, NK.tNot, NK.tTru, NK.tB, eOp, eUn, eCB, eIf, eAnd, eOr, eNot, eVar, eC, aCons, aNil, gN, ob, xb, NK.os, NK.xs, nb, rb, kb, eb, List.getElem?_cons_zero, List.getElem?_cons_succ, List.set_cons_zero, List.set_cons_succ, ↓reduceIte, Bool.false_eq_true, Bool.not_true, Bool.not_false, fAdd_i, fSub_i, fNeg_i, fInt_i, fAbs_i, fLt_i, fLe_i, fGt_i, fMin_i, fIsN_n, fNotN_n, fLen_lst, fLen_tup, fTuple_lst, fTuple_tup, U.isNon, truth, fMod_i, fDiv_i, fMul_i, Int.reduceLT, Int.reduceNeg, Int.reducePow, Int.reduceLE, or_true, true_or, and_self, and_true, true_and, eCall, List.append_nil, List.length_cons, List.length_nil, Nat.reduceAdd, Nat.zero_add, eTup, eIsi, h, ht, ha, hl, hn]
end
/-! ### record_fault -/
theorem rf1 {fa fi : MF} {mk : ME} {wd rows : U} {us : List U} {S : Sto} (h : fa [wd, rows] S = Out.ok (U.tup us) S) : (sSeq (sAsg (eCall 2 fa [] (aCons (eVar 0) (aCons (eVar 1) aNil))) (gN 2))
    (sSeq (sIf (NK.tB (eOp fNotN (eVar 2) (eC .non))) (sRet (eVar 2)) sNext)
    (sRet (eCall 3 fi [] (aCons mk (aCons (eVar 1) (aCons (eLst aNil) aNil))))))) [some wd, some rows, none] S = SO.ret (U.tup us) S := by
  simp (maxDischargeDepth := 8) -implicitDefEqProofs only [sSeq, sIf, sAsg, sRet, sDrop, sSetIx, sNext, sCont, NK.tAnd, NK.tOr, NK.tNot, NK.tTru, NK.tB, eOp, eUn, eCB, eIf, eAnd, eOr, eNot, eVar, eC, aCons, aNil, gN, ob, xb, NK.os, NK.xs, nb, rb, kb, eb, List.getElem?_cons_zero, List.getElem?_cons_succ, List.set_cons_zero, List.set_cons_succ, ↓reduceIte, Bool.false_eq_true, Bool.not_true, Bool.not_false, fAdd_i, fSub_i, fNeg_i, fInt_i, fAbs_i, fLt_i, fLe_i, fGt_i, fMin_i, fIsN_n, fNotN_n, fLen_lst, fLen_tup, fTuple_lst, fTuple_tup, U.isNon, truth, fMod_i, fDiv_i, fMul_i, Int.reduceLT, Int.reduceNeg, Int.reducePow, Int.reduceLE, or_true, true_or, and_self, and_true, true_and, eCall, List.append_nil, List.length_cons, List.length_nil, Nat.reduceAdd, Nat.zero_add, h]
theorem rf2 {fa fi : MF} {mk : ME} {wd rows x u : U} {S S1 S2 : Sto} (h : fa [wd, rows] S = Out.ok U.non S) (hm : ∀ e, mk [some wd, some rows, e] S = Out.ok x S1) (hf : fi [x, rows, U.loc S1.length] (S1 ++ [Ob.lst []]) = Out.ok u S2) : (sSeq (sAsg (eCall 2 fa [] (aCons (eVar 0) (aCons (eVar 1) aNil))) (gN 2))
    (sSeq (sIf (NK.tB (eOp fNotN (eVar 2) (eC .non))) (sRet (eVar 2)) sNext)
    (sRet (eCall 3 fi [] (aCons mk (aCons (eVar 1) (aCons (eLst aNil) aNil))))))) [some wd, some rows, none] S = SO.ret u S2 := by
  simp (maxDischargeDepth := 8) -implicitDefEqProofs only [sSeq, sIf, sAsg, sRet, sDrop, sSetIx, sNext, sCont, NK.tAnd, NK.tOr, NK.tNot, NK.tTru, NK.tB, eOp, eUn, eCB, eIf, eAnd, eOr, eNot, eVar, eC, aCons, aNil, gN, ob, xb, NK.os, NK.xs, nb, rb, kb, eb, List.getElem?_cons_zero, List.getElem?_cons_succ, List.set_cons_zero, List.set_cons_succ, ↓reduceIte, Bool.false_eq_true, Bool.not_true, Bool.not_false, fAdd_i, fSub_i, fNeg_i, fInt_i, fAbs_i, fLt_i, fLe_i, fGt_i, fMin_i, fIsN_n, fNotN_n, fLen_lst, fLen_tup, fTuple_lst, fTuple_tup, U.isNon, truth, fMod_i, fDiv_i, fMul_i, Int.reduceLT, Int.reduceNeg, Int.reducePow, Int.reduceLE, or_true, true_or, and_self, and_true, true_and, eCall, List.append_nil, List.length_cons, List.length_nil, Nat.reduceAdd, Nat.zero_add, eLst_k, lstK_nil, h, hm, hf]
/-! ### the record -/
theorem okIx_w {i : Int} {x : String} (h : i.natAbs.log2 < 1920) : okIx [U.int i, U.str (Str.ofString x)] 0 = true := decide_eq_true h
section
variable {fa fi : MF} {mk c4 c5 c6 c7 c8 : ME} {wd rows L self : U} {S S1 S2 : Sto} {i : Int} {x : String}
theorem rec_exc1 (hi : i.natAbs.log2 < 1920) (h : fa [wd, rows] S = Out.ok (word i x) S) : (sSeq (sAsg (eCall 2 fa [] (aCons (eVar 1) (aCons (eVar 2) aNil))) (gN 3))
    (sSeq (sIf (NK.tB (eOp fNotN (eVar 3) (eC .non))) (sRaiseG 1 2 [0] (aCons (eOp fIx (eVar 3) (eC (.int 0))) (aCons (eOp fIx (eVar 3) (eC (.int 1))) aNil))) sNext)
    (sSeq (sAsg mk (gN 4))
    (sSeq (sAsg (eLst aNil) (gN 5))
    (sSeq (sAsg (eCall 3 fi [] (aCons (eVar 4) (aCons (eVar 2) (aCons (eVar 5) aNil)))) (gN 3))
    (sSeq (sIf (NK.tB (eOp fNotN (eVar 3) (eC .non))) (sRaiseG 1 2 [0] (aCons (eOp fIx (eVar 3) (eC (.int 0))) (aCons (eOp fIx (eVar 3) (eC (.int 1))) aNil))) sNext)
    (sSeq (NK.sFld 4 0 (eVar 0) (eVar 4))
    (sSeq (NK.sFld 4 1 (eVar 0) (eVar 1))
    (sSeq (NK.sFld 4 2 (eVar 0) (eCB fTuple (aCons (eVar 5) aNil)))
    (sSeq (NK.sFld 4 3 (eVar 0) (eCB fTuple (aCons (eFld 3 1 (eVar 4)) aNil)))
    (sSeq (NK.sFld 4 4 (eVar 0) (eCB fTuple (aCons c4 aNil)))
    (sSeq (NK.sFld 4 5 (eVar 0) (eCB fTuple (aCons c5 aNil)))
    (sSeq (NK.sFld 4 6 (eVar 0) (eCB fTuple (aCons c6 aNil)))
    (sSeq (NK.sFld 4 7 (eVar 0) (eCB fTuple (aCons c7 aNil)))
    (NK.sFld 4 8 (eVar 0) (eCB fTuple (aCons c8 aNil))))))))))))))))) [some self, some wd, some rows, none, none, none, none, none] S = SO.exc ⟨1, [U.int i, U.str (Str.ofString x)]⟩ [some self, some wd, some rows, some (word i x), none, none, none, none] S := by
  have x0 : fIx (word i x) (U.int 0) S = Out.ok (U.int i) S := rfl
  have x1 : fIx (word i x) (U.int 1) S = Out.ok (U.str (Str.ofString x)) S := rfl
  have nn : fNotN (word i x) U.non S = Out.ok (U.bl true) S := rfl
  have ok := okIx_w (x := x) hi
  generalize word i x = f at h x0 x1 nn ⊢
  simp (maxDischargeDepth := 8) -implicitDefEqProofs only [sSeq, sIf, sAsg, sRet, NK.tB, eOp, eVar, eC, aCons, aNil, gN, ob, xb, NK.os, NK.xs, nb, rb, kb, eb, eCall, List.getElem?_cons_zero, List.getElem?_cons_succ, List.set_cons_zero, List.set_cons_succ, ↓reduceIte, h, x0, x1, nn, sRaiseG, List.append_nil, List.length_cons, List.length_nil, Nat.reduceAdd, List.all_cons, List.all_nil, ok, Bool.and_true, and_self]
theorem rec_exc2 (hi : i.natAbs.log2 < 1920) (h : fa [wd, rows] S = Out.ok U.non S) (hm : ∀ e3 e4 e5 e6 e7, mk [some self, some wd, some rows, e3, e4, e5, e6, e7] S = Out.ok L S1) (hf : fi [L, rows, U.loc S1.length] (S1 ++ [Ob.lst []]) = Out.ok (word i x) S2) : (sSeq (sAsg (eCall 2 fa [] (aCons (eVar 1) (aCons (eVar 2) aNil))) (gN 3))
    (sSeq (sIf (NK.tB (eOp fNotN (eVar 3) (eC .non))) (sRaiseG 1 2 [0] (aCons (eOp fIx (eVar 3) (eC (.int 0))) (aCons (eOp fIx (eVar 3) (eC (.int 1))) aNil))) sNext)
    (sSeq (sAsg mk (gN 4))
    (sSeq (sAsg (eLst aNil) (gN 5))
    (sSeq (sAsg (eCall 3 fi [] (aCons (eVar 4) (aCons (eVar 2) (aCons (eVar 5) aNil)))) (gN 3))
    (sSeq (sIf (NK.tB (eOp fNotN (eVar 3) (eC .non))) (sRaiseG 1 2 [0] (aCons (eOp fIx (eVar 3) (eC (.int 0))) (aCons (eOp fIx (eVar 3) (eC (.int 1))) aNil))) sNext)
    (sSeq (NK.sFld 4 0 (eVar 0) (eVar 4))
    (sSeq (NK.sFld 4 1 (eVar 0) (eVar 1))
    (sSeq (NK.sFld 4 2 (eVar 0) (eCB fTuple (aCons (eVar 5) aNil)))
    (sSeq (NK.sFld 4 3 (eVar 0) (eCB fTuple (aCons (eFld 3 1 (eVar 4)) aNil)))
    (sSeq (NK.sFld 4 4 (eVar 0) (eCB fTuple (aCons c4 aNil)))
    (sSeq (NK.sFld 4 5 (eVar 0) (eCB fTuple (aCons c5 aNil)))
    (sSeq (NK.sFld 4 6 (eVar 0) (eCB fTuple (aCons c6 aNil)))
    (sSeq (NK.sFld 4 7 (eVar 0) (eCB fTuple (aCons c7 aNil)))
    (NK.sFld 4 8 (eVar 0) (eCB fTuple (aCons c8 aNil))))))))))))))))) [some self, some wd, some rows, none, none, none, none, none] S = SO.exc ⟨1, [U.int i, U.str (Str.ofString x)]⟩ [some self, some wd, some rows, some (word i x), some L, some (U.loc S1.length), none, none] S2 := by
  have x0 : fIx (word i x) (U.int 0) S2 = Out.ok (U.int i) S2 := rfl
  have x1 : fIx (word i x) (U.int 1) S2 = Out.ok (U.str (Str.ofString x)) S2 := rfl
  have nn : fNotN (word i x) U.non S2 = Out.ok (U.bl true) S2 := rfl
  have n0 : ∀ S, fNotN U.non U.non S = Out.ok (U.bl false) S := fun _ => rfl
  have ok := okIx_w (x := x) hi
  generalize word i x = f at hf x0 x1 nn ⊢
  simp (maxDischargeDepth := 8) -implicitDefEqProofs only [sSeq, sIf, sAsg, sRet, sNext, NK.tB, eOp, eVar, eC, aCons, aNil, gN, ob, xb, NK.os, NK.xs, nb, rb, kb, eb, eCall, eLst_k, lstK_nil, List.getElem?_cons_zero, List.getElem?_cons_succ, List.set_cons_zero, List.set_cons_succ, ↓reduceIte, Bool.false_eq_true, h, hm, hf, x0, x1, nn, n0, sRaiseG, List.append_nil, List.length_cons, List.length_nil, Nat.reduceAdd, List.all_cons, List.all_nil, ok, Bool.and_true, and_self]
theorem rec_good {T R : Sto} {b p : Nat} {pl ps w4 w5 w8 : List U} (hs : self = U.loc T.length) (h : fa [wd, rows] S = Out.ok U.non S) (hm : ∀ e3 e4 e5 e6 e7, mk [some self, some wd, some rows, e3, e4, e5, e6, e7] S = Out.ok (U.loc b) S1) (hp : S1.length = p) (hf : fi [U.loc b, rows, U.loc p] (S1 ++ [Ob.lst []]) = Out.ok U.non (T ++ Ob.ins 4 [] :: R))
    (tp : ∀ us, fTuple [U.loc p] (T ++ Ob.ins 4 us :: R) = Out.ok (U.tup pl) (T ++ Ob.ins 4 us :: R)) (f1 : ∀ us, getF 3 1 (U.loc b) (T ++ Ob.ins 4 us :: R) = some (U.loc (b + 1))) (ts : ∀ us, fTuple [U.loc (b + 1)] (T ++ Ob.ins 4 us :: R) = Out.ok (U.tup ps) (T ++ Ob.ins 4 us :: R))
    (h4 : ∀ us, c4 [some self, some wd, some rows, some U.non, some (U.loc b), some (U.loc p), none, none] (T ++ Ob.ins 4 us :: R) = Out.ok (U.lst w4) (T ++ Ob.ins 4 us :: R)) (h5 : ∀ us, c5 [some self, some wd, some rows, some U.non, some (U.loc b), some (U.loc p), none, none] (T ++ Ob.ins 4 us :: R) = Out.ok (U.lst w5) (T ++ Ob.ins 4 us :: R))
    (h6 : ∀ us, c6 [some self, some wd, some rows, some U.non, some (U.loc b), some (U.loc p), none, none] (T ++ Ob.ins 4 us :: R) = Out.ok (U.lst []) (T ++ Ob.ins 4 us :: R)) (h7 : ∀ us, us[6]? = some (U.tup []) → c7 [some self, some wd, some rows, some U.non, some (U.loc b), some (U.loc p), none, none] (T ++ Ob.ins 4 us :: R) = Out.ok (U.lst []) (T ++ Ob.ins 4 us :: R)) (h8 : ∀ us, c8 [some self, some wd, some rows, some U.non, some (U.loc b), some (U.loc p), none, none] (T ++ Ob.ins 4 us :: R) = Out.ok (U.lst w8) (T ++ Ob.ins 4 us :: R)) :
    (sSeq (sAsg (eCall 2 fa [] (aCons (eVar 1) (aCons (eVar 2) aNil))) (gN 3))
    (sSeq (sIf (NK.tB (eOp fNotN (eVar 3) (eC .non))) (sRaiseG 1 2 [0] (aCons (eOp fIx (eVar 3) (eC (.int 0))) (aCons (eOp fIx (eVar 3) (eC (.int 1))) aNil))) sNext)
    (sSeq (sAsg mk (gN 4))
    (sSeq (sAsg (eLst aNil) (gN 5))
    (sSeq (sAsg (eCall 3 fi [] (aCons (eVar 4) (aCons (eVar 2) (aCons (eVar 5) aNil)))) (gN 3))
    (sSeq (sIf (NK.tB (eOp fNotN (eVar 3) (eC .non))) (sRaiseG 1 2 [0] (aCons (eOp fIx (eVar 3) (eC (.int 0))) (aCons (eOp fIx (eVar 3) (eC (.int 1))) aNil))) sNext)
    (sSeq (NK.sFld 4 0 (eVar 0) (eVar 4))
    (sSeq (NK.sFld 4 1 (eVar 0) (eVar 1))
    (sSeq (NK.sFld 4 2 (eVar 0) (eCB fTuple (aCons (eVar 5) aNil)))
    (sSeq (NK.sFld 4 3 (eVar 0) (eCB fTuple (aCons (eFld 3 1 (eVar 4)) aNil)))
    (sSeq (NK.sFld 4 4 (eVar 0) (eCB fTuple (aCons c4 aNil)))
    (sSeq (NK.sFld 4 5 (eVar 0) (eCB fTuple (aCons c5 aNil)))
    (sSeq (NK.sFld 4 6 (eVar 0) (eCB fTuple (aCons c6 aNil)))
    (sSeq (NK.sFld 4 7 (eVar 0) (eCB fTuple (aCons c7 aNil)))
    (NK.sFld 4 8 (eVar 0) (eCB fTuple (aCons c8 aNil))))))))))))))))) [some self, some wd, some rows, none, none, none, none, none] S = SO.next [some self, some wd, some rows, some U.non, some (U.loc b), some (U.loc p), none, none] (T ++ Ob.ins 4 [U.loc b, wd, U.tup pl, U.tup ps, U.tup w4, U.tup w5, U.tup [], U.tup [], U.tup w8] :: R) := by
  subst hs
  simp (maxDischargeDepth := 8) -implicitDefEqProofs only [sSeq, sIf, sAsg, sRet, sDrop, sSetIx, sNext, sCont, NK.tAnd, NK.tOr, NK.tNot, NK.tTru, NK.tB, eOp, eUn, eCB, eIf, eAnd, eOr, eNot, eVar, eC, aCons, aNil, gN, ob, xb, NK.os, NK.xs, nb, rb, kb, eb, List.getElem?_cons_zero, List.getElem?_cons_succ, List.set_cons_zero, List.set_cons_succ, ↓reduceIte, Bool.false_eq_true, Bool.not_true, Bool.not_false, fAdd_i, fSub_i, fNeg_i, fInt_i, fAbs_i, fLt_i, fLe_i, fGt_i, fMin_i, fIsN_n, fNotN_n, fLen_lst, fLen_tup, fTuple_lst, fTuple_tup, U.isNon, truth, fMod_i, fDiv_i, fMul_i, Int.reduceLT, Int.reduceNeg, Int.reducePow, Int.reduceLE, or_true, true_or, and_self, and_true, true_and, eCall, List.append_nil, List.length_cons, List.length_nil, Nat.reduceAdd, Nat.zero_add, eLst_k, lstK_nil, h, hm, hp, hf, NK.sFld, eFld, put2, f1, tp, ts, h4, h5, h6, h7, h8, List.nil_append, List.cons_append]
end
/-! ### asked -/
theorem asked_exc {mr : ME} {ml : MF} {wd rows : U} {i : Int} {x : String} {S S1 : Sto} (h : mr [some wd, some rows, none, none, none] S = Out.exc ⟨1, [U.int i, U.str (Str.ofString x)]⟩ S1) : (sSeq (sTry (sSeq (sAsg mr (gN 2))
    (sAsg (eTup (aCons (eC (.str "made")) (aCons (eFld 4 1 (eVar 2)) (aCons (eCB (fLenOwn 4 ml) (aCons (eVar 2) aNil)) aNil)))) (gN 3))) [false, true] 4 fun x => (sAsg (eTup (aCons (eC (.str "refused")) (aCons (eExf 1 0 x) (aCons (eExf 1 1 x) aNil)))) (gN 3)))
    (sRet (eVar 3))) [some wd, some rows, none, none, none] S = SO.ret (U.tup [U.str (Str.ofString "refused"), U.int i, U.str (Str.ofString x)]) S1 := by
  simp (maxDischargeDepth := 8) -implicitDefEqProofs only [sSeq, sIf, sAsg, sRet, sDrop, sSetIx, sNext, sCont, NK.tAnd, NK.tOr, NK.tNot, NK.tTru, NK.tB, eOp, eUn, eCB, eIf, eAnd, eOr, eNot, eVar, eC, aCons, aNil, gN, ob, xb, NK.os, NK.xs, nb, rb, kb, eb, List.getElem?_cons_zero, List.getElem?_cons_succ, List.set_cons_zero, List.set_cons_succ, ↓reduceIte, Bool.false_eq_true, Bool.not_true, Bool.not_false, fAdd_i, fSub_i, fNeg_i, fInt_i, fAbs_i, fLt_i, fLe_i, fGt_i, fMin_i, fIsN_n, fNotN_n, fLen_lst, fLen_tup, fTuple_lst, fTuple_tup, U.isNon, truth, fMod_i, fDiv_i, fMul_i, Int.reduceLT, Int.reduceNeg, Int.reducePow, Int.reduceLE, or_true, true_or, and_self, and_true, true_and, eCall, List.append_nil, List.length_cons, List.length_nil, Nat.reduceAdd, Nat.zero_add, sTry, h, eTup, eExf, SO.unI, Nat.reduceLT, Nat.reduceLeDiff]
theorem asked_ok {mr : ME} {ml : MF} {wd rows o : U} {n : Int} {S S1 : Sto} (h : mr [some wd, some rows, none, none, none] S = Out.ok o S1) (hw : getF 4 1 o S1 = some wd) (hk : NK.isK 4 o S1 = true) (hl : ml [o] S1 = Out.ok (U.int n) S1) (hn : 0 ≤ n ∧ n ≤ 1000000) : (sSeq (sTry (sSeq (sAsg mr (gN 2))
    (sAsg (eTup (aCons (eC (.str "made")) (aCons (eFld 4 1 (eVar 2)) (aCons (eCB (fLenOwn 4 ml) (aCons (eVar 2) aNil)) aNil)))) (gN 3))) [false, true] 4 fun x => (sAsg (eTup (aCons (eC (.str "refused")) (aCons (eExf 1 0 x) (aCons (eExf 1 1 x) aNil)))) (gN 3)))
    (sRet (eVar 3))) [some wd, some rows, none, none, none] S = SO.ret (U.tup [U.str (Str.ofString "made"), wd, U.int n]) S1 := by
  simp (maxDischargeDepth := 8) -implicitDefEqProofs only [sSeq, sIf, sAsg, sRet, sDrop, sSetIx, sNext, sCont, NK.tAnd, NK.tOr, NK.tNot, NK.tTru, NK.tB, eOp, eUn, eCB, eIf, eAnd, eOr, eNot, eVar, eC, aCons, aNil, gN, ob, xb, NK.os, NK.xs, nb, rb, kb, eb, List.getElem?_cons_zero, List.getElem?_cons_succ, List.set_cons_zero, List.set_cons_succ, ↓reduceIte, Bool.false_eq_true, Bool.not_true, Bool.not_false, fAdd_i, fSub_i, fNeg_i, fInt_i, fAbs_i, fLt_i, fLe_i, fGt_i, fMin_i, fIsN_n, fNotN_n, fLen_lst, fLen_tup, fTuple_lst, fTuple_tup, U.isNon, truth, fMod_i, fDiv_i, fMul_i, Int.reduceLT, Int.reduceNeg, Int.reducePow, Int.reduceLE, or_true, true_or, and_self, and_true, true_and, eCall, List.append_nil, List.length_cons, List.length_nil, Nat.reduceAdd, Nat.zero_add, sTry, h, eTup, eFld, hw, fLenOwn, hk, hl, hn, Nat.reduceLeDiff]
theorem len_body {pl : List U} {o : U} {S : Sto} (h : getF 4 2 o S = some (U.tup pl)) : (sRet (eCB fLen (aCons (eFld 4 2 (eVar 0)) aNil))) [some o] S = SO.ret (U.int (pl.length : Nat)) S := by
  simp (maxDischargeDepth := 8) -implicitDefEqProofs only [sSeq, sIf, sAsg, sRet, sDrop, sSetIx, sNext, sCont, NK.tAnd, NK.tOr, NK.tNot, NK.tTru, NK.tB, eOp, eUn, eCB, eIf, eAnd, eOr, eNot, eVar, eC, aCons, aNil, gN, ob, xb, NK.os, NK.xs, nb, rb, kb, eb, List.getElem?_cons_zero, List.getElem?_cons_succ, List.set_cons_zero, List.set_cons_succ, ↓reduceIte, Bool.false_eq_true, Bool.not_true, Bool.not_false, fAdd_i, fSub_i, fNeg_i, fInt_i, fAbs_i, fLt_i, fLe_i, fGt_i, fMin_i, fIsN_n, fNotN_n, fLen_lst, fLen_tup, fTuple_lst, fTuple_tup, U.isNon, truth, fMod_i, fDiv_i, fMul_i, Int.reduceLT, Int.reduceNeg, Int.reducePow, Int.reduceLE, or_true, true_or, and_self, and_true, true_and, eCall, List.append_nil, List.length_cons, List.length_nil, Nat.reduceAdd, Nat.zero_add, eFld, h]
end G

set_option Elab.async false
set_option linter.all false
set_option maxRecDepth 100000
set_option maxHeartbeats 4000000
/-! Q03k: records asked, joined. -/
namespace G
open PySem L2 NK
theorem val_some : ∀ {kvs : List (Key × U)} {k : Key} {v : U}, k ∈ kvs.map (·.1) → (∀ kv ∈ kvs, kv.2 = v) → valU kvs k = some v
  | [], _, _, h, _ => nomatch h
  | x :: xs, k, v, h, hv => by
    by_cases e : x.1 = k
    · have := hv x List.mem_cons_self
      simp [valU, List.find?, e, this]
    · have a : valU (x :: xs) k = valU xs k := by simp [valU, List.find?, e]
      rw [a]
      refine val_some ?_ fun kv hkv => hv kv (List.mem_cons_of_mem _ hkv)
      rw [List.map_cons, List.mem_cons] at h
      rcases h with h | h
      · exact absurd h.symm e
      · exact h
section
variable {env : NK.Env} {Y : Sto} {b q r : Nat} {ps : List U} {pa : List (Key × U)}
theorem fisn {u w : U} {S : Sto} : fIsN U.non U.non S = Out.ok (U.bl true) S := rfl
theorem fnotn {u w : U} {S : Sto} : fNotN U.non U.non S = Out.ok (U.bl false) S := rfl
theorem pers_iter (h4 : env[4]? = some (some (U.loc b))) (hf1 : getF 3 1 (U.loc b) Y = some (U.loc q)) (hq : Y[q]? = some (Ob.lst ps)) : iSeq (eFld 3 1 (eVar 4)) env Y = Out.ok ⟨ps, fun s => s[q]? = some (Ob.lst ps)⟩ Y := by
  simp only [iSeq, eFld, eVar, h4, ob, hf1, NK.src, hq]
theorem keepq (hq : Y[q]? = some (Ob.lst ps)) (acc : List U) : (Y ++ [Ob.lst acc])[q]? = some (Ob.lst ps) := by
  rw [List.getElem?_append_left (List.getElem?_eq_some_iff.mp hq).1]
  exact hq
theorem c4_ok (h4 : env[4]? = some (some (U.loc b))) (h6 : 6 < env.length) (hf1 : getF 3 1 (U.loc b) Y = some (U.loc q)) (hq : Y[q]? = some (Ob.lst ps)) (hf3 : ∀ ext, getF 3 3 (U.loc b) (Y ++ ext) = some (U.loc r)) (hr : ∀ ext, (Y ++ ext)[r]? = some (Ob.dK pa)) (hv : ∀ u ∈ ps, ∃ x, u = U.str x ∧ valU pa (.inr x) = some U.non) (hl : ps.length ≤ 10000) : (eScope (eComp (iSeq (eFld 3 1 (eVar 4))) (gN 6) (NK.tB (eOp fIsN (eOp fDGet (eFld 3 3 (eVar 4)) (eVar 6)) (eC .non))) (eVar 6) [6])) env Y = Out.ok (U.lst ps) Y := by
  have e := comp_scope (i := 6) (mt := NK.tB (eOp fIsN (eOp fDGet (eFld 3 3 (eVar 4)) (eVar 6)) (eC .non))) (me := eVar 6) (mi := iSeq (eFld 3 1 (eVar 4))) (env := env) (st := Y) id (fun _ => true) (pers_iter h4 hf1 hq) (keepq hq) (by omega) (fun u hu acc => by
    have h2 : (env.set 6 (some u))[6]? = some (some u) := by rw [List.getElem?_set_self h6]
    have h3 : (env.set 6 (some u))[4]? = some (some (U.loc b)) := by rw [List.getElem?_set_ne (by decide)]; exact h4
    obtain ⟨x, rfl, hx⟩ := hv u hu
    have g : fDGet (U.loc r) (U.str x) (Y ++ [Ob.lst acc]) = Out.ok U.non (Y ++ [Ob.lst acc]) := by simp only [fDGet, dictAt, hr, keyU, hx]
    refine ⟨?_, fun _ => by simp only [eVar, h2, id]⟩
    simp only [NK.tB, eOp, eFld, eVar, eC, h2, h3, ob, hf3, g, fIsN_n]
    rfl) (by
      rw [filter_all, List.map_id]
      exact underL_all fun u hu => by
        obtain ⟨x, rfl, _⟩ := hv u hu
        rfl)
  rw [filter_all, List.map_id] at e
  exact e
theorem c5_ok (h4 : env[4]? = some (some (U.loc b))) (h6 : 6 < env.length) (hf1 : getF 3 1 (U.loc b) Y = some (U.loc q)) (hq : Y[q]? = some (Ob.lst ps)) (hf3 : ∀ ext, getF 3 3 (U.loc b) (Y ++ ext) = some (U.loc r)) (hr : ∀ ext, (Y ++ ext)[r]? = some (Ob.dK pa)) (hv : ∀ u ∈ ps, ∃ x, u = U.str x ∧ valU pa (.inr x) = some U.non) (hl : ps.length ≤ 10000) : (eScope (eComp (iSeq (eFld 3 1 (eVar 4))) (gN 6) (NK.tB (eOp fNotN (eOp fDGet (eFld 3 3 (eVar 4)) (eVar 6)) (eC .non))) (eVar 6) [6])) env Y = Out.ok (U.lst []) Y := by
  have nil : (ps.filter fun _ => false).map id = ([] : List U) := by
    rw [List.filter_eq_nil_iff.mpr (by simp)]
    rfl
  have e := comp_scope (i := 6) (mt := NK.tB (eOp fNotN (eOp fDGet (eFld 3 3 (eVar 4)) (eVar 6)) (eC .non))) (me := eVar 6) (mi := iSeq (eFld 3 1 (eVar 4))) (env := env) (st := Y) id (fun _ => false) (pers_iter h4 hf1 hq) (keepq hq) (by omega) (fun u hu acc => by
    have h2 : (env.set 6 (some u))[6]? = some (some u) := by rw [List.getElem?_set_self h6]
    have h3 : (env.set 6 (some u))[4]? = some (some (U.loc b)) := by rw [List.getElem?_set_ne (by decide)]; exact h4
    obtain ⟨x, rfl, hx⟩ := hv u hu
    have g : fDGet (U.loc r) (U.str x) (Y ++ [Ob.lst acc]) = Out.ok U.non (Y ++ [Ob.lst acc]) := by simp only [fDGet, dictAt, hr, keyU, hx]
    refine ⟨?_, fun h => by cases h⟩
    simp only [NK.tB, eOp, eFld, eVar, eC, h2, h3, ob, hf3, g, fNotN_n]
    rfl) (by rw [nil]; rfl)
  rw [nil] at e
  exact e
theorem c8_ok (h4 : env[4]? = some (some (U.loc b))) (h6 : 6 < env.length) (hf1 : getF 3 1 (U.loc b) Y = some (U.loc q)) (hq : Y[q]? = some (Ob.lst ps)) (hf3 : ∀ ext, getF 3 5 (U.loc b) (Y ++ ext) = some (U.loc r)) (hr : ∀ ext, (Y ++ ext)[r]? = some (Ob.dK [])) (hv : ∀ u ∈ ps, ∃ x, u = U.str x) (hl : ps.length ≤ 10000) : (eScope (eComp (iSeq (eFld 3 1 (eVar 4))) (gN 6) (NK.tB (eOp (fDIn true) (eVar 6) (eFld 3 5 (eVar 4)))) (eVar 6) [6])) env Y = Out.ok (U.lst ps) Y := by
  have e := comp_scope (i := 6) (mt := NK.tB (eOp (fDIn true) (eVar 6) (eFld 3 5 (eVar 4)))) (me := eVar 6) (mi := iSeq (eFld 3 1 (eVar 4))) (env := env) (st := Y) id (fun _ => true) (pers_iter h4 hf1 hq) (keepq hq) (by omega) (fun u hu acc => by
    have h2 : (env.set 6 (some u))[6]? = some (some u) := by rw [List.getElem?_set_self h6]
    have h3 : (env.set 6 (some u))[4]? = some (some (U.loc b)) := by rw [List.getElem?_set_ne (by decide)]; exact h4
    obtain ⟨x, rfl⟩ := hv u hu
    have g : fDIn true (U.str x) (U.loc r) (Y ++ [Ob.lst acc]) = Out.ok (U.bl true) (Y ++ [Ob.lst acc]) := by simp only [fDIn, dictAt, hr, keyU]; rfl
    refine ⟨?_, fun _ => by simp only [eVar, h2, id]⟩
    simp only [NK.tB, eOp, eFld, eVar, eC, h2, h3, ob, hf3, g]) (by
      rw [filter_all, List.map_id]
      exact underL_all fun u hu => by
        obtain ⟨x, rfl⟩ := hv u hu
        rfl)
  rw [filter_all, List.map_id] at e
  exact e
theorem c6_ok (h4 : env[4]? = some (some (U.loc b))) (hf : getF 3 7 (U.loc b) Y = some (U.loc r)) (hr : Y[r]? = some (Ob.dK [])) : (eScope (eCB fListD (aCons (eFld 3 7 (eVar 4)) aNil))) env Y = Out.ok (U.lst []) Y := by
  have e : eCB fListD (aCons (eFld 3 7 (eVar 4)) aNil) env Y = Out.ok (U.loc Y.length) (Y ++ [Ob.lst []]) := by
    simp only [eCB, aCons, aNil, eFld, eVar, h4, ob, hf, fListD, hr, List.map_nil]
  unfold eScope
  rw [e]
  exact sc_lit rfl rfl
theorem c7_ok {s : Nat} (h0 : env[0]? = some (some (U.loc s))) (hf : getF 4 6 (U.loc s) Y = some (U.tup [])) : (eScope (eComp (iSeq (eFld 4 6 (eVar 0))) (gN 7) (tTru eStub) (eVar 7) [7])) env Y = Out.ok (U.lst []) Y :=
  comp_scope (i := 7) (mt := tTru eStub) (me := eVar 7) (mi := iSeq (eFld 4 6 (eVar 0))) (env := env) (st := Y) (g := fun _ => True) id (fun _ => false) (us := []) (by simp only [iSeq, eFld, eVar, h0, ob, hf, NK.src]) (fun _ => True.intro) (by simp) (fun u hu => nomatch hu) rfl
end
/-! what is refused ahead of the rows -/
section
variable {wd rv : U} {i : Int} {x : String} {S : Sto} {w : Int}
theorem refused_u {i : Int} {x : String} : (U.tup [U.str (Str.ofString "refused"), U.int i, U.str (Str.ofString x)]).under 0 = true := rfl
theorem mk_exc {S1 : Sto} {X : Ex} (h : m_Record___init [U.loc S.length, wd, rv] (S ++ [Ob.ins 4 []]) = Out.exc X S1) : eMake 4 3 m_Record___init [] (aCons (eVar 0) (aCons (eVar 1) aNil)) [some wd, some rv, none, none, none] S = Out.exc X S1 := by
  have hma : aCons (eVar 0) (aCons (eVar 1) aNil) [some wd, some rv, none, none, none] S = Out.ok [wd, rv] S := rfl
  generalize m_Record___init = mf at h ⊢
  simp only [eMake, hma, ob, List.append_nil, List.length_cons, List.length_nil, Nat.reduceAdd, ↓reduceIte, h]
  rfl
theorem mk_ok {S1 : Sto} (h : m_Record___init [U.loc S.length, wd, rv] (S ++ [Ob.ins 4 []]) = Out.ok U.non S1) : eMake 4 3 m_Record___init [] (aCons (eVar 0) (aCons (eVar 1) aNil)) [some wd, some rv, none, none, none] S = Out.ok (U.loc S.length) S1 := by
  have hma : aCons (eVar 0) (aCons (eVar 1) aNil) [some wd, some rv, none, none, none] S = Out.ok [wd, rv] S := rfl
  generalize m_Record___init = mf at h ⊢
  simp only [eMake, hma, ob, List.append_nil, List.length_cons, List.length_nil, Nat.reduceAdd, ↓reduceIte, h]
theorem refuse1 (hi : i.natAbs.log2 < 1920) (hf : ∀ ext, m_fault_ahead [wd, rv] (S ++ ext) = Out.ok (word i x) (S ++ ext)) : m_record_fault [wd, rv] S = Out.ok (word i x) S ∧ m_u_law_asked [wd, rv] S = Out.ok (U.tup [U.str (Str.ofString "refused"), U.int i, U.str (Str.ofString x)]) S := by
  have h0 := hf []
  rw [List.append_nil] at h0
  refine ⟨fs_same (n := 3) (mb := b_record_fault) rfl (rf1 (us := [U.int i, U.str (Str.ofString x)]) h0) rfl, ?_⟩
  have e := run_exc (n := 8) (mb := b_Record___init) (us := [U.loc S.length, wd, rv]) rfl (rec_exc1 (self := U.loc S.length) hi (hf [Ob.ins 4 []]))
  exact fs_val (n := 5) (mb := b_u_law_asked) (st2 := S) (ext := [Ob.ins 4 []]) rfl (asked_exc (mk_exc e)) (Old.refl S) refused_u
theorem led_eq {T : Sto} {w : Int} : (T ++ [Ob.ins 3 (flds T.length w), Ob.lst [], Ob.dK [], Ob.dK [], Ob.dK [], Ob.dK [], Ob.dK [], Ob.dK []]) ++ [Ob.lst []] = led T w [] [] [] [] [] [Ob.lst []] := by simp [led]
theorem led_len {T : Sto} {w : Int} : (T ++ [Ob.ins 3 (flds T.length w), Ob.lst [], Ob.dK [], Ob.dK [], Ob.dK [], Ob.dK [], Ob.dK [], Ob.dK []]).length = T.length + 8 := by simp
theorem refuse2 (hi : i.natAbs.log2 < 1920) (hf : ∀ ext, m_fault_ahead [U.int w, rv] (S ++ ext) = Out.ok U.non (S ++ ext)) (hl : ∀ T : Sto, m_fill_ledger [U.loc T.length, rv, U.loc (T.length + 8)] (led T w [] [] [] [] [] [Ob.lst []]) = Out.ok (word i x) (led T w [] [] [] [] [] [Ob.lst []])) :
    m_record_fault [U.int w, rv] S = Out.ok (word i x) S ∧ m_u_law_asked [U.int w, rv] S = Out.ok (U.tup [U.str (Str.ofString "refused"), U.int i, U.str (Str.ofString x)]) S := by
  have h0 := hf []
  rw [List.append_nil] at h0
  refine ⟨?_, ?_⟩
  · have b := rf2 (mk := eMake 3 2 m_Ledger___init [] (aCons (eVar 0) aNil)) (wd := U.int w) (rows := rv) (fi := m_fill_ledger) h0 (fun e => led_made (w := w) (S := S) rfl) (by rw [led_len, led_eq]; exact hl S)
    exact fs_val (n := 3) (mb := b_record_fault) (st2 := S) rfl b (Old.refl S) rfl
  · have b := rec_exc2 (self := U.loc S.length) (wd := U.int w) (rows := rv) (fi := m_fill_ledger) (mk := eMake 3 2 m_Ledger___init [] (aCons (eVar 1) aNil)) (c4 := (eScope (eComp (iSeq (eFld 3 1 (eVar 4))) (gN 6) (NK.tB (eOp fIsN (eOp fDGet (eFld 3 3 (eVar 4)) (eVar 6)) (eC .non))) (eVar 6) [6]))) (c5 := (eScope (eComp (iSeq (eFld 3 1 (eVar 4))) (gN 6) (NK.tB (eOp fNotN (eOp fDGet (eFld 3 3 (eVar 4)) (eVar 6)) (eC .non))) (eVar 6) [6]))) (c6 := (eScope (eCB fListD (aCons (eFld 3 7 (eVar 4)) aNil)))) (c7 := (eScope (eComp (iSeq (eFld 4 6 (eVar 0))) (gN 7) (tTru eStub) (eVar 7) [7]))) (c8 := (eScope (eComp (iSeq (eFld 3 1 (eVar 4))) (gN 6) (NK.tB (eOp (fDIn true) (eVar 6) (eFld 3 5 (eVar 4)))) (eVar 6) [6]))) hi (hf [Ob.ins 4 []]) (fun e3 e4 e5 e6 e7 => led_made (w := w) (S := S ++ [Ob.ins 4 []]) rfl) (by rw [led_len, led_eq]; exact hl _)
    have e := run_exc (n := 8) (mb := b_Record___init) (us := [U.loc S.length, U.int w, rv]) rfl b
    have q := asked_exc (ml := m_Record___len) (mk_exc e)
    unfold led at q
    rw [List.append_assoc] at q
    exact fs_val (n := 5) (mb := b_u_law_asked) (st2 := S) rfl q (Old.refl S) refused_u
theorem made {lb : Nat → Str} {N : Nat} (hN : N ≤ 10000) (hf : ∀ ext, m_fault_ahead [U.int w, rv] (S ++ ext) = Out.ok U.non (S ++ ext)) (hl : ∀ T : Sto, ∃ X', LI T w lb N X' ∧ m_fill_ledger [U.loc T.length, rv, U.loc (T.length + 8)] (led T w [] [] [] [] [] [Ob.lst []]) = Out.ok U.non X') :
    m_record_fault [U.int w, rv] S = Out.ok U.non S ∧ m_u_law_asked [U.int w, rv] S = Out.ok (U.tup [U.str (Str.ofString "made"), U.int w, U.int (N : Int)]) S := by
  have h0 := hf []
  rw [List.append_nil] at h0
  refine ⟨?_, ?_⟩
  · obtain ⟨X', ⟨sa, ma, ext, rfl, _, _⟩, hx⟩ := hl S
    have b := rf2 (mk := eMake 3 2 m_Ledger___init [] (aCons (eVar 0) aNil)) (wd := U.int w) (rows := rv) (fi := m_fill_ledger) h0 (fun e => led_made (w := w) (S := S) rfl) (by rw [led_len, led_eq]; exact hx)
    exact fs_val (n := 3) (mb := b_record_fault) (st2 := S) rfl b (Old.refl S) rfl
  · obtain ⟨X', ⟨sa, ma, ext, rfl, hsa, hma⟩, hx⟩ := hl (S ++ [Ob.ins 4 []])
    have hb : (S ++ [Ob.ins 4 []]).length = S.length + 1 := by simp
    have hR : ∀ us : List U, S ++ Ob.ins 4 us :: (Ob.ins 3 (flds (S.length + 1) w) :: Ob.lst ((List.range N).map fun k => U.str (lb k)) :: Ob.dK ((List.range N).map fun k => (.inr (lb k), U.str (Str.ofString "s"))) :: Ob.dK ((List.range N).map fun k => (.inr (lb k), U.non)) :: Ob.dK sa :: Ob.dK [] :: Ob.dK ma :: Ob.dK [] :: Ob.lst ((List.range N).map fun k => rowU (lb k) k) :: ext) =
        (S ++ [Ob.ins 4 us]) ++ (Ob.ins 3 (flds (S.length + 1) w) :: Ob.lst ((List.range N).map fun k => U.str (lb k)) :: Ob.dK ((List.range N).map fun k => (.inr (lb k), U.str (Str.ofString "s"))) :: Ob.dK ((List.range N).map fun k => (.inr (lb k), U.non)) :: Ob.dK sa :: Ob.dK [] :: Ob.dK ma :: Ob.dK [] :: Ob.lst ((List.range N).map fun k => rowU (lb k) k) :: ext) := fun us => by simp
    have hx2 := hx
    unfold led at hx2
    rw [hb, ← hR []] at hx2
    generalize hRR : (Ob.ins 3 (flds (S.length + 1) w) :: Ob.lst ((List.range N).map fun k => U.str (lb k)) :: Ob.dK ((List.range N).map fun k => (.inr (lb k), U.str (Str.ofString "s"))) :: Ob.dK ((List.range N).map fun k => (.inr (lb k), U.non)) :: Ob.dK sa :: Ob.dK [] :: Ob.dK ma :: Ob.dK [] :: Ob.lst ((List.range N).map fun k => rowU (lb k) k) :: ext) = R at hR hx2
    have look : ∀ us j, (S ++ Ob.ins 4 us :: R)[S.length + 1 + j]? = R[j]? := fun us j => by
      rw [hR us]
      have hl2 : (S ++ [Ob.ins 4 us]).length = S.length + 1 := by simp
      rw [← hl2]
      exact atj
    have lookE : ∀ us ext' j o, R[j]? = some o → ((S ++ Ob.ins 4 us :: R) ++ ext')[S.length + 1 + j]? = some o := fun us ext' j o hj => by
      have := look us j
      rw [hj] at this
      rw [List.getElem?_append_left (List.getElem?_eq_some_iff.mp this).1]
      exact this
    have fl : ∀ us ext' j u, (flds (S.length + 1) w)[j]? = some u → getF 3 j (U.loc (S.length + 1)) ((S ++ Ob.ins 4 us :: R) ++ ext') = some u := fun us ext' j u hj => by
      have := lookE us ext' 0 (Ob.ins 3 (flds (S.length + 1) w)) (by rw [← hRR]; rfl)
      rw [Nat.add_zero] at this
      simp only [getF, asIns, this, ↓reduceIte, hj]
    have fl0 : ∀ us j u, (flds (S.length + 1) w)[j]? = some u → getF 3 j (U.loc (S.length + 1)) (S ++ Ob.ins 4 us :: R) = some u := fun us j u hj => by
      have := fl us [] j u hj
      rwa [List.append_nil] at this
    have names : ∀ u ∈ (List.range N).map fun k => U.str (lb k), ∃ y, u = U.str y ∧ valU ((List.range N).map fun k => ((.inr (lb k), U.non) : Key × U)) (.inr y) = some U.non := fun u hu => by
      rw [List.mem_map] at hu
      obtain ⟨k, hk, rfl⟩ := hu
      refine ⟨lb k, rfl, val_some ?_ fun kv hkv => ?_⟩
      · rw [List.map_map]
        exact List.mem_map.mpr ⟨k, hk, rfl⟩
      · rw [List.mem_map] at hkv
        obtain ⟨j, _, rfl⟩ := hkv
        rfl
    have b := rec_good (self := U.loc S.length) (wd := U.int w) (rows := rv) (fa := m_fault_ahead) (fi := m_fill_ledger) (mk := eMake 3 2 m_Ledger___init [] (aCons (eVar 1) aNil)) (c4 := (eScope (eComp (iSeq (eFld 3 1 (eVar 4))) (gN 6) (NK.tB (eOp fIsN (eOp fDGet (eFld 3 3 (eVar 4)) (eVar 6)) (eC .non))) (eVar 6) [6]))) (c5 := (eScope (eComp (iSeq (eFld 3 1 (eVar 4))) (gN 6) (NK.tB (eOp fNotN (eOp fDGet (eFld 3 3 (eVar 4)) (eVar 6)) (eC .non))) (eVar 6) [6]))) (c6 := (eScope (eCB fListD (aCons (eFld 3 7 (eVar 4)) aNil)))) (c7 := (eScope (eComp (iSeq (eFld 4 6 (eVar 0))) (gN 7) (tTru eStub) (eVar 7) [7]))) (c8 := (eScope (eComp (iSeq (eFld 3 1 (eVar 4))) (gN 6) (NK.tB (eOp (fDIn true) (eVar 6) (eFld 3 5 (eVar 4)))) (eVar 6) [6]))) (T := S) (R := R) (b := S.length + 1) (p := S.length + 1 + 8) (pl := (List.range N).map fun k => rowU (lb k) k) (ps := (List.range N).map fun k => U.str (lb k)) (w4 := (List.range N).map fun k => U.str (lb k)) (w5 := []) (w8 := (List.range N).map fun k => U.str (lb k)) rfl (hf [Ob.ins 4 []])
      (fun e3 e4 e5 e6 e7 => by have := led_made (w := w) (S := S ++ [Ob.ins 4 []]) (env := [some (U.loc S.length), some (U.int w), some rv, e3, e4, e5, e6, e7]) (ma := aCons (eVar 1) aNil) rfl; rw [hb] at this; exact this) (by rw [← hb, led_len]) (by
        have := led_eq (T := S ++ [Ob.ins 4 []]) (w := w)
        rw [hb] at this
        rw [this]
        unfold led
        rw [hb]
        exact hx2)
      (fun us => fTuple_loc (by have := look us 8; rw [this, ← hRR]; rfl)) (fun us => fl0 us 1 _ rfl) (fun us => fTuple_loc (by have := look us 1; rw [this, ← hRR]; rfl))
      (fun us => c4_ok rfl (by simp) (fl0 us 1 _ rfl) (by have := look us 1; rw [this, ← hRR]; rfl) (fun e => fl us e 3 _ rfl) (fun e => lookE us e 3 _ (by rw [← hRR]; rfl)) names (by simp; omega))
      (fun us => c5_ok rfl (by simp) (fl0 us 1 _ rfl) (by have := look us 1; rw [this, ← hRR]; rfl) (fun e => fl us e 3 _ rfl) (fun e => lookE us e 3 _ (by rw [← hRR]; rfl)) names (by simp; omega))
      (fun us => c6_ok rfl (fl0 us 7 _ rfl) (by have := look us 7; rw [this, ← hRR]; rfl))
      (fun us hus => c7_ok rfl (by rw [get2]; exact hus))
      (fun us => c8_ok rfl (by simp) (fl0 us 1 _ rfl) (by have := look us 1; rw [this, ← hRR]; rfl) (fun e => fl us e 5 _ rfl) (fun e => lookE us e 5 _ (by rw [← hRR]; rfl)) (fun u hu => by obtain ⟨y, e, _⟩ := names u hu; exact ⟨y, e⟩) (by simp; omega))
    have e := run_next (n := 8) (mb := b_Record___init) (us := [U.loc S.length, U.int w, rv]) rfl b
    have ln := fs_same (n := 1) (mb := b_Record___len) (us := [U.loc S.length]) rfl (len_body (pl := (List.range N).map fun k => rowU (lb k) k) (o := U.loc S.length) (S := S ++ Ob.ins 4 [U.loc (S.length + 1), U.int w, U.tup ((List.range N).map fun k => rowU (lb k) k), U.tup ((List.range N).map fun k => U.str (lb k)), U.tup ((List.range N).map fun k => U.str (lb k)), U.tup [], U.tup [], U.tup [], U.tup ((List.range N).map fun k => U.str (lb k))] :: R) (by rw [get2]; rfl)) rfl
    rw [List.length_map, List.length_range] at ln
    have q := asked_ok (ml := m_Record___len) (n := (N : Int)) (mk_ok e) (by rw [get2]; rfl) (by
      unfold NK.isK asIns
      dsimp only
      rw [at0]
      rfl) ln ⟨by omega, by omega⟩
    exact fs_val (n := 5) (mb := b_u_law_asked) (st2 := S) rfl q (Old.refl S) rfl
end
end G

set_option Elab.async false
set_option linter.all false
set_option maxRecDepth 100000
set_option maxHeartbeats 4000000
/-! Q03l: the law's parts. -/
namespace G
open PySem L2 NK
/-! ### turns -/
theorem turn_body {dr od qu : MF} {x0 x2 e3 e4 e5 e6 e7 : Option U} {lo d : Int} {u : U} {S S1 S2 S3 : Sto} (h1 : dr [U.loc 0, U.int 4] S = Out.ok (U.int lo) S1) (h2 : od [U.loc 0] S1 = Out.ok u S2) (h3 : dr [U.loc 0, U.int 4] S2 = Out.ok (U.int d) S3) (h4 : qu [u, U.int lo, U.int (lo + d)] S3 = Out.ok (U.bl true) S3) :
    (sSeq (sAsg (eCall 2 dr [] (aCons (eVar 1) (aCons (eC (.int 4)) aNil))) (gN 3))
    (sIf (tNot (tTru (eCall 3 qu [] (aCons (eCall 1 od [] (aCons (eVar 1) aNil)) (aCons (eVar 3) (aCons (eOp fAdd (eVar 3) (eCall 2 dr [] (aCons (eVar 1) (aCons (eC (.int 4)) aNil)))) aNil)))))) (sRet (eC (.bl false))) sNext)) [x0, some (U.loc 0), x2, e3, e4, e5, e6, e7] S = SO.next [x0, some (U.loc 0), x2, some (U.int lo), e4, e5, e6, e7] S3 := by
  simp (maxDischargeDepth := 8) -implicitDefEqProofs only [sSeq, sIf, sAsg, sRet, sDrop, sSetIx, sNext, sCont, NK.tAnd, NK.tOr, NK.tNot, NK.tTru, NK.tB, eOp, eUn, eCB, eIf, eAnd, eOr, eNot, eVar, eC, aCons, aNil, gN, ob, xb, NK.os, NK.xs, nb, rb, kb, eb, List.getElem?_cons_zero, List.getElem?_cons_succ, List.set_cons_zero, List.set_cons_succ, ↓reduceIte, Bool.false_eq_true, Bool.not_true, Bool.not_false, fAdd_i, fSub_i, fNeg_i, fInt_i, fAbs_i, fLt_i, fLe_i, fGt_i, fMin_i, fIsN_n, fNotN_n, fLen_lst, fLen_tup, fTuple_lst, fTuple_tup, U.isNon, truth, fMod_i, fDiv_i, fMul_i, Int.reduceLT, Int.reduceNeg, Int.reducePow, Int.reduceLE, or_true, true_or, and_self, and_true, true_and, eCall, List.append_nil, List.length_cons, List.length_nil, Nat.reduceAdd, Nat.zero_add, h1, h2, h3, h4]
theorem turn_ok {x0 x2 e3 e4 e5 e6 e7 : Option U} {h : Ob} {st : Sto} (H : HOb h) : ∃ h' ext f3, HOb h' ∧ l_law_1 [x0, some (U.loc 0), x2, e3, e4, e5, e6, e7] (h :: st) = SO.next [x0, some (U.loc 0), x2, f3, e4, e5, e6, e7] (h' :: (st ++ ext)) := by
  obtain ⟨lo, h1, H1, _, _, c1⟩ := draw_ok (st := st) (m := 4) H (by decide) (by decide)
  obtain ⟨u, h2, ext, H2, t2, c2⟩ := odd_ok (st := st) H1
  obtain ⟨d, h3, H3, _, _, c3⟩ := draw_ok (st := st ++ ext) (m := 4) H2 (by decide) (by decide)
  exact ⟨h3, ext, _, H3, turn_body c1 c2 c3 (questions_ok (Th.hand H2 t2))⟩
theorem turns {x0 e4 e5 e6 e7 : Option U} : ∀ (ks : List U) (h : Ob) (st : Sto) (e2 e3 : Option U), HOb h → ∃ h' st' f2 f3, HOb h' ∧ forM (fun _ => True) (gN 2) l_law_1 ks [x0, some (U.loc 0), e2, e3, e4, e5, e6, e7] (h :: st) = SO.next [x0, some (U.loc 0), f2, f3, e4, e5, e6, e7] (h' :: st')
  | [], h, st, e2, e3, H => ⟨h, st, e2, e3, H, forM_nil True.intro⟩
  | k :: ks, h, st, e2, e3, H => by
    obtain ⟨h1, ext, f3, H1, c1⟩ := turn_ok (x0 := x0) (x2 := some k) (e3 := e3) (e4 := e4) (e5 := e5) (e6 := e6) (e7 := e7) (st := st) H
    obtain ⟨h2, st2, g2, g3, H2, c2⟩ := turns (x0 := x0) (e4 := e4) (e5 := e5) (e6 := e6) (e7 := e7) ks h1 (st ++ ext) (some k) f3 H1
    exact ⟨h2, st2, g2, g3, H2, by rw [forM_n (b := l_law_1) (env1 := [x0, some (U.loc 0), some k, e3, e4, e5, e6, e7]) True.intro rfl c1, c2]⟩
/-! ### the last questions -/
theorem word_okU {i : Int} {x : String} : okU 12 (word i x) = true := by
  have : okU 11 (U.str (Str.ofString x)) = true := by
    show PyData.canLay0 (.str _) = true
    simpa only [PyData.canLay0] using strOk_of x
  show ([U.int i, U.str (Str.ofString x)] : List U).all (okU 11) = true
  simp only [List.all_cons, List.all_nil, Bool.and_true, this]
  rfl
theorem strU (s : String) : okU 11 (U.str (Str.ofString s)) = true := by
  show PyData.canLay0 (.str _) = true
  simpa only [PyData.canLay0] using strOk_of s
theorem refused_okU {i : Int} {x : String} : okU 12 (U.tup [U.str (Str.ofString "refused"), U.int i, U.str (Str.ofString x)]) = true := by
  show ([U.str (Str.ofString "refused"), U.int i, U.str (Str.ofString x)] : List U).all (okU 11) = true
  simp only [List.all_cons, List.all_nil, Bool.and_true, strU, Bool.true_and]
  rfl
theorem made_okU {w n : Int} : okU 12 (U.tup [U.str (Str.ofString "made"), U.int w, U.int n]) = true := by
  show ([U.str (Str.ofString "made"), U.int w, U.int n] : List U).all (okU 11) = true
  simp only [List.all_cons, List.all_nil, Bool.and_true, strU, Bool.true_and]
  rfl
theorem ne_same {u : U} {S : Sto} (h : okU 12 u = true) : fNe u u S = Out.ok (U.bl false) S := by
  rw [fNe_ok h h, eqvU_same h]
  rfl
theorem eq_same {u : U} {S : Sto} (h : okU 12 u = true) : fEq u u S = Out.ok (U.bl true) S := by rw [fEq_ok h h, eqvU_same h]
section
variable {s8 : MS} {rf ak : MF} {x0 x1 x2 x3 : Option U} {wd rv : U} {s w n i : Int} {x : String} {S : Sto}
theorem t_refuse (h8 : s8 [x0, x1, x2, x3, some wd, some rv, some (U.int s), none] S = SO.next [x0, x1, x2, x3, some wd, some rv, some (U.int s), some (word i x)] S) (h1 : rf [wd, rv] S = Out.ok (word i x) S) (h2 : ak [wd, rv] S = Out.ok (U.tup [U.str (Str.ofString "refused"), U.int i, U.str (Str.ofString x)]) S) :
    (sSeq s8
    (sSeq (sIf (NK.tB (eOp fNe (eCall 2 rf [] (aCons (eVar 4) (aCons (eVar 5) aNil))) (eVar 7))) (sRet (eC (.bl false))) sNext)
    (sSeq (sIf (NK.tB (eOp fNotN (eVar 7) (eC .non))) (sRet (eOp fEq (eCall 2 ak [] (aCons (eVar 4) (aCons (eVar 5) aNil))) (eTup (aCons (eC (.str "refused")) (aCons (eOp fIx (eVar 7) (eC (.int 0))) (aCons (eOp fIx (eVar 7) (eC (.int 1))) aNil)))))) sNext)
    (sRet (eAnd (eOp fEq (eCall 2 ak [] (aCons (eVar 4) (aCons (eVar 5) aNil))) (eTup (aCons (eC (.str "made")) (aCons (eVar 4) (aCons (eCB fLen (aCons (eVar 5) aNil)) aNil))))) (eOp fEq (eCall 2 ak [] (aCons (eC (.int 2)) (aCons (eTup aNil) aNil))) (eTup (aCons (eC (.str "made")) (aCons (eC (.int 2)) (aCons (eC (.int 0)) aNil)))))))))) [x0, x1, x2, x3, some wd, some rv, some (U.int s), none] S = SO.ret (U.bl true) S := by
  have i0 : fIx (word i x) (U.int 0) S = Out.ok (U.int i) S := rfl
  have i1 : fIx (word i x) (U.int 1) S = Out.ok (U.str (Str.ofString x)) S := rfl
  have nn : fNotN (word i x) U.non S = Out.ok (U.bl true) S := rfl
  have ne := ne_same (S := S) (word_okU (i := i) (x := x))
  have eq := eq_same (S := S) (refused_okU (i := i) (x := x))
  generalize word i x = f at h8 h1 i0 i1 nn ne ⊢
  simp (maxDischargeDepth := 8) -implicitDefEqProofs only [sSeq, sIf, sAsg, sRet, sNext, NK.tB, eOp, eVar, eC, aCons, aNil, gN, ob, xb, NK.os, NK.xs, nb, rb, kb, eb, eCall, eTup, List.getElem?_cons_zero, List.getElem?_cons_succ, List.set_cons_zero, List.set_cons_succ, ↓reduceIte, Bool.false_eq_true, h8, h1, h2, i0, i1, nn, ne, eq, List.append_nil, List.length_cons, List.length_nil, Nat.reduceAdd, Nat.reduceLeDiff]
theorem t_made (h8 : s8 [x0, x1, x2, x3, some (U.int w), some rv, some (U.int s), none] S = SO.next [x0, x1, x2, x3, some (U.int w), some rv, some (U.int s), some U.non] S) (h1 : rf [U.int w, rv] S = Out.ok U.non S) (h2 : ak [U.int w, rv] S = Out.ok (U.tup [U.str (Str.ofString "made"), U.int w, U.int n]) S) (hl : fLen [rv] S = Out.ok (U.int n) S)
    (h3 : ak [U.int 2, U.tup []] S = Out.ok (U.tup [U.str (Str.ofString "made"), U.int 2, U.int 0]) S) :
    (sSeq s8
    (sSeq (sIf (NK.tB (eOp fNe (eCall 2 rf [] (aCons (eVar 4) (aCons (eVar 5) aNil))) (eVar 7))) (sRet (eC (.bl false))) sNext)
    (sSeq (sIf (NK.tB (eOp fNotN (eVar 7) (eC .non))) (sRet (eOp fEq (eCall 2 ak [] (aCons (eVar 4) (aCons (eVar 5) aNil))) (eTup (aCons (eC (.str "refused")) (aCons (eOp fIx (eVar 7) (eC (.int 0))) (aCons (eOp fIx (eVar 7) (eC (.int 1))) aNil)))))) sNext)
    (sRet (eAnd (eOp fEq (eCall 2 ak [] (aCons (eVar 4) (aCons (eVar 5) aNil))) (eTup (aCons (eC (.str "made")) (aCons (eVar 4) (aCons (eCB fLen (aCons (eVar 5) aNil)) aNil))))) (eOp fEq (eCall 2 ak [] (aCons (eC (.int 2)) (aCons (eTup aNil) aNil))) (eTup (aCons (eC (.str "made")) (aCons (eC (.int 2)) (aCons (eC (.int 0)) aNil)))))))))) [x0, x1, x2, x3, some (U.int w), some rv, some (U.int s), none] S = SO.ret (U.bl true) S := by
  have nn : fNotN U.non U.non S = Out.ok (U.bl false) S := rfl
  have ne := ne_same (S := S) (u := U.non) rfl
  have e1 := eq_same (S := S) (made_okU (w := w) (n := n))
  have e2 := eq_same (S := S) (made_okU (w := 2) (n := 0))
  simp (maxDischargeDepth := 8) -implicitDefEqProofs only [sSeq, sIf, sAsg, sRet, sNext, NK.tB, eOp, eAnd, eCB, eVar, eC, aCons, aNil, gN, ob, xb, NK.os, NK.xs, nb, rb, kb, eb, eCall, eTup, truth, List.getElem?_cons_zero, List.getElem?_cons_succ, List.set_cons_zero, List.set_cons_succ, ↓reduceIte, Bool.false_eq_true, h8, h1, h2, h3, hl, nn, ne, e1, e2, List.append_nil, List.length_cons, List.length_nil, Nat.reduceAdd, Nat.reduceLeDiff, Nat.zero_le]
end
/-! what is due -/
section
variable {nu : MF} {x0 x1 x2 x3 : Option U} {wd rv : U} {s w : Int} {S : Sto}
theorem s8_width (h : nu [wd, U.int 0, U.int 2] S = Out.ok (U.bl false) S) : (sIf (tNot (tTru (eCall 3 nu [] (aCons (eVar 4) (aCons (eC (.int 0)) (aCons (eC (.int 2)) aNil)))))) (sAsg (eTup (aCons (eC (.int 0)) (aCons (eC (.str "width")) aNil))) (gN 7)) (sIf (NK.tB (eOp fLt (eVar 6) (eC (.int 4)))) (sAsg (eTup (aCons (eC (.int 0)) (aCons (eC (.str "rows")) aNil))) (gN 7)) (sIf (NK.tB (eOp fEq (eVar 6) (eC (.int 4)))) (sAsg (eTup (aCons (eC (.int 5000)) (aCons (eC (.str "many")) aNil))) (gN 7)) (sIf (tAnd (NK.tB (eOp fLt (eVar 6) (eC (.int 9)))) (NK.tB (eOp fNe (eVar 6) (eC (.int 5))))) (sAsg (eIf (NK.tB (eOp fEq (eVar 5) (eScope (eLst aNil)))) (eC .non) (eTup (aCons (eC (.int 0)) (aCons (eC (.str "row")) aNil)))) (gN 7)) (sAsg (eIf (NK.tB (eOp fEq (eVar 4) (eC (.int 0)))) (eC .non) (eTup (aCons (eC (.int 0)) (aCons (eC (.str "width")) aNil)))) (gN 7)))))) [x0, x1, x2, x3, some wd, some rv, some (U.int s), none] S = SO.next [x0, x1, x2, x3, some wd, some rv, some (U.int s), some (word 0 "width")] S := by
  unfold word
  simp (maxDischargeDepth := 8) -implicitDefEqProofs only [sSeq, sIf, sAsg, sRet, sDrop, sSetIx, sNext, sCont, NK.tAnd, NK.tOr, NK.tNot, NK.tTru, NK.tB, eOp, eUn, eCB, eIf, eAnd, eOr, eNot, eVar, eC, aCons, aNil, gN, ob, xb, NK.os, NK.xs, nb, rb, kb, eb, List.getElem?_cons_zero, List.getElem?_cons_succ, List.set_cons_zero, List.set_cons_succ, ↓reduceIte, Bool.false_eq_true, Bool.not_true, Bool.not_false, fAdd_i, fSub_i, fNeg_i, fInt_i, fAbs_i, fLt_i, fLe_i, fGt_i, fMin_i, fIsN_n, fNotN_n, fLen_lst, fLen_tup, fTuple_lst, fTuple_tup, U.isNon, truth, fMod_i, fDiv_i, fMul_i, Int.reduceLT, Int.reduceNeg, Int.reducePow, Int.reduceLE, or_true, true_or, and_self, and_true, true_and, eCall, List.append_nil, List.length_cons, List.length_nil, Nat.reduceAdd, Nat.zero_add, eTup, h, Nat.reduceLeDiff]
theorem s8_rows (h : nu [wd, U.int 0, U.int 2] S = Out.ok (U.bl true) S) (hs : s < 4) : (sIf (tNot (tTru (eCall 3 nu [] (aCons (eVar 4) (aCons (eC (.int 0)) (aCons (eC (.int 2)) aNil)))))) (sAsg (eTup (aCons (eC (.int 0)) (aCons (eC (.str "width")) aNil))) (gN 7)) (sIf (NK.tB (eOp fLt (eVar 6) (eC (.int 4)))) (sAsg (eTup (aCons (eC (.int 0)) (aCons (eC (.str "rows")) aNil))) (gN 7)) (sIf (NK.tB (eOp fEq (eVar 6) (eC (.int 4)))) (sAsg (eTup (aCons (eC (.int 5000)) (aCons (eC (.str "many")) aNil))) (gN 7)) (sIf (tAnd (NK.tB (eOp fLt (eVar 6) (eC (.int 9)))) (NK.tB (eOp fNe (eVar 6) (eC (.int 5))))) (sAsg (eIf (NK.tB (eOp fEq (eVar 5) (eScope (eLst aNil)))) (eC .non) (eTup (aCons (eC (.int 0)) (aCons (eC (.str "row")) aNil)))) (gN 7)) (sAsg (eIf (NK.tB (eOp fEq (eVar 4) (eC (.int 0)))) (eC .non) (eTup (aCons (eC (.int 0)) (aCons (eC (.str "width")) aNil)))) (gN 7)))))) [x0, x1, x2, x3, some wd, some rv, some (U.int s), none] S = SO.next [x0, x1, x2, x3, some wd, some rv, some (U.int s), some (word 0 "rows")] S := by
  unfold word
  simp (maxDischargeDepth := 8) -implicitDefEqProofs only [sSeq, sIf, sAsg, sRet, sDrop, sSetIx, sNext, sCont, NK.tAnd, NK.tOr, NK.tNot, NK.tTru, NK.tB, eOp, eUn, eCB, eIf, eAnd, eOr, eNot, eVar, eC, aCons, aNil, gN, ob, xb, NK.os, NK.xs, nb, rb, kb, eb, List.getElem?_cons_zero, List.getElem?_cons_succ, List.set_cons_zero, List.set_cons_succ, ↓reduceIte, Bool.false_eq_true, Bool.not_true, Bool.not_false, fAdd_i, fSub_i, fNeg_i, fInt_i, fAbs_i, fLt_i, fLe_i, fGt_i, fMin_i, fIsN_n, fNotN_n, fLen_lst, fLen_tup, fTuple_lst, fTuple_tup, U.isNon, truth, fMod_i, fDiv_i, fMul_i, Int.reduceLT, Int.reduceNeg, Int.reducePow, Int.reduceLE, or_true, true_or, and_self, and_true, true_and, eCall, List.append_nil, List.length_cons, List.length_nil, Nat.reduceAdd, Nat.zero_add, eTup, h, decide_eq_true hs, Nat.reduceLeDiff]
theorem s8_many (h : nu [wd, U.int 0, U.int 2] S = Out.ok (U.bl true) S) (hs : s = 4) : (sIf (tNot (tTru (eCall 3 nu [] (aCons (eVar 4) (aCons (eC (.int 0)) (aCons (eC (.int 2)) aNil)))))) (sAsg (eTup (aCons (eC (.int 0)) (aCons (eC (.str "width")) aNil))) (gN 7)) (sIf (NK.tB (eOp fLt (eVar 6) (eC (.int 4)))) (sAsg (eTup (aCons (eC (.int 0)) (aCons (eC (.str "rows")) aNil))) (gN 7)) (sIf (NK.tB (eOp fEq (eVar 6) (eC (.int 4)))) (sAsg (eTup (aCons (eC (.int 5000)) (aCons (eC (.str "many")) aNil))) (gN 7)) (sIf (tAnd (NK.tB (eOp fLt (eVar 6) (eC (.int 9)))) (NK.tB (eOp fNe (eVar 6) (eC (.int 5))))) (sAsg (eIf (NK.tB (eOp fEq (eVar 5) (eScope (eLst aNil)))) (eC .non) (eTup (aCons (eC (.int 0)) (aCons (eC (.str "row")) aNil)))) (gN 7)) (sAsg (eIf (NK.tB (eOp fEq (eVar 4) (eC (.int 0)))) (eC .non) (eTup (aCons (eC (.int 0)) (aCons (eC (.str "width")) aNil)))) (gN 7)))))) [x0, x1, x2, x3, some wd, some rv, some (U.int s), none] S = SO.next [x0, x1, x2, x3, some wd, some rv, some (U.int s), some (word 5000 "many")] S := by
  have c : decide (s < 4) = false := decide_eq_false (by omega)
  have c2 : (s == 4) = true := by rw [hs]; rfl
  unfold word
  simp (maxDischargeDepth := 8) -implicitDefEqProofs only [sSeq, sIf, sAsg, sRet, sDrop, sSetIx, sNext, sCont, NK.tAnd, NK.tOr, NK.tNot, NK.tTru, NK.tB, eOp, eUn, eCB, eIf, eAnd, eOr, eNot, eVar, eC, aCons, aNil, gN, ob, xb, NK.os, NK.xs, nb, rb, kb, eb, List.getElem?_cons_zero, List.getElem?_cons_succ, List.set_cons_zero, List.set_cons_succ, ↓reduceIte, Bool.false_eq_true, Bool.not_true, Bool.not_false, fAdd_i, fSub_i, fNeg_i, fInt_i, fAbs_i, fLt_i, fLe_i, fGt_i, fMin_i, fIsN_n, fNotN_n, fLen_lst, fLen_tup, fTuple_lst, fTuple_tup, U.isNon, truth, fMod_i, fDiv_i, fMul_i, Int.reduceLT, Int.reduceNeg, Int.reducePow, Int.reduceLE, or_true, true_or, and_self, and_true, true_and, eCall, List.append_nil, List.length_cons, List.length_nil, Nat.reduceAdd, Nat.zero_add, eTup, h, c, c2, fEq_ii, Nat.reduceLeDiff]
theorem s8_none (h : nu [wd, U.int 0, U.int 2] S = Out.ok (U.bl true) S) (h4 : ¬ s < 4) (hs : s ≠ 4) (h5 : s ≠ 5) (h9 : s < 9) {b : Bool} (he : fEq rv (U.lst []) S = Out.ok (U.bl b) S) : (sIf (tNot (tTru (eCall 3 nu [] (aCons (eVar 4) (aCons (eC (.int 0)) (aCons (eC (.int 2)) aNil)))))) (sAsg (eTup (aCons (eC (.int 0)) (aCons (eC (.str "width")) aNil))) (gN 7)) (sIf (NK.tB (eOp fLt (eVar 6) (eC (.int 4)))) (sAsg (eTup (aCons (eC (.int 0)) (aCons (eC (.str "rows")) aNil))) (gN 7)) (sIf (NK.tB (eOp fEq (eVar 6) (eC (.int 4)))) (sAsg (eTup (aCons (eC (.int 5000)) (aCons (eC (.str "many")) aNil))) (gN 7)) (sIf (tAnd (NK.tB (eOp fLt (eVar 6) (eC (.int 9)))) (NK.tB (eOp fNe (eVar 6) (eC (.int 5))))) (sAsg (eIf (NK.tB (eOp fEq (eVar 5) (eScope (eLst aNil)))) (eC .non) (eTup (aCons (eC (.int 0)) (aCons (eC (.str "row")) aNil)))) (gN 7)) (sAsg (eIf (NK.tB (eOp fEq (eVar 4) (eC (.int 0)))) (eC .non) (eTup (aCons (eC (.int 0)) (aCons (eC (.str "width")) aNil)))) (gN 7)))))) [x0, x1, x2, x3, some wd, some rv, some (U.int s), none] S = SO.next [x0, x1, x2, x3, some wd, some rv, some (U.int s), some (if b = true then U.non else word 0 "row")] S := by
  have c : decide (s < 4) = false := decide_eq_false h4
  have c2 : (s == 4) = false := beq_eq_false_iff_ne.mpr hs
  have c3 : decide (s < 9) = true := decide_eq_true h9
  have c4 : (s == 5) = false := beq_eq_false_iff_ne.mpr h5
  have nil : ∀ env, eScope (eLst aNil) env S = Out.ok (U.lst []) S := fun env => sc_loc (st := S) (st2 := S) (j := 0) [Ob.lst []] (Old.refl S) rfl rfl
  generalize eScope (eLst aNil) = en at nil ⊢
  unfold word
  cases b <;> simp (maxDischargeDepth := 8) -implicitDefEqProofs only [sSeq, sIf, sAsg, sRet, sDrop, sSetIx, sNext, sCont, NK.tAnd, NK.tOr, NK.tNot, NK.tTru, NK.tB, eOp, eUn, eCB, eIf, eAnd, eOr, eNot, eVar, eC, aCons, aNil, gN, ob, xb, NK.os, NK.xs, nb, rb, kb, eb, List.getElem?_cons_zero, List.getElem?_cons_succ, List.set_cons_zero, List.set_cons_succ, ↓reduceIte, Bool.false_eq_true, Bool.not_true, Bool.not_false, fAdd_i, fSub_i, fNeg_i, fInt_i, fAbs_i, fLt_i, fLe_i, fGt_i, fMin_i, fIsN_n, fNotN_n, fLen_lst, fLen_tup, fTuple_lst, fTuple_tup, U.isNon, truth, fMod_i, fDiv_i, fMul_i, Int.reduceLT, Int.reduceNeg, Int.reducePow, Int.reduceLE, or_true, true_or, and_self, and_true, true_and, eCall, List.append_nil, List.length_cons, List.length_nil, Nat.reduceAdd, Nat.zero_add, eTup, h, c, c2, c3, c4, fEq_ii, fNe_ii, he, nil, Nat.reduceLeDiff]
theorem s8_good (h : nu [U.int w, U.int 0, U.int 2] S = Out.ok (U.bl true) S) (h4 : ¬ s < 4) (hs : s ≠ 4) (h5 : s = 5 ∨ ¬ s < 9) : (sIf (tNot (tTru (eCall 3 nu [] (aCons (eVar 4) (aCons (eC (.int 0)) (aCons (eC (.int 2)) aNil)))))) (sAsg (eTup (aCons (eC (.int 0)) (aCons (eC (.str "width")) aNil))) (gN 7)) (sIf (NK.tB (eOp fLt (eVar 6) (eC (.int 4)))) (sAsg (eTup (aCons (eC (.int 0)) (aCons (eC (.str "rows")) aNil))) (gN 7)) (sIf (NK.tB (eOp fEq (eVar 6) (eC (.int 4)))) (sAsg (eTup (aCons (eC (.int 5000)) (aCons (eC (.str "many")) aNil))) (gN 7)) (sIf (tAnd (NK.tB (eOp fLt (eVar 6) (eC (.int 9)))) (NK.tB (eOp fNe (eVar 6) (eC (.int 5))))) (sAsg (eIf (NK.tB (eOp fEq (eVar 5) (eScope (eLst aNil)))) (eC .non) (eTup (aCons (eC (.int 0)) (aCons (eC (.str "row")) aNil)))) (gN 7)) (sAsg (eIf (NK.tB (eOp fEq (eVar 4) (eC (.int 0)))) (eC .non) (eTup (aCons (eC (.int 0)) (aCons (eC (.str "width")) aNil)))) (gN 7)))))) [x0, x1, x2, x3, some (U.int w), some rv, some (U.int s), none] S = SO.next [x0, x1, x2, x3, some (U.int w), some rv, some (U.int s), some (if (w == 0) = true then U.non else word 0 "width")] S := by
  have c : decide (s < 4) = false := decide_eq_false h4
  have c2 : (s == 4) = false := beq_eq_false_iff_ne.mpr hs
  unfold word
  rcases h5 with h5 | h5
  · have c3 : decide (s < 9) = true := decide_eq_true (by omega)
    have c4 : (s == 5) = true := by rw [h5]; rfl
    cases q : w == 0 <;> simp (maxDischargeDepth := 8) -implicitDefEqProofs only [sSeq, sIf, sAsg, sRet, sDrop, sSetIx, sNext, sCont, NK.tAnd, NK.tOr, NK.tNot, NK.tTru, NK.tB, eOp, eUn, eCB, eIf, eAnd, eOr, eNot, eVar, eC, aCons, aNil, gN, ob, xb, NK.os, NK.xs, nb, rb, kb, eb, List.getElem?_cons_zero, List.getElem?_cons_succ, List.set_cons_zero, List.set_cons_succ, ↓reduceIte, Bool.false_eq_true, Bool.not_true, Bool.not_false, fAdd_i, fSub_i, fNeg_i, fInt_i, fAbs_i, fLt_i, fLe_i, fGt_i, fMin_i, fIsN_n, fNotN_n, fLen_lst, fLen_tup, fTuple_lst, fTuple_tup, U.isNon, truth, fMod_i, fDiv_i, fMul_i, Int.reduceLT, Int.reduceNeg, Int.reducePow, Int.reduceLE, or_true, true_or, and_self, and_true, true_and, eCall, List.append_nil, List.length_cons, List.length_nil, Nat.reduceAdd, Nat.zero_add, eTup, h, c, c2, c3, c4, fEq_ii, fNe_ii, q, Nat.reduceLeDiff]
  · have c3 : decide (s < 9) = false := decide_eq_false h5
    cases q : w == 0 <;> simp (maxDischargeDepth := 8) -implicitDefEqProofs only [sSeq, sIf, sAsg, sRet, sDrop, sSetIx, sNext, sCont, NK.tAnd, NK.tOr, NK.tNot, NK.tTru, NK.tB, eOp, eUn, eCB, eIf, eAnd, eOr, eNot, eVar, eC, aCons, aNil, gN, ob, xb, NK.os, NK.xs, nb, rb, kb, eb, List.getElem?_cons_zero, List.getElem?_cons_succ, List.set_cons_zero, List.set_cons_succ, ↓reduceIte, Bool.false_eq_true, Bool.not_true, Bool.not_false, fAdd_i, fSub_i, fNeg_i, fInt_i, fAbs_i, fLt_i, fLe_i, fGt_i, fMin_i, fIsN_n, fNotN_n, fLen_lst, fLen_tup, fTuple_lst, fTuple_tup, U.isNon, truth, fMod_i, fDiv_i, fMul_i, Int.reduceLT, Int.reduceNeg, Int.reducePow, Int.reduceLE, or_true, true_or, and_self, and_true, true_and, eCall, List.append_nil, List.length_cons, List.length_nil, Nat.reduceAdd, Nat.zero_add, eTup, h, c, c2, c3, fEq_ii, fNe_ii, q, Nat.reduceLeDiff]
end
/-! the rows chosen -/
section
variable {dr pk mn : MF} {l6 nn : ME} {x0 x2 x3 : Option U} {wd rv u y : U} {s d : Int} {S S1 S2 : Sto}
theorem s7_pick (hs : s < 4) (hl : l6 [x0, some (U.loc 0), x2, x3, some wd, some rv, some (U.int s), none] S = Out.ok y S1) (hp : pk [U.loc 0, y] S1 = Out.ok u S2) : (sIf (NK.tB (eOp fLt (eVar 6) (eC (.int 4)))) (sAsg (eCall 2 pk [] (aCons (eVar 1) (aCons l6 aNil))) (gN 5)) (sIf (NK.tB (eOp fEq (eVar 6) (eC (.int 4)))) (sAsg (eCall 1 mn [] (aCons (eOp fAdd (eC (.int 5001)) (eCall 2 dr [] (aCons (eVar 1) (aCons (eC (.int 3)) aNil)))) aNil)) (gN 5)) (sIf (NK.tB (eOp fEq (eVar 6) (eC (.int 5)))) (sSeq (sAsg (eCall 1 mn [] (aCons (eC (.int 5000)) aNil)) (gN 5))
    (sAsg (eC (.int 0)) (gN 4))) (sIf (NK.tB (eOp fLt (eVar 6) (eC (.int 9)))) (sAsg nn (gN 5)) sNext)))) [x0, some (U.loc 0), x2, x3, some wd, some rv, some (U.int s), none] S = SO.next [x0, some (U.loc 0), x2, x3, some wd, some u, some (U.int s), none] S2 := by
  simp (maxDischargeDepth := 8) -implicitDefEqProofs only [sSeq, sIf, sAsg, sRet, sDrop, sSetIx, sNext, sCont, NK.tAnd, NK.tOr, NK.tNot, NK.tTru, NK.tB, eOp, eUn, eCB, eIf, eAnd, eOr, eNot, eVar, eC, aCons, aNil, gN, ob, xb, NK.os, NK.xs, nb, rb, kb, eb, List.getElem?_cons_zero, List.getElem?_cons_succ, List.set_cons_zero, List.set_cons_succ, ↓reduceIte, Bool.false_eq_true, Bool.not_true, Bool.not_false, fAdd_i, fSub_i, fNeg_i, fInt_i, fAbs_i, fLt_i, fLe_i, fGt_i, fMin_i, fIsN_n, fNotN_n, fLen_lst, fLen_tup, fTuple_lst, fTuple_tup, U.isNon, truth, fMod_i, fDiv_i, fMul_i, Int.reduceLT, Int.reduceNeg, Int.reducePow, Int.reduceLE, or_true, true_or, and_self, and_true, true_and, eCall, List.append_nil, List.length_cons, List.length_nil, Nat.reduceAdd, Nat.zero_add, decide_eq_true hs, hl, hp]
theorem s7_many (hs : s = 4) (hd : dr [U.loc 0, U.int 3] S = Out.ok (U.int d) S1) (hm : mn [U.int (5001 + d)] S1 = Out.ok u S1) : (sIf (NK.tB (eOp fLt (eVar 6) (eC (.int 4)))) (sAsg (eCall 2 pk [] (aCons (eVar 1) (aCons l6 aNil))) (gN 5)) (sIf (NK.tB (eOp fEq (eVar 6) (eC (.int 4)))) (sAsg (eCall 1 mn [] (aCons (eOp fAdd (eC (.int 5001)) (eCall 2 dr [] (aCons (eVar 1) (aCons (eC (.int 3)) aNil)))) aNil)) (gN 5)) (sIf (NK.tB (eOp fEq (eVar 6) (eC (.int 5)))) (sSeq (sAsg (eCall 1 mn [] (aCons (eC (.int 5000)) aNil)) (gN 5))
    (sAsg (eC (.int 0)) (gN 4))) (sIf (NK.tB (eOp fLt (eVar 6) (eC (.int 9)))) (sAsg nn (gN 5)) sNext)))) [x0, some (U.loc 0), x2, x3, some wd, some rv, some (U.int s), none] S = SO.next [x0, some (U.loc 0), x2, x3, some wd, some u, some (U.int s), none] S1 := by
  have c : decide (s < 4) = false := decide_eq_false (by omega)
  have c2 : (s == 4) = true := by rw [hs]; rfl
  simp (maxDischargeDepth := 8) -implicitDefEqProofs only [sSeq, sIf, sAsg, sRet, sDrop, sSetIx, sNext, sCont, NK.tAnd, NK.tOr, NK.tNot, NK.tTru, NK.tB, eOp, eUn, eCB, eIf, eAnd, eOr, eNot, eVar, eC, aCons, aNil, gN, ob, xb, NK.os, NK.xs, nb, rb, kb, eb, List.getElem?_cons_zero, List.getElem?_cons_succ, List.set_cons_zero, List.set_cons_succ, ↓reduceIte, Bool.false_eq_true, Bool.not_true, Bool.not_false, fAdd_i, fSub_i, fNeg_i, fInt_i, fAbs_i, fLt_i, fLe_i, fGt_i, fMin_i, fIsN_n, fNotN_n, fLen_lst, fLen_tup, fTuple_lst, fTuple_tup, U.isNon, truth, fMod_i, fDiv_i, fMul_i, Int.reduceLT, Int.reduceNeg, Int.reducePow, Int.reduceLE, or_true, true_or, and_self, and_true, true_and, eCall, List.append_nil, List.length_cons, List.length_nil, Nat.reduceAdd, Nat.zero_add, c, c2, fEq_ii, hd, hm]
theorem s7_five (hs : s = 5) (hm : mn [U.int 5000] S = Out.ok u S) : (sIf (NK.tB (eOp fLt (eVar 6) (eC (.int 4)))) (sAsg (eCall 2 pk [] (aCons (eVar 1) (aCons l6 aNil))) (gN 5)) (sIf (NK.tB (eOp fEq (eVar 6) (eC (.int 4)))) (sAsg (eCall 1 mn [] (aCons (eOp fAdd (eC (.int 5001)) (eCall 2 dr [] (aCons (eVar 1) (aCons (eC (.int 3)) aNil)))) aNil)) (gN 5)) (sIf (NK.tB (eOp fEq (eVar 6) (eC (.int 5)))) (sSeq (sAsg (eCall 1 mn [] (aCons (eC (.int 5000)) aNil)) (gN 5))
    (sAsg (eC (.int 0)) (gN 4))) (sIf (NK.tB (eOp fLt (eVar 6) (eC (.int 9)))) (sAsg nn (gN 5)) sNext)))) [x0, some (U.loc 0), x2, x3, some wd, some rv, some (U.int s), none] S = SO.next [x0, some (U.loc 0), x2, x3, some (U.int 0), some u, some (U.int s), none] S := by
  have c : decide (s < 4) = false := decide_eq_false (by omega)
  have c2 : (s == 4) = false := beq_eq_false_iff_ne.mpr (by omega)
  have c3 : (s == 5) = true := by rw [hs]; rfl
  simp (maxDischargeDepth := 8) -implicitDefEqProofs only [sSeq, sIf, sAsg, sRet, sDrop, sSetIx, sNext, sCont, NK.tAnd, NK.tOr, NK.tNot, NK.tTru, NK.tB, eOp, eUn, eCB, eIf, eAnd, eOr, eNot, eVar, eC, aCons, aNil, gN, ob, xb, NK.os, NK.xs, nb, rb, kb, eb, List.getElem?_cons_zero, List.getElem?_cons_succ, List.set_cons_zero, List.set_cons_succ, ↓reduceIte, Bool.false_eq_true, Bool.not_true, Bool.not_false, fAdd_i, fSub_i, fNeg_i, fInt_i, fAbs_i, fLt_i, fLe_i, fGt_i, fMin_i, fIsN_n, fNotN_n, fLen_lst, fLen_tup, fTuple_lst, fTuple_tup, U.isNon, truth, fMod_i, fDiv_i, fMul_i, Int.reduceLT, Int.reduceNeg, Int.reducePow, Int.reduceLE, or_true, true_or, and_self, and_true, true_and, eCall, List.append_nil, List.length_cons, List.length_nil, Nat.reduceAdd, Nat.zero_add, c, c2, c3, fEq_ii, hm]
theorem s7_nones (h4 : ¬ s < 4) (hs : s ≠ 4) (h5 : s ≠ 5) (h9 : s < 9) (hn : nn [x0, some (U.loc 0), x2, x3, some wd, some rv, some (U.int s), none] S = Out.ok u S1) : (sIf (NK.tB (eOp fLt (eVar 6) (eC (.int 4)))) (sAsg (eCall 2 pk [] (aCons (eVar 1) (aCons l6 aNil))) (gN 5)) (sIf (NK.tB (eOp fEq (eVar 6) (eC (.int 4)))) (sAsg (eCall 1 mn [] (aCons (eOp fAdd (eC (.int 5001)) (eCall 2 dr [] (aCons (eVar 1) (aCons (eC (.int 3)) aNil)))) aNil)) (gN 5)) (sIf (NK.tB (eOp fEq (eVar 6) (eC (.int 5)))) (sSeq (sAsg (eCall 1 mn [] (aCons (eC (.int 5000)) aNil)) (gN 5))
    (sAsg (eC (.int 0)) (gN 4))) (sIf (NK.tB (eOp fLt (eVar 6) (eC (.int 9)))) (sAsg nn (gN 5)) sNext)))) [x0, some (U.loc 0), x2, x3, some wd, some rv, some (U.int s), none] S = SO.next [x0, some (U.loc 0), x2, x3, some wd, some u, some (U.int s), none] S1 := by
  have c : decide (s < 4) = false := decide_eq_false h4
  have c2 : (s == 4) = false := beq_eq_false_iff_ne.mpr hs
  have c3 : (s == 5) = false := beq_eq_false_iff_ne.mpr h5
  have c4 : decide (s < 9) = true := decide_eq_true h9
  simp (maxDischargeDepth := 8) -implicitDefEqProofs only [sSeq, sIf, sAsg, sRet, sDrop, sSetIx, sNext, sCont, NK.tAnd, NK.tOr, NK.tNot, NK.tTru, NK.tB, eOp, eUn, eCB, eIf, eAnd, eOr, eNot, eVar, eC, aCons, aNil, gN, ob, xb, NK.os, NK.xs, nb, rb, kb, eb, List.getElem?_cons_zero, List.getElem?_cons_succ, List.set_cons_zero, List.set_cons_succ, ↓reduceIte, Bool.false_eq_true, Bool.not_true, Bool.not_false, fAdd_i, fSub_i, fNeg_i, fInt_i, fAbs_i, fLt_i, fLe_i, fGt_i, fMin_i, fIsN_n, fNotN_n, fLen_lst, fLen_tup, fTuple_lst, fTuple_tup, U.isNon, truth, fMod_i, fDiv_i, fMul_i, Int.reduceLT, Int.reduceNeg, Int.reducePow, Int.reduceLE, or_true, true_or, and_self, and_true, true_and, eCall, List.append_nil, List.length_cons, List.length_nil, Nat.reduceAdd, Nat.zero_add, c, c2, c3, c4, fEq_ii, hn]
theorem s7_rest (h4 : ¬ s < 4) (hs : s ≠ 4) (h5 : s ≠ 5) (h9 : ¬ s < 9) : (sIf (NK.tB (eOp fLt (eVar 6) (eC (.int 4)))) (sAsg (eCall 2 pk [] (aCons (eVar 1) (aCons l6 aNil))) (gN 5)) (sIf (NK.tB (eOp fEq (eVar 6) (eC (.int 4)))) (sAsg (eCall 1 mn [] (aCons (eOp fAdd (eC (.int 5001)) (eCall 2 dr [] (aCons (eVar 1) (aCons (eC (.int 3)) aNil)))) aNil)) (gN 5)) (sIf (NK.tB (eOp fEq (eVar 6) (eC (.int 5)))) (sSeq (sAsg (eCall 1 mn [] (aCons (eC (.int 5000)) aNil)) (gN 5))
    (sAsg (eC (.int 0)) (gN 4))) (sIf (NK.tB (eOp fLt (eVar 6) (eC (.int 9)))) (sAsg nn (gN 5)) sNext)))) [x0, some (U.loc 0), x2, x3, some wd, some rv, some (U.int s), none] S = SO.next [x0, some (U.loc 0), x2, x3, some wd, some rv, some (U.int s), none] S := by
  have c : decide (s < 4) = false := decide_eq_false h4
  have c2 : (s == 4) = false := beq_eq_false_iff_ne.mpr hs
  have c3 : (s == 5) = false := beq_eq_false_iff_ne.mpr h5
  have c4 : decide (s < 9) = false := decide_eq_false h9
  simp (maxDischargeDepth := 8) -implicitDefEqProofs only [sSeq, sIf, sAsg, sRet, sDrop, sSetIx, sNext, sCont, NK.tAnd, NK.tOr, NK.tNot, NK.tTru, NK.tB, eOp, eUn, eCB, eIf, eAnd, eOr, eNot, eVar, eC, aCons, aNil, gN, ob, xb, NK.os, NK.xs, nb, rb, kb, eb, List.getElem?_cons_zero, List.getElem?_cons_succ, List.set_cons_zero, List.set_cons_succ, ↓reduceIte, Bool.false_eq_true, Bool.not_true, Bool.not_false, fAdd_i, fSub_i, fNeg_i, fInt_i, fAbs_i, fLt_i, fLe_i, fGt_i, fMin_i, fIsN_n, fNotN_n, fLen_lst, fLen_tup, fTuple_lst, fTuple_tup, U.isNon, truth, fMod_i, fDiv_i, fMul_i, Int.reduceLT, Int.reduceNeg, Int.reducePow, Int.reduceLE, or_true, true_or, and_self, and_true, true_and, eCall, List.append_nil, List.length_cons, List.length_nil, Nat.reduceAdd, Nat.zero_add, c, c2, c3, c4, fEq_ii]
end
end G

set_option Elab.async false
set_option linter.all false
set_option maxRecDepth 100000
set_option maxHeartbeats 4000000
/-! Q03z: the law. -/
namespace G
open PySem L2 NK
section
variable {wd rv : U} {w : Int} {S : Sto}
theorem ah_width (T : Th wd S) (hw : isWh wd 0 2 = false) : ∀ ext, m_fault_ahead [wd, rv] (S ++ ext) = Out.ok (word 0 "width") (S ++ ext) := fun ext => by
  have h := whole_ok (lo := 0) (hi := 2) (T.app (ext := ext))
  rw [hw] at h
  exact fs_same (n := 2) (mb := b_fault_ahead) rfl (fa1 h) rfl
theorem wh_int {w : Int} {S : Sto} (h0 : 0 ≤ w) (h2 : w ≤ 2) : m_is_whole [U.int w, U.int 0, U.int 2] S = Out.ok (U.bl true) S := by
  rw [whole_ok (u := U.int w) True.intro, show isWh (U.int w) 0 2 = true by simp [isWh, h0, h2]]
theorem nu_int {w : Int} {S : Sto} (h0 : 0 ≤ w) (h2 : w ≤ 2) : m_u_law_is_number [U.int w, U.int 0, U.int 2] S = Out.ok (U.bl true) S := by
  rw [number_ok (u := U.int w) True.intro, show isWh (U.int w) 0 2 = true by simp [isWh, h0, h2]]
theorem ah_rows (h0 : 0 ≤ w) (h2 : w ≤ 2) (hr : ∀ ext, ∃ t, trOf rv (S ++ ext) = some t ∧ isAny isl t [.b .list, .b .tuple] = some false) : ∀ ext, m_fault_ahead [U.int w, rv] (S ++ ext) = Out.ok (word 0 "rows") (S ++ ext) := fun ext => by
  obtain ⟨t, ht, ha⟩ := hr ext
  exact fs_same (n := 2) (mb := b_fault_ahead) rfl (fa2 (wh_int h0 h2) ht ha) rfl
theorem ah_many {us : List U} (h0 : 0 ≤ w) (h2 : w ≤ 2) (hu : 5000 < us.length) : ∀ ext, m_fault_ahead [U.int w, U.lst us] (S ++ ext) = Out.ok (word 5000 "many") (S ++ ext) := fun ext =>
  fs_same (n := 2) (mb := b_fault_ahead) rfl (fa3 (n := (us.length : Int)) (wh_int h0 h2) rfl rfl rfl (decide_eq_true (by omega))) rfl
theorem ah_ok {us : List U} (h0 : 0 ≤ w) (h2 : w ≤ 2) (hr : rv = U.lst us ∨ rv = U.tup us) (hu : us.length ≤ 5000) : ∀ ext, m_fault_ahead [U.int w, rv] (S ++ ext) = Out.ok U.non (S ++ ext) := fun ext => by
  rcases hr with rfl | rfl <;> exact fs_same (n := 2) (mb := b_fault_ahead) rfl (fa4 (n := (us.length : Int)) (wh_int h0 h2) rfl rfl rfl (decide_eq_false (by omega))) rfl
theorem asked_two : m_u_law_asked [U.int 2, U.tup []] S = Out.ok (U.tup [U.str (Str.ofString "made"), U.int 2, U.int 0]) S :=
  (made (lb := fun _ => Str.ofString "a") (N := 0) (by omega) (ah_ok (us := []) (by decide) (by decide) (.inr rfl) (by simp)) (fun T => ⟨_, LI.zero, fill_nil (S := T) (.inr rfl)⟩)).2
end
/-! the last questions, case by case -/
section
variable {x0 x1 x2 x3 : Option U} {wd rv : U} {s w : Int} {S : Sto}
theorem z_width (T : Th wd S) (hw : isWh wd 0 2 = false) : (sSeq (sIf (tNot (tTru (eCall 3 m_u_law_is_number [] (aCons (eVar 4) (aCons (eC (.int 0)) (aCons (eC (.int 2)) aNil)))))) (sAsg (eTup (aCons (eC (.int 0)) (aCons (eC (.str "width")) aNil))) (gN 7)) (sIf (NK.tB (eOp fLt (eVar 6) (eC (.int 4)))) (sAsg (eTup (aCons (eC (.int 0)) (aCons (eC (.str "rows")) aNil))) (gN 7)) (sIf (NK.tB (eOp fEq (eVar 6) (eC (.int 4)))) (sAsg (eTup (aCons (eC (.int 5000)) (aCons (eC (.str "many")) aNil))) (gN 7)) (sIf (tAnd (NK.tB (eOp fLt (eVar 6) (eC (.int 9)))) (NK.tB (eOp fNe (eVar 6) (eC (.int 5))))) (sAsg (eIf (NK.tB (eOp fEq (eVar 5) (eScope (eLst aNil)))) (eC .non) (eTup (aCons (eC (.int 0)) (aCons (eC (.str "row")) aNil)))) (gN 7)) (sAsg (eIf (NK.tB (eOp fEq (eVar 4) (eC (.int 0)))) (eC .non) (eTup (aCons (eC (.int 0)) (aCons (eC (.str "width")) aNil)))) (gN 7))))))
    (sSeq (sIf (NK.tB (eOp fNe (eCall 2 m_record_fault [] (aCons (eVar 4) (aCons (eVar 5) aNil))) (eVar 7))) (sRet (eC (.bl false))) sNext)
    (sSeq (sIf (NK.tB (eOp fNotN (eVar 7) (eC .non))) (sRet (eOp fEq (eCall 2 m_u_law_asked [] (aCons (eVar 4) (aCons (eVar 5) aNil))) (eTup (aCons (eC (.str "refused")) (aCons (eOp fIx (eVar 7) (eC (.int 0))) (aCons (eOp fIx (eVar 7) (eC (.int 1))) aNil)))))) sNext)
    (sRet (eAnd (eOp fEq (eCall 2 m_u_law_asked [] (aCons (eVar 4) (aCons (eVar 5) aNil))) (eTup (aCons (eC (.str "made")) (aCons (eVar 4) (aCons (eCB fLen (aCons (eVar 5) aNil)) aNil))))) (eOp fEq (eCall 2 m_u_law_asked [] (aCons (eC (.int 2)) (aCons (eTup aNil) aNil))) (eTup (aCons (eC (.str "made")) (aCons (eC (.int 2)) (aCons (eC (.int 0)) aNil)))))))))) [x0, x1, x2, x3, some wd, some rv, some (U.int s), none] S = SO.ret (U.bl true) S := by
  have nu := number_ok (lo := 0) (hi := 2) T
  rw [hw] at nu
  obtain ⟨h1, h2⟩ := refuse1 (rv := rv) (by decide) (ah_width T hw)
  exact t_refuse (s8_width nu) h1 h2
theorem z_rows (h0 : 0 ≤ w) (h2 : w ≤ 2) (hs : s < 4) (hr : ∀ ext, ∃ t, trOf rv (S ++ ext) = some t ∧ isAny isl t [.b .list, .b .tuple] = some false) : (sSeq (sIf (tNot (tTru (eCall 3 m_u_law_is_number [] (aCons (eVar 4) (aCons (eC (.int 0)) (aCons (eC (.int 2)) aNil)))))) (sAsg (eTup (aCons (eC (.int 0)) (aCons (eC (.str "width")) aNil))) (gN 7)) (sIf (NK.tB (eOp fLt (eVar 6) (eC (.int 4)))) (sAsg (eTup (aCons (eC (.int 0)) (aCons (eC (.str "rows")) aNil))) (gN 7)) (sIf (NK.tB (eOp fEq (eVar 6) (eC (.int 4)))) (sAsg (eTup (aCons (eC (.int 5000)) (aCons (eC (.str "many")) aNil))) (gN 7)) (sIf (tAnd (NK.tB (eOp fLt (eVar 6) (eC (.int 9)))) (NK.tB (eOp fNe (eVar 6) (eC (.int 5))))) (sAsg (eIf (NK.tB (eOp fEq (eVar 5) (eScope (eLst aNil)))) (eC .non) (eTup (aCons (eC (.int 0)) (aCons (eC (.str "row")) aNil)))) (gN 7)) (sAsg (eIf (NK.tB (eOp fEq (eVar 4) (eC (.int 0)))) (eC .non) (eTup (aCons (eC (.int 0)) (aCons (eC (.str "width")) aNil)))) (gN 7))))))
    (sSeq (sIf (NK.tB (eOp fNe (eCall 2 m_record_fault [] (aCons (eVar 4) (aCons (eVar 5) aNil))) (eVar 7))) (sRet (eC (.bl false))) sNext)
    (sSeq (sIf (NK.tB (eOp fNotN (eVar 7) (eC .non))) (sRet (eOp fEq (eCall 2 m_u_law_asked [] (aCons (eVar 4) (aCons (eVar 5) aNil))) (eTup (aCons (eC (.str "refused")) (aCons (eOp fIx (eVar 7) (eC (.int 0))) (aCons (eOp fIx (eVar 7) (eC (.int 1))) aNil)))))) sNext)
    (sRet (eAnd (eOp fEq (eCall 2 m_u_law_asked [] (aCons (eVar 4) (aCons (eVar 5) aNil))) (eTup (aCons (eC (.str "made")) (aCons (eVar 4) (aCons (eCB fLen (aCons (eVar 5) aNil)) aNil))))) (eOp fEq (eCall 2 m_u_law_asked [] (aCons (eC (.int 2)) (aCons (eTup aNil) aNil))) (eTup (aCons (eC (.str "made")) (aCons (eC (.int 2)) (aCons (eC (.int 0)) aNil)))))))))) [x0, x1, x2, x3, some (U.int w), some rv, some (U.int s), none] S = SO.ret (U.bl true) S := by
  obtain ⟨h1, h3⟩ := refuse1 (by decide) (ah_rows h0 h2 hr)
  exact t_refuse (s8_rows (nu_int h0 h2) hs) h1 h3
theorem z_many {us : List U} (h0 : 0 ≤ w) (h2 : w ≤ 2) (hs : s = 4) (hu : 5000 < us.length) : (sSeq (sIf (tNot (tTru (eCall 3 m_u_law_is_number [] (aCons (eVar 4) (aCons (eC (.int 0)) (aCons (eC (.int 2)) aNil)))))) (sAsg (eTup (aCons (eC (.int 0)) (aCons (eC (.str "width")) aNil))) (gN 7)) (sIf (NK.tB (eOp fLt (eVar 6) (eC (.int 4)))) (sAsg (eTup (aCons (eC (.int 0)) (aCons (eC (.str "rows")) aNil))) (gN 7)) (sIf (NK.tB (eOp fEq (eVar 6) (eC (.int 4)))) (sAsg (eTup (aCons (eC (.int 5000)) (aCons (eC (.str "many")) aNil))) (gN 7)) (sIf (tAnd (NK.tB (eOp fLt (eVar 6) (eC (.int 9)))) (NK.tB (eOp fNe (eVar 6) (eC (.int 5))))) (sAsg (eIf (NK.tB (eOp fEq (eVar 5) (eScope (eLst aNil)))) (eC .non) (eTup (aCons (eC (.int 0)) (aCons (eC (.str "row")) aNil)))) (gN 7)) (sAsg (eIf (NK.tB (eOp fEq (eVar 4) (eC (.int 0)))) (eC .non) (eTup (aCons (eC (.int 0)) (aCons (eC (.str "width")) aNil)))) (gN 7))))))
    (sSeq (sIf (NK.tB (eOp fNe (eCall 2 m_record_fault [] (aCons (eVar 4) (aCons (eVar 5) aNil))) (eVar 7))) (sRet (eC (.bl false))) sNext)
    (sSeq (sIf (NK.tB (eOp fNotN (eVar 7) (eC .non))) (sRet (eOp fEq (eCall 2 m_u_law_asked [] (aCons (eVar 4) (aCons (eVar 5) aNil))) (eTup (aCons (eC (.str "refused")) (aCons (eOp fIx (eVar 7) (eC (.int 0))) (aCons (eOp fIx (eVar 7) (eC (.int 1))) aNil)))))) sNext)
    (sRet (eAnd (eOp fEq (eCall 2 m_u_law_asked [] (aCons (eVar 4) (aCons (eVar 5) aNil))) (eTup (aCons (eC (.str "made")) (aCons (eVar 4) (aCons (eCB fLen (aCons (eVar 5) aNil)) aNil))))) (eOp fEq (eCall 2 m_u_law_asked [] (aCons (eC (.int 2)) (aCons (eTup aNil) aNil))) (eTup (aCons (eC (.str "made")) (aCons (eC (.int 2)) (aCons (eC (.int 0)) aNil)))))))))) [x0, x1, x2, x3, some (U.int w), some (U.lst us), some (U.int s), none] S = SO.ret (U.bl true) S := by
  obtain ⟨h1, h3⟩ := refuse1 (by decide) (ah_many (S := S) h0 h2 hu)
  exact t_refuse (s8_many (nu_int h0 h2) hs) h1 h3
theorem z_nones {us : List U} (h0 : 0 ≤ w) (h2 : w ≤ 2) (h4 : ¬ s < 4) (hs : s ≠ 4) (h5 : s ≠ 5) (h9 : s < 9) (hl : us.length ≤ 4) (hu : us = [] ∨ ∃ r, us = U.non :: r) (hk : ∀ u ∈ us, u = U.non) : (sSeq (sIf (tNot (tTru (eCall 3 m_u_law_is_number [] (aCons (eVar 4) (aCons (eC (.int 0)) (aCons (eC (.int 2)) aNil)))))) (sAsg (eTup (aCons (eC (.int 0)) (aCons (eC (.str "width")) aNil))) (gN 7)) (sIf (NK.tB (eOp fLt (eVar 6) (eC (.int 4)))) (sAsg (eTup (aCons (eC (.int 0)) (aCons (eC (.str "rows")) aNil))) (gN 7)) (sIf (NK.tB (eOp fEq (eVar 6) (eC (.int 4)))) (sAsg (eTup (aCons (eC (.int 5000)) (aCons (eC (.str "many")) aNil))) (gN 7)) (sIf (tAnd (NK.tB (eOp fLt (eVar 6) (eC (.int 9)))) (NK.tB (eOp fNe (eVar 6) (eC (.int 5))))) (sAsg (eIf (NK.tB (eOp fEq (eVar 5) (eScope (eLst aNil)))) (eC .non) (eTup (aCons (eC (.int 0)) (aCons (eC (.str "row")) aNil)))) (gN 7)) (sAsg (eIf (NK.tB (eOp fEq (eVar 4) (eC (.int 0)))) (eC .non) (eTup (aCons (eC (.int 0)) (aCons (eC (.str "width")) aNil)))) (gN 7))))))
    (sSeq (sIf (NK.tB (eOp fNe (eCall 2 m_record_fault [] (aCons (eVar 4) (aCons (eVar 5) aNil))) (eVar 7))) (sRet (eC (.bl false))) sNext)
    (sSeq (sIf (NK.tB (eOp fNotN (eVar 7) (eC .non))) (sRet (eOp fEq (eCall 2 m_u_law_asked [] (aCons (eVar 4) (aCons (eVar 5) aNil))) (eTup (aCons (eC (.str "refused")) (aCons (eOp fIx (eVar 7) (eC (.int 0))) (aCons (eOp fIx (eVar 7) (eC (.int 1))) aNil)))))) sNext)
    (sRet (eAnd (eOp fEq (eCall 2 m_u_law_asked [] (aCons (eVar 4) (aCons (eVar 5) aNil))) (eTup (aCons (eC (.str "made")) (aCons (eVar 4) (aCons (eCB fLen (aCons (eVar 5) aNil)) aNil))))) (eOp fEq (eCall 2 m_u_law_asked [] (aCons (eC (.int 2)) (aCons (eTup aNil) aNil))) (eTup (aCons (eC (.str "made")) (aCons (eC (.int 2)) (aCons (eC (.int 0)) aNil)))))))))) [x0, x1, x2, x3, some (U.int w), some (U.lst us), some (U.int s), none] S = SO.ret (U.bl true) S := by
  have ok : okU 12 (U.lst us) = true := List.all_eq_true.mpr fun u hu => by rw [hk u hu]; rfl
  have he := fEq_ok (st := S) ok (w := U.lst []) rfl
  rw [eqv_nil] at he
  have s8 := s8_none (nu := m_u_law_is_number) (x0 := x0) (x1 := x1) (x2 := x2) (x3 := x3) (wd := U.int w) (nu_int h0 h2) h4 hs h5 h9 he
  rcases hu with rfl | ⟨r, rfl⟩
  · rw [if_pos (show ([] : List U).isEmpty = true from rfl)] at s8
    obtain ⟨h1, h3⟩ := made (S := S) (w := w) (rv := U.lst []) (lb := fun _ => Str.ofString "a") (N := 0) (by omega) (ah_ok (us := []) h0 h2 (.inl rfl) (by simp)) (fun T => ⟨_, LI.zero, fill_nil (S := T) (.inl rfl)⟩)
    exact t_made (n := ((0 : Nat) : Int)) s8 h1 h3 rfl asked_two
  · rw [if_neg (show ¬ (U.non :: r).isEmpty = true by simp)] at s8
    obtain ⟨h1, h3⟩ := refuse2 (S := S) (w := w) (rv := U.lst (U.non :: r)) (i := 0) (x := "row") (by decide) (ah_ok (us := U.non :: r) h0 h2 (.inl rfl) (by omega)) (fun T => fill_nones)
    exact t_refuse s8 h1 h3
theorem z_good {lb : Nat → Str} {N : Nat} (h0 : 0 ≤ w) (h2 : w ≤ 2) (h4 : ¬ s < 4) (hs : s ≠ 4) (h5 : s = 5 ∨ ¬ s < 9) (hN : N ≤ 5000) (hN0 : 0 < N) (inj : ∀ i j, i < N → j < N → lb i = lb j → i = j) (ok : ∀ i, okS (lb i)) (lab : ∀ i, labU (U.str (lb i)) = true) :
    (sSeq (sIf (tNot (tTru (eCall 3 m_u_law_is_number [] (aCons (eVar 4) (aCons (eC (.int 0)) (aCons (eC (.int 2)) aNil)))))) (sAsg (eTup (aCons (eC (.int 0)) (aCons (eC (.str "width")) aNil))) (gN 7)) (sIf (NK.tB (eOp fLt (eVar 6) (eC (.int 4)))) (sAsg (eTup (aCons (eC (.int 0)) (aCons (eC (.str "rows")) aNil))) (gN 7)) (sIf (NK.tB (eOp fEq (eVar 6) (eC (.int 4)))) (sAsg (eTup (aCons (eC (.int 5000)) (aCons (eC (.str "many")) aNil))) (gN 7)) (sIf (tAnd (NK.tB (eOp fLt (eVar 6) (eC (.int 9)))) (NK.tB (eOp fNe (eVar 6) (eC (.int 5))))) (sAsg (eIf (NK.tB (eOp fEq (eVar 5) (eScope (eLst aNil)))) (eC .non) (eTup (aCons (eC (.int 0)) (aCons (eC (.str "row")) aNil)))) (gN 7)) (sAsg (eIf (NK.tB (eOp fEq (eVar 4) (eC (.int 0)))) (eC .non) (eTup (aCons (eC (.int 0)) (aCons (eC (.str "width")) aNil)))) (gN 7))))))
    (sSeq (sIf (NK.tB (eOp fNe (eCall 2 m_record_fault [] (aCons (eVar 4) (aCons (eVar 5) aNil))) (eVar 7))) (sRet (eC (.bl false))) sNext)
    (sSeq (sIf (NK.tB (eOp fNotN (eVar 7) (eC .non))) (sRet (eOp fEq (eCall 2 m_u_law_asked [] (aCons (eVar 4) (aCons (eVar 5) aNil))) (eTup (aCons (eC (.str "refused")) (aCons (eOp fIx (eVar 7) (eC (.int 0))) (aCons (eOp fIx (eVar 7) (eC (.int 1))) aNil)))))) sNext)
    (sRet (eAnd (eOp fEq (eCall 2 m_u_law_asked [] (aCons (eVar 4) (aCons (eVar 5) aNil))) (eTup (aCons (eC (.str "made")) (aCons (eVar 4) (aCons (eCB fLen (aCons (eVar 5) aNil)) aNil))))) (eOp fEq (eCall 2 m_u_law_asked [] (aCons (eC (.int 2)) (aCons (eTup aNil) aNil))) (eTup (aCons (eC (.str "made")) (aCons (eC (.int 2)) (aCons (eC (.int 0)) aNil)))))))))) [x0, x1, x2, x3, some (U.int w), some (U.lst ((List.range N).map fun k => rowU (lb k) k)), some (U.int s), none] S = SO.ret (U.bl true) S := by
  have s8 := s8_good (nu := m_u_law_is_number) (x0 := x0) (x1 := x1) (x2 := x2) (x3 := x3) (rv := U.lst ((List.range N).map fun k => rowU (lb k) k)) (S := S) (nu_int h0 h2) h4 hs h5
  have ah := ah_ok (S := S) (us := (List.range N).map fun k => rowU (lb k) k) h0 h2 (.inl rfl) (by simpa using hN)
  by_cases hw : w = 0
  · subst hw
    rw [if_pos (show ((0 : Int) == 0) = true from rfl)] at s8
    obtain ⟨h1, h3⟩ := made (lb := lb) (N := N) (by omega) ah (fun T => fill_all (by omega) inj ok lab)
    exact t_made (n := (N : Int)) s8 h1 h3 (by show Out.ok (U.int (((List.range N).map fun k => rowU (lb k) k).length : Nat)) S = _; rw [List.length_map, List.length_range]) asked_two
  · rw [if_neg (by rw [beq_iff_eq]; exact hw)] at s8
    obtain ⟨m, rfl⟩ : ∃ m, N = m + 1 := ⟨N - 1, by omega⟩
    have e : (List.range (m + 1)).map (fun k => rowU (lb k) k) = rowU (lb 0) 0 :: (List.range' 1 m).map fun k => rowU (lb k) k := by
      rw [List.range_eq_range']
      rfl
    rw [e] at s8 ah ⊢
    obtain ⟨h1, h3⟩ := refuse2 (i := 0) (x := "width") (by decide) ah (fun T => fill_width hw (ok 0) (lab 0))
    exact t_refuse s8 h1 h3
end
/-! the rows chosen -/
def list6 (d : Nat) : List U := [U.non, U.str (Str.ofString ""), U.str (Str.ofString "comes"), U.int 0, U.loc d, U.bl true]
theorem l6_ok {env : NK.Env} {S : Sto} : (eLst (aCons (eC .non) (aCons (eC (.str "")) (aCons (eC (.str "comes")) (aCons (eC (.int 0)) (aCons (eDic1 "a" 1) (aCons (eC (.bl true)) aNil))))))) env S = Out.ok (U.loc (S.length + 1)) (S ++ [Ob.dK [(.inr (Str.ofString "a"), U.int 1)], Ob.lst (list6 S.length)]) := by
  have e1 : (S ++ [Ob.dK [(.inr (Str.ofString "a"), U.int 1)]]).length = S.length + 1 := by simp
  have e2 : (S ++ [Ob.dK [(.inr (Str.ofString "a"), U.int 1)]]) ++ [Ob.lst (list6 S.length)] = S ++ [Ob.dK [(.inr (Str.ofString "a"), U.int 1)], Ob.lst (list6 S.length)] := by simp
  unfold list6 at e2 ⊢
  simp (maxDischargeDepth := 8) -implicitDefEqProofs only [sSeq, sIf, sAsg, sRet, sDrop, sSetIx, sNext, sCont, NK.tAnd, NK.tOr, NK.tNot, NK.tTru, NK.tB, eOp, eUn, eCB, eIf, eAnd, eOr, eNot, eVar, eC, aCons, aNil, gN, ob, xb, NK.os, NK.xs, nb, rb, kb, eb, List.getElem?_cons_zero, List.getElem?_cons_succ, List.set_cons_zero, List.set_cons_succ, ↓reduceIte, Bool.false_eq_true, Bool.not_true, Bool.not_false, fAdd_i, fSub_i, fNeg_i, fInt_i, fAbs_i, fLt_i, fLe_i, fGt_i, fMin_i, fIsN_n, fNotN_n, fLen_lst, fLen_tup, fTuple_lst, fTuple_tup, U.isNon, truth, fMod_i, fDiv_i, fMul_i, Int.reduceLT, Int.reduceNeg, Int.reducePow, Int.reduceLE, or_true, true_or, and_self, and_true, true_and, eCall, List.append_nil, List.length_cons, List.length_nil, Nat.reduceAdd, Nat.zero_add, eLst_k, lstK_ok, eDic1, e1, e2, Nat.reduceLeDiff]
theorem nn_body {dr : MF} {en : ME} {env : NK.Env} {x y : U} {d : Int} {S S1 S2 : Sto} (h0 : en env S = Out.ok x S) (h1 : env[1]? = some (some (U.loc 0))) (h2 : dr [U.loc 0, U.int 4] S = Out.ok (U.int d) S1) (h3 : fMul x (U.int d) S1 = Out.ok y S2) : eOp fMul en (eCall 2 dr [] (aCons (eVar 1) (aCons (eC (.int 4)) aNil))) env S = Out.ok y S2 := by
  simp (maxDischargeDepth := 8) -implicitDefEqProofs only [sSeq, sIf, sAsg, sRet, sDrop, sSetIx, sNext, sCont, NK.tAnd, NK.tOr, NK.tNot, NK.tTru, NK.tB, eOp, eUn, eCB, eIf, eAnd, eOr, eNot, eVar, eC, aCons, aNil, gN, ob, xb, NK.os, NK.xs, nb, rb, kb, eb, List.getElem?_cons_zero, List.getElem?_cons_succ, List.set_cons_zero, List.set_cons_succ, ↓reduceIte, Bool.false_eq_true, Bool.not_true, Bool.not_false, fAdd_i, fSub_i, fNeg_i, fInt_i, fAbs_i, fLt_i, fLe_i, fGt_i, fMin_i, fIsN_n, fNotN_n, fLen_lst, fLen_tup, fTuple_lst, fTuple_tup, U.isNon, truth, fMod_i, fDiv_i, fMul_i, Int.reduceLT, Int.reduceNeg, Int.reducePow, Int.reduceLE, or_true, true_or, and_self, and_true, true_and, eCall, List.append_nil, List.length_cons, List.length_nil, Nat.reduceAdd, Nat.zero_add, h0, h1, h2, h3]
theorem seq_ok {a b : MS} {env env1 : NK.Env} {S S1 S2 : Sto} {u : U} (h1 : a env S = SO.next env1 S1) (h2 : b env1 S1 = SO.ret u S2) : sSeq a b env S = SO.ret u S2 := by
  show SO.bind (a env S) b = _
  rw [h1]
  exact h2
theorem nn_ok {env : NK.Env} {h : Ob} {st : Sto} (h1 : env[1]? = some (some (U.loc 0))) (H : HOb h) : ∃ us h', HOb h' ∧ us.length ≤ 4 ∧ (us = [] ∨ ∃ r, us = U.non :: r) ∧ (∀ u ∈ us, u = U.non) ∧ (eScope (eOp fMul (eScope (eLst (aCons (eC .non) aNil))) (eCall 2 m_u_law_draw [] (aCons (eVar 1) (aCons (eC (.int 4)) aNil))))) env (h :: st) = Out.ok (U.lst us) (h' :: st) := by
  obtain ⟨d, h', H', d0, d1, e⟩ := draw_ok (st := st) (m := 4) H (by decide) (by decide)
  have li : ∀ S, eScope (eLst (aCons (eC .non) aNil)) env S = Out.ok (U.lst [U.non]) S := fun S => by
    simp (maxDischargeDepth := 8) -implicitDefEqProofs only [sSeq, sIf, sAsg, sRet, sDrop, sSetIx, sNext, sCont, NK.tAnd, NK.tOr, NK.tNot, NK.tTru, NK.tB, eOp, eUn, eCB, eIf, eAnd, eOr, eNot, eVar, eC, aCons, aNil, gN, ob, xb, NK.os, NK.xs, nb, rb, kb, eb, List.getElem?_cons_zero, List.getElem?_cons_succ, List.set_cons_zero, List.set_cons_succ, ↓reduceIte, Bool.false_eq_true, Bool.not_true, Bool.not_false, fAdd_i, fSub_i, fNeg_i, fInt_i, fAbs_i, fLt_i, fLe_i, fGt_i, fMin_i, fIsN_n, fNotN_n, fLen_lst, fLen_tup, fTuple_lst, fTuple_tup, U.isNon, truth, fMod_i, fDiv_i, fMul_i, Int.reduceLT, Int.reduceNeg, Int.reducePow, Int.reduceLE, or_true, true_or, and_self, and_true, true_and, eCall, List.append_nil, List.length_cons, List.length_nil, Nat.reduceAdd, Nat.zero_add, esl, lstK_ok, Nat.reduceLeDiff, sc_lit, U.underL, U.under, Bool.and_self]
  have fm : fMul (U.lst [U.non]) (U.int d) (h' :: st) = Out.ok (U.loc (h' :: st).length) ((h' :: st) ++ [Ob.lst (List.replicate d.toNat [U.non]).flatten]) := by
    show (if -(2 ^ 63) ≤ d ∧ d < 2 ^ 63 ∧ ([U.non] : List U).length * d.toNat ≤ 16777216 then _ else _) = _
    rw [if_pos ⟨by omega, by omega, by simp; omega⟩]
  have hn : ∀ u ∈ (List.replicate d.toNat [U.non]).flatten, u = U.non := fun u hu => by
    rw [List.mem_flatten] at hu
    obtain ⟨l, hl, hul⟩ := hu
    rw [(List.mem_replicate.mp hl).2] at hul
    exact List.mem_singleton.mp hul
  have hlen : (List.replicate d.toNat [U.non]).flatten.length = d.toNat := by simp
  refine ⟨(List.replicate d.toNat [U.non]).flatten, h', H', by omega, ?_, hn, ?_⟩
  · cases q : (List.replicate d.toNat [U.non]).flatten with
    | nil => exact .inl rfl
    | cons u r => exact .inr ⟨r, by rw [hn u (by rw [q]; exact List.mem_cons_self)]⟩
  · have e2 : eOp fMul (eScope (eLst (aCons (eC .non) aNil))) (eCall 2 m_u_law_draw [] (aCons (eVar 1) (aCons (eC (.int 4)) aNil))) env (h :: st) = Out.ok (U.loc (h' :: st).length) ((h' :: st) ++ [Ob.lst (List.replicate d.toNat [U.non]).flatten]) := nn_body (li _) h1 e fm
    unfold eScope at e2 ⊢
    rw [e2]
    exact sc_loc (st := h :: st) (st2 := h' :: st) (j := 0) [Ob.lst _] (Old.hand H'.under) rfl (underL_all fun u hu => by rw [hn u hu]; rfl)
theorem a_ok : okS (Str.ofString "a") := ⟨strOk_of _, by decide +kernel⟩
theorem a_lab : labU (U.str (Str.ofString "a")) = true := by decide +kernel
theorem rest_ok {x0 x2 x3 : Option U} {wd : U} {s : Int} {h : Ob} {st : Sto} (H : HOb h) (T : Th wd (h :: st)) : ∃ S7, (sSeq (sIf (NK.tB (eOp fLt (eVar 6) (eC (.int 4)))) (sAsg (eCall 2 m_u_law_pick [] (aCons (eVar 1) (aCons (eLst (aCons (eC .non) (aCons (eC (.str "")) (aCons (eC (.str "comes")) (aCons (eC (.int 0)) (aCons (eDic1 "a" 1) (aCons (eC (.bl true)) aNil))))))) aNil))) (gN 5)) (sIf (NK.tB (eOp fEq (eVar 6) (eC (.int 4)))) (sAsg (eCall 1 m_u_law_many [] (aCons (eOp fAdd (eC (.int 5001)) (eCall 2 m_u_law_draw [] (aCons (eVar 1) (aCons (eC (.int 3)) aNil)))) aNil)) (gN 5)) (sIf (NK.tB (eOp fEq (eVar 6) (eC (.int 5)))) (sSeq (sAsg (eCall 1 m_u_law_many [] (aCons (eC (.int 5000)) aNil)) (gN 5))
    (sAsg (eC (.int 0)) (gN 4))) (sIf (NK.tB (eOp fLt (eVar 6) (eC (.int 9)))) (sAsg (eScope (eOp fMul (eScope (eLst (aCons (eC .non) aNil))) (eCall 2 m_u_law_draw [] (aCons (eVar 1) (aCons (eC (.int 4)) aNil))))) (gN 5)) sNext))))
    (sSeq (sIf (tNot (tTru (eCall 3 m_u_law_is_number [] (aCons (eVar 4) (aCons (eC (.int 0)) (aCons (eC (.int 2)) aNil)))))) (sAsg (eTup (aCons (eC (.int 0)) (aCons (eC (.str "width")) aNil))) (gN 7)) (sIf (NK.tB (eOp fLt (eVar 6) (eC (.int 4)))) (sAsg (eTup (aCons (eC (.int 0)) (aCons (eC (.str "rows")) aNil))) (gN 7)) (sIf (NK.tB (eOp fEq (eVar 6) (eC (.int 4)))) (sAsg (eTup (aCons (eC (.int 5000)) (aCons (eC (.str "many")) aNil))) (gN 7)) (sIf (tAnd (NK.tB (eOp fLt (eVar 6) (eC (.int 9)))) (NK.tB (eOp fNe (eVar 6) (eC (.int 5))))) (sAsg (eIf (NK.tB (eOp fEq (eVar 5) (eScope (eLst aNil)))) (eC .non) (eTup (aCons (eC (.int 0)) (aCons (eC (.str "row")) aNil)))) (gN 7)) (sAsg (eIf (NK.tB (eOp fEq (eVar 4) (eC (.int 0)))) (eC .non) (eTup (aCons (eC (.int 0)) (aCons (eC (.str "width")) aNil)))) (gN 7))))))
    (sSeq (sIf (NK.tB (eOp fNe (eCall 2 m_record_fault [] (aCons (eVar 4) (aCons (eVar 5) aNil))) (eVar 7))) (sRet (eC (.bl false))) sNext)
    (sSeq (sIf (NK.tB (eOp fNotN (eVar 7) (eC .non))) (sRet (eOp fEq (eCall 2 m_u_law_asked [] (aCons (eVar 4) (aCons (eVar 5) aNil))) (eTup (aCons (eC (.str "refused")) (aCons (eOp fIx (eVar 7) (eC (.int 0))) (aCons (eOp fIx (eVar 7) (eC (.int 1))) aNil)))))) sNext)
    (sRet (eAnd (eOp fEq (eCall 2 m_u_law_asked [] (aCons (eVar 4) (aCons (eVar 5) aNil))) (eTup (aCons (eC (.str "made")) (aCons (eVar 4) (aCons (eCB fLen (aCons (eVar 5) aNil)) aNil))))) (eOp fEq (eCall 2 m_u_law_asked [] (aCons (eC (.int 2)) (aCons (eTup aNil) aNil))) (eTup (aCons (eC (.str "made")) (aCons (eC (.int 2)) (aCons (eC (.int 0)) aNil))))))))))) [x0, some (U.loc 0), x2, x3, some wd, some (U.lst [rowU (Str.ofString "a") 0]), some (U.int s), none] (h :: st) = SO.ret (U.bl true) S7 := by
  have join : ∀ {wd' rv' : U} {S1 : Sto}, (sIf (NK.tB (eOp fLt (eVar 6) (eC (.int 4)))) (sAsg (eCall 2 m_u_law_pick [] (aCons (eVar 1) (aCons (eLst (aCons (eC .non) (aCons (eC (.str "")) (aCons (eC (.str "comes")) (aCons (eC (.int 0)) (aCons (eDic1 "a" 1) (aCons (eC (.bl true)) aNil))))))) aNil))) (gN 5)) (sIf (NK.tB (eOp fEq (eVar 6) (eC (.int 4)))) (sAsg (eCall 1 m_u_law_many [] (aCons (eOp fAdd (eC (.int 5001)) (eCall 2 m_u_law_draw [] (aCons (eVar 1) (aCons (eC (.int 3)) aNil)))) aNil)) (gN 5)) (sIf (NK.tB (eOp fEq (eVar 6) (eC (.int 5)))) (sSeq (sAsg (eCall 1 m_u_law_many [] (aCons (eC (.int 5000)) aNil)) (gN 5))
    (sAsg (eC (.int 0)) (gN 4))) (sIf (NK.tB (eOp fLt (eVar 6) (eC (.int 9)))) (sAsg (eScope (eOp fMul (eScope (eLst (aCons (eC .non) aNil))) (eCall 2 m_u_law_draw [] (aCons (eVar 1) (aCons (eC (.int 4)) aNil))))) (gN 5)) sNext)))) [x0, some (U.loc 0), x2, x3, some wd, some (U.lst [rowU (Str.ofString "a") 0]), some (U.int s), none] (h :: st) = SO.next [x0, some (U.loc 0), x2, x3, some wd', some rv', some (U.int s), none] S1 → (sSeq (sIf (tNot (tTru (eCall 3 m_u_law_is_number [] (aCons (eVar 4) (aCons (eC (.int 0)) (aCons (eC (.int 2)) aNil)))))) (sAsg (eTup (aCons (eC (.int 0)) (aCons (eC (.str "width")) aNil))) (gN 7)) (sIf (NK.tB (eOp fLt (eVar 6) (eC (.int 4)))) (sAsg (eTup (aCons (eC (.int 0)) (aCons (eC (.str "rows")) aNil))) (gN 7)) (sIf (NK.tB (eOp fEq (eVar 6) (eC (.int 4)))) (sAsg (eTup (aCons (eC (.int 5000)) (aCons (eC (.str "many")) aNil))) (gN 7)) (sIf (tAnd (NK.tB (eOp fLt (eVar 6) (eC (.int 9)))) (NK.tB (eOp fNe (eVar 6) (eC (.int 5))))) (sAsg (eIf (NK.tB (eOp fEq (eVar 5) (eScope (eLst aNil)))) (eC .non) (eTup (aCons (eC (.int 0)) (aCons (eC (.str "row")) aNil)))) (gN 7)) (sAsg (eIf (NK.tB (eOp fEq (eVar 4) (eC (.int 0)))) (eC .non) (eTup (aCons (eC (.int 0)) (aCons (eC (.str "width")) aNil)))) (gN 7))))))
    (sSeq (sIf (NK.tB (eOp fNe (eCall 2 m_record_fault [] (aCons (eVar 4) (aCons (eVar 5) aNil))) (eVar 7))) (sRet (eC (.bl false))) sNext)
    (sSeq (sIf (NK.tB (eOp fNotN (eVar 7) (eC .non))) (sRet (eOp fEq (eCall 2 m_u_law_asked [] (aCons (eVar 4) (aCons (eVar 5) aNil))) (eTup (aCons (eC (.str "refused")) (aCons (eOp fIx (eVar 7) (eC (.int 0))) (aCons (eOp fIx (eVar 7) (eC (.int 1))) aNil)))))) sNext)
    (sRet (eAnd (eOp fEq (eCall 2 m_u_law_asked [] (aCons (eVar 4) (aCons (eVar 5) aNil))) (eTup (aCons (eC (.str "made")) (aCons (eVar 4) (aCons (eCB fLen (aCons (eVar 5) aNil)) aNil))))) (eOp fEq (eCall 2 m_u_law_asked [] (aCons (eC (.int 2)) (aCons (eTup aNil) aNil))) (eTup (aCons (eC (.str "made")) (aCons (eC (.int 2)) (aCons (eC (.int 0)) aNil)))))))))) [x0, some (U.loc 0), x2, x3, some wd', some rv', some (U.int s), none] S1 = SO.ret (U.bl true) S1 →
      ∃ S7, (sSeq (sIf (NK.tB (eOp fLt (eVar 6) (eC (.int 4)))) (sAsg (eCall 2 m_u_law_pick [] (aCons (eVar 1) (aCons (eLst (aCons (eC .non) (aCons (eC (.str "")) (aCons (eC (.str "comes")) (aCons (eC (.int 0)) (aCons (eDic1 "a" 1) (aCons (eC (.bl true)) aNil))))))) aNil))) (gN 5)) (sIf (NK.tB (eOp fEq (eVar 6) (eC (.int 4)))) (sAsg (eCall 1 m_u_law_many [] (aCons (eOp fAdd (eC (.int 5001)) (eCall 2 m_u_law_draw [] (aCons (eVar 1) (aCons (eC (.int 3)) aNil)))) aNil)) (gN 5)) (sIf (NK.tB (eOp fEq (eVar 6) (eC (.int 5)))) (sSeq (sAsg (eCall 1 m_u_law_many [] (aCons (eC (.int 5000)) aNil)) (gN 5))
    (sAsg (eC (.int 0)) (gN 4))) (sIf (NK.tB (eOp fLt (eVar 6) (eC (.int 9)))) (sAsg (eScope (eOp fMul (eScope (eLst (aCons (eC .non) aNil))) (eCall 2 m_u_law_draw [] (aCons (eVar 1) (aCons (eC (.int 4)) aNil))))) (gN 5)) sNext))))
    (sSeq (sIf (tNot (tTru (eCall 3 m_u_law_is_number [] (aCons (eVar 4) (aCons (eC (.int 0)) (aCons (eC (.int 2)) aNil)))))) (sAsg (eTup (aCons (eC (.int 0)) (aCons (eC (.str "width")) aNil))) (gN 7)) (sIf (NK.tB (eOp fLt (eVar 6) (eC (.int 4)))) (sAsg (eTup (aCons (eC (.int 0)) (aCons (eC (.str "rows")) aNil))) (gN 7)) (sIf (NK.tB (eOp fEq (eVar 6) (eC (.int 4)))) (sAsg (eTup (aCons (eC (.int 5000)) (aCons (eC (.str "many")) aNil))) (gN 7)) (sIf (tAnd (NK.tB (eOp fLt (eVar 6) (eC (.int 9)))) (NK.tB (eOp fNe (eVar 6) (eC (.int 5))))) (sAsg (eIf (NK.tB (eOp fEq (eVar 5) (eScope (eLst aNil)))) (eC .non) (eTup (aCons (eC (.int 0)) (aCons (eC (.str "row")) aNil)))) (gN 7)) (sAsg (eIf (NK.tB (eOp fEq (eVar 4) (eC (.int 0)))) (eC .non) (eTup (aCons (eC (.int 0)) (aCons (eC (.str "width")) aNil)))) (gN 7))))))
    (sSeq (sIf (NK.tB (eOp fNe (eCall 2 m_record_fault [] (aCons (eVar 4) (aCons (eVar 5) aNil))) (eVar 7))) (sRet (eC (.bl false))) sNext)
    (sSeq (sIf (NK.tB (eOp fNotN (eVar 7) (eC .non))) (sRet (eOp fEq (eCall 2 m_u_law_asked [] (aCons (eVar 4) (aCons (eVar 5) aNil))) (eTup (aCons (eC (.str "refused")) (aCons (eOp fIx (eVar 7) (eC (.int 0))) (aCons (eOp fIx (eVar 7) (eC (.int 1))) aNil)))))) sNext)
    (sRet (eAnd (eOp fEq (eCall 2 m_u_law_asked [] (aCons (eVar 4) (aCons (eVar 5) aNil))) (eTup (aCons (eC (.str "made")) (aCons (eVar 4) (aCons (eCB fLen (aCons (eVar 5) aNil)) aNil))))) (eOp fEq (eCall 2 m_u_law_asked [] (aCons (eC (.int 2)) (aCons (eTup aNil) aNil))) (eTup (aCons (eC (.str "made")) (aCons (eC (.int 2)) (aCons (eC (.int 0)) aNil))))))))))) [x0, some (U.loc 0), x2, x3, some wd, some (U.lst [rowU (Str.ofString "a") 0]), some (U.int s), none] (h :: st) = SO.ret (U.bl true) S7 := fun {wd' rv' S1} e1 e2 => ⟨S1, seq_ok e1 e2⟩
  have wh : ∀ {wd : U}, isWh wd 0 2 = true → ∃ w, wd = U.int w ∧ 0 ≤ w ∧ w ≤ 2 := fun {wd} hw => by
    cases wd with
    | int w =>
      have : (decide (0 ≤ w) && decide (w ≤ 2)) = true := hw
      rw [Bool.and_eq_true, decide_eq_true_iff, decide_eq_true_iff] at this
      exact ⟨w, rfl, this.1, this.2⟩
    | _ => cases hw
  by_cases h4 : s < 4
  · obtain ⟨u, h1, hu, H1, e⟩ := pick_loc (st := st ++ [Ob.dK [(.inr (Str.ofString "a"), U.int 1)], Ob.lst (list6 (h :: st).length)]) (us := list6 (h :: st).length) (j := st.length + 1) H (by simp [list6]) (by simp [list6]) (by simp)
    have e7 := s7_pick (mn := m_u_law_many) (dr := m_u_law_draw) (nn := (eScope (eOp fMul (eScope (eLst (aCons (eC .non) aNil))) (eCall 2 m_u_law_draw [] (aCons (eVar 1) (aCons (eC (.int 4)) aNil)))))) (x0 := x0) (x2 := x2) (x3 := x3) (wd := wd) (rv := U.lst [rowU (Str.ofString "a") 0]) (S := h :: st) h4 l6_ok e
    have T1 : Th wd (h1 :: (st ++ [Ob.dK [(.inr (Str.ofString "a"), U.int 1)], Ob.lst (list6 (h :: st).length)])) := Th.hand H1 (Th.hand H (T.app (ext := [Ob.dK [(.inr (Str.ofString "a"), U.int 1)], Ob.lst (list6 (h :: st).length)])))
    cases hw : isWh wd 0 2 with
    | false => exact join e7 (z_width T1 hw)
    | true =>
      obtain ⟨w, rfl, w0, w2⟩ := wh hw
      refine join e7 (z_rows w0 w2 h4 fun ext => ?_)
      simp only [list6, List.mem_cons, List.not_mem_nil, or_false] at hu
      rcases hu with rfl | rfl | rfl | rfl | rfl | rfl
      · exact ⟨_, rfl, rfl⟩
      · exact ⟨_, rfl, rfl⟩
      · exact ⟨_, rfl, rfl⟩
      · exact ⟨_, rfl, rfl⟩
      · refine ⟨.b .dict, ?_, rfl⟩
        have : ((h1 :: (st ++ [Ob.dK [(.inr (Str.ofString "a"), U.int 1)], Ob.lst (list6 (h :: st).length)])) ++ ext)[(h :: st).length]? = some (Ob.dK [(.inr (Str.ofString "a"), U.int 1)]) := by simp
        simp only [trOf, this]
      · exact ⟨_, rfl, rfl⟩
  by_cases hs : s = 4
  · obtain ⟨d, h1, H1, d0, d1, e⟩ := draw_ok (st := st) (m := 3) H (by decide) (by decide)
    obtain ⟨d, rfl⟩ := Int.eq_ofNat_of_zero_le d0
    have em := many_ok (n := 5001 + d) (S := h1 :: st) (by omega)
    have e7 := s7_many (pk := m_u_law_pick) (mn := m_u_law_many) (l6 := (eLst (aCons (eC .non) (aCons (eC (.str "")) (aCons (eC (.str "comes")) (aCons (eC (.int 0)) (aCons (eDic1 "a" 1) (aCons (eC (.bl true)) aNil)))))))) (nn := (eScope (eOp fMul (eScope (eLst (aCons (eC .non) aNil))) (eCall 2 m_u_law_draw [] (aCons (eVar 1) (aCons (eC (.int 4)) aNil)))))) (x0 := x0) (x2 := x2) (x3 := x3) (wd := wd) (rv := U.lst [rowU (Str.ofString "a") 0]) hs e (by rw [show (5001 : Int) + ((d : Nat) : Int) = ((5001 + d : Nat) : Int) by omega]; exact em)
    have T1 := Th.hand H T (h' := h1)
    cases hw : isWh wd 0 2 with
    | false => exact join e7 (z_width T1 hw)
    | true =>
      obtain ⟨w, rfl, w0, w2⟩ := wh hw
      exact join e7 (z_many w0 w2 hs (by simp; omega))
  by_cases h5 : s = 5
  · have em := many_ok (n := 5000) (S := h :: st) (by omega)
    have e7 := s7_five (pk := m_u_law_pick) (dr := m_u_law_draw) (mn := m_u_law_many) (l6 := (eLst (aCons (eC .non) (aCons (eC (.str "")) (aCons (eC (.str "comes")) (aCons (eC (.int 0)) (aCons (eDic1 "a" 1) (aCons (eC (.bl true)) aNil)))))))) (nn := (eScope (eOp fMul (eScope (eLst (aCons (eC .non) aNil))) (eCall 2 m_u_law_draw [] (aCons (eVar 1) (aCons (eC (.int 4)) aNil)))))) (x0 := x0) (x2 := x2) (x3 := x3) (wd := wd) (rv := U.lst [rowU (Str.ofString "a") 0]) h5 em
    exact join e7 (z_good (lb := lbl) (N := 5000) (by decide) (by decide) h4 hs (.inl h5) (by decide) (by decide) (fun i j hi hj => lbl_inj (by omega) (by omega)) lbl_ok lbl_lab)
  by_cases h9 : s < 9
  · obtain ⟨us, h1, H1, ul, hu, hk, e⟩ := nn_ok (env := [x0, some (U.loc 0), x2, x3, some wd, some (U.lst [rowU (Str.ofString "a") 0]), some (U.int s), none]) (st := st) rfl H
    have e7 := s7_nones (pk := m_u_law_pick) (dr := m_u_law_draw) (mn := m_u_law_many) (l6 := (eLst (aCons (eC .non) (aCons (eC (.str "")) (aCons (eC (.str "comes")) (aCons (eC (.int 0)) (aCons (eDic1 "a" 1) (aCons (eC (.bl true)) aNil)))))))) h4 hs h5 h9 e
    have T1 := Th.hand H T (h' := h1)
    cases hw : isWh wd 0 2 with
    | false => exact join e7 (z_width T1 hw)
    | true =>
      obtain ⟨w, rfl, w0, w2⟩ := wh hw
      exact join e7 (z_nones w0 w2 h4 hs h5 h9 ul hu hk)
  · have e7 := s7_rest (pk := m_u_law_pick) (dr := m_u_law_draw) (mn := m_u_law_many) (l6 := (eLst (aCons (eC .non) (aCons (eC (.str "")) (aCons (eC (.str "comes")) (aCons (eC (.int 0)) (aCons (eDic1 "a" 1) (aCons (eC (.bl true)) aNil)))))))) (nn := (eScope (eOp fMul (eScope (eLst (aCons (eC .non) aNil))) (eCall 2 m_u_law_draw [] (aCons (eVar 1) (aCons (eC (.int 4)) aNil)))))) (x0 := x0) (x2 := x2) (x3 := x3) (wd := wd) (rv := U.lst [rowU (Str.ofString "a") 0]) (S := h :: st) h4 hs h5 h9
    cases hw : isWh wd 0 2 with
    | false => exact join e7 (z_width T hw)
    | true =>
      obtain ⟨w, rfl, w0, w2⟩ := wh hw
      exact join e7 (z_good (lb := fun _ => Str.ofString "a") (N := 1) w0 w2 h4 hs (.inr h9) (by decide) (by decide) (fun i j hi hj _ => by omega) (fun _ => a_ok) (fun _ => a_lab))
/-! the law -/
theorem law_pre {hd od dr : MF} {rw_ : ME} {lo t7 : MS} {x u row : U} {f2 f3 : Option U} {d w s : Int} {S1 S2 S3 S4 S5 S6 S7 : Sto} {wd : U} (h1 : hd [x] [] = Out.ok (U.loc 0) S1) (hc : ∀ S, fNe (U.tup [U.int 5000, U.int 1000000000000000000000000000000, U.int 2]) (U.tup [U.int 5000, U.int 1000000000000000000000000000000, U.int 2]) S = Out.ok (U.bl false) S)
    (h2 : lo [some x, some (U.loc 0), none, none, none, none, none, none] S1 = SO.next [some x, some (U.loc 0), f2, f3, none, none, none, none] S2) (h3 : od [U.loc 0] S2 = Out.ok u S3) (hrow : ∀ env S, rw_ env S = Out.ok row S) (h4 : dr [U.loc 0, U.int 2] S3 = Out.ok (U.int d) S4)
    (h5 : (d == 0) = true ∧ dr [U.loc 0, U.int 3] S4 = Out.ok (U.int w) S5 ∧ wd = U.int w ∨ (d == 0) = false ∧ S5 = S4 ∧ wd = u) (h6 : dr [U.loc 0, U.int 16] S5 = Out.ok (U.int s) S6) (h7 : t7 [some x, some (U.loc 0), f2, f3, some wd, some row, some (U.int s), none] S6 = SO.ret (U.bl true) S7) :
    (sSeq (sAsg (eCall 1 hd [] (aCons (eVar 0) aNil)) (gN 1))
    (sSeq (sIf (NK.tB (eOp fNe (eTup (aCons (eC (.int 5000)) (aCons (eC (.int 1000000000000000000000000000000)) (aCons (eC (.int 2)) aNil)))) (eTup (aCons (eC (.int 5000)) (aCons (eOp fPow (eC (.int 10)) (eC (.int 30))) (aCons (eC (.int 2)) aNil)))))) (sRet (eC (.bl false))) sNext)
    (sSeq lo
    (sSeq (sPar 4 5 (aCons (eCall 1 od [] (aCons (eVar 1) aNil)) (aCons rw_ aNil)))
    (sSeq (sIf (NK.tB (eOp fEq (eCall 2 dr [] (aCons (eVar 1) (aCons (eC (.int 2)) aNil))) (eC (.int 0)))) (sAsg (eCall 2 dr [] (aCons (eVar 1) (aCons (eC (.int 3)) aNil))) (gN 4)) sNext)
    (sSeq (sAsg (eCall 2 dr [] (aCons (eVar 1) (aCons (eC (.int 16)) aNil))) (gN 6))
    t7)))))) [some x, none, none, none, none, none, none, none] [] = SO.ret (U.bl true) S7 := by
  rcases h5 with ⟨q, h5, rfl⟩ | ⟨q, rfl, rfl⟩
  · simp (maxDischargeDepth := 8) -implicitDefEqProofs only [sSeq, sIf, sAsg, sRet, sDrop, sSetIx, sNext, sCont, NK.tAnd, NK.tOr, NK.tNot, NK.tTru, NK.tB, eOp, eUn, eCB, eIf, eAnd, eOr, eNot, eVar, eC, aCons, aNil, gN, ob, xb, NK.os, NK.xs, nb, rb, kb, eb, List.getElem?_cons_zero, List.getElem?_cons_succ, List.set_cons_zero, List.set_cons_succ, ↓reduceIte, Bool.false_eq_true, Bool.not_true, Bool.not_false, fAdd_i, fSub_i, fNeg_i, fInt_i, fAbs_i, fLt_i, fLe_i, fGt_i, fMin_i, fIsN_n, fNotN_n, fLen_lst, fLen_tup, fTuple_lst, fTuple_tup, U.isNon, truth, fMod_i, fDiv_i, fMul_i, Int.reduceLT, Int.reduceNeg, Int.reducePow, Int.reduceLE, or_true, true_or, and_self, and_true, true_and, eCall, List.append_nil, List.length_cons, List.length_nil, Nat.reduceAdd, Nat.zero_add, eTup, sPar, h1, h2, h3, hrow, h4, q, fEq_ii, h5, h6, h7, pow30, hc, Nat.reduceLeDiff]
  · simp (maxDischargeDepth := 8) -implicitDefEqProofs only [sSeq, sIf, sAsg, sRet, sDrop, sSetIx, sNext, sCont, NK.tAnd, NK.tOr, NK.tNot, NK.tTru, NK.tB, eOp, eUn, eCB, eIf, eAnd, eOr, eNot, eVar, eC, aCons, aNil, gN, ob, xb, NK.os, NK.xs, nb, rb, kb, eb, List.getElem?_cons_zero, List.getElem?_cons_succ, List.set_cons_zero, List.set_cons_succ, ↓reduceIte, Bool.false_eq_true, Bool.not_true, Bool.not_false, fAdd_i, fSub_i, fNeg_i, fInt_i, fAbs_i, fLt_i, fLe_i, fGt_i, fMin_i, fIsN_n, fNotN_n, fLen_lst, fLen_tup, fTuple_lst, fTuple_tup, U.isNon, truth, fMod_i, fDiv_i, fMul_i, Int.reduceLT, Int.reduceNeg, Int.reducePow, Int.reduceLE, or_true, true_or, and_self, and_true, true_and, eCall, List.append_nil, List.length_cons, List.length_nil, Nat.reduceAdd, Nat.zero_add, eTup, sPar, h1, h2, h3, hrow, h4, q, fEq_ii, h6, h7, pow30, hc, Nat.reduceLeDiff]
theorem row_ok {env : NK.Env} {S : Sto} : (eScope (eLst (aCons (eTup (aCons (eC (.str "comes")) (aCons (eC (.str "a")) (aCons (eC (.str "s")) (aCons (eC (.int 0)) (aCons (eTup aNil) aNil)))))) aNil))) env S = Out.ok (U.lst [rowU (Str.ofString "a") 0]) S := by
  have : eScope (eLst (aCons (eTup (aCons (eC (.str "comes")) (aCons (eC (.str "a")) (aCons (eC (.str "s")) (aCons (eC (.int 0)) (aCons (eTup aNil) aNil)))))) aNil)) env S = Out.ok (U.lst [U.tup [U.str (Str.ofString "comes"), U.str (Str.ofString "a"), U.str (Str.ofString "s"), U.int 0, U.tup []]]) S := by
    simp (maxDischargeDepth := 8) -implicitDefEqProofs only [sSeq, sIf, sAsg, sRet, sDrop, sSetIx, sNext, sCont, NK.tAnd, NK.tOr, NK.tNot, NK.tTru, NK.tB, eOp, eUn, eCB, eIf, eAnd, eOr, eNot, eVar, eC, aCons, aNil, gN, ob, xb, NK.os, NK.xs, nb, rb, kb, eb, List.getElem?_cons_zero, List.getElem?_cons_succ, List.set_cons_zero, List.set_cons_succ, ↓reduceIte, Bool.false_eq_true, Bool.not_true, Bool.not_false, fAdd_i, fSub_i, fNeg_i, fInt_i, fAbs_i, fLt_i, fLe_i, fGt_i, fMin_i, fIsN_n, fNotN_n, fLen_lst, fLen_tup, fTuple_lst, fTuple_tup, U.isNon, truth, fMod_i, fDiv_i, fMul_i, Int.reduceLT, Int.reduceNeg, Int.reducePow, Int.reduceLE, or_true, true_or, and_self, and_true, true_and, eCall, List.append_nil, List.length_cons, List.length_nil, Nat.reduceAdd, Nat.zero_add, eTup, esl, lstK_ok, Nat.reduceLeDiff, sc_lit, U.underL, U.under, Bool.and_self]
  exact this
theorem law_true (ns : List Int) (hn : ns.length ≤ 63) : m_law [U.scr (ns.map U.int)] [] = Out.ok (U.bl true) [] := by
  obtain ⟨h0, H0, c1⟩ := hand_ok ns hn
  obtain ⟨h1, st1, f2, f3, H1, c2⟩ := turns (x0 := some (U.scr (ns.map U.int))) (e4 := none) (e5 := none) (e6 := none) (e7 := none) ((List.range 12).map fun (i : Nat) => U.int (0 + (i : Int))) h0 [] none none H0
  have lo : (sFor (iRng1 (aCons (eC (.int 12)) aNil)) (gN 2) l_law_1) [some (U.scr (ns.map U.int)), some (U.loc 0), none, none, none, none, none, none] [h0] = SO.next [some (U.scr (ns.map U.int)), some (U.loc 0), f2, f3, none, none, none, none] (h1 :: st1) := sFor_ok (rng_ok (n := 12) rfl (by decide)) c2
  obtain ⟨u, h2, ext, H2, t2, c3⟩ := odd_ok (st := st1) H1
  obtain ⟨d, h3, H3, d0, d1, c4⟩ := draw_ok (st := st1 ++ ext) (m := 2) H2 (by decide) (by decide)
  obtain ⟨w, wd, h4, H4, T4, c5⟩ : ∃ (w : Int) (wd : U) (h4 : Ob), HOb h4 ∧ Th wd (h4 :: (st1 ++ ext)) ∧ ((d == 0) = true ∧ m_u_law_draw [U.loc 0, U.int 3] (h3 :: (st1 ++ ext)) = Out.ok (U.int w) (h4 :: (st1 ++ ext)) ∧ wd = U.int w ∨ (d == 0) = false ∧ h4 :: (st1 ++ ext) = h3 :: (st1 ++ ext) ∧ wd = u) := by
    by_cases q : d = 0
    · obtain ⟨w, h4, H4, _, _, c5⟩ := draw_ok (st := st1 ++ ext) (m := 3) H3 (by decide) (by decide)
      exact ⟨w, U.int w, h4, H4, True.intro, .inl ⟨by rw [q]; rfl, c5, rfl⟩⟩
    · exact ⟨0, u, h3, H3, Th.hand H2 t2, .inr ⟨beq_eq_false_iff_ne.mpr q, rfl, rfl⟩⟩
  obtain ⟨s, h5, H5, _, _, c6⟩ := draw_ok (st := st1 ++ ext) (m := 16) H4 (by decide) (by decide)
  obtain ⟨S7, c7⟩ := rest_ok (x0 := some (U.scr (ns.map U.int))) (x2 := f2) (x3 := f3) (s := s) H5 (Th.hand H4 T4)
  have body : b_law [some (U.scr (ns.map U.int)), none, none, none, none, none, none, none] [] = SO.ret (U.bl true) S7 := law_pre (hd := m_u_law_hand) (od := m_u_law_odd) (dr := m_u_law_draw) (rw_ := (eScope (eLst (aCons (eTup (aCons (eC (.str "comes")) (aCons (eC (.str "a")) (aCons (eC (.str "s")) (aCons (eC (.int 0)) (aCons (eTup aNil) aNil)))))) aNil)))) (lo := sFor (iRng1 (aCons (eC (.int 12)) aNil)) (gN 2) l_law_1) (t7 := (sSeq (sIf (NK.tB (eOp fLt (eVar 6) (eC (.int 4)))) (sAsg (eCall 2 m_u_law_pick [] (aCons (eVar 1) (aCons (eLst (aCons (eC .non) (aCons (eC (.str "")) (aCons (eC (.str "comes")) (aCons (eC (.int 0)) (aCons (eDic1 "a" 1) (aCons (eC (.bl true)) aNil))))))) aNil))) (gN 5)) (sIf (NK.tB (eOp fEq (eVar 6) (eC (.int 4)))) (sAsg (eCall 1 m_u_law_many [] (aCons (eOp fAdd (eC (.int 5001)) (eCall 2 m_u_law_draw [] (aCons (eVar 1) (aCons (eC (.int 3)) aNil)))) aNil)) (gN 5)) (sIf (NK.tB (eOp fEq (eVar 6) (eC (.int 5)))) (sSeq (sAsg (eCall 1 m_u_law_many [] (aCons (eC (.int 5000)) aNil)) (gN 5))
    (sAsg (eC (.int 0)) (gN 4))) (sIf (NK.tB (eOp fLt (eVar 6) (eC (.int 9)))) (sAsg (eScope (eOp fMul (eScope (eLst (aCons (eC .non) aNil))) (eCall 2 m_u_law_draw [] (aCons (eVar 1) (aCons (eC (.int 4)) aNil))))) (gN 5)) sNext))))
    (sSeq (sIf (tNot (tTru (eCall 3 m_u_law_is_number [] (aCons (eVar 4) (aCons (eC (.int 0)) (aCons (eC (.int 2)) aNil)))))) (sAsg (eTup (aCons (eC (.int 0)) (aCons (eC (.str "width")) aNil))) (gN 7)) (sIf (NK.tB (eOp fLt (eVar 6) (eC (.int 4)))) (sAsg (eTup (aCons (eC (.int 0)) (aCons (eC (.str "rows")) aNil))) (gN 7)) (sIf (NK.tB (eOp fEq (eVar 6) (eC (.int 4)))) (sAsg (eTup (aCons (eC (.int 5000)) (aCons (eC (.str "many")) aNil))) (gN 7)) (sIf (tAnd (NK.tB (eOp fLt (eVar 6) (eC (.int 9)))) (NK.tB (eOp fNe (eVar 6) (eC (.int 5))))) (sAsg (eIf (NK.tB (eOp fEq (eVar 5) (eScope (eLst aNil)))) (eC .non) (eTup (aCons (eC (.int 0)) (aCons (eC (.str "row")) aNil)))) (gN 7)) (sAsg (eIf (NK.tB (eOp fEq (eVar 4) (eC (.int 0)))) (eC .non) (eTup (aCons (eC (.int 0)) (aCons (eC (.str "width")) aNil)))) (gN 7))))))
    (sSeq (sIf (NK.tB (eOp fNe (eCall 2 m_record_fault [] (aCons (eVar 4) (aCons (eVar 5) aNil))) (eVar 7))) (sRet (eC (.bl false))) sNext)
    (sSeq (sIf (NK.tB (eOp fNotN (eVar 7) (eC .non))) (sRet (eOp fEq (eCall 2 m_u_law_asked [] (aCons (eVar 4) (aCons (eVar 5) aNil))) (eTup (aCons (eC (.str "refused")) (aCons (eOp fIx (eVar 7) (eC (.int 0))) (aCons (eOp fIx (eVar 7) (eC (.int 1))) aNil)))))) sNext)
    (sRet (eAnd (eOp fEq (eCall 2 m_u_law_asked [] (aCons (eVar 4) (aCons (eVar 5) aNil))) (eTup (aCons (eC (.str "made")) (aCons (eVar 4) (aCons (eCB fLen (aCons (eVar 5) aNil)) aNil))))) (eOp fEq (eCall 2 m_u_law_asked [] (aCons (eC (.int 2)) (aCons (eTup aNil) aNil))) (eTup (aCons (eC (.str "made")) (aCons (eC (.int 2)) (aCons (eC (.int 0)) aNil)))))))))))) c1 (fun S => ne_same rfl) lo c3 (fun env S => row_ok) c4 c5 c6 c7
  exact fs_val (n := 8) (mb := b_law) (st2 := []) (ext := S7) rfl body (Old.refl []) rfl
end G

set_option Elab.async false
set_option linter.all false
set_option maxRecDepth 100000
set_option maxHeartbeats 4000000
/-! The end: what the top has written, and the law. -/
namespace G
open PySem L2 NK
theorem kit_ref {K : PySem.W.Frag} {C : Addr} {t : Value} {b : Bool} (hne : (t == .ref C) = true → b = true) (hc : PySem.W.isClsIn K C = true) (ht : PySem.W.typeIn K (.ref C) = some (.type "type")) (hs : PySem.W.subIn K t (.ref C) = some b) : PySem.W.kitOne K t (.ref C) = some b := by
  unfold PySem.W.kitOne
  split
  · rename_i h
    rw [hne h]
  · have hc' : (PySem.W.clsIn K C).isSome = true := hc
    have e2 : ((PySem.W.clsIn K C).isSome && PySem.W.typeIn K (.ref C) == some (.type "type")) = true := by
      rw [hc', ht]
      rfl
    show (if ((PySem.W.clsIn K C).isSome && PySem.W.typeIn K (.ref C) == some (.type "type")) = true then PySem.W.subIn K t (.ref C) else none) = some b
    rw [if_pos e2]
    exact hs
theorem lookup_mem {l : List (Str × NameKind)} {y : Str} {v : NameKind} (h : l.lookup y = some v) : (y, v) ∈ l := by
  induction l with
  | nil => cases h
  | cons p l ih =>
    obtain ⟨x, u⟩ := p
    rw [List.lookup] at h
    split at h
    · rename_i e
      cases h
      rw [beq_iff_eq.mp e]
      exact List.mem_cons_self
    · exact List.mem_cons_of_mem _ (ih h)
theorem binds_full {K : PySem.W.Frag} {x qual : Str} {params : Arguments} {body : List Stmt} {scope : Scope} {dvs : List V} {kws : List (Str × V)} {f : Addr} {fd : FuncData} {ps : List Str} (F : FunD K x qual params body scope dvs kws f fd) (hd : dvs ≠ [])
    (h : ∀ (T : Addr) (kV doc pm : Value) (an : Option Addr) (cdv ct : Value) (us its : List Value), us.length = ps.length → its.length = dvs.length →
      ∃ k, bindArgs (PySem.W.fnOf x qual params body scope (.ref T) kV doc pm an cdv ct) ⟨us, []⟩ = seqItems? (.ref T) >>= k ∧ k (some its.toArray) = pure (ps.zip (us ++ its.drop dvs.length))) : Binds K fd ps [] := by
  obtain ⟨ds, e, b⟩ := F.binds1 ps.length dvs.length hd (by omega) h
  rw [List.drop_length] at e
  cases e
  exact b
def spLaw (K : PySem.W.Frag) : Sp := fun vs H Q _ => ∃ (a : Addr) (ns : List Int), vs = [V.ref a] ∧ SqL K H a (ns.map V.int) ∧ ns.length ≤ 63 ∧ ∀ H', Q (V.bl true) H'
theorem law_spec {w : World} {K : PySem.W.Frag} {a : Ad} (vs : List V) (H : Hp) (Q : VK) (E : XK) (h : spLaw K vs H Q E) : spOf (tb w K a) 1 m_law vs H Q E := by
  obtain ⟨b, ns, rfl, hS, hl, k⟩ := h
  refine ⟨rfl, ⟨fun _ => 0, 0, H⟩, _, [], ⟨rfl, fun b o q => q, fun i o q => by simp at q, fun i j x y q => by simp at q⟩, .one (.scr hS (rpl_ints ns)), ?_⟩
  rw [law_true ns hl]
  intro c' v H' _ _ r
  cases r.inv_bl
  exact k H'

theorem all_mk {w : World} {K : PySem.W.Frag} {h : Heap} {mg : Str → Option Value} {fa : Addr} (X : K.In h) (G : h.Ns mainGlobals mg) (hfa : mg "law" = some (.ref fa))
    {tk_LETTERS : _}
    {tk_MOST_NAME : _}
    {tk_MOST_ROWS : _}
    {tk_MOST_WIDTH : _}
    {C_CustomError C_BadRecord C_Ledger C_Record : Addr}
    {f_u_law_hand f_u_law_mix f_u_law_draw f_u_law_pick f_u_law_odd f_u_law_is_number f_is_whole f_fault_ahead f_is_label f_is_kind f_is_name f_is_house f_plain_row f_Ledger_fault_of_row f_Ledger_enter f_Ledger_take f_fill_ledger f_Ledger___init f_record_fault f_is_way f_u_law_only f_u_law_questions f_u_law_long_label f_u_law_many f_BadRecord___init f_Record___init f_Record___len f_u_law_asked f_law : Addr}
    {od_u_law_hand an_u_law_hand : Option Addr} {sl_u_law_hand : Array (Option Value)} {oc_u_law_hand kV_u_law_hand dc_u_law_hand pm_u_law_hand ct_u_law_hand : Value}
    {cd_u_law_hand : Value}
    {od_u_law_mix an_u_law_mix : Option Addr} {sl_u_law_mix : Array (Option Value)} {oc_u_law_mix kV_u_law_mix dc_u_law_mix pm_u_law_mix ct_u_law_mix : Value}
    {cd_u_law_mix : Value}
    {od_u_law_draw an_u_law_draw : Option Addr} {sl_u_law_draw : Array (Option Value)} {oc_u_law_draw kV_u_law_draw dc_u_law_draw pm_u_law_draw ct_u_law_draw : Value}
    {cd_u_law_draw : Value}
    {od_u_law_pick an_u_law_pick : Option Addr} {sl_u_law_pick : Array (Option Value)} {oc_u_law_pick kV_u_law_pick dc_u_law_pick pm_u_law_pick ct_u_law_pick : Value}
    {cd_u_law_pick : Value}
    {od_u_law_odd an_u_law_odd : Option Addr} {sl_u_law_odd : Array (Option Value)} {oc_u_law_odd kV_u_law_odd dc_u_law_odd pm_u_law_odd ct_u_law_odd : Value}
    {cd_u_law_odd : Value}
    {od_u_law_is_number an_u_law_is_number : Option Addr} {sl_u_law_is_number : Array (Option Value)} {oc_u_law_is_number kV_u_law_is_number dc_u_law_is_number pm_u_law_is_number ct_u_law_is_number : Value}
    {cd_u_law_is_number : Value}
    {od_is_whole an_is_whole : Option Addr} {sl_is_whole : Array (Option Value)} {oc_is_whole kV_is_whole dc_is_whole pm_is_whole ct_is_whole : Value}
    {cd_is_whole : Value}
    {od_fault_ahead an_fault_ahead : Option Addr} {sl_fault_ahead : Array (Option Value)} {oc_fault_ahead kV_fault_ahead dc_fault_ahead pm_fault_ahead ct_fault_ahead : Value}
    {cd_fault_ahead : Value}
    {od_is_label an_is_label : Option Addr} {sl_is_label : Array (Option Value)} {oc_is_label kV_is_label dc_is_label pm_is_label ct_is_label : Value}
    {cd_is_label : Value}
    {od_is_kind an_is_kind : Option Addr} {sl_is_kind : Array (Option Value)} {oc_is_kind kV_is_kind dc_is_kind pm_is_kind ct_is_kind : Value}
    {cd_is_kind : Value}
    {od_is_name an_is_name : Option Addr} {sl_is_name : Array (Option Value)} {oc_is_name kV_is_name dc_is_name pm_is_name ct_is_name : Value}
    {cd_is_name : Value}
    {od_is_house an_is_house : Option Addr} {sl_is_house : Array (Option Value)} {oc_is_house kV_is_house dc_is_house pm_is_house ct_is_house : Value}
    {cd_is_house : Value}
    {od_plain_row an_plain_row : Option Addr} {sl_plain_row : Array (Option Value)} {oc_plain_row kV_plain_row dc_plain_row pm_plain_row ct_plain_row : Value}
    {cd_plain_row : Value}
    {od_Ledger_fault_of_row an_Ledger_fault_of_row : Option Addr} {sl_Ledger_fault_of_row : Array (Option Value)} {oc_Ledger_fault_of_row kV_Ledger_fault_of_row dc_Ledger_fault_of_row pm_Ledger_fault_of_row ct_Ledger_fault_of_row : Value}
    {cd_Ledger_fault_of_row : Value}
    {od_Ledger_enter an_Ledger_enter : Option Addr} {sl_Ledger_enter : Array (Option Value)} {oc_Ledger_enter kV_Ledger_enter dc_Ledger_enter pm_Ledger_enter ct_Ledger_enter : Value}
    {cd_Ledger_enter : Value}
    {od_Ledger_take an_Ledger_take : Option Addr} {sl_Ledger_take : Array (Option Value)} {oc_Ledger_take kV_Ledger_take dc_Ledger_take pm_Ledger_take ct_Ledger_take : Value}
    {cd_Ledger_take : Value}
    {od_fill_ledger an_fill_ledger : Option Addr} {sl_fill_ledger : Array (Option Value)} {oc_fill_ledger kV_fill_ledger dc_fill_ledger pm_fill_ledger ct_fill_ledger : Value}
    {cd_fill_ledger : Value}
    {od_Ledger___init an_Ledger___init : Option Addr} {sl_Ledger___init : Array (Option Value)} {oc_Ledger___init kV_Ledger___init dc_Ledger___init pm_Ledger___init ct_Ledger___init : Value}
    {cd_Ledger___init : Value}
    {od_record_fault an_record_fault : Option Addr} {sl_record_fault : Array (Option Value)} {oc_record_fault kV_record_fault dc_record_fault pm_record_fault ct_record_fault : Value}
    {cd_record_fault : Value}
    {od_is_way an_is_way : Option Addr} {sl_is_way : Array (Option Value)} {oc_is_way kV_is_way dc_is_way pm_is_way ct_is_way : Value}
    {cd_is_way : Value}
    {od_u_law_only an_u_law_only : Option Addr} {sl_u_law_only : Array (Option Value)} {oc_u_law_only kV_u_law_only dc_u_law_only pm_u_law_only ct_u_law_only : Value}
    {cd_u_law_only : Value}
    {od_u_law_questions an_u_law_questions : Option Addr} {sl_u_law_questions : Array (Option Value)} {oc_u_law_questions kV_u_law_questions dc_u_law_questions pm_u_law_questions ct_u_law_questions : Value}
    {cd_u_law_questions : Value}
    {od_u_law_long_label an_u_law_long_label : Option Addr} {sl_u_law_long_label : Array (Option Value)} {oc_u_law_long_label kV_u_law_long_label dc_u_law_long_label pm_u_law_long_label ct_u_law_long_label : Value}
    {cd_u_law_long_label : Value}
    {od_u_law_many an_u_law_many : Option Addr} {sl_u_law_many : Array (Option Value)} {oc_u_law_many kV_u_law_many dc_u_law_many pm_u_law_many ct_u_law_many : Value}
    {cd_u_law_many : Value}
    {od_BadRecord___init an_BadRecord___init : Option Addr} {sl_BadRecord___init : Array (Option Value)} {oc_BadRecord___init kV_BadRecord___init dc_BadRecord___init pm_BadRecord___init ct_BadRecord___init : Value}
    {cda_BadRecord cc_BadRecord : Addr}
    {ccl_BadRecord : Value} {cdd_BadRecord : Option Addr} {vs_BadRecord : Array Value} {ccs_BadRecord : Array (Option Value)} {file_BadRecord : Str} {tf_BadRecord : _} {cl_BadRecord : Value} {cld_BadRecord : Option Addr} {csl_BadRecord : Array (Option Value)}
    {nm_BadRecord q_BadRecord : Str} {N_BadRecord : Addr} {bs_BadRecord sub_BadRecord : List Value} {sn_BadRecord : List Str} {ab_BadRecord : Bool} {col_BadRecord : Option Bool} {dd_BadRecord : Option Addr} {m0_BadRecord m1_BadRecord m2_BadRecord m3_BadRecord m5_BadRecord : Option Value}
    {od_Record___init an_Record___init : Option Addr} {sl_Record___init : Array (Option Value)} {oc_Record___init kV_Record___init dc_Record___init pm_Record___init ct_Record___init : Value}
    {cd_Record___init : Value}
    {T_Record___init : Addr} {tc_Record___init : Value} {td_Record___init : Option Addr} {tn_Record___init : Nat} {tsl_Record___init : Array (Option Value)}
    {U_Record___init : Addr} {ud_Record___init : Option Addr} {un_Record___init : Nat} {usl_Record___init : Array (Option Value)} 
    {od_Record___len an_Record___len : Option Addr} {sl_Record___len : Array (Option Value)} {oc_Record___len kV_Record___len dc_Record___len pm_Record___len ct_Record___len : Value}
    {cd_Record___len : Value}
    {od_u_law_asked an_u_law_asked : Option Addr} {sl_u_law_asked : Array (Option Value)} {oc_u_law_asked kV_u_law_asked dc_u_law_asked pm_u_law_asked ct_u_law_asked : Value}
    {cd_u_law_asked : Value}
    {od_law an_law : Option Addr} {sl_law : Array (Option Value)} {oc_law kV_law dc_law pm_law ct_law : Value}
    {cd_law : Value}
    (z_abs : PySem.W.nsIn K mainGlobals "abs" = some none)
    (z_bool : PySem.W.nsIn K mainGlobals "bool" = some none)
    (z_enumerate : PySem.W.nsIn K mainGlobals "enumerate" = some none)
    (z_int : PySem.W.nsIn K mainGlobals "int" = some none)
    (z_isinstance : PySem.W.nsIn K mainGlobals "isinstance" = some none)
    (z_len : PySem.W.nsIn K mainGlobals "len" = some none)
    (z_list : PySem.W.nsIn K mainGlobals "list" = some none)
    (z_range : PySem.W.nsIn K mainGlobals "range" = some none)
    (z_str : PySem.W.nsIn K mainGlobals "str" = some none)
    (z_super : PySem.W.nsIn K mainGlobals "super" = some none)
    (z_tuple : PySem.W.nsIn K mainGlobals "tuple" = some none)
    (g_LETTERS : PySem.W.nsIn K mainGlobals "LETTERS" = some (some (.str "abcdefghijklmnopqrstuvwxyz" tk_LETTERS)))
    (g_MOST_NAME : PySem.W.nsIn K mainGlobals "MOST_NAME" = some (some (.int 1000000000000000000000000000000 tk_MOST_NAME)))
    (g_MOST_ROWS : PySem.W.nsIn K mainGlobals "MOST_ROWS" = some (some (.int 5000 tk_MOST_ROWS)))
    (g_MOST_WIDTH : PySem.W.nsIn K mainGlobals "MOST_WIDTH" = some (some (.int 2 tk_MOST_WIDTH)))
    (a_CustomError : PySem.W.nsIn K mainGlobals "CustomError" = some (some (.ref C_CustomError)))
    (a_BadRecord : PySem.W.nsIn K mainGlobals "BadRecord" = some (some (.ref C_BadRecord)))
    (a_Ledger : PySem.W.nsIn K mainGlobals "Ledger" = some (some (.ref C_Ledger)))
    (a_Record : PySem.W.nsIn K mainGlobals "Record" = some (some (.ref C_Record)))
    (a_u_law_hand : PySem.W.nsIn K mainGlobals "_law_hand" = some (some (.ref f_u_law_hand)))
    (l_u_law_hand : K.lookup f_u_law_hand = some ⟨oc_u_law_hand, od_u_law_hand, .func (PySem.W.fnOf "_law_hand" "_law_hand" (defArgs s_u_law_hand) (defBody s_u_law_hand) (defScope s_u_law_hand) .none kV_u_law_hand dc_u_law_hand pm_u_law_hand an_u_law_hand cd_u_law_hand ct_u_law_hand), sl_u_law_hand⟩)
    (c_u_law_hand : PySem.W.codeIn K cd_u_law_hand "_law_hand" = true)
    (k_u_law_hand : PySem.W.keepIn K (.ref f_u_law_hand) = true)
    (a_u_law_mix : PySem.W.nsIn K mainGlobals "_law_mix" = some (some (.ref f_u_law_mix)))
    (l_u_law_mix : K.lookup f_u_law_mix = some ⟨oc_u_law_mix, od_u_law_mix, .func (PySem.W.fnOf "_law_mix" "_law_mix" (defArgs s_u_law_mix) (defBody s_u_law_mix) (defScope s_u_law_mix) .none kV_u_law_mix dc_u_law_mix pm_u_law_mix an_u_law_mix cd_u_law_mix ct_u_law_mix), sl_u_law_mix⟩)
    (c_u_law_mix : PySem.W.codeIn K cd_u_law_mix "_law_mix" = true)
    (k_u_law_mix : PySem.W.keepIn K (.ref f_u_law_mix) = true)
    (a_u_law_draw : PySem.W.nsIn K mainGlobals "_law_draw" = some (some (.ref f_u_law_draw)))
    (l_u_law_draw : K.lookup f_u_law_draw = some ⟨oc_u_law_draw, od_u_law_draw, .func (PySem.W.fnOf "_law_draw" "_law_draw" (defArgs s_u_law_draw) (defBody s_u_law_draw) (defScope s_u_law_draw) .none kV_u_law_draw dc_u_law_draw pm_u_law_draw an_u_law_draw cd_u_law_draw ct_u_law_draw), sl_u_law_draw⟩)
    (c_u_law_draw : PySem.W.codeIn K cd_u_law_draw "_law_draw" = true)
    (k_u_law_draw : PySem.W.keepIn K (.ref f_u_law_draw) = true)
    (a_u_law_pick : PySem.W.nsIn K mainGlobals "_law_pick" = some (some (.ref f_u_law_pick)))
    (l_u_law_pick : K.lookup f_u_law_pick = some ⟨oc_u_law_pick, od_u_law_pick, .func (PySem.W.fnOf "_law_pick" "_law_pick" (defArgs s_u_law_pick) (defBody s_u_law_pick) (defScope s_u_law_pick) .none kV_u_law_pick dc_u_law_pick pm_u_law_pick an_u_law_pick cd_u_law_pick ct_u_law_pick), sl_u_law_pick⟩)
    (c_u_law_pick : PySem.W.codeIn K cd_u_law_pick "_law_pick" = true)
    (k_u_law_pick : PySem.W.keepIn K (.ref f_u_law_pick) = true)
    (a_u_law_odd : PySem.W.nsIn K mainGlobals "_law_odd" = some (some (.ref f_u_law_odd)))
    (l_u_law_odd : K.lookup f_u_law_odd = some ⟨oc_u_law_odd, od_u_law_odd, .func (PySem.W.fnOf "_law_odd" "_law_odd" (defArgs s_u_law_odd) (defBody s_u_law_odd) (defScope s_u_law_odd) .none kV_u_law_odd dc_u_law_odd pm_u_law_odd an_u_law_odd cd_u_law_odd ct_u_law_odd), sl_u_law_odd⟩)
    (c_u_law_odd : PySem.W.codeIn K cd_u_law_odd "_law_odd" = true)
    (k_u_law_odd : PySem.W.keepIn K (.ref f_u_law_odd) = true)
    (a_u_law_is_number : PySem.W.nsIn K mainGlobals "_law_is_number" = some (some (.ref f_u_law_is_number)))
    (l_u_law_is_number : K.lookup f_u_law_is_number = some ⟨oc_u_law_is_number, od_u_law_is_number, .func (PySem.W.fnOf "_law_is_number" "_law_is_number" (defArgs s_u_law_is_number) (defBody s_u_law_is_number) (defScope s_u_law_is_number) .none kV_u_law_is_number dc_u_law_is_number pm_u_law_is_number an_u_law_is_number cd_u_law_is_number ct_u_law_is_number), sl_u_law_is_number⟩)
    (c_u_law_is_number : PySem.W.codeIn K cd_u_law_is_number "_law_is_number" = true)
    (k_u_law_is_number : PySem.W.keepIn K (.ref f_u_law_is_number) = true)
    (a_is_whole : PySem.W.nsIn K mainGlobals "is_whole" = some (some (.ref f_is_whole)))
    (l_is_whole : K.lookup f_is_whole = some ⟨oc_is_whole, od_is_whole, .func (PySem.W.fnOf "is_whole" "is_whole" (defArgs s_is_whole) (defBody s_is_whole) (defScope s_is_whole) .none kV_is_whole dc_is_whole pm_is_whole an_is_whole cd_is_whole ct_is_whole), sl_is_whole⟩)
    (c_is_whole : PySem.W.codeIn K cd_is_whole "is_whole" = true)
    (k_is_whole : PySem.W.keepIn K (.ref f_is_whole) = true)
    (a_fault_ahead : PySem.W.nsIn K mainGlobals "fault_ahead" = some (some (.ref f_fault_ahead)))
    (l_fault_ahead : K.lookup f_fault_ahead = some ⟨oc_fault_ahead, od_fault_ahead, .func (PySem.W.fnOf "fault_ahead" "fault_ahead" (defArgs s_fault_ahead) (defBody s_fault_ahead) (defScope s_fault_ahead) .none kV_fault_ahead dc_fault_ahead pm_fault_ahead an_fault_ahead cd_fault_ahead ct_fault_ahead), sl_fault_ahead⟩)
    (c_fault_ahead : PySem.W.codeIn K cd_fault_ahead "fault_ahead" = true)
    (k_fault_ahead : PySem.W.keepIn K (.ref f_fault_ahead) = true)
    (a_is_label : PySem.W.nsIn K mainGlobals "is_label" = some (some (.ref f_is_label)))
    (l_is_label : K.lookup f_is_label = some ⟨oc_is_label, od_is_label, .func (PySem.W.fnOf "is_label" "is_label" (defArgs s_is_label) (defBody s_is_label) (defScope s_is_label) .none kV_is_label dc_is_label pm_is_label an_is_label cd_is_label ct_is_label), sl_is_label⟩)
    (c_is_label : PySem.W.codeIn K cd_is_label "is_label" = true)
    (k_is_label : PySem.W.keepIn K (.ref f_is_label) = true)
    (a_is_kind : PySem.W.nsIn K mainGlobals "is_kind" = some (some (.ref f_is_kind)))
    (l_is_kind : K.lookup f_is_kind = some ⟨oc_is_kind, od_is_kind, .func (PySem.W.fnOf "is_kind" "is_kind" (defArgs s_is_kind) (defBody s_is_kind) (defScope s_is_kind) .none kV_is_kind dc_is_kind pm_is_kind an_is_kind cd_is_kind ct_is_kind), sl_is_kind⟩)
    (c_is_kind : PySem.W.codeIn K cd_is_kind "is_kind" = true)
    (k_is_kind : PySem.W.keepIn K (.ref f_is_kind) = true)
    (a_is_name : PySem.W.nsIn K mainGlobals "is_name" = some (some (.ref f_is_name)))
    (l_is_name : K.lookup f_is_name = some ⟨oc_is_name, od_is_name, .func (PySem.W.fnOf "is_name" "is_name" (defArgs s_is_name) (defBody s_is_name) (defScope s_is_name) .none kV_is_name dc_is_name pm_is_name an_is_name cd_is_name ct_is_name), sl_is_name⟩)
    (c_is_name : PySem.W.codeIn K cd_is_name "is_name" = true)
    (k_is_name : PySem.W.keepIn K (.ref f_is_name) = true)
    (a_is_house : PySem.W.nsIn K mainGlobals "is_house" = some (some (.ref f_is_house)))
    (l_is_house : K.lookup f_is_house = some ⟨oc_is_house, od_is_house, .func (PySem.W.fnOf "is_house" "is_house" (defArgs s_is_house) (defBody s_is_house) (defScope s_is_house) .none kV_is_house dc_is_house pm_is_house an_is_house cd_is_house ct_is_house), sl_is_house⟩)
    (c_is_house : PySem.W.codeIn K cd_is_house "is_house" = true)
    (k_is_house : PySem.W.keepIn K (.ref f_is_house) = true)
    (a_plain_row : PySem.W.nsIn K mainGlobals "plain_row" = some (some (.ref f_plain_row)))
    (l_plain_row : K.lookup f_plain_row = some ⟨oc_plain_row, od_plain_row, .func (PySem.W.fnOf "plain_row" "plain_row" (defArgs s_plain_row) (defBody s_plain_row) (defScope s_plain_row) .none kV_plain_row dc_plain_row pm_plain_row an_plain_row cd_plain_row ct_plain_row), sl_plain_row⟩)
    (c_plain_row : PySem.W.codeIn K cd_plain_row "plain_row" = true)
    (k_plain_row : PySem.W.keepIn K (.ref f_plain_row) = true)
    (a_Ledger_fault_of_row : PySem.W.findIn K (.ref C_Ledger) "fault_of_row" = some (some (.ref f_Ledger_fault_of_row)))
    (l_Ledger_fault_of_row : K.lookup f_Ledger_fault_of_row = some ⟨oc_Ledger_fault_of_row, od_Ledger_fault_of_row, .func (PySem.W.fnOf "fault_of_row" "Ledger.fault_of_row" (defArgs s_Ledger_fault_of_row) (defBody s_Ledger_fault_of_row) (defScope s_Ledger_fault_of_row) .none kV_Ledger_fault_of_row dc_Ledger_fault_of_row pm_Ledger_fault_of_row an_Ledger_fault_of_row cd_Ledger_fault_of_row ct_Ledger_fault_of_row), sl_Ledger_fault_of_row⟩)
    (c_Ledger_fault_of_row : PySem.W.codeIn K cd_Ledger_fault_of_row "Ledger.fault_of_row" = true)
    (k_Ledger_fault_of_row : PySem.W.keepIn K (.ref f_Ledger_fault_of_row) = true)
    (i_Ledger_fault_of_row : PySem.W.isFn K (.ref f_Ledger_fault_of_row) = true)
    (a_Ledger_enter : PySem.W.findIn K (.ref C_Ledger) "enter" = some (some (.ref f_Ledger_enter)))
    (l_Ledger_enter : K.lookup f_Ledger_enter = some ⟨oc_Ledger_enter, od_Ledger_enter, .func (PySem.W.fnOf "enter" "Ledger.enter" (defArgs s_Ledger_enter) (defBody s_Ledger_enter) (defScope s_Ledger_enter) .none kV_Ledger_enter dc_Ledger_enter pm_Ledger_enter an_Ledger_enter cd_Ledger_enter ct_Ledger_enter), sl_Ledger_enter⟩)
    (c_Ledger_enter : PySem.W.codeIn K cd_Ledger_enter "Ledger.enter" = true)
    (k_Ledger_enter : PySem.W.keepIn K (.ref f_Ledger_enter) = true)
    (i_Ledger_enter : PySem.W.isFn K (.ref f_Ledger_enter) = true)
    (a_Ledger_take : PySem.W.findIn K (.ref C_Ledger) "take" = some (some (.ref f_Ledger_take)))
    (l_Ledger_take : K.lookup f_Ledger_take = some ⟨oc_Ledger_take, od_Ledger_take, .func (PySem.W.fnOf "take" "Ledger.take" (defArgs s_Ledger_take) (defBody s_Ledger_take) (defScope s_Ledger_take) .none kV_Ledger_take dc_Ledger_take pm_Ledger_take an_Ledger_take cd_Ledger_take ct_Ledger_take), sl_Ledger_take⟩)
    (c_Ledger_take : PySem.W.codeIn K cd_Ledger_take "Ledger.take" = true)
    (k_Ledger_take : PySem.W.keepIn K (.ref f_Ledger_take) = true)
    (i_Ledger_take : PySem.W.isFn K (.ref f_Ledger_take) = true)
    (a_fill_ledger : PySem.W.nsIn K mainGlobals "fill_ledger" = some (some (.ref f_fill_ledger)))
    (l_fill_ledger : K.lookup f_fill_ledger = some ⟨oc_fill_ledger, od_fill_ledger, .func (PySem.W.fnOf "fill_ledger" "fill_ledger" (defArgs s_fill_ledger) (defBody s_fill_ledger) (defScope s_fill_ledger) .none kV_fill_ledger dc_fill_ledger pm_fill_ledger an_fill_ledger cd_fill_ledger ct_fill_ledger), sl_fill_ledger⟩)
    (c_fill_ledger : PySem.W.codeIn K cd_fill_ledger "fill_ledger" = true)
    (k_fill_ledger : PySem.W.keepIn K (.ref f_fill_ledger) = true)
    (a_Ledger___init : PySem.W.findIn K (.ref C_Ledger) "__init__" = some (some (.ref f_Ledger___init)))
    (l_Ledger___init : K.lookup f_Ledger___init = some ⟨oc_Ledger___init, od_Ledger___init, .func (PySem.W.fnOf "__init__" "Ledger.__init__" (defArgs s_Ledger___init) (defBody s_Ledger___init) (defScope s_Ledger___init) .none kV_Ledger___init dc_Ledger___init pm_Ledger___init an_Ledger___init cd_Ledger___init ct_Ledger___init), sl_Ledger___init⟩)
    (c_Ledger___init : PySem.W.codeIn K cd_Ledger___init "Ledger.__init__" = true)
    (k_Ledger___init : PySem.W.keepIn K (.ref f_Ledger___init) = true)
    (i_Ledger___init : PySem.W.isFn K (.ref f_Ledger___init) = true)
    (a_record_fault : PySem.W.nsIn K mainGlobals "record_fault" = some (some (.ref f_record_fault)))
    (l_record_fault : K.lookup f_record_fault = some ⟨oc_record_fault, od_record_fault, .func (PySem.W.fnOf "record_fault" "record_fault" (defArgs s_record_fault) (defBody s_record_fault) (defScope s_record_fault) .none kV_record_fault dc_record_fault pm_record_fault an_record_fault cd_record_fault ct_record_fault), sl_record_fault⟩)
    (c_record_fault : PySem.W.codeIn K cd_record_fault "record_fault" = true)
    (k_record_fault : PySem.W.keepIn K (.ref f_record_fault) = true)
    (a_is_way : PySem.W.nsIn K mainGlobals "is_way" = some (some (.ref f_is_way)))
    (l_is_way : K.lookup f_is_way = some ⟨oc_is_way, od_is_way, .func (PySem.W.fnOf "is_way" "is_way" (defArgs s_is_way) (defBody s_is_way) (defScope s_is_way) .none kV_is_way dc_is_way pm_is_way an_is_way cd_is_way ct_is_way), sl_is_way⟩)
    (c_is_way : PySem.W.codeIn K cd_is_way "is_way" = true)
    (k_is_way : PySem.W.keepIn K (.ref f_is_way) = true)
    (a_u_law_only : PySem.W.nsIn K mainGlobals "_law_only" = some (some (.ref f_u_law_only)))
    (l_u_law_only : K.lookup f_u_law_only = some ⟨oc_u_law_only, od_u_law_only, .func (PySem.W.fnOf "_law_only" "_law_only" (defArgs s_u_law_only) (defBody s_u_law_only) (defScope s_u_law_only) .none kV_u_law_only dc_u_law_only pm_u_law_only an_u_law_only cd_u_law_only ct_u_law_only), sl_u_law_only⟩)
    (c_u_law_only : PySem.W.codeIn K cd_u_law_only "_law_only" = true)
    (k_u_law_only : PySem.W.keepIn K (.ref f_u_law_only) = true)
    (a_u_law_questions : PySem.W.nsIn K mainGlobals "_law_questions" = some (some (.ref f_u_law_questions)))
    (l_u_law_questions : K.lookup f_u_law_questions = some ⟨oc_u_law_questions, od_u_law_questions, .func (PySem.W.fnOf "_law_questions" "_law_questions" (defArgs s_u_law_questions) (defBody s_u_law_questions) (defScope s_u_law_questions) .none kV_u_law_questions dc_u_law_questions pm_u_law_questions an_u_law_questions cd_u_law_questions ct_u_law_questions), sl_u_law_questions⟩)
    (c_u_law_questions : PySem.W.codeIn K cd_u_law_questions "_law_questions" = true)
    (k_u_law_questions : PySem.W.keepIn K (.ref f_u_law_questions) = true)
    (a_u_law_long_label : PySem.W.nsIn K mainGlobals "_law_long_label" = some (some (.ref f_u_law_long_label)))
    (l_u_law_long_label : K.lookup f_u_law_long_label = some ⟨oc_u_law_long_label, od_u_law_long_label, .func (PySem.W.fnOf "_law_long_label" "_law_long_label" (defArgs s_u_law_long_label) (defBody s_u_law_long_label) (defScope s_u_law_long_label) .none kV_u_law_long_label dc_u_law_long_label pm_u_law_long_label an_u_law_long_label cd_u_law_long_label ct_u_law_long_label), sl_u_law_long_label⟩)
    (c_u_law_long_label : PySem.W.codeIn K cd_u_law_long_label "_law_long_label" = true)
    (k_u_law_long_label : PySem.W.keepIn K (.ref f_u_law_long_label) = true)
    (a_u_law_many : PySem.W.nsIn K mainGlobals "_law_many" = some (some (.ref f_u_law_many)))
    (l_u_law_many : K.lookup f_u_law_many = some ⟨oc_u_law_many, od_u_law_many, .func (PySem.W.fnOf "_law_many" "_law_many" (defArgs s_u_law_many) (defBody s_u_law_many) (defScope s_u_law_many) .none kV_u_law_many dc_u_law_many pm_u_law_many an_u_law_many cd_u_law_many ct_u_law_many), sl_u_law_many⟩)
    (c_u_law_many : PySem.W.codeIn K cd_u_law_many "_law_many" = true)
    (k_u_law_many : PySem.W.keepIn K (.ref f_u_law_many) = true)
    (a_BadRecord___init : PySem.W.findIn K (.ref C_BadRecord) "__init__" = some (some (.ref f_BadRecord___init)))
    (t_BadRecord___init : PySem.W.typeIn K (.ref f_BadRecord___init) = some (.type "function"))
    (l_BadRecord___init : K.lookup f_BadRecord___init = some ⟨oc_BadRecord___init, od_BadRecord___init, .func (PySem.W.ksFn "__init__" "BadRecord.__init__" (defArgs s_BadRecord___init) (defBody s_BadRecord___init) (defScope s_BadRecord___init) .none kV_BadRecord___init dc_BadRecord___init pm_BadRecord___init an_BadRecord___init (.ref cda_BadRecord) ct_BadRecord___init cc_BadRecord), sl_BadRecord___init⟩)
    (c_BadRecord___init : PySem.W.codeIn K (.ref cda_BadRecord) "BadRecord.__init__" = true)
    (k1_BadRecord : K.lookup cda_BadRecord = some ⟨ccl_BadRecord, cdd_BadRecord, .fields vs_BadRecord, ccs_BadRecord⟩)
    (k2_BadRecord : vs_BadRecord[2]? = some (.str file_BadRecord tf_BadRecord))
    (k3_BadRecord : ((PW.main.file : Str) == file_BadRecord) = true)
    (k4_BadRecord : K.lookup cc_BadRecord = some ⟨cl_BadRecord, cld_BadRecord, .cell (some (.ref C_BadRecord)), csl_BadRecord⟩)
    (x_BadRecord : K.lookup C_BadRecord = some (excClassObj nm_BadRecord q_BadRecord C_BadRecord N_BadRecord bs_BadRecord [.ref C_CustomError, .type "ValueError", .type "Exception", .type "BaseException", .type "object"] true sn_BadRecord sub_BadRecord ab_BadRecord col_BadRecord dd_BadRecord m0_BadRecord m1_BadRecord m2_BadRecord m3_BadRecord m5_BadRecord "ValueError.__new__"))
    (sa_BadRecord : PySem.W.findIn K (.ref C_BadRecord) "__setattr__" = some (some (.builtin "object.__setattr__")))
    (ex_BadRecord : PySem.W.subIn K (.ref C_BadRecord) (.type "BaseException") = some true)
    (ty_BadRecord : PySem.W.typeIn K (.ref C_BadRecord) = some (.type "type"))
    (kc_BadRecord : PySem.W.keepIn K (.ref C_BadRecord) = true)
    (ga_BadRecord : PySem.W.findIn K (.ref C_BadRecord) "__getattribute__" = some (some (.builtin "BaseException.__getattribute__")))
    (gg_BadRecord : PySem.W.findIn K (.ref C_BadRecord) "__getattr__" = some none)
    (hd_BadRecord : PySem.W.hasDictIn K C_BadRecord = true)
    (su_BadRecord : PySem.W.ks_superIn K C_BadRecord C_BadRecord "__init__" = some (some (.builtin "ValueError.__init__")))
    (iv_BadRecord : PySem.W.subIn K (.ref C_BadRecord) (.type "ValueError") = some true)
    (se_BadRecord : PySem.W.mroIn K C_BadRecord (.ref C_BadRecord) = some true)
    (opq : PySem.W.nsIn K cStatics "thirdparty.any" = some none)
    (u_BadRecord : (PW.main.scope.names.lookup ("super" : Str)).isSome = false)
    (n_BadRecord_index : PySem.W.findIn K (.ref C_BadRecord) "index" = some none)
    (n_BadRecord_what : PySem.W.findIn K (.ref C_BadRecord) "what" = some none)
    (a_Record___init : PySem.W.findIn K (.ref C_Record) "__init__" = some (some (.ref f_Record___init)))
    (l_Record___init : K.lookup f_Record___init = some ⟨oc_Record___init, od_Record___init, .func (PySem.W.fnOf "__init__" "Record.__init__" (defArgs s_Record___init) (defBody s_Record___init) (defScope s_Record___init) (.ref T_Record___init) kV_Record___init dc_Record___init pm_Record___init an_Record___init cd_Record___init ct_Record___init), sl_Record___init⟩)
    (c_Record___init : PySem.W.codeIn K cd_Record___init "Record.__init__" = true)
    (k_Record___init : PySem.W.keepIn K (.ref f_Record___init) = true)
    (i_Record___init : PySem.W.isFn K (.ref f_Record___init) = true)
    (dt_Record___init : K.lookup T_Record___init = some ⟨tc_Record___init, td_Record___init, .seq #[.ref U_Record___init] tn_Record___init, tsl_Record___init⟩)
    (du_Record___init : K.lookup U_Record___init = some ⟨.type "tuple", ud_Record___init, .seq #[] un_Record___init, usl_Record___init⟩)
    (a_Record___len : PySem.W.findIn K (.ref C_Record) "__len__" = some (some (.ref f_Record___len)))
    (l_Record___len : K.lookup f_Record___len = some ⟨oc_Record___len, od_Record___len, .func (PySem.W.fnOf "__len__" "Record.__len__" (defArgs s_Record___len) (defBody s_Record___len) (defScope s_Record___len) .none kV_Record___len dc_Record___len pm_Record___len an_Record___len cd_Record___len ct_Record___len), sl_Record___len⟩)
    (c_Record___len : PySem.W.codeIn K cd_Record___len "Record.__len__" = true)
    (k_Record___len : PySem.W.keepIn K (.ref f_Record___len) = true)
    (i_Record___len : PySem.W.isFn K (.ref f_Record___len) = true)
    (a_u_law_asked : PySem.W.nsIn K mainGlobals "_law_asked" = some (some (.ref f_u_law_asked)))
    (l_u_law_asked : K.lookup f_u_law_asked = some ⟨oc_u_law_asked, od_u_law_asked, .func (PySem.W.fnOf "_law_asked" "_law_asked" (defArgs s_u_law_asked) (defBody s_u_law_asked) (defScope s_u_law_asked) .none kV_u_law_asked dc_u_law_asked pm_u_law_asked an_u_law_asked cd_u_law_asked ct_u_law_asked), sl_u_law_asked⟩)
    (c_u_law_asked : PySem.W.codeIn K cd_u_law_asked "_law_asked" = true)
    (k_u_law_asked : PySem.W.keepIn K (.ref f_u_law_asked) = true)
    (a_law : PySem.W.nsIn K mainGlobals "law" = some (some (.ref f_law)))
    (l_law : K.lookup f_law = some ⟨oc_law, od_law, .func (PySem.W.fnOf "law" "law" (defArgs s_law) (defBody s_law) (defScope s_law) .none kV_law dc_law pm_law an_law cd_law ct_law), sl_law⟩)
    (c_law : PySem.W.codeIn K cd_law "law" = true)
    (k_law : PySem.W.keepIn K (.ref f_law) = true)
    (hn : PySem.W.specialIn K (.builtin "object.__class__") "__get__" = some (some (.builtin "getset_descriptor.__get__")))
    (ht : PySem.W.takesIn K (.builtin "object.__class__") = some true)
    (pg_Ledger : PySem.W.plainGet K C_Ledger Str.empty = true)
    (hd_Ledger : PySem.W.hasDictIn K C_Ledger = true)
    (po_Ledger : PySem.W.plainOver K C_Ledger = true)
    (sa_Ledger : PySem.W.findIn K (.ref C_Ledger) "__setattr__" = some (some (.builtin "object.__setattr__")))
    (ha_Ledger : PySem.W.findIn K (.ref C_Ledger) "__class__" = some (some (.builtin "object.__class__")))
    (hm_Ledger : PySem.W.mroIn K C_Ledger (.type "object") = some true)
    (na_Ledger_width : PySem.W.findIn K (.ref C_Ledger) "width" = some none)
    (na_Ledger_persons : PySem.W.findIn K (.ref C_Ledger) "persons" = some none)
    (na_Ledger_kinds : PySem.W.findIn K (.ref C_Ledger) "kinds" = some none)
    (na_Ledger_parents : PySem.W.findIn K (.ref C_Ledger) "parents" = some none)
    (na_Ledger_starts : PySem.W.findIn K (.ref C_Ledger) "starts" = some none)
    (na_Ledger_dead : PySem.W.findIn K (.ref C_Ledger) "dead" = some none)
    (na_Ledger_mates : PySem.W.findIn K (.ref C_Ledger) "mates" = some none)
    (na_Ledger_broods : PySem.W.findIn K (.ref C_Ledger) "broods" = some none)
    (mk_Ledger : PySem.W.makesIn K C_Ledger = true)
    (kc_Ledger : PySem.W.keepIn K (.ref C_Ledger) = true)
    (pg_Record : PySem.W.plainGet K C_Record Str.empty = true)
    (hd_Record : PySem.W.hasDictIn K C_Record = true)
    (po_Record : PySem.W.plainOver K C_Record = true)
    (sa_Record : PySem.W.findIn K (.ref C_Record) "__setattr__" = some (some (.builtin "object.__setattr__")))
    (ha_Record : PySem.W.findIn K (.ref C_Record) "__class__" = some (some (.builtin "object.__class__")))
    (hm_Record : PySem.W.mroIn K C_Record (.type "object") = some true)
    (na_Record_ledger : PySem.W.findIn K (.ref C_Record) "ledger" = some none)
    (na_Record_width : PySem.W.findIn K (.ref C_Record) "width" = some none)
    (na_Record_rows : PySem.W.findIn K (.ref C_Record) "rows" = some none)
    (na_Record_persons : PySem.W.findIn K (.ref C_Record) "persons" = some none)
    (na_Record_founders : PySem.W.findIn K (.ref C_Record) "founders" = some none)
    (na_Record_born : PySem.W.findIn K (.ref C_Record) "born" = some none)
    (na_Record_weddings : PySem.W.findIn K (.ref C_Record) "weddings" = some none)
    (na_Record_couples : PySem.W.findIn K (.ref C_Record) "couples" = some none)
    (na_Record_living : PySem.W.findIn K (.ref C_Record) "living" = some none)
    (mk_Record : PySem.W.makesIn K C_Record = true)
    (kc_Record : PySem.W.keepIn K (.ref C_Record) = true)
    (sb_CustomError_BadRecord : PySem.W.subIn K (.ref C_CustomError) (.ref C_BadRecord) = some false)
    (sb_BadRecord_BadRecord : PySem.W.subIn K (.ref C_BadRecord) (.ref C_BadRecord) = some true) :
    ∃ fd : FuncData, (∀ (s : Shared) (u : Value), BindsTo s fd ⟨[u], []⟩ [("_law_script", u)]) ∧ ∀ base : Heap, K.In base → base.Ns mainGlobals mg → FnOk PW w K mg base (L2.CX PW w) 9 fa fd ["_law_script"] (spLaw K) := by
  have e := hfa.symm.trans (PySem.W.mg_of X G a_law)
  have e2 : fa = f_law := by
    cases e
    rfl
  rw [e2]
  have F_u_law_hand : FunD K "_law_hand" "_law_hand" (defArgs s_u_law_hand) (defBody s_u_law_hand) (defScope s_u_law_hand) [] [] f_u_law_hand (PySem.W.fnOf "_law_hand" "_law_hand" (defArgs s_u_law_hand) (defBody s_u_law_hand) (defScope s_u_law_hand) .none kV_u_law_hand dc_u_law_hand pm_u_law_hand an_u_law_hand cd_u_law_hand ct_u_law_hand) := ⟨⟨_, _, _, _, _, _, _, _, _, _, rfl, l_u_law_hand, c_u_law_hand, .inl ⟨rfl, rfl⟩, .inl rfl⟩, k_u_law_hand⟩
  have F_u_law_mix : FunD K "_law_mix" "_law_mix" (defArgs s_u_law_mix) (defBody s_u_law_mix) (defScope s_u_law_mix) [] [] f_u_law_mix (PySem.W.fnOf "_law_mix" "_law_mix" (defArgs s_u_law_mix) (defBody s_u_law_mix) (defScope s_u_law_mix) .none kV_u_law_mix dc_u_law_mix pm_u_law_mix an_u_law_mix cd_u_law_mix ct_u_law_mix) := ⟨⟨_, _, _, _, _, _, _, _, _, _, rfl, l_u_law_mix, c_u_law_mix, .inl ⟨rfl, rfl⟩, .inl rfl⟩, k_u_law_mix⟩
  have F_u_law_draw : FunD K "_law_draw" "_law_draw" (defArgs s_u_law_draw) (defBody s_u_law_draw) (defScope s_u_law_draw) [] [] f_u_law_draw (PySem.W.fnOf "_law_draw" "_law_draw" (defArgs s_u_law_draw) (defBody s_u_law_draw) (defScope s_u_law_draw) .none kV_u_law_draw dc_u_law_draw pm_u_law_draw an_u_law_draw cd_u_law_draw ct_u_law_draw) := ⟨⟨_, _, _, _, _, _, _, _, _, _, rfl, l_u_law_draw, c_u_law_draw, .inl ⟨rfl, rfl⟩, .inl rfl⟩, k_u_law_draw⟩
  have F_u_law_pick : FunD K "_law_pick" "_law_pick" (defArgs s_u_law_pick) (defBody s_u_law_pick) (defScope s_u_law_pick) [] [] f_u_law_pick (PySem.W.fnOf "_law_pick" "_law_pick" (defArgs s_u_law_pick) (defBody s_u_law_pick) (defScope s_u_law_pick) .none kV_u_law_pick dc_u_law_pick pm_u_law_pick an_u_law_pick cd_u_law_pick ct_u_law_pick) := ⟨⟨_, _, _, _, _, _, _, _, _, _, rfl, l_u_law_pick, c_u_law_pick, .inl ⟨rfl, rfl⟩, .inl rfl⟩, k_u_law_pick⟩
  have F_u_law_odd : FunD K "_law_odd" "_law_odd" (defArgs s_u_law_odd) (defBody s_u_law_odd) (defScope s_u_law_odd) [] [] f_u_law_odd (PySem.W.fnOf "_law_odd" "_law_odd" (defArgs s_u_law_odd) (defBody s_u_law_odd) (defScope s_u_law_odd) .none kV_u_law_odd dc_u_law_odd pm_u_law_odd an_u_law_odd cd_u_law_odd ct_u_law_odd) := ⟨⟨_, _, _, _, _, _, _, _, _, _, rfl, l_u_law_odd, c_u_law_odd, .inl ⟨rfl, rfl⟩, .inl rfl⟩, k_u_law_odd⟩
  have F_u_law_is_number : FunD K "_law_is_number" "_law_is_number" (defArgs s_u_law_is_number) (defBody s_u_law_is_number) (defScope s_u_law_is_number) [] [] f_u_law_is_number (PySem.W.fnOf "_law_is_number" "_law_is_number" (defArgs s_u_law_is_number) (defBody s_u_law_is_number) (defScope s_u_law_is_number) .none kV_u_law_is_number dc_u_law_is_number pm_u_law_is_number an_u_law_is_number cd_u_law_is_number ct_u_law_is_number) := ⟨⟨_, _, _, _, _, _, _, _, _, _, rfl, l_u_law_is_number, c_u_law_is_number, .inl ⟨rfl, rfl⟩, .inl rfl⟩, k_u_law_is_number⟩
  have F_is_whole : FunD K "is_whole" "is_whole" (defArgs s_is_whole) (defBody s_is_whole) (defScope s_is_whole) [] [] f_is_whole (PySem.W.fnOf "is_whole" "is_whole" (defArgs s_is_whole) (defBody s_is_whole) (defScope s_is_whole) .none kV_is_whole dc_is_whole pm_is_whole an_is_whole cd_is_whole ct_is_whole) := ⟨⟨_, _, _, _, _, _, _, _, _, _, rfl, l_is_whole, c_is_whole, .inl ⟨rfl, rfl⟩, .inl rfl⟩, k_is_whole⟩
  have F_fault_ahead : FunD K "fault_ahead" "fault_ahead" (defArgs s_fault_ahead) (defBody s_fault_ahead) (defScope s_fault_ahead) [] [] f_fault_ahead (PySem.W.fnOf "fault_ahead" "fault_ahead" (defArgs s_fault_ahead) (defBody s_fault_ahead) (defScope s_fault_ahead) .none kV_fault_ahead dc_fault_ahead pm_fault_ahead an_fault_ahead cd_fault_ahead ct_fault_ahead) := ⟨⟨_, _, _, _, _, _, _, _, _, _, rfl, l_fault_ahead, c_fault_ahead, .inl ⟨rfl, rfl⟩, .inl rfl⟩, k_fault_ahead⟩
  have F_is_label : FunD K "is_label" "is_label" (defArgs s_is_label) (defBody s_is_label) (defScope s_is_label) [] [] f_is_label (PySem.W.fnOf "is_label" "is_label" (defArgs s_is_label) (defBody s_is_label) (defScope s_is_label) .none kV_is_label dc_is_label pm_is_label an_is_label cd_is_label ct_is_label) := ⟨⟨_, _, _, _, _, _, _, _, _, _, rfl, l_is_label, c_is_label, .inl ⟨rfl, rfl⟩, .inl rfl⟩, k_is_label⟩
  have F_is_kind : FunD K "is_kind" "is_kind" (defArgs s_is_kind) (defBody s_is_kind) (defScope s_is_kind) [] [] f_is_kind (PySem.W.fnOf "is_kind" "is_kind" (defArgs s_is_kind) (defBody s_is_kind) (defScope s_is_kind) .none kV_is_kind dc_is_kind pm_is_kind an_is_kind cd_is_kind ct_is_kind) := ⟨⟨_, _, _, _, _, _, _, _, _, _, rfl, l_is_kind, c_is_kind, .inl ⟨rfl, rfl⟩, .inl rfl⟩, k_is_kind⟩
  have F_is_name : FunD K "is_name" "is_name" (defArgs s_is_name) (defBody s_is_name) (defScope s_is_name) [] [] f_is_name (PySem.W.fnOf "is_name" "is_name" (defArgs s_is_name) (defBody s_is_name) (defScope s_is_name) .none kV_is_name dc_is_name pm_is_name an_is_name cd_is_name ct_is_name) := ⟨⟨_, _, _, _, _, _, _, _, _, _, rfl, l_is_name, c_is_name, .inl ⟨rfl, rfl⟩, .inl rfl⟩, k_is_name⟩
  have F_is_house : FunD K "is_house" "is_house" (defArgs s_is_house) (defBody s_is_house) (defScope s_is_house) [] [] f_is_house (PySem.W.fnOf "is_house" "is_house" (defArgs s_is_house) (defBody s_is_house) (defScope s_is_house) .none kV_is_house dc_is_house pm_is_house an_is_house cd_is_house ct_is_house) := ⟨⟨_, _, _, _, _, _, _, _, _, _, rfl, l_is_house, c_is_house, .inl ⟨rfl, rfl⟩, .inl rfl⟩, k_is_house⟩
  have F_plain_row : FunD K "plain_row" "plain_row" (defArgs s_plain_row) (defBody s_plain_row) (defScope s_plain_row) [] [] f_plain_row (PySem.W.fnOf "plain_row" "plain_row" (defArgs s_plain_row) (defBody s_plain_row) (defScope s_plain_row) .none kV_plain_row dc_plain_row pm_plain_row an_plain_row cd_plain_row ct_plain_row) := ⟨⟨_, _, _, _, _, _, _, _, _, _, rfl, l_plain_row, c_plain_row, .inl ⟨rfl, rfl⟩, .inl rfl⟩, k_plain_row⟩
  have F_Ledger_fault_of_row : FunD K "fault_of_row" "Ledger.fault_of_row" (defArgs s_Ledger_fault_of_row) (defBody s_Ledger_fault_of_row) (defScope s_Ledger_fault_of_row) [] [] f_Ledger_fault_of_row (PySem.W.fnOf "fault_of_row" "Ledger.fault_of_row" (defArgs s_Ledger_fault_of_row) (defBody s_Ledger_fault_of_row) (defScope s_Ledger_fault_of_row) .none kV_Ledger_fault_of_row dc_Ledger_fault_of_row pm_Ledger_fault_of_row an_Ledger_fault_of_row cd_Ledger_fault_of_row ct_Ledger_fault_of_row) := ⟨⟨_, _, _, _, _, _, _, _, _, _, rfl, l_Ledger_fault_of_row, c_Ledger_fault_of_row, .inl ⟨rfl, rfl⟩, .inl rfl⟩, k_Ledger_fault_of_row⟩
  have F_Ledger_enter : FunD K "enter" "Ledger.enter" (defArgs s_Ledger_enter) (defBody s_Ledger_enter) (defScope s_Ledger_enter) [] [] f_Ledger_enter (PySem.W.fnOf "enter" "Ledger.enter" (defArgs s_Ledger_enter) (defBody s_Ledger_enter) (defScope s_Ledger_enter) .none kV_Ledger_enter dc_Ledger_enter pm_Ledger_enter an_Ledger_enter cd_Ledger_enter ct_Ledger_enter) := ⟨⟨_, _, _, _, _, _, _, _, _, _, rfl, l_Ledger_enter, c_Ledger_enter, .inl ⟨rfl, rfl⟩, .inl rfl⟩, k_Ledger_enter⟩
  have F_Ledger_take : FunD K "take" "Ledger.take" (defArgs s_Ledger_take) (defBody s_Ledger_take) (defScope s_Ledger_take) [] [] f_Ledger_take (PySem.W.fnOf "take" "Ledger.take" (defArgs s_Ledger_take) (defBody s_Ledger_take) (defScope s_Ledger_take) .none kV_Ledger_take dc_Ledger_take pm_Ledger_take an_Ledger_take cd_Ledger_take ct_Ledger_take) := ⟨⟨_, _, _, _, _, _, _, _, _, _, rfl, l_Ledger_take, c_Ledger_take, .inl ⟨rfl, rfl⟩, .inl rfl⟩, k_Ledger_take⟩
  have F_fill_ledger : FunD K "fill_ledger" "fill_ledger" (defArgs s_fill_ledger) (defBody s_fill_ledger) (defScope s_fill_ledger) [] [] f_fill_ledger (PySem.W.fnOf "fill_ledger" "fill_ledger" (defArgs s_fill_ledger) (defBody s_fill_ledger) (defScope s_fill_ledger) .none kV_fill_ledger dc_fill_ledger pm_fill_ledger an_fill_ledger cd_fill_ledger ct_fill_ledger) := ⟨⟨_, _, _, _, _, _, _, _, _, _, rfl, l_fill_ledger, c_fill_ledger, .inl ⟨rfl, rfl⟩, .inl rfl⟩, k_fill_ledger⟩
  have F_Ledger___init : FunD K "__init__" "Ledger.__init__" (defArgs s_Ledger___init) (defBody s_Ledger___init) (defScope s_Ledger___init) [] [] f_Ledger___init (PySem.W.fnOf "__init__" "Ledger.__init__" (defArgs s_Ledger___init) (defBody s_Ledger___init) (defScope s_Ledger___init) .none kV_Ledger___init dc_Ledger___init pm_Ledger___init an_Ledger___init cd_Ledger___init ct_Ledger___init) := ⟨⟨_, _, _, _, _, _, _, _, _, _, rfl, l_Ledger___init, c_Ledger___init, .inl ⟨rfl, rfl⟩, .inl rfl⟩, k_Ledger___init⟩
  have F_record_fault : FunD K "record_fault" "record_fault" (defArgs s_record_fault) (defBody s_record_fault) (defScope s_record_fault) [] [] f_record_fault (PySem.W.fnOf "record_fault" "record_fault" (defArgs s_record_fault) (defBody s_record_fault) (defScope s_record_fault) .none kV_record_fault dc_record_fault pm_record_fault an_record_fault cd_record_fault ct_record_fault) := ⟨⟨_, _, _, _, _, _, _, _, _, _, rfl, l_record_fault, c_record_fault, .inl ⟨rfl, rfl⟩, .inl rfl⟩, k_record_fault⟩
  have F_is_way : FunD K "is_way" "is_way" (defArgs s_is_way) (defBody s_is_way) (defScope s_is_way) [] [] f_is_way (PySem.W.fnOf "is_way" "is_way" (defArgs s_is_way) (defBody s_is_way) (defScope s_is_way) .none kV_is_way dc_is_way pm_is_way an_is_way cd_is_way ct_is_way) := ⟨⟨_, _, _, _, _, _, _, _, _, _, rfl, l_is_way, c_is_way, .inl ⟨rfl, rfl⟩, .inl rfl⟩, k_is_way⟩
  have F_u_law_only : FunD K "_law_only" "_law_only" (defArgs s_u_law_only) (defBody s_u_law_only) (defScope s_u_law_only) [] [] f_u_law_only (PySem.W.fnOf "_law_only" "_law_only" (defArgs s_u_law_only) (defBody s_u_law_only) (defScope s_u_law_only) .none kV_u_law_only dc_u_law_only pm_u_law_only an_u_law_only cd_u_law_only ct_u_law_only) := ⟨⟨_, _, _, _, _, _, _, _, _, _, rfl, l_u_law_only, c_u_law_only, .inl ⟨rfl, rfl⟩, .inl rfl⟩, k_u_law_only⟩
  have F_u_law_questions : FunD K "_law_questions" "_law_questions" (defArgs s_u_law_questions) (defBody s_u_law_questions) (defScope s_u_law_questions) [] [] f_u_law_questions (PySem.W.fnOf "_law_questions" "_law_questions" (defArgs s_u_law_questions) (defBody s_u_law_questions) (defScope s_u_law_questions) .none kV_u_law_questions dc_u_law_questions pm_u_law_questions an_u_law_questions cd_u_law_questions ct_u_law_questions) := ⟨⟨_, _, _, _, _, _, _, _, _, _, rfl, l_u_law_questions, c_u_law_questions, .inl ⟨rfl, rfl⟩, .inl rfl⟩, k_u_law_questions⟩
  have F_u_law_long_label : FunD K "_law_long_label" "_law_long_label" (defArgs s_u_law_long_label) (defBody s_u_law_long_label) (defScope s_u_law_long_label) [] [] f_u_law_long_label (PySem.W.fnOf "_law_long_label" "_law_long_label" (defArgs s_u_law_long_label) (defBody s_u_law_long_label) (defScope s_u_law_long_label) .none kV_u_law_long_label dc_u_law_long_label pm_u_law_long_label an_u_law_long_label cd_u_law_long_label ct_u_law_long_label) := ⟨⟨_, _, _, _, _, _, _, _, _, _, rfl, l_u_law_long_label, c_u_law_long_label, .inl ⟨rfl, rfl⟩, .inl rfl⟩, k_u_law_long_label⟩
  have F_u_law_many : FunD K "_law_many" "_law_many" (defArgs s_u_law_many) (defBody s_u_law_many) (defScope s_u_law_many) [] [] f_u_law_many (PySem.W.fnOf "_law_many" "_law_many" (defArgs s_u_law_many) (defBody s_u_law_many) (defScope s_u_law_many) .none kV_u_law_many dc_u_law_many pm_u_law_many an_u_law_many cd_u_law_many ct_u_law_many) := ⟨⟨_, _, _, _, _, _, _, _, _, _, rfl, l_u_law_many, c_u_law_many, .inl ⟨rfl, rfl⟩, .inl rfl⟩, k_u_law_many⟩
  have F_Record___init : FunD K "__init__" "Record.__init__" (defArgs s_Record___init) (defBody s_Record___init) (defScope s_Record___init) [V.ref U_Record___init] [] f_Record___init (PySem.W.fnOf "__init__" "Record.__init__" (defArgs s_Record___init) (defBody s_Record___init) (defScope s_Record___init) (.ref T_Record___init) kV_Record___init dc_Record___init pm_Record___init an_Record___init cd_Record___init ct_Record___init) := ⟨⟨_, _, _, _, _, _, _, _, _, _, rfl, l_Record___init, c_Record___init, .inr ⟨by simp, T_Record___init, _, [.ref U_Record___init], _, rfl, dt_Record___init, rfl, .cons rfl .nil⟩, .inl rfl⟩, k_Record___init⟩
  have b_Record___init : Binds K (PySem.W.fnOf "__init__" "Record.__init__" (defArgs s_Record___init) (defBody s_Record___init) (defScope s_Record___init) (.ref T_Record___init) kV_Record___init dc_Record___init pm_Record___init an_Record___init cd_Record___init ct_Record___init) (["self", "width", "rows"] : List Str) [] := binds_full F_Record___init (by simp) fun _ _ _ _ _ _ _ us its hl hi => match us, its, hl, hi with | [_, _, _], [_], _, _ => ⟨_, rfl, rfl⟩
  obtain ⟨ds_Record___init, e_Record___init, bd_Record___init⟩ := F_Record___init.binds1 (ps := (["self", "width", "rows"] : List Str)) 2 0 (by simp) rfl fun _ _ _ _ _ _ _ us its hl hi => match us, its, hl, hi with | [_, _], [_], _, _ => ⟨_, rfl, rfl⟩
  have F_Record___len : FunD K "__len__" "Record.__len__" (defArgs s_Record___len) (defBody s_Record___len) (defScope s_Record___len) [] [] f_Record___len (PySem.W.fnOf "__len__" "Record.__len__" (defArgs s_Record___len) (defBody s_Record___len) (defScope s_Record___len) .none kV_Record___len dc_Record___len pm_Record___len an_Record___len cd_Record___len ct_Record___len) := ⟨⟨_, _, _, _, _, _, _, _, _, _, rfl, l_Record___len, c_Record___len, .inl ⟨rfl, rfl⟩, .inl rfl⟩, k_Record___len⟩
  have F_u_law_asked : FunD K "_law_asked" "_law_asked" (defArgs s_u_law_asked) (defBody s_u_law_asked) (defScope s_u_law_asked) [] [] f_u_law_asked (PySem.W.fnOf "_law_asked" "_law_asked" (defArgs s_u_law_asked) (defBody s_u_law_asked) (defScope s_u_law_asked) .none kV_u_law_asked dc_u_law_asked pm_u_law_asked an_u_law_asked cd_u_law_asked ct_u_law_asked) := ⟨⟨_, _, _, _, _, _, _, _, _, _, rfl, l_u_law_asked, c_u_law_asked, .inl ⟨rfl, rfl⟩, .inl rfl⟩, k_u_law_asked⟩
  have F_law : FunD K "law" "law" (defArgs s_law) (defBody s_law) (defScope s_law) [] [] f_law (PySem.W.fnOf "law" "law" (defArgs s_law) (defBody s_law) (defScope s_law) .none kV_law dc_law pm_law an_law cd_law ct_law) := ⟨⟨_, _, _, _, _, _, _, _, _, _, rfl, l_law, c_law, .inl ⟨rfl, rfl⟩, .inl rfl⟩, k_law⟩
  have T : Txt K mg { c_CustomError := C_CustomError, c_BadRecord := C_BadRecord, c_Ledger := C_Ledger, c_Record := C_Record, f_u_law_hand := f_u_law_hand, d_u_law_hand := (PySem.W.fnOf "_law_hand" "_law_hand" (defArgs s_u_law_hand) (defBody s_u_law_hand) (defScope s_u_law_hand) .none kV_u_law_hand dc_u_law_hand pm_u_law_hand an_u_law_hand cd_u_law_hand ct_u_law_hand), f_u_law_mix := f_u_law_mix, d_u_law_mix := (PySem.W.fnOf "_law_mix" "_law_mix" (defArgs s_u_law_mix) (defBody s_u_law_mix) (defScope s_u_law_mix) .none kV_u_law_mix dc_u_law_mix pm_u_law_mix an_u_law_mix cd_u_law_mix ct_u_law_mix), f_u_law_draw := f_u_law_draw, d_u_law_draw := (PySem.W.fnOf "_law_draw" "_law_draw" (defArgs s_u_law_draw) (defBody s_u_law_draw) (defScope s_u_law_draw) .none kV_u_law_draw dc_u_law_draw pm_u_law_draw an_u_law_draw cd_u_law_draw ct_u_law_draw), f_u_law_pick := f_u_law_pick, d_u_law_pick := (PySem.W.fnOf "_law_pick" "_law_pick" (defArgs s_u_law_pick) (defBody s_u_law_pick) (defScope s_u_law_pick) .none kV_u_law_pick dc_u_law_pick pm_u_law_pick an_u_law_pick cd_u_law_pick ct_u_law_pick), f_u_law_odd := f_u_law_odd, d_u_law_odd := (PySem.W.fnOf "_law_odd" "_law_odd" (defArgs s_u_law_odd) (defBody s_u_law_odd) (defScope s_u_law_odd) .none kV_u_law_odd dc_u_law_odd pm_u_law_odd an_u_law_odd cd_u_law_odd ct_u_law_odd), f_u_law_is_number := f_u_law_is_number, d_u_law_is_number := (PySem.W.fnOf "_law_is_number" "_law_is_number" (defArgs s_u_law_is_number) (defBody s_u_law_is_number) (defScope s_u_law_is_number) .none kV_u_law_is_number dc_u_law_is_number pm_u_law_is_number an_u_law_is_number cd_u_law_is_number ct_u_law_is_number), f_is_whole := f_is_whole, d_is_whole := (PySem.W.fnOf "is_whole" "is_whole" (defArgs s_is_whole) (defBody s_is_whole) (defScope s_is_whole) .none kV_is_whole dc_is_whole pm_is_whole an_is_whole cd_is_whole ct_is_whole), f_fault_ahead := f_fault_ahead, d_fault_ahead := (PySem.W.fnOf "fault_ahead" "fault_ahead" (defArgs s_fault_ahead) (defBody s_fault_ahead) (defScope s_fault_ahead) .none kV_fault_ahead dc_fault_ahead pm_fault_ahead an_fault_ahead cd_fault_ahead ct_fault_ahead), f_is_label := f_is_label, d_is_label := (PySem.W.fnOf "is_label" "is_label" (defArgs s_is_label) (defBody s_is_label) (defScope s_is_label) .none kV_is_label dc_is_label pm_is_label an_is_label cd_is_label ct_is_label), f_is_kind := f_is_kind, d_is_kind := (PySem.W.fnOf "is_kind" "is_kind" (defArgs s_is_kind) (defBody s_is_kind) (defScope s_is_kind) .none kV_is_kind dc_is_kind pm_is_kind an_is_kind cd_is_kind ct_is_kind), f_is_name := f_is_name, d_is_name := (PySem.W.fnOf "is_name" "is_name" (defArgs s_is_name) (defBody s_is_name) (defScope s_is_name) .none kV_is_name dc_is_name pm_is_name an_is_name cd_is_name ct_is_name), f_is_house := f_is_house, d_is_house := (PySem.W.fnOf "is_house" "is_house" (defArgs s_is_house) (defBody s_is_house) (defScope s_is_house) .none kV_is_house dc_is_house pm_is_house an_is_house cd_is_house ct_is_house), f_plain_row := f_plain_row, d_plain_row := (PySem.W.fnOf "plain_row" "plain_row" (defArgs s_plain_row) (defBody s_plain_row) (defScope s_plain_row) .none kV_plain_row dc_plain_row pm_plain_row an_plain_row cd_plain_row ct_plain_row), f_Ledger_fault_of_row := f_Ledger_fault_of_row, d_Ledger_fault_of_row := (PySem.W.fnOf "fault_of_row" "Ledger.fault_of_row" (defArgs s_Ledger_fault_of_row) (defBody s_Ledger_fault_of_row) (defScope s_Ledger_fault_of_row) .none kV_Ledger_fault_of_row dc_Ledger_fault_of_row pm_Ledger_fault_of_row an_Ledger_fault_of_row cd_Ledger_fault_of_row ct_Ledger_fault_of_row), f_Ledger_enter := f_Ledger_enter, d_Ledger_enter := (PySem.W.fnOf "enter" "Ledger.enter" (defArgs s_Ledger_enter) (defBody s_Ledger_enter) (defScope s_Ledger_enter) .none kV_Ledger_enter dc_Ledger_enter pm_Ledger_enter an_Ledger_enter cd_Ledger_enter ct_Ledger_enter), f_Ledger_take := f_Ledger_take, d_Ledger_take := (PySem.W.fnOf "take" "Ledger.take" (defArgs s_Ledger_take) (defBody s_Ledger_take) (defScope s_Ledger_take) .none kV_Ledger_take dc_Ledger_take pm_Ledger_take an_Ledger_take cd_Ledger_take ct_Ledger_take), f_fill_ledger := f_fill_ledger, d_fill_ledger := (PySem.W.fnOf "fill_ledger" "fill_ledger" (defArgs s_fill_ledger) (defBody s_fill_ledger) (defScope s_fill_ledger) .none kV_fill_ledger dc_fill_ledger pm_fill_ledger an_fill_ledger cd_fill_ledger ct_fill_ledger), f_Ledger___init := f_Ledger___init, d_Ledger___init := (PySem.W.fnOf "__init__" "Ledger.__init__" (defArgs s_Ledger___init) (defBody s_Ledger___init) (defScope s_Ledger___init) .none kV_Ledger___init dc_Ledger___init pm_Ledger___init an_Ledger___init cd_Ledger___init ct_Ledger___init), f_record_fault := f_record_fault, d_record_fault := (PySem.W.fnOf "record_fault" "record_fault" (defArgs s_record_fault) (defBody s_record_fault) (defScope s_record_fault) .none kV_record_fault dc_record_fault pm_record_fault an_record_fault cd_record_fault ct_record_fault), f_is_way := f_is_way, d_is_way := (PySem.W.fnOf "is_way" "is_way" (defArgs s_is_way) (defBody s_is_way) (defScope s_is_way) .none kV_is_way dc_is_way pm_is_way an_is_way cd_is_way ct_is_way), f_u_law_only := f_u_law_only, d_u_law_only := (PySem.W.fnOf "_law_only" "_law_only" (defArgs s_u_law_only) (defBody s_u_law_only) (defScope s_u_law_only) .none kV_u_law_only dc_u_law_only pm_u_law_only an_u_law_only cd_u_law_only ct_u_law_only), f_u_law_questions := f_u_law_questions, d_u_law_questions := (PySem.W.fnOf "_law_questions" "_law_questions" (defArgs s_u_law_questions) (defBody s_u_law_questions) (defScope s_u_law_questions) .none kV_u_law_questions dc_u_law_questions pm_u_law_questions an_u_law_questions cd_u_law_questions ct_u_law_questions), f_u_law_long_label := f_u_law_long_label, d_u_law_long_label := (PySem.W.fnOf "_law_long_label" "_law_long_label" (defArgs s_u_law_long_label) (defBody s_u_law_long_label) (defScope s_u_law_long_label) .none kV_u_law_long_label dc_u_law_long_label pm_u_law_long_label an_u_law_long_label cd_u_law_long_label ct_u_law_long_label), f_u_law_many := f_u_law_many, d_u_law_many := (PySem.W.fnOf "_law_many" "_law_many" (defArgs s_u_law_many) (defBody s_u_law_many) (defScope s_u_law_many) .none kV_u_law_many dc_u_law_many pm_u_law_many an_u_law_many cd_u_law_many ct_u_law_many), f_BadRecord___init := f_BadRecord___init, d_BadRecord___init := (PySem.W.ksFn "__init__" "BadRecord.__init__" (defArgs s_BadRecord___init) (defBody s_BadRecord___init) (defScope s_BadRecord___init) .none kV_BadRecord___init dc_BadRecord___init pm_BadRecord___init an_BadRecord___init (.ref cda_BadRecord) ct_BadRecord___init cc_BadRecord), cda_BadRecord := cda_BadRecord, cc_BadRecord := cc_BadRecord, f_Record___init := f_Record___init, d_Record___init := (PySem.W.fnOf "__init__" "Record.__init__" (defArgs s_Record___init) (defBody s_Record___init) (defScope s_Record___init) (.ref T_Record___init) kV_Record___init dc_Record___init pm_Record___init an_Record___init cd_Record___init ct_Record___init), t_Record___init := U_Record___init, ds_Record___init := ds_Record___init, f_Record___len := f_Record___len, d_Record___len := (PySem.W.fnOf "__len__" "Record.__len__" (defArgs s_Record___len) (defBody s_Record___len) (defScope s_Record___len) .none kV_Record___len dc_Record___len pm_Record___len an_Record___len cd_Record___len ct_Record___len), f_u_law_asked := f_u_law_asked, d_u_law_asked := (PySem.W.fnOf "_law_asked" "_law_asked" (defArgs s_u_law_asked) (defBody s_u_law_asked) (defScope s_u_law_asked) .none kV_u_law_asked dc_u_law_asked pm_u_law_asked an_u_law_asked cd_u_law_asked ct_u_law_asked), f_law := f_law, d_law := (PySem.W.fnOf "law" "law" (defArgs s_law) (defBody s_law) (defScope s_law) .none kV_law dc_law pm_law an_law cd_law ct_law), v_LETTERS := .str "abcdefghijklmnopqrstuvwxyz" tk_LETTERS, v_MOST_NAME := .int 1000000000000000000000000000000 tk_MOST_NAME, v_MOST_ROWS := .int 5000 tk_MOST_ROWS, v_MOST_WIDTH := .int 2 tk_MOST_WIDTH } := {
    z_abs := PySem.W.mg_none_of X G z_abs
    z_bool := PySem.W.mg_none_of X G z_bool
    z_enumerate := PySem.W.mg_none_of X G z_enumerate
    z_int := PySem.W.mg_none_of X G z_int
    z_isinstance := PySem.W.mg_none_of X G z_isinstance
    z_len := PySem.W.mg_none_of X G z_len
    z_list := PySem.W.mg_none_of X G z_list
    z_range := PySem.W.mg_none_of X G z_range
    z_str := PySem.W.mg_none_of X G z_str
    z_super := PySem.W.mg_none_of X G z_super
    z_tuple := PySem.W.mg_none_of X G z_tuple
    g_LETTERS := ⟨⟨_, rfl⟩, PySem.W.mg_of X G g_LETTERS⟩
    g_MOST_NAME := ⟨⟨_, rfl⟩, PySem.W.mg_of X G g_MOST_NAME⟩
    g_MOST_ROWS := ⟨⟨_, rfl⟩, PySem.W.mg_of X G g_MOST_ROWS⟩
    g_MOST_WIDTH := ⟨⟨_, rfl⟩, PySem.W.mg_of X G g_MOST_WIDTH⟩
    c_CustomError := PySem.W.mg_of X G a_CustomError
    c_BadRecord := PySem.W.mg_of X G a_BadRecord
    c_Ledger := PySem.W.mg_of X G a_Ledger
    c_Record := PySem.W.mg_of X G a_Record
    F_u_law_hand := F_u_law_hand
    b_u_law_hand := F_u_law_hand.bindsN fun _ _ _ _ _ _ us hl => match us, hl with | [_], _ => rfl
    m_u_law_hand := PySem.W.mg_of X G a_u_law_hand
    k_u_law_hand := k_u_law_hand
    F_u_law_mix := F_u_law_mix
    b_u_law_mix := F_u_law_mix.bindsN fun _ _ _ _ _ _ us hl => match us, hl with | [_, _], _ => rfl
    m_u_law_mix := PySem.W.mg_of X G a_u_law_mix
    k_u_law_mix := k_u_law_mix
    F_u_law_draw := F_u_law_draw
    b_u_law_draw := F_u_law_draw.bindsN fun _ _ _ _ _ _ us hl => match us, hl with | [_, _], _ => rfl
    m_u_law_draw := PySem.W.mg_of X G a_u_law_draw
    k_u_law_draw := k_u_law_draw
    F_u_law_pick := F_u_law_pick
    b_u_law_pick := F_u_law_pick.bindsN fun _ _ _ _ _ _ us hl => match us, hl with | [_, _], _ => rfl
    m_u_law_pick := PySem.W.mg_of X G a_u_law_pick
    k_u_law_pick := k_u_law_pick
    F_u_law_odd := F_u_law_odd
    b_u_law_odd := F_u_law_odd.bindsN fun _ _ _ _ _ _ us hl => match us, hl with | [_], _ => rfl
    m_u_law_odd := PySem.W.mg_of X G a_u_law_odd
    k_u_law_odd := k_u_law_odd
    F_u_law_is_number := F_u_law_is_number
    b_u_law_is_number := F_u_law_is_number.bindsN fun _ _ _ _ _ _ us hl => match us, hl with | [_, _, _], _ => rfl
    m_u_law_is_number := PySem.W.mg_of X G a_u_law_is_number
    k_u_law_is_number := k_u_law_is_number
    F_is_whole := F_is_whole
    b_is_whole := F_is_whole.bindsN fun _ _ _ _ _ _ us hl => match us, hl with | [_, _, _], _ => rfl
    m_is_whole := PySem.W.mg_of X G a_is_whole
    k_is_whole := k_is_whole
    F_fault_ahead := F_fault_ahead
    b_fault_ahead := F_fault_ahead.bindsN fun _ _ _ _ _ _ us hl => match us, hl with | [_, _], _ => rfl
    m_fault_ahead := PySem.W.mg_of X G a_fault_ahead
    k_fault_ahead := k_fault_ahead
    F_is_label := F_is_label
    b_is_label := F_is_label.bindsN fun _ _ _ _ _ _ us hl => match us, hl with | [_], _ => rfl
    m_is_label := PySem.W.mg_of X G a_is_label
    k_is_label := k_is_label
    F_is_kind := F_is_kind
    b_is_kind := F_is_kind.bindsN fun _ _ _ _ _ _ us hl => match us, hl with | [_], _ => rfl
    m_is_kind := PySem.W.mg_of X G a_is_kind
    k_is_kind := k_is_kind
    F_is_name := F_is_name
    b_is_name := F_is_name.bindsN fun _ _ _ _ _ _ us hl => match us, hl with | [_], _ => rfl
    m_is_name := PySem.W.mg_of X G a_is_name
    k_is_name := k_is_name
    F_is_house := F_is_house
    b_is_house := F_is_house.bindsN fun _ _ _ _ _ _ us hl => match us, hl with | [_], _ => rfl
    m_is_house := PySem.W.mg_of X G a_is_house
    k_is_house := k_is_house
    F_plain_row := F_plain_row
    b_plain_row := F_plain_row.bindsN fun _ _ _ _ _ _ us hl => match us, hl with | [_], _ => rfl
    m_plain_row := PySem.W.mg_of X G a_plain_row
    k_plain_row := k_plain_row
    F_Ledger_fault_of_row := F_Ledger_fault_of_row
    b_Ledger_fault_of_row := F_Ledger_fault_of_row.bindsN fun _ _ _ _ _ _ us hl => match us, hl with | [_, _], _ => rfl
    h_Ledger_fault_of_row := ⟨a_Ledger_fault_of_row, i_Ledger_fault_of_row, k_Ledger_fault_of_row⟩
    F_Ledger_enter := F_Ledger_enter
    b_Ledger_enter := F_Ledger_enter.bindsN fun _ _ _ _ _ _ us hl => match us, hl with | [_, _, _, _, _], _ => rfl
    h_Ledger_enter := ⟨a_Ledger_enter, i_Ledger_enter, k_Ledger_enter⟩
    F_Ledger_take := F_Ledger_take
    b_Ledger_take := F_Ledger_take.bindsN fun _ _ _ _ _ _ us hl => match us, hl with | [_, _, _], _ => rfl
    h_Ledger_take := ⟨a_Ledger_take, i_Ledger_take, k_Ledger_take⟩
    F_fill_ledger := F_fill_ledger
    b_fill_ledger := F_fill_ledger.bindsN fun _ _ _ _ _ _ us hl => match us, hl with | [_, _, _], _ => rfl
    m_fill_ledger := PySem.W.mg_of X G a_fill_ledger
    k_fill_ledger := k_fill_ledger
    F_Ledger___init := F_Ledger___init
    b_Ledger___init := F_Ledger___init.bindsN fun _ _ _ _ _ _ us hl => match us, hl with | [_, _], _ => rfl
    F_record_fault := F_record_fault
    b_record_fault := F_record_fault.bindsN fun _ _ _ _ _ _ us hl => match us, hl with | [_, _], _ => rfl
    m_record_fault := PySem.W.mg_of X G a_record_fault
    k_record_fault := k_record_fault
    F_is_way := F_is_way
    b_is_way := F_is_way.bindsN fun _ _ _ _ _ _ us hl => match us, hl with | [_, _, _], _ => rfl
    m_is_way := PySem.W.mg_of X G a_is_way
    k_is_way := k_is_way
    F_u_law_only := F_u_law_only
    b_u_law_only := F_u_law_only.bindsN fun _ _ _ _ _ _ us hl => match us, hl with | [_, _, _, _], _ => rfl
    m_u_law_only := PySem.W.mg_of X G a_u_law_only
    k_u_law_only := k_u_law_only
    F_u_law_questions := F_u_law_questions
    b_u_law_questions := F_u_law_questions.bindsN fun _ _ _ _ _ _ us hl => match us, hl with | [_, _, _], _ => rfl
    m_u_law_questions := PySem.W.mg_of X G a_u_law_questions
    k_u_law_questions := k_u_law_questions
    F_u_law_long_label := F_u_law_long_label
    b_u_law_long_label := F_u_law_long_label.bindsN fun _ _ _ _ _ _ us hl => match us, hl with | [_], _ => rfl
    m_u_law_long_label := PySem.W.mg_of X G a_u_law_long_label
    k_u_law_long_label := k_u_law_long_label
    F_u_law_many := F_u_law_many
    b_u_law_many := F_u_law_many.bindsN fun _ _ _ _ _ _ us hl => match us, hl with | [_], _ => rfl
    m_u_law_many := PySem.W.mg_of X G a_u_law_many
    k_u_law_many := k_u_law_many
    l_BadRecord := ⟨_, _, _, _, _, _, _, _, _, rfl, l_BadRecord___init, c_BadRecord___init⟩
    b_BadRecord___init := .all fun us hl => match us, hl with | [_, _, _], _ => rfl
    S_BadRecord := ⟨rfl, rfl, rfl, by decide +kernel, rfl, by decide +kernel, by decide +kernel, fun y hy => (show ∀ p ∈ (defScope s_BadRecord___init).names, p.2 = .free → p.1 = ("__class__" : Str) by decide +kernel) _ (lookup_mem hy) rfl, rfl, rfl, ⟨_, _, _, _, _, _, k1_BadRecord, k2_BadRecord, k3_BadRecord⟩, ⟨_, _, _, k4_BadRecord⟩, ⟨⟨nm_BadRecord, q_BadRecord, N_BadRecord, bs_BadRecord, _, sn_BadRecord, sub_BadRecord, ab_BadRecord, col_BadRecord, dd_BadRecord, m0_BadRecord, m1_BadRecord, m2_BadRecord, m3_BadRecord, m5_BadRecord, x_BadRecord, rfl⟩, sa_BadRecord, ex_BadRecord, ty_BadRecord, kc_BadRecord⟩, su_BadRecord, iv_BadRecord, se_BadRecord, opq, PySem.W.mg_none_of X G z_super, u_BadRecord⟩
    e_BadRecord := ⟨⟨nm_BadRecord, q_BadRecord, N_BadRecord, bs_BadRecord, _, sn_BadRecord, sub_BadRecord, ab_BadRecord, col_BadRecord, dd_BadRecord, m0_BadRecord, m1_BadRecord, m2_BadRecord, m3_BadRecord, m5_BadRecord, x_BadRecord, rfl⟩, sa_BadRecord, ex_BadRecord, ty_BadRecord, kc_BadRecord⟩
    ei_BadRecord := a_BadRecord___init
    et_BadRecord := t_BadRecord___init
    x_BadRecord := ⟨ga_BadRecord, gg_BadRecord, ex_BadRecord, hd_BadRecord⟩
    n_BadRecord_index := n_BadRecord_index
    n_BadRecord_what := n_BadRecord_what
    F_Record___init := F_Record___init
    b_Record___init := b_Record___init
    bd_Record___init := ⟨bd_Record___init, e_Record___init⟩
    td_Record___init := .inr ⟨_, _, _, du_Record___init, rfl, rfl, (by show 0 ≤ sizeLine; decide), .nil⟩
    F_Record___len := F_Record___len
    b_Record___len := F_Record___len.bindsN fun _ _ _ _ _ _ us hl => match us, hl with | [_], _ => rfl
    F_u_law_asked := F_u_law_asked
    b_u_law_asked := F_u_law_asked.bindsN fun _ _ _ _ _ _ us hl => match us, hl with | [_, _], _ => rfl
    m_u_law_asked := PySem.W.mg_of X G a_u_law_asked
    k_u_law_asked := k_u_law_asked
    F_law := F_law
    b_law := F_law.bindsN fun _ _ _ _ _ _ us hl => match us, hl with | [_], _ => rfl
    m_law := PySem.W.mg_of X G a_law
    k_law := k_law
    hn := hn
    ht := ht
    cl_Ledger := ⟨pg_Ledger, hd_Ledger, po_Ledger, sa_Ledger⟩
    ha_Ledger := ha_Ledger
    hm_Ledger := hm_Ledger
    na_Ledger_width := na_Ledger_width
    na_Ledger_persons := na_Ledger_persons
    na_Ledger_kinds := na_Ledger_kinds
    na_Ledger_parents := na_Ledger_parents
    na_Ledger_starts := na_Ledger_starts
    na_Ledger_dead := na_Ledger_dead
    na_Ledger_mates := na_Ledger_mates
    na_Ledger_broods := na_Ledger_broods
    mk_Ledger := ⟨mk_Ledger, a_Ledger___init, i_Ledger___init, kc_Ledger⟩
    cl_Record := ⟨pg_Record, hd_Record, po_Record, sa_Record⟩
    ha_Record := ha_Record
    hm_Record := hm_Record
    na_Record_ledger := na_Record_ledger
    na_Record_width := na_Record_width
    na_Record_rows := na_Record_rows
    na_Record_persons := na_Record_persons
    na_Record_founders := na_Record_founders
    na_Record_born := na_Record_born
    na_Record_weddings := na_Record_weddings
    na_Record_couples := na_Record_couples
    na_Record_living := na_Record_living
    mk_Record := ⟨mk_Record, a_Record___init, i_Record___init, kc_Record⟩
    ql_Record := ⟨a_Record___len, i_Record___len⟩
    xm_BadRecord_0 := PySem.W.exm_ref ex_BadRecord hd_BadRecord ty_BadRecord sb_CustomError_BadRecord
    xm_BadRecord_1 := PySem.W.exm_ref ex_BadRecord hd_BadRecord ty_BadRecord sb_BadRecord_BadRecord }
  exact ⟨_, fun s v => F_law.bindsA (ps := ["_law_script"]) (fun _ _ _ _ _ _ us hl => match us, hl with | [_], _ => rfl) s [v] rfl, fun base _ _ => (ok_law T).imp law_spec⟩
theorem walk {q : Program} {loose : List Str} {XP : (Str → Option Value) → Heap → Prop} {YP : World → Heap → Prop} {d : DefRec} {K : Params → PySem.W.Frag} (hdf : d.params.defaults = [])
    (hY : ∀ (w : World) (h : Heap), YP w h → (K w.params).In h)
    (F : ∀ (w : World) (mg : Str → Option Value) (fa : Addr) (h : Heap), (K w.params).In h → h.Ns mainGlobals mg → mg d.name = some (.ref fa) →
      ∃ fd : FuncData, (∀ (s : Shared) (u : Value), BindsTo s fd ⟨[u], []⟩ [("_law_script", u)]) ∧ ∀ base : Heap, (K w.params).In base → base.Ns mainGlobals mg → FnOk PW w (K w.params) mg base (L2.CX PW w) 9 fa fd ["_law_script"] (spLaw (K w.params))) :
    PySem.W.WalkO q loose XP YP PySem.Challenge.rw_namesakes_k03_lists_refused_as_a_whole.row.toRowW d [] (fun f vs => PySem.call f vs) :=
  L2.walk_of (l := PySem.Challenge.rw_namesakes_k03_lists_refused_as_a_whole) (n := 63) (k := 9) (x := "_law_script") (CX := fun w => L2.CX PW w) (sp := fun w => spLaw (K w.params)) rfl (by decide) hdf ⟨rfl, by decide, by decide⟩ hY F (fun _ _ a ns hl _ hS => ⟨a, ns, rfl, hS, hl, fun _ => rfl⟩) (fun _ _ _ _ _ z => NK.cx_false z)
end G
open PySem PySem.W PyProof.Rows in
set_option maxRecDepth 100000 in
set_option maxHeartbeats 0 in
theorem PySem.Challenge.cw_namesakes_k03_lists_refused_as_a_whole_holds : PySem.Challenge.rw_namesakes_k03_lists_refused_as_a_whole.Holds := by
  w_on; o_law; k_head; (case hw => w_witness2)
  k_fill
  refine G.walk rfl (fun w h Y => PySem.W.kIn_of Y) ?F
  case F =>
    intro w mg fa h KX Gn hmg
    refine' G.all_mk KX Gn hmg ?z_abs ?z_bool ?z_enumerate ?z_int ?z_isinstance ?z_len ?z_list ?z_range ?z_str ?z_super ?z_tuple ?g_LETTERS ?g_MOST_NAME ?g_MOST_ROWS ?g_MOST_WIDTH ?a_CustomError ?a_BadRecord ?a_Ledger ?a_Record ?a_u_law_hand ?l_u_law_hand ?c_u_law_hand ?k_u_law_hand ?a_u_law_mix ?l_u_law_mix ?c_u_law_mix ?k_u_law_mix ?a_u_law_draw ?l_u_law_draw ?c_u_law_draw ?k_u_law_draw ?a_u_law_pick ?l_u_law_pick ?c_u_law_pick ?k_u_law_pick ?a_u_law_odd ?l_u_law_odd ?c_u_law_odd ?k_u_law_odd ?a_u_law_is_number ?l_u_law_is_number ?c_u_law_is_number ?k_u_law_is_number ?a_is_whole ?l_is_whole ?c_is_whole ?k_is_whole ?a_fault_ahead ?l_fault_ahead ?c_fault_ahead ?k_fault_ahead ?a_is_label ?l_is_label ?c_is_label ?k_is_label ?a_is_kind ?l_is_kind ?c_is_kind ?k_is_kind ?a_is_name ?l_is_name ?c_is_name ?k_is_name ?a_is_house ?l_is_house ?c_is_house ?k_is_house ?a_plain_row ?l_plain_row ?c_plain_row ?k_plain_row ?a_Ledger_fault_of_row ?l_Ledger_fault_of_row ?c_Ledger_fault_of_row ?k_Ledger_fault_of_row ?i_Ledger_fault_of_row ?a_Ledger_enter ?l_Ledger_enter ?c_Ledger_enter ?k_Ledger_enter ?i_Ledger_enter ?a_Ledger_take ?l_Ledger_take ?c_Ledger_take ?k_Ledger_take ?i_Ledger_take ?a_fill_ledger ?l_fill_ledger ?c_fill_ledger ?k_fill_ledger ?a_Ledger___init ?l_Ledger___init ?c_Ledger___init ?k_Ledger___init ?i_Ledger___init ?a_record_fault ?l_record_fault ?c_record_fault ?k_record_fault ?a_is_way ?l_is_way ?c_is_way ?k_is_way ?a_u_law_only ?l_u_law_only ?c_u_law_only ?k_u_law_only ?a_u_law_questions ?l_u_law_questions ?c_u_law_questions ?k_u_law_questions ?a_u_law_long_label ?l_u_law_long_label ?c_u_law_long_label ?k_u_law_long_label ?a_u_law_many ?l_u_law_many ?c_u_law_many ?k_u_law_many ?a_BadRecord___init ?t_BadRecord___init ?l_BadRecord___init ?c_BadRecord___init ?k1_BadRecord ?k2_BadRecord ?k3_BadRecord ?k4_BadRecord ?x_BadRecord ?sa_BadRecord ?ex_BadRecord ?ty_BadRecord ?kc_BadRecord ?ga_BadRecord ?gg_BadRecord ?hd_BadRecord ?su_BadRecord ?iv_BadRecord ?se_BadRecord ?opq ?u_BadRecord ?n_BadRecord_index ?n_BadRecord_what ?a_Record___init ?l_Record___init ?c_Record___init ?k_Record___init ?i_Record___init ?dt_Record___init ?du_Record___init ?a_Record___len ?l_Record___len ?c_Record___len ?k_Record___len ?i_Record___len ?a_u_law_asked ?l_u_law_asked ?c_u_law_asked ?k_u_law_asked ?a_law ?l_law ?c_law ?k_law ?hn ?ht ?pg_Ledger ?hd_Ledger ?po_Ledger ?sa_Ledger ?ha_Ledger ?hm_Ledger ?na_Ledger_width ?na_Ledger_persons ?na_Ledger_kinds ?na_Ledger_parents ?na_Ledger_starts ?na_Ledger_dead ?na_Ledger_mates ?na_Ledger_broods ?mk_Ledger ?kc_Ledger ?pg_Record ?hd_Record ?po_Record ?sa_Record ?ha_Record ?hm_Record ?na_Record_ledger ?na_Record_width ?na_Record_rows ?na_Record_persons ?na_Record_founders ?na_Record_born ?na_Record_weddings ?na_Record_couples ?na_Record_living ?mk_Record ?kc_Record ?sb_CustomError_BadRecord ?sb_BadRecord_BadRecord
    (case z_abs => k_is)
    (case z_bool => k_is)
    (case z_enumerate => k_is)
    (case z_int => k_is)
    (case z_isinstance => k_is)
    (case z_len => k_is)
    (case z_list => k_is)
    (case z_range => k_is)
    (case z_str => k_is)
    (case z_super => k_is)
    (case z_tuple => k_is)
    (case g_LETTERS => k_is)
    (case g_MOST_NAME => k_is)
    (case g_MOST_ROWS => k_is)
    (case g_MOST_WIDTH => k_is)
    (case a_CustomError => k_is)
    (case a_BadRecord => k_is)
    (case a_Ledger => k_is)
    (case a_Record => k_is)
    (case a_u_law_hand => k_is)
    (case l_u_law_hand => k_is)
    (case c_u_law_hand => k_is)
    (case k_u_law_hand => k_is)
    (case a_u_law_mix => k_is)
    (case l_u_law_mix => k_is)
    (case c_u_law_mix => k_is)
    (case k_u_law_mix => k_is)
    (case a_u_law_draw => k_is)
    (case l_u_law_draw => k_is)
    (case c_u_law_draw => k_is)
    (case k_u_law_draw => k_is)
    (case a_u_law_pick => k_is)
    (case l_u_law_pick => k_is)
    (case c_u_law_pick => k_is)
    (case k_u_law_pick => k_is)
    (case a_u_law_odd => k_is)
    (case l_u_law_odd => k_is)
    (case c_u_law_odd => k_is)
    (case k_u_law_odd => k_is)
    (case a_u_law_is_number => k_is)
    (case l_u_law_is_number => k_is)
    (case c_u_law_is_number => k_is)
    (case k_u_law_is_number => k_is)
    (case a_is_whole => k_is)
    (case l_is_whole => k_is)
    (case c_is_whole => k_is)
    (case k_is_whole => k_is)
    (case a_fault_ahead => k_is)
    (case l_fault_ahead => k_is)
    (case c_fault_ahead => k_is)
    (case k_fault_ahead => k_is)
    (case a_is_label => k_is)
    (case l_is_label => k_is)
    (case c_is_label => k_is)
    (case k_is_label => k_is)
    (case a_is_kind => k_is)
    (case l_is_kind => k_is)
    (case c_is_kind => k_is)
    (case k_is_kind => k_is)
    (case a_is_name => k_is)
    (case l_is_name => k_is)
    (case c_is_name => k_is)
    (case k_is_name => k_is)
    (case a_is_house => k_is)
    (case l_is_house => k_is)
    (case c_is_house => k_is)
    (case k_is_house => k_is)
    (case a_plain_row => k_is)
    (case l_plain_row => k_is)
    (case c_plain_row => k_is)
    (case k_plain_row => k_is)
    (case a_Ledger_fault_of_row => k_is)
    (case l_Ledger_fault_of_row => k_is)
    (case c_Ledger_fault_of_row => k_is)
    (case k_Ledger_fault_of_row => k_is)
    (case i_Ledger_fault_of_row => k_is)
    (case a_Ledger_enter => k_is)
    (case l_Ledger_enter => k_is)
    (case c_Ledger_enter => k_is)
    (case k_Ledger_enter => k_is)
    (case i_Ledger_enter => k_is)
    (case a_Ledger_take => k_is)
    (case l_Ledger_take => k_is)
    (case c_Ledger_take => k_is)
    (case k_Ledger_take => k_is)
    (case i_Ledger_take => k_is)
    (case a_fill_ledger => k_is)
    (case l_fill_ledger => k_is)
    (case c_fill_ledger => k_is)
    (case k_fill_ledger => k_is)
    (case a_Ledger___init => k_is)
    (case l_Ledger___init => k_is)
    (case c_Ledger___init => k_is)
    (case k_Ledger___init => k_is)
    (case i_Ledger___init => k_is)
    (case a_record_fault => k_is)
    (case l_record_fault => k_is)
    (case c_record_fault => k_is)
    (case k_record_fault => k_is)
    (case a_is_way => k_is)
    (case l_is_way => k_is)
    (case c_is_way => k_is)
    (case k_is_way => k_is)
    (case a_u_law_only => k_is)
    (case l_u_law_only => k_is)
    (case c_u_law_only => k_is)
    (case k_u_law_only => k_is)
    (case a_u_law_questions => k_is)
    (case l_u_law_questions => k_is)
    (case c_u_law_questions => k_is)
    (case k_u_law_questions => k_is)
    (case a_u_law_long_label => k_is)
    (case l_u_law_long_label => k_is)
    (case c_u_law_long_label => k_is)
    (case k_u_law_long_label => k_is)
    (case a_u_law_many => k_is)
    (case l_u_law_many => k_is)
    (case c_u_law_many => k_is)
    (case k_u_law_many => k_is)
    (case a_BadRecord___init => k_is)
    (case t_BadRecord___init => k_is)
    (case l_BadRecord___init => k_is)
    (case c_BadRecord___init => k_is)
    (case k1_BadRecord => k_is)
    (case k2_BadRecord => rfl)
    (case k3_BadRecord => decide +kernel)
    (case k4_BadRecord => k_is)
    (case x_BadRecord => k_is)
    (case sa_BadRecord => k_is)
    (case ex_BadRecord => k_is)
    (case ty_BadRecord => k_is)
    (case kc_BadRecord => k_is)
    (case ga_BadRecord => k_is)
    (case gg_BadRecord => k_is)
    (case hd_BadRecord => k_is)
    (case su_BadRecord => ks_is)
    (case iv_BadRecord => k_is)
    (case se_BadRecord => k_is)
    (case opq => k_is)
    (case u_BadRecord => decide +kernel)
    (case n_BadRecord_index => k_is)
    (case n_BadRecord_what => k_is)
    (case a_Record___init => k_is)
    (case l_Record___init => k_is)
    (case c_Record___init => k_is)
    (case k_Record___init => k_is)
    (case i_Record___init => k_is)
    (case dt_Record___init => k_is)
    (case du_Record___init => k_is)
    (case a_Record___len => k_is)
    (case l_Record___len => k_is)
    (case c_Record___len => k_is)
    (case k_Record___len => k_is)
    (case i_Record___len => k_is)
    (case a_u_law_asked => k_is)
    (case l_u_law_asked => k_is)
    (case c_u_law_asked => k_is)
    (case k_u_law_asked => k_is)
    (case a_law => k_is)
    (case l_law => k_is)
    (case c_law => k_is)
    (case k_law => k_is)
    (case hn => k_is)
    (case ht => k_is)
    (case pg_Ledger => k_is)
    (case hd_Ledger => k_is)
    (case po_Ledger => k_is)
    (case sa_Ledger => k_is)
    (case ha_Ledger => k_is)
    (case hm_Ledger => k_is)
    (case na_Ledger_width => k_is)
    (case na_Ledger_persons => k_is)
    (case na_Ledger_kinds => k_is)
    (case na_Ledger_parents => k_is)
    (case na_Ledger_starts => k_is)
    (case na_Ledger_dead => k_is)
    (case na_Ledger_mates => k_is)
    (case na_Ledger_broods => k_is)
    (case mk_Ledger => k_is)
    (case kc_Ledger => k_is)
    (case pg_Record => k_is)
    (case hd_Record => k_is)
    (case po_Record => k_is)
    (case sa_Record => k_is)
    (case ha_Record => k_is)
    (case hm_Record => k_is)
    (case na_Record_ledger => k_is)
    (case na_Record_width => k_is)
    (case na_Record_rows => k_is)
    (case na_Record_persons => k_is)
    (case na_Record_founders => k_is)
    (case na_Record_born => k_is)
    (case na_Record_weddings => k_is)
    (case na_Record_couples => k_is)
    (case na_Record_living => k_is)
    (case mk_Record => k_is)
    (case kc_Record => k_is)
    (case sb_CustomError_BadRecord => k_is)
    (case sb_BadRecord_BadRecord => k_is)

